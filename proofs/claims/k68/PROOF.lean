import PyProof.Rows.All
import HandS.ForMost
import HandS.ForExc
import HandS.IsInst
import HandS.Zip
import HandS.Deep
import HandS.TupAny
import HandS.Wide
import HandS.Walk
import HandS.Style
import HandS.Codes
import KE.GoesNew
import HandS.TupMul
import HandS.More
import HandS.Conv
import HandS.Set
import HandS.Strs
import HandS.Words
import KE.SortData
import HandS.SetFor
import HandS.TupSets
import HandS.ExcIs
import KE.DataMinMax
import PySem.Challenge.RW_limitsigns_k68_formats
set_option Elab.async false
set_option linter.all false
set_option maxRecDepth 100000
set_option autoImplicit false
/-! Den1: what a piece of the text denotes over plain data: results, data in a frozen part of the heap, environments by slots. -/
namespace DN
open PySem PySem.Spec PyProof.Rows L2

/-! ### results -/
inductive Rs (α : Type) where
  | ok (a : α)
  | err (c : Str)
  | bad
def Rs.bind {α β : Type} : Rs α → (α → Rs β) → Rs β
  | .ok a, k => k a
  | .err c, _ => .err c
  | .bad, _ => .bad
@[simp] theorem bind_ok {α β : Type} (a : α) (k : α → Rs β) : (Rs.ok a).bind k = k a := rfl
@[simp] theorem bind_err {α β : Type} (c : Str) (k : α → Rs β) : (Rs.err c).bind k = .err c := rfl
@[simp] theorem bind_bad {α β : Type} (k : α → Rs β) : (Rs.bad : Rs α).bind k = .bad := rfl

/-! ### data over a part F of the heap that stays -/
mutual
inductive DD (F : Hp) : V → PyData → Prop
  | non : DD F .non .none
  | bl (b : Bool) : DD F (.bl b) (.bool b)
  | int (i : Int) : DD F (.int i) (.int i)
  | str (x : Str) : DD F (.str x) (.str x)
  | lst {a : Addr} {xs : List V} {ds : List PyData} : F a = some (.lst xs) → DDs F xs ds → DD F (.ref a) (.list ds)
  | tup {a : Addr} {xs : List V} {ds : List PyData} : F a = some (.tup xs) → DDs F xs ds → DD F (.ref a) (.tuple ds)
inductive DDs (F : Hp) : List V → List PyData → Prop
  | nil : DDs F [] []
  | cons {v : V} {vs : List V} {d : PyData} {ds : List PyData} : DD F v d → DDs F vs ds → DDs F (v :: vs) (d :: ds)
end
section
variable {F F' : Hp}
mutual
theorem DD.mono (e : Same F F') : ∀ (d : PyData) (v : V), DD F v d → DD F' v d
  | .none, _, .non => .non
  | .bool _, _, .bl b => .bl b
  | .int _, _, .int i => .int i
  | .str _, _, .str x => .str x
  | .list ds, _, .lst h r => .lst (e _ _ h) (DDs.mono e ds _ r)
  | .tuple ds, _, .tup h r => .tup (e _ _ h) (DDs.mono e ds _ r)
theorem DDs.mono (e : Same F F') : ∀ (ds : List PyData) (vs : List V), DDs F vs ds → DDs F' vs ds
  | [], _, .nil => .nil
  | d :: ds, _, .cons h r => .cons (DD.mono e d _ h) (DDs.mono e ds _ r)
end
mutual
theorem DD.dp {K : PySem.W.Frag} {H : Hp} (e : Same F H) : ∀ (d : PyData) (v : V), DD F v d → Dp K H v d
  | .none, _, .non => .non
  | .bool _, _, .bl b => .bl b
  | .int _, _, .int i => .int i
  | .str _, _, .str x => .str x
  | .list ds, _, .lst h r => .lst (SqL.of (e _ _ h)) (DDs.dp e ds _ r)
  | .tuple ds, _, .tup h r => .tup (SqT.of (e _ _ h)) (DDs.dp e ds _ r)
theorem DDs.dp {K : PySem.W.Frag} {H : Hp} (e : Same F H) : ∀ (ds : List PyData) (vs : List V), DDs F vs ds → DpAll K H vs ds
  | [], _, .nil => .nil
  | d :: ds, _, .cons h r => .cons (DD.dp e d _ h) (DDs.dp e ds _ r)
end
theorem DDs.len : ∀ {ds : List PyData} {vs : List V}, DDs F vs ds → vs.length = ds.length
  | [], _, .nil => rfl
  | d :: ds, _, .cons _ r => congrArg (· + 1) (DDs.len r)
theorem DDs.get : ∀ {ds : List PyData} {vs : List V} {i : Nat} {d : PyData}, DDs F vs ds → ds[i]? = some d → ∃ v, vs[i]? = some v ∧ DD F v d
  | d :: ds, _, 0, _, .cons h _, e => by simp at e; subst e; exact ⟨_, rfl, h⟩
  | d :: ds, _, i + 1, _, .cons _ r, e => by
    obtain ⟨v, a, b⟩ := DDs.get (i := i) r (by simpa using e)
    exact ⟨v, by simpa using a, b⟩
theorem DDs.getV : ∀ {ds : List PyData} {vs : List V} {i : Nat} {v : V}, DDs F vs ds → vs[i]? = some v → ∃ d, ds[i]? = some d ∧ DD F v d
  | d :: ds, _, 0, _, .cons h _, e => by simp at e; subst e; exact ⟨_, rfl, h⟩
  | d :: ds, _, i + 1, _, .cons _ r, e => by
    obtain ⟨v, a, b⟩ := DDs.getV (i := i) r (by simpa using e)
    exact ⟨v, by simpa using a, b⟩
  | [], _, _, _, .nil, e => by simp at e
theorem DDs.app : ∀ {ds es : List PyData} {vs ws : List V}, DDs F vs ds → DDs F ws es → DDs F (vs ++ ws) (ds ++ es)
  | [], _, _, _, .nil, s => s
  | _ :: _, _, _, _, .cons h r, s => .cons h (DDs.app r s)
theorem DDs.take : ∀ {ds : List PyData} {vs : List V} (n : Nat), DDs F vs ds → DDs F (vs.take n) (ds.take n)
  | _, _, 0, _ => by simp; exact .nil
  | [], _, _ + 1, .nil => .nil
  | _ :: _, _, n + 1, .cons h r => .cons h (DDs.take n r)
theorem DDs.drop : ∀ {ds : List PyData} {vs : List V} (n : Nat), DDs F vs ds → DDs F (vs.drop n) (ds.drop n)
  | _, _, 0, r => by simpa using r
  | [], _, _ + 1, .nil => .nil
  | _ :: _, _, n + 1, .cons h r => DDs.drop n r
theorem DDs.set {v : V} {d : PyData} (h : DD F v d) : ∀ {ds : List PyData} {vs : List V} (n : Nat), DDs F vs ds → DDs F (vs.set n v) (ds.set n d)
  | [], _, _, .nil => .nil
  | _ :: _, _, 0, .cons _ r => .cons h r
  | _ :: _, _, n + 1, .cons g r => .cons g (DDs.set h n r)
theorem DDs.ints : ∀ (ns : List Int), DDs F (ns.map V.int) (ns.map PyData.int)
  | [] => .nil
  | n :: ns => .cons (.int n) (DDs.ints ns)
/-- the values of a list of ints -/
theorem DDs.ofInts : ∀ {ns : List Int} {vs : List V}, DDs F vs (ns.map PyData.int) → vs = ns.map V.int
  | [], _, .nil => rfl
  | n :: ns, _, .cons (.int _) r => by rw [DDs.ofInts r]; rfl
theorem DDs.ofBools : ∀ {ns : List Bool} {vs : List V}, DDs F vs (ns.map PyData.bool) → vs = ns.map V.bl
  | [], _, .nil => rfl
  | n :: ns, _, .cons (.bl _) r => by rw [DDs.ofBools r]; rfl
theorem DDs.ofStrs : ∀ {ns : List Str} {vs : List V}, DDs F vs (ns.map PyData.str) → vs = ns.map V.str
  | [], _, .nil => rfl
  | n :: ns, _, .cons (.str _) r => by rw [DDs.ofStrs r]; rfl
end

/-! ### what a slot may hold -/
inductive R where
  /-- data that stays -/
  | val (d : PyData)
  /-- a list of ours that nobody else holds; its items stay -/
  | own (xs : List PyData)
  /-- a dict of ours, its keys tuples; ints and texts -/
  | dct (kvs : List (List Key × PyData))
  | dck (kvs : List (Key × PyData))
  /-- the script -/
  | scr (ns : List Int)
  /-- a value as it is (a caught exception) -/
  | raw (v : V)
  /-- a dict that stays, its keys tuples -/
  | dfz (kvs : List (List Key × PyData))
def R.isOwn : R → Bool
  | .own _ => true
  | .dct _ => true
  | .dck _ => true
  | _ => false
abbrev KD {κ : Type} (F : Hp) : List (κ × V) → List (κ × PyData) → Prop := Paired fun (p : κ × V) (q : κ × PyData) => p.1 = q.1 ∧ DD F p.2 q.2
def Rep (K : PySem.W.Frag) (F H : Hp) (v : V) : R → Prop
  | .val d => DD F v d
  | .own xs => ∃ p vs, v = .ref p ∧ H p = some (.lst vs) ∧ F p = none ∧ DDs F vs xs
  | .dct kvs => ∃ p ws, v = .ref p ∧ H p = some (.dT ws) ∧ F p = none ∧ KD F ws kvs
  | .dck kvs => ∃ p ws, v = .ref p ∧ H p = some (.dK ws) ∧ F p = none ∧ KD F ws kvs
  | .scr ns => ∃ a, v = .ref a ∧ SqL K F a (ns.map V.int)
  | .raw u => v = u
  | .dfz kvs => ∃ p o ws, v = .ref p ∧ F p = some (.frz o (.dT ws)) ∧ KD F ws kvs

/-! ### heaps that grow -/
/-- nothing lies there, or a tuple (which never changes) -/
def Okn (H : Hp) (a : Addr) : Prop := ∀ o, H a = some o → ∃ xs, o = .tup xs
theorem Okn.none {H : Hp} {a : Addr} (h : H a = none) : Okn H a := fun o e => by rw [h] at e; cases e
theorem Okn.back {H H1 : Hp} {a : Addr} (e : Same H H1) (h : Okn H1 a) : Okn H a := fun o q => h o (e _ _ q)
structure Ext (F H F' H' : Hp) : Prop where
  old : Same F H
  ff : Same F F'
  hh : Same H H'
  sub : Same F' H'
  new : ∀ a, F' a ≠ none → F a ≠ none ∨ Okn H a
section
variable {F H F' H' F1 H1 F2 H2 : Hp} {K : PySem.W.Frag}
theorem Ext.refl (h : Same F H) : Ext F H F H := ⟨h, Same.refl _, Same.refl _, h, fun _ q => .inl q⟩
theorem Ext.trans (a : Ext F H F1 H1) (b : Ext F1 H1 F2 H2) : Ext F H F2 H2 :=
  ⟨a.old, a.ff.trans b.ff, a.hh.trans b.hh, b.sub, fun x q => by
    rcases b.new x q with h | h
    · exact a.new x h
    · exact .inr (h.back a.hh)⟩
/-- the heap grew, what we know did not -/
theorem Ext.more (h : Same F H) (e : Same H H') : Ext F H F H' := ⟨h, Same.refl _, e, h.trans e, fun _ q => .inl q⟩
theorem same_new {H : Hp} {p : Addr} {o : HO} (h : H p = none) : Same H (upd H p o) := fun b x e => by
  rw [upd_ne (ne_of_none e h)]; exact e
theorem same_upd2 {F H : Hp} {p : Addr} {o : HO} (h : Same F H) : Same (upd F p o) (upd H p o) := fun b x e => by
  by_cases q : b = p
  · subst q; rw [upd_same] at *; exact e
  · rw [upd_ne q] at *; exact h _ _ e
/-- a new object that stays -/
theorem Ext.add {p : Addr} {o : HO} (h : Same F H) (n : H p = none) : Ext F H (upd F p o) (upd H p o) :=
  ⟨h, same_new (h.free n), same_new n, same_upd2 h, fun a q => by
    by_cases e : a = p
    · subst e; exact .inr (.none n)
    · rw [upd_ne e] at q; exact .inl q⟩
/-- a new object of ours -/
theorem Ext.addH {p : Addr} {o : HO} (h : Same F H) (n : H p = none) : Ext F H F (upd H p o) := Ext.more h (same_new n)
/-- an object of ours stays from now on -/
theorem Ext.freeze {p : Addr} {o : HO} (e : Ext F H F' H') (hp : H' p = some o) (hf : F' p = none) (n : H p = none) : Ext F H (upd F' p o) H' where
  old := e.old
  ff := e.ff.trans (same_new hf)
  hh := e.hh
  sub := fun b x q => by
    by_cases z : b = p
    · subst z; rw [upd_same] at q; rw [hp]; exact q
    · rw [upd_ne z] at q; exact e.sub _ _ q
  new := fun a q => by
    by_cases z : a = p
    · subst z; exact .inr (.none n)
    · rw [upd_ne z] at q; exact e.new a q
theorem Ext.own {p : Addr} {o : HO} (e : Ext F H F' H') (hp : H p = some o) (n : F p = none) (ho : ∀ xs, o ≠ .tup xs := by intro _ z; cases z) : F' p = none := by
  cases q : F' p with
  | none => rfl
  | some y =>
    rcases e.new p (by rw [q]; exact fun z => nomatch z) with h | h
    · exact absurd n h
    · obtain ⟨xs, z⟩ := h _ hp
      exact absurd z (ho xs)
theorem KD.mono {κ : Type} (e : Same F F') : ∀ {ws : List (κ × V)} {kvs : List (κ × PyData)}, KD F ws kvs → KD F' ws kvs
  | _, _, .nil => .nil
  | _, _, .cons r t => .cons ⟨r.1, DD.mono e _ _ r.2⟩ (KD.mono e t)
theorem same_l {a : Addr} {xs : List V} (e : Same F F') (h : SqL K F a xs) : SqL K F' a xs := e.seq h
theorem Rep.step {v : V} {r : R} (e : Ext F H F' H') (h : Rep K F H v r) : Rep K F' H' v r := by
  cases r with
  | val d => exact DD.mono e.ff _ _ h
  | own xs =>
    obtain ⟨p, vs, rfl, a, b, c⟩ := h
    exact ⟨p, vs, rfl, e.hh _ _ a, e.own a b, DDs.mono e.ff _ _ c⟩
  | dct xs =>
    obtain ⟨p, vs, rfl, a, b, c⟩ := h
    exact ⟨p, vs, rfl, e.hh _ _ a, e.own a b, KD.mono e.ff c⟩
  | dck xs =>
    obtain ⟨p, vs, rfl, a, b, c⟩ := h
    exact ⟨p, vs, rfl, e.hh _ _ a, e.own a b, KD.mono e.ff c⟩
  | scr ns =>
    obtain ⟨a, rfl, h⟩ := h
    exact ⟨a, rfl, same_l e.ff h⟩
  | raw u => exact h
  | dfz kvs =>
    obtain ⟨p, o, ws, rfl, a, b⟩ := h
    exact ⟨p, o, ws, rfl, e.ff _ _ a, KD.mono e.ff b⟩
end

/-! ### environments -/
abbrev Ev := List (Option R)
/-- G: what must stay; H0: the def's entry -/
structure Base (G H0 F H : Hp) : Prop where
  keep : Same G F
  hh : Same H0 H
  sub : Same F H
  new : ∀ a, F a ≠ none → G a ≠ none ∨ Okn H0 a
section
variable {G H0 F H F' H' F1 H1 : Hp}
theorem Base.refl (h : Same F H) : Base F H F H := ⟨Same.refl _, Same.refl _, h, fun _ q => .inl q⟩
theorem Base.step (b : Base G H0 F H) (e : Ext F H F' H') : Base G H0 F' H' :=
  ⟨b.keep.trans e.ff, b.hh.trans e.hh, e.sub, fun x q => by
    rcases e.new x q with h | h
    · exact b.new x h
    · exact .inr (h.back b.hh)⟩
theorem Base.ext (h : Same F H) (b : Base F H F' H') : Ext F H F' H' := ⟨h, b.keep, b.hh, b.sub, b.new⟩
theorem Base.re (b : Base G H0 F1 H1) (c : Base F1 H0 F' H') : Base G H0 F' H' :=
  ⟨b.keep.trans c.keep, c.hh, c.sub, fun x q => by
    rcases c.new x q with h | h
    · exact b.new x h
    · exact .inr h⟩
theorem Base.self (b : Base G H0 F H) : Base F H0 F H := ⟨Same.refl _, b.hh, b.sub, fun _ q => .inl q⟩
end
structure Rel (K : PySem.W.Frag) (G H0 : Hp) (ρ : Ev) (σ : L2.St) (F H : Hp) : Prop where
  base : Base G H0 F H
  len : ρ.length = σ.length
  at_ : ∀ (i : Nat) (r : R), ρ[i]? = some (some r) → ∃ v, σ[i]? = some (some v) ∧ Rep K F H v r
  frs : ∀ (i : Nat) (r : R) (p : Addr), ρ[i]? = some (some r) → r.isOwn = true → σ[i]? = some (some (.ref p)) → H0 p = none
  apart : ∀ (i j : Nat) (r r' : R) (p : Addr), ρ[i]? = some (some r) → r.isOwn = true → ρ[j]? = some (some r') → r'.isOwn = true → σ[i]? = some (some (.ref p)) → σ[j]? = some (some (.ref p)) → i = j
section
variable {K : PySem.W.Frag} {G H0 F H F' H' : Hp} {ρ : Ev} {σ : L2.St}
theorem Rel.sub (r : Rel K G H0 ρ σ F H) : Same F H := r.base.sub
theorem Rel.re (r : Rel K G H0 ρ σ F H) : Rel K F H0 ρ σ F H := ⟨r.base.self, r.len, r.at_, r.frs, r.apart⟩
theorem Rel.back {F1 H1 : Hp} (b : Base G H0 F1 H1) (r : Rel K F1 H0 ρ σ F H) : Rel K G H0 ρ σ F H := ⟨b.re r.base, r.len, r.at_, r.frs, r.apart⟩
theorem Rel.step (r : Rel K G H0 ρ σ F H) (e : Ext F H F' H') : Rel K G H0 ρ σ F' H' where
  base := r.base.step e
  len := r.len
  at_ := fun i x h => by
    obtain ⟨v, a, b⟩ := r.at_ i x h
    exact ⟨v, a, b.step e⟩
  frs := r.frs
  apart := r.apart
/-- a new value of an expression: it stands, and if it is ours it is new -/
def RepN (K : PySem.W.Frag) (F H Hold : Hp) (v : V) (r : R) : Prop := Rep K F H v r ∧ (r.isOwn = true → ∀ p, v = .ref p → Hold p = none)
theorem RepN.val {d : PyData} {v : V} {Hold : Hp} (h : DD F v d) : RepN K F H Hold v (.val d) := ⟨h, fun e => nomatch e⟩
/-- a slot is set to a value that stays -/
theorem Rel.setVal {i : Nat} {r : R} {v : V} (h : Rel K G H0 ρ σ F H) (q : Rep K F H v r) (n : r.isOwn = false) : Rel K G H0 (ρ.set i (some r)) (σ.set i (some v)) F H where
  base := h.base
  len := by simp [h.len]
  at_ := fun j x e => by
    by_cases hj : i = j
    · subst hj
      have hl : i < ρ.length := by
        rcases Nat.lt_or_ge i ρ.length with z | z
        · exact z
        · rw [List.getElem?_eq_none (by simpa using z)] at e; cases e
      rw [List.getElem?_set_self hl] at e
      cases e
      exact ⟨v, List.getElem?_set_self (h.len ▸ hl), q⟩
    · rw [List.getElem?_set_ne hj] at e
      obtain ⟨w, a, b⟩ := h.at_ j x e
      exact ⟨w, by rw [List.getElem?_set_ne hj]; exact a, b⟩
  frs := fun j x p e o s => by
    by_cases hj : i = j
    · subst hj
      have hl : i < ρ.length := by
        rcases Nat.lt_or_ge i ρ.length with z | z
        · exact z
        · rw [List.getElem?_eq_none (by simpa using z)] at e; cases e
      rw [List.getElem?_set_self hl] at e
      cases e; rw [n] at o; cases o
    · rw [List.getElem?_set_ne hj] at e s
      exact h.frs j x p e o s
  apart := fun j k x y p e1 o1 e2 o2 s1 s2 => by
    have key : ∀ {m : Nat} {z : R}, (ρ.set i (some r))[m]? = some (some z) → z.isOwn = true → i ≠ m := fun {m z} e o hm => by
      subst hm
      have hl : i < ρ.length := by
        rcases Nat.lt_or_ge i ρ.length with z | z
        · exact z
        · rw [List.getElem?_eq_none (by simpa using z)] at e; cases e
      rw [List.getElem?_set_self hl] at e
      cases e; rw [n] at o; cases o
    have k1 := key e1 o1
    have k2 := key e2 o2
    rw [List.getElem?_set_ne k1] at e1 s1
    rw [List.getElem?_set_ne k2] at e2 s2
    exact h.apart j k x y p e1 o1 e2 o2 s1 s2
/-- a slot is set to a thing of ours, new at the heap Hm that all slots knew -/
theorem Rel.setOwn {i : Nat} {r : R} {v : V} {Fm Hm : Hp} (h0 : Rel K G H0 ρ σ Fm Hm) (e : Ext Fm Hm F H) (q : RepN K F H Hm v r) : Rel K G H0 (ρ.set i (some r)) (σ.set i (some v)) F H := by
  have h := h0.step e
  cases n : r.isOwn with
  | false => exact h.setVal q.1 n
  | true =>
    have old : ∀ (j : Nat) (y : R) (p : Addr), ρ[j]? = some (some y) → y.isOwn = true → σ[j]? = some (some (.ref p)) → v ≠ .ref p := fun j y p e o s z => by
      have np := q.2 n p z
      obtain ⟨w, a, b⟩ := h0.at_ j y e
      rw [s] at a
      cases a
      cases y with
      | val d => cases o
      | scr d => cases o
      | raw d => cases o
      | dfz d => cases o
      | own d => obtain ⟨p', vs, e1, e2, _⟩ := b; cases e1; rw [np] at e2; cases e2
      | dct d => obtain ⟨p', vs, e1, e2, _⟩ := b; cases e1; rw [np] at e2; cases e2
      | dck d => obtain ⟨p', vs, e1, e2, _⟩ := b; cases e1; rw [np] at e2; cases e2
    have self : ∀ {m : Nat} {z : Option R} {w : Option V}, (ρ.set i (some r))[m]? = some z → i = m → z = some r ∧ (σ.set i (some v))[m]? = some (some v) := fun {m z w} e hm => by
      subst hm
      have hl : i < ρ.length := by
        rcases Nat.lt_or_ge i ρ.length with z | z
        · exact z
        · rw [List.getElem?_eq_none (by simpa using z)] at e; cases e
      rw [List.getElem?_set_self hl] at e
      cases e
      exact ⟨rfl, List.getElem?_set_self (h.len ▸ hl)⟩
    refine ⟨h.base, by simp [h.len], fun j x e => ?_, fun j x p e o s => ?_, fun j k x y p e1 o1 e2 o2 s1 s2 => ?_⟩
    · by_cases hj : i = j
      · obtain ⟨a, b⟩ := self (w := none) e hj
        cases a
        exact ⟨v, b, q.1⟩
      · rw [List.getElem?_set_ne hj] at e
        obtain ⟨w, a, b⟩ := h.at_ j x e
        exact ⟨w, by rw [List.getElem?_set_ne hj]; exact a, b⟩
    · by_cases hj : i = j
      · obtain ⟨a, b⟩ := self (w := none) e hj
        cases a
        rw [b] at s
        cases s
        exact h0.base.hh.free (q.2 n p rfl)
      · rw [List.getElem?_set_ne hj] at e s
        exact h.frs j x p e o s
    · by_cases hj : i = j
      · by_cases hk : i = k
        · exact hj.symm.trans hk
        · obtain ⟨a, b⟩ := self (w := none) e1 hj
          rw [b] at s1; cases s1
          rw [List.getElem?_set_ne hk] at e2 s2
          exact absurd rfl (old k y p e2 o2 s2)
      · by_cases hk : i = k
        · obtain ⟨a, b⟩ := self (w := none) e2 hk
          rw [b] at s2; cases s2
          rw [List.getElem?_set_ne hj] at e1 s1
          exact absurd rfl (old j x p e1 o1 s1)
        · rw [List.getElem?_set_ne hj] at e1 s1
          rw [List.getElem?_set_ne hk] at e2 s2
          exact h.apart j k x y p e1 o1 e2 o2 s1 s2
/-- slots are forgotten -/
theorem Rel.unset {i : Nat} (h : Rel K G H0 ρ σ F H) : Rel K G H0 (ρ.set i none) (σ.set i none) F H where
  base := h.base
  len := by simp [h.len]
  at_ := fun j x e => by
    by_cases hj : i = j
    · subst hj
      rw [List.getElem?_set] at e
      simp at e
    · rw [List.getElem?_set_ne hj] at e
      obtain ⟨w, a, b⟩ := h.at_ j x e
      exact ⟨w, by rw [List.getElem?_set_ne hj]; exact a, b⟩
  frs := fun j x p e o s => by
    by_cases hj : i = j
    · subst hj
      rw [List.getElem?_set] at e
      simp at e
    · rw [List.getElem?_set_ne hj] at e s
      exact h.frs j x p e o s
  apart := fun j k x y p e1 o1 e2 o2 s1 s2 => by
    have key : ∀ {m : Nat} {z : R}, (ρ.set i none)[m]? = some (some z) → i ≠ m := fun {m z} e hm => by
      subst hm
      rw [List.getElem?_set] at e
      simp at e
    have k1 := key e1
    have k2 := key e2
    rw [List.getElem?_set_ne k1] at e1 s1
    rw [List.getElem?_set_ne k2] at e2 s2
    exact h.apart j k x y p e1 o1 e2 o2 s1 s2
end
end DN
/-! Den2: judgements of expressions, tests, arguments, statements over plain data. -/
namespace DN
open PySem PySem.Spec PyProof.Rows L2

/-- a value as data that stays: a new list of ours is let go -/
def R.d : R → Rs PyData
  | .val d => .ok d
  | .own xs => .ok (.list xs)
  | _ => .bad
@[simp] theorem d_val (d : PyData) : (R.val d).d = .ok d := rfl
@[simp] theorem d_own (xs : List PyData) : (R.own xs).d = .ok (.list xs) := rfl
/-- an argument of a def -/
def R.a : R → Rs R
  | .val d => .ok (.val d)
  | .own xs => .ok (.val (.list xs))
  | .scr ns => .ok (.scr ns)
  | .dfz kvs => .ok (.dfz kvs)
  | _ => .bad
@[simp] theorem a_dfz (kvs : List (List Key × PyData)) : (R.dfz kvs).a = .ok (.dfz kvs) := rfl
@[simp] theorem a_val (d : PyData) : (R.val d).a = .ok (.val d) := rfl
@[simp] theorem a_own (xs : List PyData) : (R.own xs).a = .ok (.val (.list xs)) := rfl
@[simp] theorem a_scr (xs : List Int) : (R.scr xs).a = .ok (.scr xs) := rfl

/-! ### what is asked behind -/
section
variable (K : PySem.W.Frag) (mg : Str → Option Value) (W : WX) (σ : L2.St) (F H : Hp)
def Post (Q : VK) : Rs R → Prop
  | .ok r => ∀ v F' H', Ext F H F' H' → RepN K F' H' H v r → Q v H'
  | .err c => ∀ C H', mg c = some (.ref C) → Same H H' → W (.ref C) none σ H'
  | .bad => False
def PostB (Q : Bool → Hp → Prop) : Rs Bool → Prop
  | .ok b => ∀ F' H', Ext F H F' H' → Q b H'
  | .err c => ∀ C H', mg c = some (.ref C) → Same H H' → W (.ref C) none σ H'
  | .bad => False
def PostD (Q : List V → Hp → Prop) : Rs (List PyData) → Prop
  | .ok ds => ∀ vs F' H', Ext F H F' H' → DDs F' vs ds → Q vs H'
  | .err c => ∀ C H', mg c = some (.ref C) → Same H H' → W (.ref C) none σ H'
  | .bad => False
abbrev Args (F H : Hp) : List V → List R → Prop := Paired fun v r => Rep K F H v r ∧ r.isOwn = false
def PostA (Q : List V → Hp → Prop) : Rs (List R) → Prop
  | .ok rs => ∀ vs F' H', Ext F H F' H' → Args K F' H' vs rs → Q vs H'
  | .err c => ∀ C H', mg c = some (.ref C) → Same H H' → W (.ref C) none σ H'
  | .bad => False
end
section
variable {K : PySem.W.Frag} {mg : Str → Option Value} {W : WX} {σ : L2.St} {F H F1 H1 : Hp}
theorem Args.step {vs : List V} {rs : List R} (e : Ext F H F1 H1) : ∀ {vs : List V} {rs : List R}, Args K F H vs rs → Args K F1 H1 vs rs
  | _, _, .nil => .nil
  | _, _, .cons r t => .cons ⟨r.1.step e, r.2⟩ (Args.step (vs := vs) (rs := rs) e t)
theorem post_step {Q : VK} {m : Rs R} (P : Post K mg W σ F H Q m) (e : Ext F H F1 H1) : Post K mg W σ F1 H1 Q m := by
  cases m with
  | ok r => exact fun v F' H' x y => P v F' H' (e.trans x) ⟨y.1, fun o p q => e.hh.free (y.2 o p q)⟩
  | err c => exact fun C H' x y => P C H' x (e.hh.trans y)
  | bad => exact P
theorem postB_step {Q : Bool → Hp → Prop} {m : Rs Bool} (P : PostB mg W σ F H Q m) (e : Ext F H F1 H1) : PostB mg W σ F1 H1 Q m := by
  cases m with
  | ok r => exact fun F' H' x => P F' H' (e.trans x)
  | err c => exact fun C H' x y => P C H' x (e.hh.trans y)
  | bad => exact P
theorem postD_step {Q : List V → Hp → Prop} {m : Rs (List PyData)} (P : PostD mg W σ F H Q m) (e : Ext F H F1 H1) : PostD mg W σ F1 H1 Q m := by
  cases m with
  | ok r => exact fun v F' H' x y => P v F' H' (e.trans x) y
  | err c => exact fun C H' x y => P C H' x (e.hh.trans y)
  | bad => exact P
theorem postA_step {Q : List V → Hp → Prop} {m : Rs (List R)} (P : PostA K mg W σ F H Q m) (e : Ext F H F1 H1) : PostA K mg W σ F1 H1 Q m := by
  cases m with
  | ok r => exact fun v F' H' x y => P v F' H' (e.trans x) y
  | err c => exact fun C H' x y => P C H' x (e.hh.trans y)
  | bad => exact P

/-- the wishes alike: a result of another kind -/
inductive Alike : {α β : Type} → (m : Rs α) → (α → Rs β) → (Rs β) → Prop
  | mk {α β : Type} {m : Rs α} {k : α → Rs β} : Alike m k (m.bind k)

theorem post_bind {Q Q1 : VK} {m : Rs R} {k : R → Rs R} (P : Post K mg W σ F H Q (m.bind k))
    (h : ∀ r v F1 H1, Ext F H F1 H1 → RepN K F1 H1 H v r → Post K mg W σ F1 H1 Q (k r) → Q1 v H1) : Post K mg W σ F H Q1 m := by
  cases m with
  | ok r => exact fun v F' H' x y => h r v F' H' x y (post_step P x)
  | err c => exact P
  | bad => exact P
/-- a new list of ours is let go -/
theorem RepN.data {v : V} {r : R} {d : PyData} (e : Ext F H F1 H1) (q : RepN K F1 H1 H v r) (hd : r.d = .ok d) : ∃ F2, Ext F H F2 H1 ∧ Same F1 F2 ∧ DD F2 v d := by
  cases r with
  | val x =>
    cases hd
    exact ⟨F1, e, Same.refl _, q.1⟩
  | own xs =>
    cases hd
    obtain ⟨p, vs, rfl, a, b, c⟩ := q.1
    exact ⟨upd F1 p (.lst vs), e.freeze a b (q.2 rfl p rfl), same_new b, .lst upd_same (DDs.mono (same_new b) _ _ c)⟩
  | dct _ => cases hd
  | dck _ => cases hd
  | scr _ => cases hd
  | raw _ => cases hd
  | dfz _ => cases hd
theorem RepN.arg {v : V} {r r' : R} (e : Ext F H F1 H1) (q : RepN K F1 H1 H v r) (hd : r.a = .ok r') : ∃ F2, Ext F H F2 H1 ∧ Same F1 F2 ∧ Rep K F2 H1 v r' ∧ r'.isOwn = false := by
  cases r with
  | val x =>
    cases hd
    exact ⟨F1, e, Same.refl _, q.1, rfl⟩
  | own xs =>
    cases hd
    obtain ⟨p, vs, rfl, a, b, c⟩ := q.1
    exact ⟨upd F1 p (.lst vs), e.freeze a b (q.2 rfl p rfl), same_new b, .lst upd_same (DDs.mono (same_new b) _ _ c), rfl⟩
  | dct _ => cases hd
  | dck _ => cases hd
  | scr _ => cases hd; exact ⟨F1, e, Same.refl _, q.1, rfl⟩
  | raw _ => cases hd
  | dfz _ => cases hd; exact ⟨F1, e, Same.refl _, q.1, rfl⟩
theorem post_data {Q Q1 : VK} {m : Rs R} {k : PyData → Rs R} (P : Post K mg W σ F H Q (m.bind fun r => r.d.bind k))
    (h : ∀ d v F1 H1, Ext F H F1 H1 → DD F1 v d → Post K mg W σ F1 H1 Q (k d) → Q1 v H1) : Post K mg W σ F H Q1 m := by
  cases m with
  | ok r =>
    intro v F' H' x y
    cases hd : r.d with
    | ok d =>
      obtain ⟨F2, e2, _, q2⟩ := y.data x hd
      have P' : Post K mg W σ F H Q (k d) := by
        have : ((Rs.ok r).bind fun r => r.d.bind k) = k d := by simp [hd]
        rw [this] at P; exact P
      exact h d v F2 H' e2 q2 (post_step P' e2)
    | err c => exact absurd hd (by cases r <;> simp [R.d])
    | bad =>
      have : ((Rs.ok r).bind fun r => r.d.bind k) = .bad := by simp [hd]
      rw [this] at P; exact P.elim
  | err c => exact P
  | bad => exact P
end

/-! ### judgements -/
structure EE (X : Cx) (W : WX) (e : Expr) (t : TE) (f : Ev → Rs R) : Prop where
  pe : PE X e t
  sound : ∀ {G H0 : Hp} {ρ : Ev} {σ : L2.St} {F H : Hp}, Rel X.K G H0 ρ σ F H → ∀ Q : VK, Post X.K X.mg W σ F H Q (f ρ) → t σ H Q
structure ET (X : Cx) (W : WX) (e : Expr) (t : TT) (f : Ev → Rs Bool) : Prop where
  pt : PT X e t
  sound : ∀ {G H0 : Hp} {ρ : Ev} {σ : L2.St} {F H : Hp}, Rel X.K G H0 ρ σ F H → ∀ Q : Bool → Hp → Prop, PostB X.mg W σ F H Q (f ρ) → t σ H Q
/-- the same whatever its whole is -/
structure EW (X : Cx) (W : WX) (e : Expr) (t : TT) (f : Ev → Rs Bool) : Prop where
  pw : PW X e t
  sound : ∀ {G H0 : Hp} {ρ : Ev} {σ : L2.St} {F H : Hp}, Rel X.K G H0 ρ σ F H → ∀ Q : Bool → Hp → Prop, PostB X.mg W σ F H Q (f ρ) → t σ H Q
structure ED (X : Cx) (W : WX) (es : List Expr) (t : TA) (f : Ev → Rs (List PyData)) : Prop where
  pa : PA X es t
  sound : ∀ {G H0 : Hp} {ρ : Ev} {σ : L2.St} {F H : Hp}, Rel X.K G H0 ρ σ F H → ∀ Q : List V → Hp → Prop, PostD X.mg W σ F H Q (f ρ) → t σ H Q
structure EA (X : Cx) (W : WX) (es : List Expr) (t : TA) (f : Ev → Rs (List R)) : Prop where
  pa : PA X es t
  len : ∀ ρ rs, f ρ = .ok rs → rs.length = es.length
  sound : ∀ {G H0 : Hp} {ρ : Ev} {σ : L2.St} {F H : Hp}, Rel X.K G H0 ρ σ F H → ∀ Q : List V → Hp → Prop, PostA X.K X.mg W σ F H Q (f ρ) → t σ H Q

/-! ### readings of the data side -/
@[simp] def fVar (i : Nat) : Ev → Rs R := fun ρ => match ρ[i]? with
  | some (some (.val d)) => .ok (.val d)
  | some (some (.scr ns)) => .ok (.scr ns)
  | some (some (.dfz kvs)) => .ok (.dfz kvs)
  | _ => .bad
@[simp] def fC (d : PyData) : Ev → Rs R := fun _ => .ok (.val d)
def lim : Nat := 1000000
theorem lim_le : lim ≤ sizeLine := by decide
theorem lim_lt : lim < sizeLine := by decide
def capL (ds : List PyData) (r : R) : Rs R := if ds.length ≤ lim then .ok r else .bad
@[simp] def fTup (fa : Ev → Rs (List PyData)) : Ev → Rs R := fun ρ => (fa ρ).bind fun ds => capL ds (.val (.tuple ds))
@[simp] def fLst (fa : Ev → Rs (List PyData)) : Ev → Rs R := fun ρ => (fa ρ).bind fun ds => capL ds (.own ds)
@[simp] def fNil : Ev → Rs (List PyData) := fun _ => .ok []
@[simp] def fCons (f : Ev → Rs R) (fa : Ev → Rs (List PyData)) : Ev → Rs (List PyData) := fun ρ => (f ρ).bind fun r => r.d.bind fun x => (fa ρ).bind fun xs => .ok (x :: xs)
@[simp] def aNil : Ev → Rs (List R) := fun _ => .ok []
@[simp] def aCons (f : Ev → Rs R) (fa : Ev → Rs (List R)) : Ev → Rs (List R) := fun ρ => (f ρ).bind fun r => r.a.bind fun x => (fa ρ).bind fun xs => .ok (x :: xs)
@[simp] def fOp (op : PyData → PyData → Rs R) (fa fb : Ev → Rs R) : Ev → Rs R := fun ρ => (fa ρ).bind fun a => a.d.bind fun x => (fb ρ).bind fun b => b.d.bind fun y => op x y
@[simp] def fUn (op : PyData → Rs R) (fa : Ev → Rs R) : Ev → Rs R := fun ρ => (fa ρ).bind fun a => a.d.bind op
@[simp] def fBi (op : List PyData → Rs R) (fa : Ev → Rs (List PyData)) : Ev → Rs R := fun ρ => (fa ρ).bind op
@[simp] def fCall (den : List R → Rs R) (fa : Ev → Rs (List R)) : Ev → Rs R := fun ρ => (fa ρ).bind den
def asB : PyData → Rs Bool
  | .bool b => .ok b
  | _ => .bad
@[simp] def fTest (f : Ev → Rs R) : Ev → Rs Bool := fun ρ => (f ρ).bind fun r => r.d.bind asB
@[simp] def fAnd (f g : Ev → Rs Bool) : Ev → Rs Bool := fun ρ => (f ρ).bind fun b => if b = true then g ρ else .ok false
@[simp] def fOr (f g : Ev → Rs Bool) : Ev → Rs Bool := fun ρ => (f ρ).bind fun b => if b = true then .ok true else g ρ
@[simp] def fNot (f : Ev → Rs Bool) : Ev → Rs Bool := fun ρ => (f ρ).bind fun b => .ok (!b)
@[simp] def fAndV (f g : Ev → Rs R) : Ev → Rs R := fun ρ => (f ρ).bind fun r => r.d.bind fun x => (asB x).bind fun b => if b = true then g ρ else .ok (.val (.bool false))
@[simp] def fOrV (f g : Ev → Rs R) : Ev → Rs R := fun ρ => (f ρ).bind fun r => r.d.bind fun x => (asB x).bind fun b => if b = true then .ok (.val (.bool true)) else g ρ
@[simp] def fNotV (f : Ev → Rs R) : Ev → Rs R := fun ρ => (f ρ).bind fun r => r.d.bind fun x => (asB x).bind fun b => .ok (.val (.bool (!b)))
@[simp] def fIf (c : Ev → Rs Bool) (f g : Ev → Rs R) : Ev → Rs R := fun ρ => (c ρ).bind fun b => if b = true then f ρ else g ρ

section
variable {X : Cx} {W : WX} {a b e : Expr} {es : List Expr} {ta tb te : TE} {fa fb f : Ev → Rs R} {pos : Pos}

theorem ee_var (i : Nat) {x : Str} (hN : X.N[i]? = some x := by rfl) (hv : Vis X.env.scope x := by first | exact Or.inl rfl | exact Or.inr (Or.inl rfl) | exact Or.inr (Or.inr rfl)) (hd : (x == ("__debug__" : Str)) = false := by decide)
    (hcd : (x == ("__classdict__" : Str)) = false := by decide) : EE X W (.Name x pos) (tVar i) (fVar i) where
  pe := pe_var hN hv hd hcd
  sound := fun {G H0 ρ σ F H} rel Q P => by
    unfold fVar at P
    split at P
    · rename_i d h
      obtain ⟨v, a, b⟩ := rel.at_ i _ h
      exact ⟨v, a, P v F H (Ext.refl rel.sub) (.val b)⟩
    · rename_i d h
      obtain ⟨v, a, b⟩ := rel.at_ i _ h
      exact ⟨v, a, P v F H (Ext.refl rel.sub) ⟨b, fun e => nomatch e⟩⟩
    · rename_i d h
      obtain ⟨v, a, b⟩ := rel.at_ i _ h
      exact ⟨v, a, P v F H (Ext.refl rel.sub) ⟨b, fun e => nomatch e⟩⟩
    · exact P.elim
theorem c_sound {d : PyData} {v : V} (h : ∀ F, DD F v d) {G H0 : Hp} {ρ : Ev} {σ : L2.St} {F H : Hp} (rel : Rel X.K G H0 ρ σ F H) (Q : VK) (P : Post X.K X.mg W σ F H Q (fC d ρ)) : tC v σ H Q :=
  P v F H (Ext.refl rel.sub) (.val (h F))
theorem ee_int {i : Int} {j : Nat} : EE X W (.Constant (.int i) j pos) (tC (.int i)) (fC (.int i)) := ⟨pe_int, c_sound fun _ => .int i⟩
theorem ee_bl {b : Bool} {j : Nat} : EE X W (.Constant (.bool b) j pos) (tC (.bl b)) (fC (.bool b)) := ⟨pe_bl, c_sound fun _ => .bl b⟩
theorem ee_non {j : Nat} : EE X W (.Constant .none j pos) (tC .non) (fC .none) := ⟨pe_non, c_sound fun _ => .non⟩
theorem ee_str {x : Str} {j : Nat} : EE X W (.Constant (.str x) j pos) (tC (.str x)) (fC (.str x)) := ⟨pe_str, c_sound fun _ => .str x⟩
/-- a module's constant -/
theorem ee_globI {x : Str} {i : Int} {u : Tok} (hg : Gl X x) (hm : X.mg x = some (.int i u)) (hd : (x == ("__debug__" : Str)) = false := by decide) : EE X W (.Name x pos) (tC (.int i)) (fC (.int i)) :=
  ⟨pe_glob hg hm ⟨_, rfl⟩ hd, c_sound fun _ => .int i⟩
theorem ee_globS {x : Str} {i : Str} {u : Tok} (hg : Gl X x) (hm : X.mg x = some (.str i u)) (hd : (x == ("__debug__" : Str)) = false := by decide) : EE X W (.Name x pos) (tC (.str i)) (fC (.str i)) :=
  ⟨pe_glob hg hm ⟨_, rfl⟩ hd, c_sound fun _ => .str i⟩

/-! ### argument lists -/
theorem ed_nil : ED X W [] tNil fNil := ⟨pa_nil, fun rel Q P => P [] _ _ (Ext.refl rel.sub) .nil⟩
theorem postD_data {Q1 : VK} {Q : List V → Hp → Prop} {mg : Str → Option Value} {σ : L2.St} {F H : Hp} {m : Rs R} {k : PyData → Rs (List PyData)} (P : PostD mg W σ F H Q (m.bind fun r => r.d.bind k))
    (h : ∀ d v F1 H1, Ext F H F1 H1 → DD F1 v d → PostD mg W σ F1 H1 Q (k d) → Q1 v H1) {K : PySem.W.Frag} : Post K mg W σ F H Q1 m := by
  cases m with
  | ok r =>
    intro v F' H' x y
    cases hd : r.d with
    | ok d =>
      obtain ⟨F2, e2, _, q2⟩ := y.data x hd
      have P' : PostD mg W σ F H Q (k d) := by
        have : ((Rs.ok r).bind fun r => r.d.bind k) = k d := by simp [hd]
        rw [this] at P; exact P
      exact h d v F2 H' e2 q2 (postD_step P' e2)
    | err c => exact absurd hd (by cases r <;> simp [R.d])
    | bad =>
      have : ((Rs.ok r).bind fun r => r.d.bind k) = .bad := by simp [hd]
      rw [this] at P; exact P.elim
  | err c => exact P
  | bad => exact P
theorem postD_bind {Q Q1 : List V → Hp → Prop} {mg : Str → Option Value} {σ : L2.St} {F H : Hp} {m : Rs (List PyData)} {k : List PyData → Rs (List PyData)} (P : PostD mg W σ F H Q (m.bind k))
    (h : ∀ ds vs F1 H1, Ext F H F1 H1 → DDs F1 vs ds → PostD mg W σ F1 H1 Q (k ds) → Q1 vs H1) : PostD mg W σ F H Q1 m := by
  cases m with
  | ok r => exact fun v F' H' x y => h r v F' H' x y (postD_step P x)
  | err c => exact P
  | bad => exact P
theorem ed_cons {t : TA} {fr : Ev → Rs (List PyData)} (ha : EE X W e te f) (hr : ED X W es t fr) (hs : starEach (e :: es) X.env = (false, eval e X.env) :: starEach es X.env := by rfl) : ED X W (e :: es) (tCons te t) (fCons f fr) where
  pa := pa_cons ha.pe hr.pa hs
  sound := fun rel Q P => ha.sound rel _ (postD_data P fun d v F1 H1 e1 r1 P1 => hr.sound (rel.step e1) _ (postD_bind P1 fun ds vs F2 H2 e2 r2 P2 =>
    P2 _ _ _ (Ext.refl e2.sub) (.cons (DD.mono e2.ff _ _ r1) r2)))
theorem ea_nil : EA X W [] tNil aNil := ⟨pa_nil, fun ρ rs h => by cases h; rfl, fun rel Q P => P [] _ _ (Ext.refl rel.sub) .nil⟩
theorem postA_arg {Q1 : VK} {Q : List V → Hp → Prop} {K : PySem.W.Frag} {mg : Str → Option Value} {σ : L2.St} {F H : Hp} {m : Rs R} {k : R → Rs (List R)} (P : PostA K mg W σ F H Q (m.bind fun r => r.a.bind k))
    (h : ∀ d v F1 H1, Ext F H F1 H1 → Rep K F1 H1 v d → d.isOwn = false → PostA K mg W σ F1 H1 Q (k d) → Q1 v H1) : Post K mg W σ F H Q1 m := by
  cases m with
  | ok r =>
    intro v F' H' x y
    cases hd : r.a with
    | ok d =>
      obtain ⟨F2, e2, _, q2, n2⟩ := y.arg x hd
      have P' : PostA K mg W σ F H Q (k d) := by
        have : ((Rs.ok r).bind fun r => r.a.bind k) = k d := by simp [hd]
        rw [this] at P; exact P
      exact h d v F2 H' e2 q2 n2 (postA_step P' e2)
    | err c => exact absurd hd (by cases r <;> simp [R.a])
    | bad =>
      have : ((Rs.ok r).bind fun r => r.a.bind k) = .bad := by simp [hd]
      rw [this] at P; exact P.elim
  | err c => exact P
  | bad => exact P
theorem postA_bind {Q Q1 : List V → Hp → Prop} {K : PySem.W.Frag} {mg : Str → Option Value} {σ : L2.St} {F H : Hp} {m : Rs (List R)} {k : List R → Rs (List R)} (P : PostA K mg W σ F H Q (m.bind k))
    (h : ∀ ds vs F1 H1, Ext F H F1 H1 → Args K F1 H1 vs ds → PostA K mg W σ F1 H1 Q (k ds) → Q1 vs H1) : PostA K mg W σ F H Q1 m := by
  cases m with
  | ok r => exact fun v F' H' x y => h r v F' H' x y (postA_step P x)
  | err c => exact P
  | bad => exact P
theorem ea_cons {t : TA} {fr : Ev → Rs (List R)} (ha : EE X W e te f) (hr : EA X W es t fr) (hs : starEach (e :: es) X.env = (false, eval e X.env) :: starEach es X.env := by rfl) : EA X W (e :: es) (tCons te t) (aCons f fr) where
  pa := pa_cons ha.pe hr.pa hs
  len := fun ρ rs h => by
    unfold aCons at h
    cases h1 : f ρ with
    | ok r =>
      cases h2 : r.a with
      | ok x =>
        cases h3 : fr ρ with
        | ok xs =>
          simp [h1, h2, h3] at h
          subst h
          simp [hr.len ρ xs h3]
        | err c => simp [h1, h2, h3] at h
        | bad => simp [h1, h2, h3] at h
      | err c => simp [h1, h2] at h
      | bad => simp [h1, h2] at h
    | err c => simp [h1] at h
    | bad => simp [h1] at h
  sound := fun rel Q P => ha.sound rel _ (postA_arg P fun d v F1 H1 e1 r1 n1 P1 => hr.sound (rel.step e1) _ (postA_bind P1 fun ds vs F2 H2 e2 r2 P2 =>
    P2 _ _ _ (Ext.refl e2.sub) (.cons ⟨r1.step e2, n1⟩ r2)))

/-! ### displays -/
theorem postD_out {Q1 : List V → Hp → Prop} {Q : VK} {K : PySem.W.Frag} {mg : Str → Option Value} {σ : L2.St} {F H : Hp} {m : Rs (List PyData)} {k : List PyData → Rs R} (P : Post K mg W σ F H Q (m.bind k))
    (h : ∀ ds vs F1 H1, Ext F H F1 H1 → DDs F1 vs ds → Post K mg W σ F1 H1 Q (k ds) → Q1 vs H1) : PostD mg W σ F H Q1 m := by
  cases m with
  | ok r => exact fun v F' H' x y => h r v F' H' x y (post_step P x)
  | err c => exact P
  | bad => exact P
theorem postA_out {Q1 : List V → Hp → Prop} {Q : VK} {K : PySem.W.Frag} {mg : Str → Option Value} {σ : L2.St} {F H : Hp} {m : Rs (List R)} {k : List R → Rs R} (P : Post K mg W σ F H Q (m.bind k))
    (h : ∀ ds vs F1 H1, m = .ok ds → Ext F H F1 H1 → Args K F1 H1 vs ds → Post K mg W σ F1 H1 Q (k ds) → Q1 vs H1) : PostA K mg W σ F H Q1 m := by
  cases m with
  | ok r => exact fun v F' H' x y => h r v F' H' rfl x y (post_step P x)
  | err c => exact P
  | bad => exact P
/-- a new tuple that stays -/
theorem new_tup {K : PySem.W.Frag} {mg : Str → Option Value} {σ : L2.St} {F H : Hp} {Q : VK} {vs : List V} {ds : List PyData} (s : Same F H) (r : DDs F vs ds) (P : Post K mg W σ F H Q (.ok (.val (.tuple ds)))) :
    ∀ p, H p = none → Q (.ref p) (upd H p (.tup vs)) := fun p np =>
  P _ _ _ (Ext.add s np) (.val (.tup upd_same (DDs.mono (same_new (s.free np)) _ _ r)))
/-- a new list of ours -/
theorem new_lst {K : PySem.W.Frag} {mg : Str → Option Value} {σ : L2.St} {F H : Hp} {Q : VK} {vs : List V} {ds : List PyData} (s : Same F H) (r : DDs F vs ds) (P : Post K mg W σ F H Q (.ok (.own ds))) :
    ∀ p, H p = none → Q (.ref p) (upd H p (.lst vs)) := fun p np =>
  P _ _ _ (Ext.addH s np) ⟨⟨p, vs, rfl, upd_same, s.free np, r⟩, fun _ q e => by cases e; exact np⟩
theorem ee_tup {x1 : Nat} {t : TA} {fr : Ev → Rs (List PyData)} (h : ED X W es t fr) : EE X W (.Tuple es x1 pos) (tTup t) (fTup fr) where
  pe := pe_tup h.pa
  sound := fun rel Q P => h.sound rel _ (postD_out P fun ds vs F1 H1 e1 r1 P1 => by
    unfold capL at P1
    split at P1
    · rename_i hl
      exact ⟨by rw [r1.len]; exact Nat.le_trans hl lim_le, new_tup e1.sub r1 P1⟩
    · exact P1.elim)
theorem ee_lst {t : TA} {fr : Ev → Rs (List PyData)} (h : ED X W es t fr) : EE X W (.List es pos) (tLst t) (fLst fr) where
  pe := pe_lst h.pa
  sound := fun rel Q P => h.sound rel _ (postD_out P fun ds vs F1 H1 e1 r1 P1 => by
    unfold capL at P1
    split at P1
    · rename_i hl
      exact ⟨by rw [r1.len]; exact Nat.le_trans hl lim_le, new_lst e1.sub r1 P1⟩
    · exact P1.elim)
end
end DN
/-! Den3: operators, tests, subscripts, calls. -/
namespace DN
open PySem PySem.Spec PyProof.Rows L2

/-! ### operators by data -/
def OpD (K : PySem.W.Frag) (mg : Str → Option Value) (W : WX) (r : R2) (op : PyData → PyData → Rs R) : Prop :=
  ∀ {σ : L2.St} {F H : Hp} {Q : VK} {v u : V} {x y : PyData}, Same F H → DD F v x → DD F u y → Post K mg W σ F H Q (op x y) → r v u H Q
/-- a result that is no new object -/
theorem post_flat {K : PySem.W.Frag} {mg : Str → Option Value} {W : WX} {σ : L2.St} {F H : Hp} {Q : VK} {v : V} {d : PyData} (s : Same F H) (h : DD F v d) (P : Post K mg W σ F H Q (.ok (.val d))) : Q v H :=
  P v F H (Ext.refl s) (.val h)

def oI (g : Int → Int → PyData) : PyData → PyData → Rs R
  | .int i, .int j => .ok (.val (g i j))
  | _, _ => .bad
def oIc (C : Int → Int → Prop) [∀ i j, Decidable (C i j)] (g : Int → Int → PyData) : PyData → PyData → Rs R
  | .int i, .int j => if C i j then .ok (.val (g i j)) else .bad
  | _, _ => .bad
section
variable {K : PySem.W.Frag} {mg : Str → Option Value} {W : WX}
theorem od_I {g : Int → Int → PyData} {gv : Int → Int → V} (h : ∀ F i j, DD F (gv i j) (g i j)) : OpD K mg W (rI0 gv) (oI g) := fun {σ F H Q v u x y} s a b P => by
  cases a <;> cases b <;> first
    | exact ⟨_, _, rfl, rfl, post_flat s (h F _ _) P⟩
    | exact P.elim
theorem od_Ic {C : Int → Int → Prop} [∀ i j, Decidable (C i j)] {g : Int → Int → PyData} {gv : Int → Int → V} (h : ∀ F i j, DD F (gv i j) (g i j)) : OpD K mg W (rI C gv) (oIc C g) := fun {σ F H Q v u x y} s a b P => by
  cases a <;> cases b <;> first
    | exact P.elim
    | (unfold oIc at P
       dsimp only at P
       split at P
       · rename_i hc
         exact ⟨_, _, rfl, rfl, hc, post_flat s (h F _ _) P⟩
       · exact P.elim)
theorem od_or {r r' : R2} {op op' : PyData → PyData → Rs R} {f : PyData → PyData → Bool} (h : OpD K mg W r op) (h' : OpD K mg W r' op') :
    OpD K mg W (fun x y H Q => r x y H Q ∨ r' x y H Q) (fun x y => if f x y = true then op x y else op' x y) := fun {σ F H Q v u x y} s a b P => by
  dsimp only at P
  split at P
  · exact .inl (h s a b P)
  · exact .inr (h' s a b P)
end
instance (i j : Int) : Decidable (CDivW i j) := by unfold CDivW; infer_instance
instance (i j : Int) : Decidable (CMul i j) := by unfold CMul; infer_instance
instance (i j : Int) : Decidable (CPow i j) := by unfold CPow; infer_instance
/-- a + b: ints, texts, lists, tuples -/
def opAdd : PyData → PyData → Rs R
  | .int i, .int j => .ok (.val (.int (i + j)))
  | .str a, .str b => if a.length + b.length ≤ lim then .ok (.val (.str (a ++ b))) else .bad
  | .list a, .list b => if a.length + b.length ≤ lim then .ok (.own (a ++ b)) else .bad
  | .tuple a, .tuple b => if a.length + b.length ≤ lim then .ok (.val (.tuple (a ++ b))) else .bad
  | _, _ => .bad
abbrev opSub : PyData → PyData → Rs R := oI fun i j => .int (i - j)
abbrev opMulI : PyData → PyData → Rs R := oIc CMul fun i j => .int (i * j)
abbrev opDiv : PyData → PyData → Rs R := oIc CDivW fun i j => .int (i / j)
abbrev opMod : PyData → PyData → Rs R := oIc (fun _ j => 0 < j) fun i j => .int (i % j)
abbrev opPow : PyData → PyData → Rs R := oIc CPow fun i j => .int (i ^ j.toNat)
abbrev opLt : PyData → PyData → Rs R := oI fun i j => .bool (decide (i < j))
abbrev opLe : PyData → PyData → Rs R := oI fun i j => .bool (decide (i ≤ j))
abbrev opGt : PyData → PyData → Rs R := oI fun i j => .bool (decide (j < i))
abbrev opGe : PyData → PyData → Rs R := oI fun i j => .bool (decide (j ≤ i))
def eqD (d e : PyData) : Rs Bool := if (SeqAt.shaped d && SeqAt.shaped e) = true then .ok (PyData.eqv d e) else .bad
@[simp] def opEq (d e : PyData) : Rs R := (eqD d e).bind fun b => .ok (.val (.bool b))
@[simp] def opNe (d e : PyData) : Rs R := (eqD d e).bind fun b => .ok (.val (.bool (!b)))
def opIs : PyData → PyData → Rs R
  | d, .none => .ok (.val (.bool (match d with | .none => true | _ => false)))
  | .bool a, .bool b => .ok (.val (.bool (decide (a = b))))
  | _, _ => .bad
def opIsNot : PyData → PyData → Rs R
  | d, .none => .ok (.val (.bool (match d with | .none => false | _ => true)))
  | .bool a, .bool b => .ok (.val (.bool (!decide (a = b))))
  | _, _ => .bad
/-- == of flat data -/
def flatD : PyData → Bool
  | .none => true
  | .bool _ => true
  | .int _ => true
  | .str _ => true
  | _ => false
theorem flat_of {F : Hp} {v : V} {d : PyData} (h : DD F v d) : flatV v = flatD d := by cases h <;> rfl
def eqF : PyData → PyData → Bool
  | .none, .none => true
  | .bool a, .bool b => a == b
  | .bool a, .int b => (if a then 1 else 0) == b
  | .int a, .bool b => a == (if b then 1 else 0)
  | .int a, .int b => a == b
  | .str a, .str b => a == b
  | _, _ => false
theorem eqF_of {F : Hp} {v u : V} {d e : PyData} (h : DD F v d) (g : DD F u e) : eqV v u = eqF d e := by cases h <;> cases g <;> rfl
def inD (x : PyData) : PyData → Rs Bool
  | .list ds => if (flatD x && ds.all flatD) = true then .ok (ds.any fun y => eqF y x) else if (SeqAt.shaped x && SeqAt.shaped (.list ds)) = true then .ok (ds.any fun z => PyData.eqv z x) else .bad
  | .tuple ds => if (flatD x && ds.all flatD) = true then .ok (ds.any fun y => eqF y x) else .bad
  | .str z => match x with
    | .str ⟨⟨[c]⟩⟩ => .ok (decide (c ∈ z.cps.toList))
    | _ => .bad
  | _ => .bad
@[simp] def opIn (x y : PyData) : Rs R := (inD x y).bind fun b => .ok (.val (.bool b))
@[simp] def opNotIn (x y : PyData) : Rs R := (inD x y).bind fun b => .ok (.val (.bool (!b)))
theorem DDs.allFlat {F : Hp} : ∀ {ds : List PyData} {vs : List V}, DDs F vs ds → vs.all flatV = ds.all flatD
  | [], _, .nil => rfl
  | _ :: _, _, .cons h r => by rw [List.all_cons, List.all_cons, flat_of h, DDs.allFlat r]
theorem DDs.anyEq {F : Hp} {v : V} {d : PyData} (h : DD F v d) : ∀ {ds : List PyData} {vs : List V}, DDs F vs ds → inV v vs = ds.any fun y => eqF y d
  | [], _, .nil => rfl
  | _ :: _, _, .cons g r => by
    show (eqV _ v || inV v _) = _
    rw [List.any_cons, eqF_of g h, DDs.anyEq h r]
section
variable {X : Cx} {W : WX}
def rAddA (K : PySem.W.Frag) : R2 := fun x y H Q => rI0 (fun i j => .int (i + j)) x y H Q ∨ (fun x y H Q => ∃ i j, x = .str i ∧ y = .str j ∧ i.length + j.length ≤ sizeLine ∧ Q (.str (i ++ j)) H) x y H Q ∨ rCat x y H Q ∨ rCatA K x y H Q
theorem op_addA : OpR X (binaryOp .Add) (rAddA X.K) := op_add.or (op_add_str.or (op_cat.or op_catA))
theorem od_add : OpD X.K X.mg W (rAddA X.K) opAdd := fun {σ F H Q v u x y} s a b P => by
  cases a with
  | int i =>
    cases b with
    | int j => exact .inl ⟨_, _, rfl, rfl, post_flat s (.int _) P⟩
    | _ => exact P.elim
  | str i =>
    cases b with
    | str j =>
      unfold opAdd at P
      dsimp only at P
      split at P
      · rename_i hl
        exact .inr (.inl ⟨_, _, rfl, rfl, Nat.le_trans hl lim_le, post_flat s (.str _) P⟩)
      · exact P.elim
    | _ => exact P.elim
  | @lst p xs ds h r =>
    cases b with
    | @lst q ys es g w =>
      unfold opAdd at P
      dsimp only at P
      split at P
      · rename_i hl
        exact .inr (.inr (.inl ⟨_, _, _, _, rfl, rfl, s _ _ h, s _ _ g, by rw [r.len, w.len]; exact Nat.le_trans hl lim_le, new_lst s (r.app w) P⟩))
      · exact P.elim
    | _ => exact P.elim
  | @tup p xs ds h r =>
    cases b with
    | @tup q ys es g w =>
      unfold opAdd at P
      dsimp only at P
      split at P
      · rename_i hl
        refine .inr (.inr (.inr ⟨_, _, _, _, rfl, rfl, SqT.of (s _ _ h), SqT.of (s _ _ g), by rw [r.len, w.len]; exact Nat.le_trans hl lim_le, fun e => ?_, fun _ e => ?_, fun _ _ => new_tup s (r.app w) P⟩))
        · subst e
          cases r
          exact post_flat s (.tup g w) P
        · subst e
          cases w
          rw [List.append_nil] at P
          exact post_flat s (.tup h r) P
      · exact P.elim
    | _ => exact P.elim
  | _ => cases b <;> exact P.elim
theorem od_sub : OpD X.K X.mg W (rI0 fun i j => .int (i - j)) opSub := od_I fun _ _ _ => .int _
theorem od_mul : OpD X.K X.mg W (rI CMul fun i j => .int (i * j)) opMulI := od_Ic fun _ _ _ => .int _
theorem od_div : OpD X.K X.mg W (rI CDivW fun i j => .int (i / j)) opDiv := od_Ic fun _ _ _ => .int _
theorem od_mod : OpD X.K X.mg W (rI (fun _ j => 0 < j) fun i j => .int (i % j)) opMod := od_Ic fun _ _ _ => .int _
theorem od_pow : OpD X.K X.mg W (rI CPow fun i j => .int (i ^ j.toNat)) opPow := od_Ic fun _ _ _ => .int _
theorem od_lt : OpD X.K X.mg W (rI0 fun i j => .bl (decide (i < j))) opLt := od_I fun _ _ _ => .bl _
theorem od_le : OpD X.K X.mg W (rI0 fun i j => .bl (decide (i ≤ j))) opLe := od_I fun _ _ _ => .bl _
theorem od_gt : OpD X.K X.mg W (rI0 fun i j => .bl (decide (j < i))) opGt := od_I fun _ _ _ => .bl _
theorem od_ge : OpD X.K X.mg W (rI0 fun i j => .bl (decide (j ≤ i))) opGe := od_I fun _ _ _ => .bl _
theorem od_eq : OpD X.K X.mg W (rEqD X.K) opEq := fun {σ F H Q v u x y} s a b P => by
  unfold opEq eqD at P
  split at P
  · rename_i h
    have h' := Bool.and_eq_true_iff.mp h
    exact ⟨x, y, DD.dp s _ _ a, DD.dp s _ _ b, h'.1, h'.2, post_flat s (.bl _) P⟩
  · exact P.elim
theorem od_ne : OpD X.K X.mg W (rNeD X.K) opNe := fun {σ F H Q v u x y} s a b P => by
  unfold opNe eqD at P
  split at P
  · rename_i h
    have h' := Bool.and_eq_true_iff.mp h
    exact ⟨x, y, DD.dp s _ _ a, DD.dp s _ _ b, h'.1, h'.2, post_flat s (.bl _) P⟩
  · exact P.elim
def rIsA : R2 := fun x y H Q => (y = .non ∧ Q (.bl (decide (x = .non))) H) ∨ rIsB x y H Q
def rIsNotA : R2 := fun x y H Q => (y = .non ∧ Q (.bl (!decide (x = .non))) H) ∨ rNotB x y H Q
theorem op_isA : OpR X (compareOp .Is) rIsA := op_isN.or op_isBl
theorem op_isNotA : OpR X (compareOp .IsNot) rIsNotA := op_notN.or op_notBl
theorem od_is : OpD X.K X.mg W rIsA opIs := fun {σ F H Q v u x y} s a b P => by
  cases b with
  | non =>
    refine .inl ⟨rfl, ?_⟩
    cases a <;> exact post_flat s (.bl _) P
  | bl c =>
    cases a with
    | bl d => exact .inr ⟨_, _, rfl, rfl, post_flat s (.bl _) P⟩
    | _ => exact P.elim
  | _ => cases a <;> exact P.elim
theorem od_isNot : OpD X.K X.mg W rIsNotA opIsNot := fun {σ F H Q v u x y} s a b P => by
  cases b with
  | non =>
    refine .inl ⟨rfl, ?_⟩
    cases a <;> exact post_flat s (.bl _) P
  | bl c =>
    cases a with
    | bl d => exact .inr ⟨_, _, rfl, rfl, post_flat s (.bl _) P⟩
    | _ => exact P.elim
  | _ => cases a <;> exact P.elim
def rInA (K : PySem.W.Frag) : R2 := fun x y H Q => rIn K false x y H Q ∨ rInD K x y H Q ∨ (∃ (c : Nat) (z : Str), x = .str ⟨#[c]⟩ ∧ y = .str z ∧ Q (.bl (decide (c ∈ z.cps.toList))) H)
def rNotInA (K : PySem.W.Frag) : R2 := fun x y H Q => rIn K true x y H Q ∨ rNotInD K x y H Q ∨ (∃ (c : Nat) (z : Str), x = .str ⟨#[c]⟩ ∧ y = .str z ∧ Q (.bl (!decide (c ∈ z.cps.toList))) H)
theorem op_inA (hu : X.A.units + 65 < cLine) : OpR X (compareOp .In) (rInA X.K) := op_in_seq.or ((op_inD hu).or op_in_sign)
theorem op_notInA (hu : X.A.units + 65 < cLine) : OpR X (compareOp .NotIn) (rNotInA X.K) := op_notIn_seq.or ((op_notInD hu).or op_notIn_sign)
theorem od_in : OpD X.K X.mg W (rInA X.K) opIn := fun {σ F H Q v u x y} s a b P => by
  unfold opIn inD at P
  cases b with
  | @lst p ys es g w =>
    dsimp only at P
    split at P
    · rename_i hl
      have h' := Bool.and_eq_true_iff.mp hl
      refine .inl ⟨_, _, rfl, .inl (SqL.of (s _ _ g)), by rw [flat_of a]; exact h'.1, by rw [w.allFlat]; exact h'.2, ?_⟩
      rw [if_neg (by decide), w.anyEq a]
      exact post_flat s (.bl _) P
    · split at P
      · rename_i hl
        have h' := Bool.and_eq_true_iff.mp hl
        exact .inr (.inl ⟨x, es, DD.dp s _ _ a, DD.dp s _ _ (.lst g w), h'.1, h'.2, post_flat s (.bl _) P⟩)
      · exact P.elim
  | @tup p ys es g w =>
    dsimp only at P
    split at P
    · rename_i hl
      have h' := Bool.and_eq_true_iff.mp hl
      refine .inl ⟨_, _, rfl, .inr (SqT.of (s _ _ g)), by rw [flat_of a]; exact h'.1, by rw [w.allFlat]; exact h'.2, ?_⟩
      rw [if_neg (by decide), w.anyEq a]
      exact post_flat s (.bl _) P
    · exact P.elim
  | str z =>
    dsimp only at P
    split at P
    · rename_i c
      cases a
      exact .inr (.inr ⟨c, z, rfl, rfl, post_flat s (.bl _) P⟩)
    · exact P.elim
  | _ => exact P.elim
theorem od_notIn : OpD X.K X.mg W (rNotInA X.K) opNotIn := fun {σ F H Q v u x y} s a b P => by
  unfold opNotIn inD at P
  cases b with
  | @lst p ys es g w =>
    dsimp only at P
    split at P
    · rename_i hl
      have h' := Bool.and_eq_true_iff.mp hl
      refine .inl ⟨_, _, rfl, .inl (SqL.of (s _ _ g)), by rw [flat_of a]; exact h'.1, by rw [w.allFlat]; exact h'.2, ?_⟩
      rw [if_pos rfl, w.anyEq a]
      exact post_flat s (.bl _) P
    · split at P
      · rename_i hl
        have h' := Bool.and_eq_true_iff.mp hl
        exact .inr (.inl ⟨x, es, DD.dp s _ _ a, DD.dp s _ _ (.lst g w), h'.1, h'.2, post_flat s (.bl _) P⟩)
      · exact P.elim
  | @tup p ys es g w =>
    dsimp only at P
    split at P
    · rename_i hl
      have h' := Bool.and_eq_true_iff.mp hl
      refine .inl ⟨_, _, rfl, .inr (SqT.of (s _ _ g)), by rw [flat_of a]; exact h'.1, by rw [w.allFlat]; exact h'.2, ?_⟩
      rw [if_pos rfl, w.anyEq a]
      exact post_flat s (.bl _) P
    · exact P.elim
  | str z =>
    dsimp only at P
    split at P
    · rename_i c
      cases a
      exact .inr (.inr ⟨c, z, rfl, rfl, post_flat s (.bl _) P⟩)
    · exact P.elim
  | _ => exact P.elim
end

/-! ### as expressions -/
section
variable {X : Cx} {W : WX} {a b c e : Expr} {es : List Expr} {ta tb tc te : TE} {fa fb fc f : Ev → Rs R} {pos : Pos}
theorem op_sound {r : R2} {op : PyData → PyData → Rs R} (hd : OpD X.K X.mg W r op) (ha : EE X W a ta fa) (hb : EE X W b tb fb) {G H0 : Hp} {ρ : Ev} {σ : L2.St} {F H : Hp} (rel : Rel X.K G H0 ρ σ F H) (Q : VK)
    (P : Post X.K X.mg W σ F H Q (fOp op fa fb ρ)) : tOp r ta tb σ H Q :=
  ha.sound rel _ (post_data P fun d v F1 H1 e1 r1 P1 => hb.sound (rel.step e1) _ (post_data P1 fun d2 v2 F2 H2 e2 r2 P2 => hd e2.sub (DD.mono e2.ff _ _ r1) r2 P2))
theorem ee_op {o : Operator} {r : R2} {op : PyData → PyData → Rs R} (ho : OpR X (binaryOp o) r) (hd : OpD X.K X.mg W r op) (ha : EE X W a ta fa) (hb : EE X W b tb fb) : EE X W (.BinOp a o b pos) (tOp r ta tb) (fOp op fa fb) :=
  ⟨pe_op ho ha.pe hb.pe, op_sound hd ha hb⟩
theorem ee_cmp {o : CmpOp} {r : R2} {op : PyData → PyData → Rs R} (ho : OpR X (compareOp o) r) (hd : OpD X.K X.mg W r op) (ha : EE X W a ta fa) (hb : EE X W b tb fb) (hm : behindInMarks o b = false) : EE X W (.Compare a [o] [b] pos) (tOp r ta tb) (fOp op fa fb) :=
  ⟨pe_cmpR ho ha.pe hb.pe hm, op_sound hd ha hb⟩
def UnD (K : PySem.W.Frag) (mg : Str → Option Value) (W : WX) (r : V → Hp → VK → Prop) (op : PyData → Rs R) : Prop :=
  ∀ {σ : L2.St} {F H : Hp} {Q : VK} {v : V} {x : PyData}, Same F H → DD F v x → Post K mg W σ F H Q (op x) → r v H Q
theorem ee_un {o : UnaryOp} {r : V → Hp → VK → Prop} {op : PyData → Rs R} (ho : UnR X (unaryOp o) r) (hd : UnD X.K X.mg W r op) (ha : EE X W a ta fa) : EE X W (.UnaryOp o a pos) (tUn r ta) (fUn op fa) where
  pe := pe_un ho ha.pe
  sound := fun rel Q P => ha.sound rel _ (post_data P fun d v F1 H1 e1 r1 P1 => hd e1.sub r1 P1)
def opNeg : PyData → Rs R
  | .int i => .ok (.val (.int (-i)))
  | _ => .bad
theorem ud_neg : UnD X.K X.mg W (rU fun i => .int (-i)) opNeg := fun {σ F H Q v x} s a P => by
  cases a <;> first
    | exact ⟨_, rfl, post_flat s (.int _) P⟩
    | exact P.elim
/-- a chain of two comparisons -/
@[simp] def fChain (op op' : PyData → PyData → Rs R) (fa fb fc : Ev → Rs R) : Ev → Rs R := fun ρ => (fa ρ).bind fun a => a.d.bind fun x => (fb ρ).bind fun b => b.d.bind fun y => (op x y).bind fun z => z.d.bind fun w => (asB w).bind fun k =>
  if k = true then (fc ρ).bind fun c => c.d.bind fun v => op' y v else .ok (.val (.bool false))
theorem asB_ok {d : PyData} {b : Bool} (h : asB d = .ok b) : d = .bool b := by
  cases d <;> simp [asB] at h
  rw [h]
theorem post_asB {K : PySem.W.Frag} {mg : Str → Option Value} {σ : L2.St} {F H : Hp} {Q : VK} {d : PyData} {k : Bool → Rs R} (P : Post K mg W σ F H Q ((asB d).bind k)) : ∃ b, d = .bool b ∧ Post K mg W σ F H Q (k b) := by
  cases d <;> first
    | exact ⟨_, rfl, P⟩
    | exact P.elim
theorem ee_chain {o o' : CmpOp} {r r' : R2} {op op' : PyData → PyData → Rs R} (ho : OpR X (compareOp o) r) (ho' : OpR X (compareOp o') r') (hd : OpD X.K X.mg W r op) (hd' : OpD X.K X.mg W r' op') (ha : EE X W a ta fa) (hb : EE X W b tb fb) (hc : EE X W c tc fc)
    (hm : lastMarks [o, o'] [b, c] = false := by with_unfolding_all rfl) : EE X W (.Compare a [o, o'] [b, c] pos) (tChain r r' ta tb tc) (fChain op op' fa fb fc) where
  pe := pe_chain ho ho' ha.pe hb.pe hc.pe hm
  sound := fun rel Q P => ha.sound rel _ (post_data P fun d v F1 H1 e1 r1 P1 => hb.sound (rel.step e1) _ (post_data P1 fun d2 v2 F2 H2 e2 r2 P2 =>
    hd e2.sub (DD.mono e2.ff _ _ r1) r2 (post_data P2 fun d3 v3 F3 H3 e3 r3 P3 => by
      obtain ⟨k, rfl, P4⟩ := post_asB P3
      cases r3
      refine ⟨k, rfl, ?_⟩
      cases k with
      | true =>
        rw [if_pos rfl] at P4 ⊢
        exact hc.sound ((rel.step e1).step (e2.trans e3)) _ (post_data P4 fun d5 v5 F5 H5 e5 r5 P5 => hd' e5.sub (DD.mono e5.ff _ _ (DD.mono e3.ff _ _ r2)) r5 P5)
      | false =>
        rw [if_neg (by decide)] at P4 ⊢
        exact post_flat e3.sub (.bl _) P4)))

/-! ### tests -/
theorem postB_data {Q1 : VK} {Q : Bool → Hp → Prop} {K : PySem.W.Frag} {mg : Str → Option Value} {σ : L2.St} {F H : Hp} {m : Rs R} {k : PyData → Rs Bool} (P : PostB mg W σ F H Q (m.bind fun r => r.d.bind k))
    (h : ∀ d v F1 H1, Ext F H F1 H1 → DD F1 v d → PostB mg W σ F1 H1 Q (k d) → Q1 v H1) : Post K mg W σ F H Q1 m := by
  cases m with
  | ok r =>
    intro v F' H' x y
    cases hd : r.d with
    | ok d =>
      obtain ⟨F2, e2, _, q2⟩ := y.data x hd
      have P' : PostB mg W σ F H Q (k d) := by
        have : ((Rs.ok r).bind fun r => r.d.bind k) = k d := by simp [hd]
        rw [this] at P; exact P
      exact h d v F2 H' e2 q2 (postB_step P' e2)
    | err c => exact absurd hd (by cases r <;> simp [R.d])
    | bad =>
      have : ((Rs.ok r).bind fun r => r.d.bind k) = .bad := by simp [hd]
      rw [this] at P; exact P.elim
  | err c => exact P
  | bad => exact P
theorem et_val (h : EE X W e te f) (he : ∀ whole, isTrue e X.env whole = (do let v ← whole; standAt e.pos; holding [v] (truthy v)) := by intro _; rfl) : ET X W e (tB te) (fTest f) where
  pt := pt_val h.pe he
  sound := fun rel Q P => h.sound rel _ (postB_data P fun d v F1 H1 e1 r1 P1 => by
    cases r1 <;> first
      | exact ⟨_, rfl, P1 _ _ (Ext.refl e1.sub)⟩
      | exact P1.elim)
theorem postB_bind {Q Q1 : Bool → Hp → Prop} {mg : Str → Option Value} {σ : L2.St} {F H : Hp} {m : Rs Bool} {k : Bool → Rs Bool} (P : PostB mg W σ F H Q (m.bind k))
    (h : ∀ b F1 H1, Ext F H F1 H1 → PostB mg W σ F1 H1 Q (k b) → Q1 b H1) : PostB mg W σ F H Q1 m := by
  cases m with
  | ok r => exact fun F' H' x => h r F' H' x (postB_step P x)
  | err c => exact P
  | bad => exact P
variable {tA tB' : TT} {fA fB : Ev → Rs Bool} {rest : List Expr}
theorem et_not (h : ET X W a tA fA) : ET X W (.UnaryOp .Not a pos) (tNot tA) (fNot fA) where
  pt := pt_not h.pt
  sound := fun rel Q P => h.sound rel _ (postB_bind P fun b F1 H1 e1 P1 => P1 _ _ (Ext.refl e1.sub))
theorem ew_and1 (h : ET X W a tA fA) : EW X W (.BoolOp .And [a] pos) tA fA := ⟨pw_and1 h.pt, h.sound⟩
theorem ew_or1 (h : ET X W a tA fA) : EW X W (.BoolOp .Or [a] pos) tA fA := ⟨pw_or1 h.pt, h.sound⟩
theorem ew_and (h : ET X W a tA fA) (g : EW X W (.BoolOp .And (b :: rest) pos) tB' fB) : EW X W (.BoolOp .And (a :: b :: rest) pos) (tAnd tA tB') (fAnd fA fB) where
  pw := pw_and h.pt g.pw
  sound := fun rel Q P => h.sound rel _ (postB_bind P fun b F1 H1 e1 P1 => by
    cases b with
    | true =>
      rw [if_pos rfl] at P1 ⊢
      exact g.sound (rel.step e1) _ P1
    | false =>
      rw [if_neg (by decide)] at P1 ⊢
      exact P1 _ _ (Ext.refl e1.sub))
theorem ew_or (h : ET X W a tA fA) (g : EW X W (.BoolOp .Or (b :: rest) pos) tB' fB) : EW X W (.BoolOp .Or (a :: b :: rest) pos) (tOr tA tB') (fOr fA fB) where
  pw := pw_or h.pt g.pw
  sound := fun rel Q P => h.sound rel _ (postB_bind P fun b F1 H1 e1 P1 => by
    cases b with
    | true =>
      rw [if_pos rfl] at P1 ⊢
      exact P1 _ _ (Ext.refl e1.sub)
    | false =>
      rw [if_neg (by decide)] at P1 ⊢
      exact g.sound (rel.step e1) _ P1)
theorem EW.et (h : EW X W e tA fA) : ET X W e tA fA := ⟨h.pw.pt, h.sound⟩
/-! ### and, or, not as values -/
theorem ee_one {o} (h : EE X W a ta fa) : EE X W (.BoolOp o [a] pos) ta fa := ⟨pe_one h.pe, h.sound⟩
theorem ee_and (h : EE X W a ta fa) (g : EE X W (.BoolOp .And (b :: rest) pos) tb fb) : EE X W (.BoolOp .And (a :: b :: rest) pos) (tAndV ta tb) (fAndV fa fb) where
  pe := pe_and h.pe g.pe
  sound := fun rel Q P => h.sound rel _ (post_data P fun d v F1 H1 e1 r1 P1 => by
    obtain ⟨k, rfl, P4⟩ := post_asB P1
    cases r1
    refine ⟨k, rfl, ?_⟩
    cases k with
    | true =>
      rw [if_pos rfl] at P4 ⊢
      exact g.sound (rel.step e1) _ P4
    | false =>
      rw [if_neg (by decide)] at P4 ⊢
      exact post_flat e1.sub (.bl _) P4)
theorem ee_or (h : EE X W a ta fa) (g : EE X W (.BoolOp .Or (b :: rest) pos) tb fb) : EE X W (.BoolOp .Or (a :: b :: rest) pos) (tOrV ta tb) (fOrV fa fb) where
  pe := pe_or h.pe g.pe
  sound := fun rel Q P => h.sound rel _ (post_data P fun d v F1 H1 e1 r1 P1 => by
    obtain ⟨k, rfl, P4⟩ := post_asB P1
    cases r1
    refine ⟨k, rfl, ?_⟩
    cases k with
    | true =>
      rw [if_pos rfl] at P4 ⊢
      exact post_flat e1.sub (.bl _) P4
    | false =>
      rw [if_neg (by decide)] at P4 ⊢
      exact g.sound (rel.step e1) _ P4)
theorem ee_not (h : EE X W a ta fa) : EE X W (.UnaryOp .Not a pos) (tNotV ta) (fNotV fa) where
  pe := pe_not h.pe
  sound := fun rel Q P => h.sound rel _ (post_data P fun d v F1 H1 e1 r1 P1 => by
    obtain ⟨k, rfl, P4⟩ := post_asB P1
    cases r1
    exact ⟨k, rfl, post_flat e1.sub (.bl _) P4⟩)
theorem postB_out {Q1 : Bool → Hp → Prop} {Q : VK} {K : PySem.W.Frag} {mg : Str → Option Value} {σ : L2.St} {F H : Hp} {m : Rs Bool} {k : Bool → Rs R} (P : Post K mg W σ F H Q (m.bind k))
    (h : ∀ b F1 H1, Ext F H F1 H1 → Post K mg W σ F1 H1 Q (k b) → Q1 b H1) : PostB mg W σ F H Q1 m := by
  cases m with
  | ok r => exact fun F' H' x => h r F' H' x (post_step P x)
  | err c => exact P
  | bad => exact P
theorem ee_if (hc : ET X W c tA fA) (ha : EE X W a ta fa) (hb : EE X W b tb fb) : EE X W (.IfExp c a b pos) (tIf tA ta tb) (fIf fA fa fb) where
  pe := pe_ifExp hc.pt ha.pe hb.pe
  sound := fun rel Q P => hc.sound rel _ (postB_out P fun b F1 H1 e1 P1 => by
    cases b with
    | true =>
      rw [if_pos rfl] at P1 ⊢
      exact ha.sound (rel.step e1) _ P1
    | false =>
      rw [if_neg (by decide)] at P1 ⊢
      exact hb.sound (rel.step e1) _ P1)
/-! ### subscripts -/
def opIx : PyData → PyData → Rs R
  | .list ds, .int i => match atI ds i with
    | some d => .ok (.val d)
    | none => .bad
  | .tuple ds, .int i => match atI ds i with
    | some d => .ok (.val d)
    | none => .bad
  | .str z, .int i => if z.length ≤ lim then (match atI z.cps.toList i with
    | some c => .ok (.val (.str ⟨#[c]⟩))
    | none => .bad) else .bad
  | _, _ => .bad
theorem atI_DD {F : Hp} {vs : List V} {ds : List PyData} {i : Int} {d : PyData} (r : DDs F vs ds) (h : atI ds i = some d) : ∃ v, atI vs i = some v ∧ DD F v d := by
  unfold atI at *
  rw [r.len]
  cases hx : ixN ds.length i with
  | none => rw [hx] at h; cases h
  | some j =>
    rw [hx] at h
    obtain ⟨v, a, b⟩ := r.get (i := j) h
    exact ⟨v, a, b⟩
theorem od_ix : OpD X.K X.mg W (rIx X.K) opIx := fun {σ F H Q v u x y} s a b P => by
  unfold opIx at P
  cases a with
  | @lst p xs ds h r =>
    cases b with
    | int i =>
      dsimp only at P
      split at P
      · rename_i d hd
        obtain ⟨w, e1, e2⟩ := atI_DD r hd
        exact .inl ⟨_, _, _, _, rfl, rfl, SqL.of (s _ _ h), e1, post_flat s e2 P⟩
      · exact P.elim
    | _ => exact P.elim
  | @tup p xs ds h r =>
    cases b with
    | int i =>
      dsimp only at P
      split at P
      · rename_i d hd
        obtain ⟨w, e1, e2⟩ := atI_DD r hd
        exact .inr (.inl ⟨_, _, _, _, rfl, rfl, SqT.of (s _ _ h), e1, post_flat s e2 P⟩)
      · exact P.elim
    | _ => exact P.elim
  | str z =>
    cases b with
    | int i =>
      dsimp only at P
      split at P
      · rename_i hl
        split at P
        · rename_i c hc
          exact .inr (.inr ⟨_, _, _, rfl, rfl, Nat.le_trans hl lim_le, hc, post_flat s (.str _) P⟩)
        · exact P.elim
      · exact P.elim
    | _ => exact P.elim
  | _ => cases b <;> exact P.elim
theorem ee_ix (ha : EE X W a ta fa) (hb : EE X W b tb fb) (hs : PlainIx b := by exact fun _ _ => rfl) : EE X W (.Subscript a b pos) (tOp (rIx X.K) ta tb) (fOp opIx fa fb) :=
  ⟨pe_ix ix_seq ha.pe hb.pe hs, op_sound od_ix ha hb⟩
/-! ### slices -/
def cut {α : Type} (xs : List α) (lo hi : Option Int) : List α := (xs.drop (HT.sIx xs.length 0 lo)).take (HT.sIx xs.length xs.length hi - HT.sIx xs.length 0 lo)
structure EO (X : Cx) (W : WX) (e : Option Expr) (t : TO) (f : Ev → Rs (Option Int)) : Prop where
  po : PO X e t
  sound : ∀ {G H0 : Hp} {ρ : Ev} {σ : L2.St} {F H : Hp}, Rel X.K G H0 ρ σ F H → ∀ (Q1 : Option Int → Hp → Prop) (Q : VK) (k : Option Int → Rs R), Post X.K X.mg W σ F H Q ((f ρ).bind k) →
    (∀ o F1 H1, Ext F H F1 H1 → Post X.K X.mg W σ F1 H1 Q (k o) → Q1 o H1) → t σ H Q1
@[simp] def fNo : Ev → Rs (Option Int) := fun _ => .ok none
def asI : PyData → Rs (Option Int)
  | .int i => .ok (some i)
  | _ => .bad
@[simp] def fPart (f : Ev → Rs R) : Ev → Rs (Option Int) := fun ρ => (f ρ).bind fun r => r.d.bind asI
theorem eo_none : EO X W none tNoPart fNo := ⟨po_none, fun rel Q1 Q k P h => h none _ _ (Ext.refl rel.sub) P⟩
theorem bind_assoc {α β γ : Type} (m : Rs α) (k : α → Rs β) (j : β → Rs γ) : (m.bind k).bind j = m.bind fun x => (k x).bind j := by cases m <;> rfl
theorem eo_some (h : EE X W e te f) : EO X W (some e) (tPart te) (fPart f) where
  po := po_some h.pe
  sound := fun {G H0 ρ σ F H} rel Q1 Q k P g => by
    unfold fPart at P
    have P' : Post X.K X.mg W σ F H Q ((f ρ).bind fun r => r.d.bind fun x => (asI x).bind k) := by
      simpa only [bind_assoc] using P
    exact h.sound rel _ (post_data P' fun d v F1 H1 e1 r1 P1 => by
      cases r1 <;> first
        | exact ⟨_, rfl, g _ _ _ e1 P1⟩
        | exact P1.elim)
def opSl (d : PyData) (lo hi : Option Int) : Rs R := match d with
  | .list ds => .ok (.own (cut ds lo hi))
  | .tuple ds => .ok (.val (.tuple (cut ds lo hi)))
  | .str z => if z.length ≤ lim then .ok (.val (.str (cutS z lo hi))) else .bad
  | _ => .bad
def rSlAll (K : PySem.W.Frag) : V → Option Int → Option Int → Hp → VK → Prop := fun x lo hi H Q => rSlL K x lo hi H Q ∨ rSlA K x lo hi H Q ∨ rSlS x lo hi H Q
theorem sl_all : SlR X (rSlAll X.K) := sl_list.or (sl_tupA.or sl_str)
theorem DDs.cut {F : Hp} {vs : List V} {ds : List PyData} (r : DDs F vs ds) (lo hi : Option Int) : DDs F (cutV vs lo hi) (DN.cut ds lo hi) := by
  unfold cutV DN.cut
  rw [r.len]
  exact (r.drop _).take _
theorem cut_whole {α : Type} {xs : List α} {lo hi : Option Int} (h : HT.sIx xs.length 0 lo = 0 ∧ HT.sIx xs.length xs.length hi = xs.length) : DN.cut xs lo hi = xs := by
  unfold DN.cut
  rw [h.1, h.2]
  simp
@[simp] def fSl (f : Ev → Rs R) (fl fh : Ev → Rs (Option Int)) : Ev → Rs R := fun ρ => (f ρ).bind fun r => r.d.bind fun x => (fl ρ).bind fun lo => (fh ρ).bind fun hi => opSl x lo hi
theorem ee_sl {lo hi : Option Expr} {tl th : TO} {fl fh : Ev → Rs (Option Int)} {p2 : Pos} (he : EE X W e te f) (hl : EO X W lo tl fl) (hh : EO X W hi th fh) : EE X W (.Subscript e (.Slice lo hi none p2) pos) (tSl (rSlAll X.K) te tl th) (fSl f fl fh) where
  pe := pe_slice sl_all he.pe hl.po hh.po
  sound := fun {G H0 ρ σ F H} rel Q P => he.sound rel _ (post_data P fun d v F1 H1 e1 r1 P1 => hl.sound (rel.step e1) _ Q _ P1 fun lo F2 H2 e2 P2 => hh.sound ((rel.step e1).step e2) _ Q _ P2 fun hi F3 H3 e3 P3 => by
    have r3 := DD.mono (e2.ff.trans e3.ff) _ _ r1
    have s := e3.sub
    unfold opSl at P3
    cases r3 with
    | @lst p xs ds h r => exact .inl ⟨_, _, rfl, SqL.of (s _ _ h), new_lst s (r.cut lo hi) P3⟩
    | @tup p xs ds h r =>
      refine .inr (.inl ⟨_, _, rfl, SqT.of (s _ _ h), fun z => ?_, fun _ => new_tup s (r.cut lo hi) P3⟩)
      rw [r.len] at z
      dsimp only at P3
      rw [cut_whole z] at P3
      exact post_flat s (.tup h r) P3
    | str z =>
      dsimp only at P3
      split at P3
      · rename_i hl
        exact .inr (.inr ⟨_, rfl, Nat.le_trans hl lim_le, post_flat s (.str _) P3⟩)
      · exact P3.elim
    | _ => exact P3.elim)

/-! ### calls of defs -/
/-- what a def of plain data promises -/
def spD (K : PySem.W.Frag) (mg : Str → Option Value) (n : Nat) (den : List R → Rs R) : Sp := fun vs H Q E => vs.length = n ∧ ∃ rs F, Same F H ∧ Args K F H vs rs ∧ (match den rs with
  | .ok r => ∀ v F' H', Ext F H F' H' → RepN K F' H' H v r → Q v H'
  | .err c => ∀ C H', mg c = some (.ref C) → Same H H' → E (.ref C) none H'
  | .bad => False)
theorem Args.len {K : PySem.W.Frag} {F H : Hp} : ∀ {vs : List V} {rs : List R}, Args K F H vs rs → vs.length = rs.length
  | _, _, .nil => rfl
  | _, _, .cons _ t => congrArg (· + 1) (Args.len t)
theorem ee_call {k n : Nat} {fn : Addr} {fd : FuncData} {ps : List Str} {den : List R → Rs R} {x : Str} {p : Pos} {t : TA} {fr : Ev → Rs (List R)} (Fn : FnOk X.prog X.w X.K X.mg X.base (L2.CX X.prog X.w) k fn fd ps (spD X.K X.mg n den)) (hr : Room k X.A) (hm : X.mg x = some (.ref fn))
    (hk : PySem.W.keepIn X.K (.ref fn) = true) (hb : Binds X.K fd ps []) (tk : Takes X W) (ha : EA X W (e :: es) t fr) (hn : (e :: es).length = n := by rfl) (hg : Gl X x := by rfl)
    (hdb : (x == ("__debug__" : Str)) = false := by decide) (he : starEach (e :: es) X.env = (false, eval e X.env) :: starEach es X.env := by rfl) (hpl : (backTo pos (starEach es X.env)).any (·.1) = false := by rfl) :
    EE X W (.Call (.Name x p) (e :: es) [] pos) (tCallS (spD X.K X.mg n den) (WE W) t) (fCall den fr) where
  pe := pe_callS Fn hr hg hm hk hb (fun σ => passAt tk σ) ha.pa hdb he hpl
  sound := fun {G H0 ρ σ F H} rel Q P => ha.sound rel _ (postA_out P fun rs vs F1 H1 q e1 r1 P1 => ⟨by rw [r1.len, ha.len ρ rs q]; exact hn, rs, F1, e1.sub, r1, by
    cases hd : den rs with
    | ok r => rw [hd] at P1; exact P1
    | err c => rw [hd] at P1; exact P1
    | bad => rw [hd] at P1; exact P1⟩)
theorem ee_call0 {k : Nat} {fn : Addr} {fd : FuncData} {ps : List Str} {den : List R → Rs R} {x : Str} {p : Pos} (Fn : FnOk X.prog X.w X.K X.mg X.base (L2.CX X.prog X.w) k fn fd ps (spD X.K X.mg 0 den)) (hr : Room k X.A) (hm : X.mg x = some (.ref fn))
    (hk : PySem.W.keepIn X.K (.ref fn) = true) (hb : Binds X.K fd ps []) (E : XK) (hp : Passes (L2.CX X.prog X.w) X E) (hE : ∀ c d σ H, W c d σ H → E c d H) (hg : Gl X x := by rfl)
    (hdb : (x == ("__debug__" : Str)) = false := by decide) :
    EE X W (.Call (.Name x p) [] [] pos) (tCall (spD X.K X.mg 0 den) [] E tNil) (fun _ => den []) where
  pe := pe_call0 Fn hr hg hm hk hb .nil hp hdb
  sound := fun {G H0 ρ σ F H} rel Q P => ⟨rfl, [], F, rel.sub, .nil, by
    cases hd : den [] with
    | ok r => rw [hd] at P; exact P
    | err c => rw [hd] at P; exact fun C H' m s => hE _ _ σ _ (P C H' m s)
    | bad => rw [hd] at P; exact P⟩

/-! ### calls of built-ins -/
def BiD (K : PySem.W.Frag) (mg : Str → Option Value) (W : WX) (r : List V → Hp → VK → Prop) (op : List PyData → Rs R) : Prop :=
  ∀ {σ : L2.St} {F H : Hp} {Q : VK} {vs : List V} {ds : List PyData}, Same F H → DDs F vs ds → Post K mg W σ F H Q (op ds) → r vs H Q
theorem ee_callB {x : Str} {id : String} {p : Pos} {t : TA} {fr : Ev → Rs (List PyData)} {r : List V → Hp → VK → Prop} {op : List PyData → Rs R} (hc : CallR X (.builtin id) r) (hd : BiD X.K X.mg W r op) (hm : X.mg x = none) (hv : bootBuiltins x = some (.builtin id)) (ha : ED X W (e :: es) t fr)
    (hg : Gl X x := by rfl) (hn : x ≠ "__name__" := by decide) (hdb : (x == ("__debug__" : Str)) = false := by decide)
    (he : starEach (e :: es) X.env = (false, eval e X.env) :: starEach es X.env := by rfl) (hpl : (backTo pos (starEach es X.env)).any (·.1) = false := by rfl) : EE X W (.Call (.Name x p) (e :: es) [] pos) (tCB r t) (fBi op fr) where
  pe := pe_callB hc hg hm hv ha.pa hn hdb he hpl
  sound := fun {G H0 ρ σ F H} rel Q P => ha.sound rel _ (postD_out P fun ds vs F1 H1 e1 r1 P1 => hd e1.sub r1 P1)
theorem ee_callTy {x : Str} {T : String} {p : Pos} {t : TA} {fr : Ev → Rs (List PyData)} {r : List V → Hp → VK → Prop} {op : List PyData → Rs R} (hc : CallR X (.type T) r) (hd : BiD X.K X.mg W r op) (hm : X.mg x = none) (hv : bootBuiltins x = some (.type T)) (ha : ED X W (e :: es) t fr)
    (hg : Gl X x := by rfl) (hn : x ≠ "__name__" := by decide) (hdb : (x == ("__debug__" : Str)) = false := by decide)
    (he : starEach (e :: es) X.env = (false, eval e X.env) :: starEach es X.env := by rfl) (hpl : (backTo pos (starEach es X.env)).any (·.1) = false := by rfl) : EE X W (.Call (.Name x p) (e :: es) [] pos) (tCB r t) (fBi op fr) where
  pe := pe_callTy hc hg hm hv ha.pa hn hdb he hpl
  sound := fun {G H0 ρ σ F H} rel Q P => ha.sound rel _ (postD_out P fun ds vs F1 H1 e1 r1 P1 => hd e1.sub r1 P1)
/-- len -/
def biLen : List PyData → Rs R
  | [.list ds] => .ok (.val (.int ds.length))
  | [.tuple ds] => .ok (.val (.int ds.length))
  | [.str z] => if z.length ≤ lim then .ok (.val (.int z.length)) else .bad
  | _ => .bad
theorem bd_len : BiD X.K X.mg W (fun xs H Q => ∃ x n, xs = [x] ∧ LenV X.K x H n ∧ Q (.int n) H) biLen := fun {σ F H Q vs ds} s r P => by
  match ds, r with
  | [], .nil => exact P.elim
  | [_], .cons h .nil =>
    unfold biLen at P
    cases h with
    | @lst p xs ds h r => exact ⟨_, _, rfl, .inl ⟨_, SqL.of (s _ _ h), rfl⟩, by rw [r.len]; exact post_flat s (.int _) P⟩
    | @tup p xs ds h r => exact ⟨_, _, rfl, .inr ⟨_, SqT.of (s _ _ h), rfl⟩, by rw [r.len]; exact post_flat s (.int _) P⟩
    | str z =>
      dsimp only at P
      split at P
      · rename_i hl
        exact ⟨_, _, rfl, ⟨Nat.le_trans hl lim_le, rfl⟩, post_flat s (.int _) P⟩
      · exact P.elim
    | _ => exact P.elim
  | _ :: _ :: _, .cons h (.cons _ _) => cases h <;> exact P.elim
/-- all, any of a list of truth values -/
def asBs : List PyData → Option (List Bool)
  | [] => some []
  | .bool b :: r => (asBs r).map (b :: ·)
  | _ => none
theorem asBs_eq : ∀ {ds : List PyData} {bs : List Bool}, asBs ds = some bs → ds = bs.map PyData.bool
  | [], _, h => by simp [asBs] at h; subst h; rfl
  | d :: r, bs, h => by
    cases d <;> simp [asBs] at h
    obtain ⟨a, h1, rfl⟩ := h
    rw [asBs_eq h1]; rfl
@[simp] theorem asBs_map (bs : List Bool) : asBs (bs.map PyData.bool) = some bs := by
  induction bs with
  | nil => rfl
  | cons b r ih => simp [asBs, ih]
def biAll : List PyData → Rs R
  | [.list ds] => match asBs ds with
    | some bs => .ok (.val (.bool (bs.all id)))
    | none => .bad
  | _ => .bad
def biAny : List PyData → Rs R
  | [.list ds] => match asBs ds with
    | some bs => .ok (.val (.bool (bs.any id)))
    | none => .bad
  | _ => .bad
theorem bd_all : BiD X.K X.mg W (rAll X.K) biAll := fun {σ F H Q vs ds} s r P => by
  match ds, r with
  | [], .nil => exact P.elim
  | [_], .cons h .nil =>
    unfold biAll at P
    cases h with
    | @lst p xs ds h r =>
      dsimp only at P
      split at P
      · rename_i bs hb
        have e := asBs_eq hb
        subst e
        have e2 := r.ofBools
        subst e2
        exact ⟨_, bs, rfl, SqL.of (s _ _ h), post_flat s (.bl _) P⟩
      · exact P.elim
    | _ => exact P.elim
  | _ :: _ :: _, .cons h (.cons _ _) => cases h <;> exact P.elim
theorem bd_any : BiD X.K X.mg W (rAny X.K) biAny := fun {σ F H Q vs ds} s r P => by
  match ds, r with
  | [], .nil => exact P.elim
  | [_], .cons h .nil =>
    unfold biAny at P
    cases h with
    | @lst p xs ds h r =>
      dsimp only at P
      split at P
      · rename_i bs hb
        have e := asBs_eq hb
        subst e
        have e2 := r.ofBools
        subst e2
        exact ⟨_, bs, rfl, SqL.of (s _ _ h), post_flat s (.bl _) P⟩
      · exact P.elim
    | _ => exact P.elim
  | _ :: _ :: _, .cons h (.cons _ _) => cases h <;> exact P.elim
/-- list(x), tuple(x) -/
def biList : List PyData → Rs R
  | [.list ds] => .ok (.own ds)
  | [.tuple ds] => .ok (.own ds)
  | _ => .bad
def biTuple : List PyData → Rs R
  | [.list ds] => .ok (.val (.tuple ds))
  | [.tuple ds] => .ok (.val (.tuple ds))
  | _ => .bad
theorem bd_list : BiD X.K X.mg W (fun xs H Q => ∃ p ys, xs = [.ref p] ∧ (SqL X.K H p ys ∨ SqT X.K H p ys) ∧ ∀ l, H l = none → Q (.ref l) (upd H l (.lst ys))) biList := fun {σ F H Q vs ds} s r P => by
  match ds, r with
  | [], .nil => exact P.elim
  | [_], .cons h .nil =>
    unfold biList at P
    cases h with
    | @lst p xs ds h r => exact ⟨_, _, rfl, .inl (SqL.of (s _ _ h)), new_lst s r P⟩
    | @tup p xs ds h r => exact ⟨_, _, rfl, .inr (SqT.of (s _ _ h)), new_lst s r P⟩
    | _ => exact P.elim
  | _ :: _ :: _, .cons h (.cons _ _) => cases h <;> exact P.elim
theorem bd_tuple : BiD X.K X.mg W (fun xs H Q => ∃ p ys, xs = [.ref p] ∧ ((SqL X.K H p ys ∧ ∀ l, H l = none → Q (.ref l) (upd H l (.tup ys))) ∨ (SqT X.K H p ys ∧ Q (.ref p) H))) biTuple := fun {σ F H Q vs ds} s r P => by
  match ds, r with
  | [], .nil => exact P.elim
  | [_], .cons h .nil =>
    unfold biTuple at P
    cases h with
    | @lst p xs ds h r => exact ⟨_, _, rfl, .inl ⟨SqL.of (s _ _ h), new_tup s r P⟩⟩
    | @tup p xs ds h r => exact ⟨_, _, rfl, .inr ⟨SqT.of (s _ _ h), post_flat s (.tup h r) P⟩⟩
    | _ => exact P.elim
  | _ :: _ :: _, .cons h (.cons _ _) => cases h <;> exact P.elim
/-- max(i, j), min(i, j) -/
def biMax2 : List PyData → Rs R
  | [.int i, .int j] => .ok (.val (.int (if j > i then j else i)))
  | _ => .bad
def biMin2 : List PyData → Rs R
  | [.int i, .int j] => .ok (.val (.int (if j < i then j else i)))
  | _ => .bad
theorem bd_max2 : BiD X.K X.mg W (fun xs H Q => ∃ i j, xs = [.int i, .int j] ∧ Q (.int (if j > i then j else i)) H) biMax2 := fun {σ F H Q vs ds} s r P => by
  match ds, r with
  | [], .nil => exact P.elim
  | [_], .cons h .nil => cases h <;> exact P.elim
  | [_, _], .cons h (.cons g .nil) =>
    cases h <;> cases g <;> first
      | exact ⟨_, _, rfl, post_flat s (.int _) P⟩
      | exact P.elim
  | _ :: _ :: _ :: _, .cons h (.cons g (.cons _ _)) => cases h <;> cases g <;> exact P.elim
theorem bd_min2 : BiD X.K X.mg W (fun xs H Q => ∃ i j, xs = [.int i, .int j] ∧ Q (.int (if j < i then j else i)) H) biMin2 := fun {σ F H Q vs ds} s r P => by
  match ds, r with
  | [], .nil => exact P.elim
  | [_], .cons h .nil => cases h <;> exact P.elim
  | [_, _], .cons h (.cons g .nil) =>
    cases h <;> cases g <;> first
      | exact ⟨_, _, rfl, post_flat s (.int _) P⟩
      | exact P.elim
  | _ :: _ :: _ :: _, .cons h (.cons g (.cons _ _)) => cases h <;> cases g <;> exact P.elim
/-- int(i) -/
def biInt : List PyData → Rs R
  | [.int i] => .ok (.val (.int i))
  | _ => .bad
theorem bd_int : BiD X.K X.mg W (fun xs H Q => (∃ i, xs = [.int i] ∧ Q (.int i) H) ∨ ∃ k, xs = [.bl k] ∧ Q (.int (if k then 1 else 0)) H) biInt := fun {σ F H Q vs ds} s r P => by
  match ds, r with
  | [], .nil => exact P.elim
  | [_], .cons h .nil =>
    cases h <;> first
      | exact .inl ⟨_, rfl, post_flat s (.int _) P⟩
      | exact P.elim
  | _ :: _ :: _, .cons h (.cons _ _) => cases h <;> exact P.elim
/-! ### isinstance(e, T) -/
def tyD : PyData → String
  | .none => "NoneType"
  | .bool _ => "bool"
  | .int _ => "int"
  | .str _ => "str"
  | .list _ => "list"
  | .tuple _ => "tuple"
  | .dict _ => "dict"
def isiD (T : String) (d : PyData) : Rs R := match kitB (tyD d) T with
  | some b => .ok (.val (.bool b))
  | none => .bad
theorem tyX_of {K : PySem.W.Frag} {F H : Hp} {v : V} {d : PyData} (s : Same F H) (h : DD F v d) : TyX K H v (.type (tyD d)) := by
  cases h with
  | non => exact .base .non
  | bl b => exact .base (.bl b)
  | int b => exact .base (.int b)
  | str b => exact .base (.str b)
  | lst h r => exact .base (.lst (s _ _ h))
  | tup h r => exact .base (.tup (s _ _ h))
theorem ee_isi {T : Str} {n : String} {p p2 : Pos} (he : EE X W e te f) (hm : X.mg "isinstance" = none) (hT : X.mg T = none) (hb : bootBuiltins T = some (.type n)) (hg : Gl X "isinstance" := by rfl) (hgT : Gl X T := by rfl) (hn : T ≠ "__name__" := by decide) (hd : (T == ("__debug__" : Str)) = false := by decide)
    (hs1 : starEach [e, .Name T p2] X.env = (false, eval e X.env) :: starEach [.Name T p2] X.env := by rfl) (hs2 : starEach [.Name T p2] X.env = (false, eval (.Name T p2) X.env) :: starEach [] X.env := by rfl) (hpl : (backTo pos (starEach [.Name T p2] X.env)).any (·.1) = false := by rfl) :
    EE X W (.Call (.Name "isinstance" p) [e, .Name T p2] [] pos) (tCB (rIsi X.K) (tCons te (tCons (tC (.ty n)) tNil))) (fUn (isiD n) f) where
  pe := pe_callB call_isi hg hm (by decide +kernel) (pa_cons he.pe (pa_cons (pe_bltn (v := .ty n) hgT hT hb rfl hn hd) pa_nil hs2) hs1) (by decide) (by decide) hs1 hpl
  sound := fun {G H0 ρ σ F H} rel Q P => he.sound rel _ (post_data P fun d v F1 H1 e1 r1 P1 => by
    unfold isiD at P1
    split at P1
    · rename_i b hb
      exact ⟨v, _, _, _, b, rfl, .ty n, tyX_of e1.sub r1, kit_ty hb, post_flat e1.sub (.bl _) P1⟩
    · exact P1.elim)
end
end DN
/-! Den4: enumerate and zip of lists and tuples in any mix. -/
namespace DN
open PySem PySem.Spec PyProof.Rows L2

/-! ### a source: a tuple (true) or a list -/
def SqK (k : Bool) (K : PySem.W.Frag) (H : Hp) (a : Addr) (xs : List V) : Prop := match k with
  | true => SqT K H a xs
  | false => SqL K H a xs
def IterK (k : Bool) (h : Heap) (it a : Addr) (i : Nat) : Prop := match k with
  | true => h.IsTupleIter it a i
  | false => h.IsListIter it a i
def SeqK (k : Bool) (h : Heap) (a : Addr) (items : Array Value) : Prop := match k with
  | true => h.IsTuple a items
  | false => h.IsList a items
def iterObj (k : Bool) (a : Addr) : Obj := match k with
  | true => { cls := .type "tuple_iterator", data := .fields #[.ref a, .int 0 0] }
  | false => { cls := .type "list_iterator", data := .fields #[.ref a, .int 0 0] }
section
variable {X : Cx} {pins : List (Addr × Obj)} {σ : L2.St} {H : Hp} {s : Shared} {a : Addr} {xs ys : List V} {k : Bool}
theorem seqK_of (I : Inv X pins σ H s) (h : SqK k X.K H a xs) : ∃ its : List Value, Vals xs its ∧ SeqK k s.heap a its.toArray ∧ xs.length ≤ sizeLine := by
  cases k with
  | true => exact I.tuple h
  | false =>
    obtain ⟨its, a, b, c⟩ := I.list h
    exact ⟨its, a, b.isList, c⟩
theorem seqK_inj (I : Inv X pins σ H s) (h : SqK k X.K H a xs) (g : SqK k X.K H a ys) : xs = ys := by
  cases k with
  | true => exact I.tuple_inj h g
  | false => exact I.list_inj h g
end
theorem IterK.at {k : Bool} {h h' : Heap} {it a : Addr} {i : Nat} (x : IterK k h it a i) (e : ∀ o, h.get? it = some o → h'.get? it = some o) : IterK k h' it a i := by
  cases k with
  | true => exact Heap.IsTupleIter.at x e
  | false => exact Heap.IsListIter.at x e
theorem IterK.obj {k : Bool} {h : Heap} {it a : Addr} {i : Nat} (x : IterK k h it a i) : ∃ o, h.get? it = some o ∧ ∀ v, o.data ≠ .cell v := by
  cases k with
  | true =>
    obtain ⟨o, e, c, d⟩ := x
    exact ⟨o, e, fun v z => by rw [d] at z; cases z⟩
  | false =>
    obtain ⟨o, e, c, d⟩ := x
    exact ⟨o, e, fun v z => by rw [d] at z; cases z⟩
theorem SeqK.at {k : Bool} {h h' : Heap} {a : Addr} {xs : Array Value} (x : SeqK k h a xs) (e : ∀ o, h.get? a = some o → h'.get? a = some o) : SeqK k h' a xs := by
  cases k with
  | true => exact Heap.IsTuple.at x e
  | false => exact Heap.IsList.at x e
theorem iter0 {k : Bool} {h : Heap} {it a : Addr} (e : h.get? it = some (iterObj k a)) : IterK k h it a 0 := by
  cases k with
  | true => exact ⟨_, e, rfl, rfl⟩
  | false => exact ⟨_, e, rfl, rfl⟩
theorem drawsK {k : Bool} {prog : Program} {w : World} {A : Around} (hh : A.handled = none) (it t : Addr) (hne : t ≠ it) (items : Array Value) :
    Draws prog w A it [it, t] items.size (fun i v => items[i]? = some v) (fun i h => IterK k h it t i ∧ SeqK k h t items) := by
  cases k with
  | true => exact Draws.tuple hh it t hne items
  | false => exact Draws.list hh it t hne items
theorem beginsK (k : Bool) (t : Addr) (items : Array Value) : Begins (.ref t) (iterObj k t) fun h => SeqK k h t items := by
  cases k with
  | true => exact begins_tuple t items
  | false => exact begins_list t items

/-! ### enumerate -/
def IteK (k : Bool) (K : PySem.W.Frag) (a : Addr) : It :=
  ⟨fun i H => ∃ (xs : List V) (x : V), SqK k K H a xs ∧ xs[i]? = some x, fun i H v H' => ∃ T x, v = .ref T ∧ H T = none ∧ H' = upd H T (.tup [.int (i : Nat), x]) ∧ ∀ xs, SqK k K H a xs → xs[i]? = some x, fun i H => ∃ xs : List V, SqK k K H a xs ∧ xs.length = i⟩
theorem turn_enumK {k : Bool} {P : Program} {w : World} {K : PySem.W.Frag} {elts : List Expr} {kk : Nat} {tpos : Pos} (a e it : Addr) :
    Turn P w K (.Tuple elts kk tpos) (IteK k K a) [e, it] e (fun i h => (∃ old, IsEnum h e it ((i : Nat) : Int) old) ∧ IterK k h it a i ∧ e ≠ it ∧ a ≠ it ∧ a ≠ e) where
  mem := by simp
  obj := fun i h st b hb => by
    obtain ⟨⟨old, he⟩, hit, _⟩ := st
    have e' : b = e ∨ b = it := by simpa using hb
    rcases e' with z | z
    · rw [z]; exact ⟨_, he, fun v q => nomatch q⟩
    · rw [z]; exact hit.obj
  keep := fun i h h' st kp => let ⟨⟨old, he⟩, hi, hne⟩ := st; ⟨⟨old, kp e (by simp) _ he⟩, hi.at fun o q => kp it (by simp) o q, hne⟩
  item := by
    intro X hP hw hK hc i pins s σ H E I hf st hg
    subst hP hw hK
    obtain ⟨⟨old, he⟩, hit, hne, hai, hae⟩ := st
    obtain ⟨xs, x, hq, hx⟩ := hg
    obtain ⟨its, rv, p, hz⟩ := seqK_of I hq
    obtain ⟨u, hu, ru⟩ := rv.get hx
    have hel : e < s.heap.objs.size := Heap.lt_size he
    have hil : it < s.heap.objs.size := by obtain ⟨_, q, _⟩ := hit.obj; exact Heap.lt_size q
    have D := drawsK (k := k) (prog := X.prog) (w := X.w) (A := X.A.in1) (I.ok.hd hc) it a hai its.toArray
    have hi : i < its.toArray.size := by
      have := (List.getElem?_eq_some_iff.mp hu).1
      simpa using this
    refine (GoesN.enumFrom (elts := elts) (x1 := kk) (pos := tpos) 0 D e hne (by simp; exact ⟨hne, fun z => hae z.symm⟩) (by simp)).goes i s
      (fun u s2 => ∃ x H', Inv X pins σ H' s2 ∧ RelV x u ∧ (IteK k X.K a).yld i H x H' ∧ ((∃ old, IsEnum s2.heap e it (((i + 1 : Nat)) : Int) old) ∧ IterK k s2.heap it a (i + 1) ∧ e ≠ it ∧ a ≠ it ∧ a ≠ e) ∧ ∀ b ∈ [e, it], H' b = none)
      E hi ⟨⟨old, by rw [Int.zero_add]; exact he⟩, hit, p⟩ fun v h' tk hY st' hk htk => ?_
    obtain ⟨T, t, y, rfl, hT, hy, hTup⟩ := hY
    have ey : y = u := by
      have : its.toArray[i]? = some u := by simpa using hu
      rw [this] at hy; exact (Option.some.inj hy).symm
    subst ey
    have hnw : ∀ b, b ∉ ([e, it] : List Addr) → b ∉ ([e, it] : List Addr) := fun _ z => z
    have new : ObjOk X.prog X.w (upd H T (.tup [.int (i : Nat), x])) h' T (.tup [.int (i : Nat), x]) :=
      ⟨by show 2 ≤ sizeLine; decide, [.int (0 + (i : Int)) t, y], .cons ⟨_, by rw [Int.zero_add]⟩ (.cons ru .nil), hTup⟩
    have I1 : Inv X pins σ (upd H T (.tup [.int (i : Nat), x])) { s with heap := h', toks := tk } :=
      I.turnedNew (ch := [e, it]) (fun b ob hb q => hk b ob hb q) hf hT new
    refine ⟨.ref T, _, I1, rfl, ⟨T, x, rfl, I.hok.fresh hT, rfl, fun ys hy => by rw [seqK_inj I hy hq]; exact hx⟩, ⟨?_, st'.2.1, hne, hai, hae⟩, fun b hb => ?_⟩
    · obtain ⟨⟨old', he'⟩, _⟩ := st'
      rw [Int.zero_add] at he'
      exact ⟨old', he'⟩
    · have hb' : b < s.heap.objs.size := by
        have e' : b = e ∨ b = it := by simpa using hb
        rcases e' with z | z
        · rw [z]; exact hel
        · rw [z]; exact hil
      rw [upd_ne (Nat.ne_of_lt (Nat.lt_of_lt_of_le hb' hT))]
      exact (hf b hb).1
  done := by
    intro X hP hw hK hc i pins s σ H E I hf st hg
    subst hP hw hK
    obtain ⟨⟨old, he⟩, hit, hne, hai, hae⟩ := st
    obtain ⟨xs, hq, hx⟩ := hg
    obtain ⟨its, rv, p, hz⟩ := seqK_of I hq
    have D := drawsK (k := k) (prog := X.prog) (w := X.w) (A := X.A.in1) (I.ok.hd hc) it a hai its.toArray
    have hn : its.toArray.size = i := by rw [← hx, rv.length]; simp
    refine (GoesN.enumFrom (elts := elts) (x1 := kk) (pos := tpos) 0 D e hne (by simp; exact ⟨hne, fun z => hae z.symm⟩) (by simp)).stops s _ E (by
      rw [hn]; exact ⟨⟨old, by rw [Int.zero_add]; exact he⟩, hit, p⟩) fun h' tk hk htk => ?_
    exact I.turnedL (ch := [e, it]) (fun b o hb q => hk b o hb q) hf
  self := fun A i s Q E st h => let ⟨⟨_, he⟩, _⟩ := st; wpAny_pyIter_enum he h
set_option maxHeartbeats 1000000 in
theorem meets_enumerate_new1 {v : Value} {o : Obj} {H : Heap → Prop} (B : Begins v o H) :
    Meets (Builtin.«enumerate.__new__» ⟨[.type "enumerate", v], []⟩) (fun _ R s => H s.heap ∧
      R (.ok (.ret (.ref (s.heap.push o).objs.size))) { s with heap := (s.heap.push o).push { cls := .type "enumerate", data := .fields #[.none, .bool false, .ref s.heap.objs.size, rawInt 0, .none, .none] } }) :=
  .of_wp fun prog w A R s h => by
    obtain ⟨hp, g, d, tk, os⟩ := s; obtain ⟨h1, h⟩ := h
    have hsub := sub_enumerate
    have q1 : ∀ {A' : Around} {E : Value → Shared → Prop} {Q : Value → Shared → Prop}, Q (.ref hp.objs.size) ⟨hp.push o, g, d, tk, os⟩ → wpAny (model prog w) A' (pyIter v) Q E ⟨hp, g, d, tk, os⟩ :=
      fun q => B.iter prog w _ _ ⟨hp, g, d, tk, os⟩ _ h1 q
    wp_walk using q1
    refine wpAny_stack_any fun st => wpAny_pure ?_
    split
    · rename_i c _ _ _ _ _
      cases (c == Value.type "enumerate")
      · wp_walk using q1
        exact ⟨_, rfl, h⟩
      · wp_walk using q1
        exact ⟨_, rfl, h⟩
    · wp_walk using q1
      exact ⟨_, rfl, h⟩
theorem call_enum1 {prog : Program} {w : World} {A : Around} {E : Value → Shared → Prop} {s : Shared} {v : Value} {o : Obj} {H : Heap → Prop} {Q : Value → Shared → Prop} (B : Begins v o H) (h1 : H s.heap)
    (h : ∀ h', IsEnum h' (s.heap.objs.size + 1) s.heap.objs.size 0 .none → h'.get? s.heap.objs.size = some o → h'.objs.size = s.heap.objs.size + 2 →
      (∀ b o, s.heap.get? b = some o → h'.get? b = some o) → Q (.ref (s.heap.objs.size + 1)) { s with heap := h' }) :
    wpAny (model prog w) A (call (.type "enumerate") [v]) Q E s := by
  refine callType_new F.called_enumerate (by decide) (F.typeCall_enumerate_1 _) (F.newCall_enumerate_1 _) (fun obj => F.args_object_init_2 obj _) F.entry_enumerate_new
    (meets_enumerate_new1 B) ⟨h1, ?_⟩
  have hz : (s.heap.push o).objs.size = s.heap.objs.size + 1 := Heap.size_push ..
  show _ ∧ _
  rw [hz]
  have he : IsEnum ((s.heap.push o).push { cls := .type "enumerate", data := .fields #[.none, .bool false, .ref s.heap.objs.size, rawInt 0, .none, .none] }) (s.heap.objs.size + 1) s.heap.objs.size 0 .none := by
    have := Heap.get?_push_size (s.heap.push o) (o := { cls := .type "enumerate", data := .fields #[.none, .bool false, .ref s.heap.objs.size, rawInt 0, .none, .none] }) rfl
    rw [hz] at this; exact this
  refine ⟨⟨_, he, rfl⟩, h _ he (Heap.get?_push_of_some _ (Heap.get?_push_size _ B.free)) (by rw [Heap.size_push, hz]) fun b o x => Heap.get?_push_of_some _ (Heap.get?_push_of_some _ x)⟩
def iEnumK (K : PySem.W.Frag) (ta : TA) : TI := fun σ H R => ta σ H fun vs H1 => ∃ k a xs, vs = [.ref a] ∧ SqK k K H1 a xs ∧ R (IteK k K a) H1
theorem pi_enumK {X : Cx} {e : Expr} {ta : TA} {p pos tpos : Pos} {elts : List Expr} {kk : Nat} (hg : Gl X "enumerate") (hm : X.mg "enumerate" = none) (ha : PA X [e] ta) (hs : starEach [e] X.env = [(false, eval e X.env)] := by rfl) :
    PI X (.Tuple elts kk tpos) (.Call (.Name "enumerate" p) [e] [] pos) (iEnumK X.K ta) := by
  refine ⟨fun pins s σ H R I h => ?_⟩
  refine Call_ (ld_blt I hg hm boot_enumerate (PyProof.Rows.callWith_type1 (thn (ha.run pos pins s σ H _ I h) fun us s1 ⟨vs, H1, I1, r1, q1⟩ => ?_) hs rfl))
  obtain ⟨k, a, xs, ex, hq, q⟩ := q1
  subst ex
  cases r1 with
  | cons r rr =>
    cases rr
    cases r
    obtain ⟨its, rv, p', hz⟩ := seqK_of I1 hq
    have hal : a < s1.heap.objs.size := by
      cases k with
      | true => obtain ⟨o, ho, _⟩ := p'; exact Heap.lt_size ho
      | false => obtain ⟨o, ho, _⟩ := p'; exact Heap.lt_size ho
    refine call_enum1 (beginsK k a its.toArray) p' fun h' he hit hsz hk => wpAny_pyIter_enum he ?_
    have I2 : Inv X pins σ H1 { s1 with heap := h' } := I1.kept (t' := s1.toks) hk
    refine ⟨s1.heap.objs.size + 1, [s1.heap.objs.size + 1, s1.heap.objs.size], _, _, H1, rfl, I2, turn_enumK (k := k) a (s1.heap.objs.size + 1) s1.heap.objs.size,
      ⟨⟨.none, he⟩, iter0 hit, Nat.succ_ne_self _, Nat.ne_of_lt hal, Nat.ne_of_lt (Nat.lt_succ_of_lt hal)⟩, fun b hb => ?_, q⟩
    have e' : b = s1.heap.objs.size + 1 ∨ b = s1.heap.objs.size := by simpa using hb
    have hle : s1.heap.objs.size ≤ b := by
      rcases e' with z | z
      · rw [z]; exact Nat.le_add_right _ _
      · rw [z]; exact Nat.le_refl _
    exact I1.fpOk hle (I1.hok.fresh hle)
end DN
/-! Den5: zip of two sources of any kind. -/
namespace DN
open PySem PySem.Spec PyProof.Rows L2

def ItzK (k l : Bool) (K : PySem.W.Frag) (a b : Addr) : It :=
  ⟨fun i H => ∃ (xs ys : List V) (x y : V), SqK k K H a xs ∧ SqK l K H b ys ∧ xs[i]? = some x ∧ ys[i]? = some y,
    fun i H v H' => ∃ T x y, v = .ref T ∧ H T = none ∧ H' = upd H T (.tup [x, y]) ∧ (∀ xs, SqK k K H a xs → xs[i]? = some x) ∧ ∀ ys, SqK l K H b ys → ys[i]? = some y,
    fun i H => ∃ xs ys : List V, SqK k K H a xs ∧ SqK l K H b ys ∧ min xs.length ys.length = i⟩
theorem mem4 {c N : Nat} (h : c ∈ [N + 4, N + 3, N, N + 1]) : c ∈ [N + 4, N + 2, N + 3, N, N + 1] := by
  have e : c = N + 4 ∨ c = N + 3 ∨ c = N ∨ c = N + 1 := by simpa using h
  rcases e with z | z | z | z <;> simp [z]
theorem le5 {c N : Nat} (h : c ∈ [N + 4, N + 2, N + 3, N, N + 1]) : c ≤ N + 4 := by
  have e : c = N + 4 ∨ c = N + 2 ∨ c = N + 3 ∨ c = N ∨ c = N + 1 := by simpa using h
  omega
theorem ge5 {c N : Nat} (h : c ∈ [N + 4, N + 2, N + 3, N, N + 1]) : N ≤ c := by
  have e : c = N + 4 ∨ c = N + 2 ∨ c = N + 3 ∨ c = N ∨ c = N + 1 := by simpa using h
  omega
theorem turn_zipK {k l : Bool} {P : Program} {w : World} {K : PySem.W.Frag} {elts : List Expr} {kk : Nat} {tpos : Pos} {N a b : Addr} (ha : a < N) (hb : b < N) :
    Turn P w K (.Tuple elts kk tpos) (ItzK k l K a b) [N + 4, N + 2, N + 3, N, N + 1] (N + 4)
      (fun i h => IsZip h (N + 4) (N + 2) (N + 3) .none ∧ IsTupOf2 h (N + 2) (.ref N) (.ref (N + 1)) ∧ (∃ x y, IsTupOf2 h (N + 3) x y) ∧ IterK k h N a i ∧ IterK l h (N + 1) b i) where
  mem := by simp
  obj := fun i h st c hc => by
    obtain ⟨hz, hTI, ⟨x, y, hTO⟩, h1, h2⟩ := st
    have e' : c = N + 4 ∨ c = N + 2 ∨ c = N + 3 ∨ c = N ∨ c = N + 1 := by simpa using hc
    rcases e' with z | z | z | z | z
    · rw [z]; exact ⟨_, hz, fun v q => nomatch q⟩
    · rw [z]; exact ⟨_, hTI, fun v q => nomatch q⟩
    · rw [z]; exact ⟨_, hTO, fun v q => nomatch q⟩
    · rw [z]; exact h1.obj
    · rw [z]; exact h2.obj
  keep := fun i h h' st kp => by
    obtain ⟨hz, hTI, ⟨x, y, hTO⟩, h1, h2⟩ := st
    exact ⟨kp _ (by simp) _ hz, kp _ (by simp) _ hTI, ⟨x, y, kp _ (by simp) _ hTO⟩, h1.at fun o q => kp _ (by simp) o q, h2.at fun o q => kp _ (by simp) o q⟩
  item := by
    intro X hP hw hK hc i pins s σ H E I hf st hg
    subst hP hw hK
    obtain ⟨hz, hTI, hTO, h1, h2⟩ := st
    obtain ⟨xs, ys, x, y, hq, hq2, hx, hy⟩ := hg
    obtain ⟨its, rv, p, _⟩ := seqK_of I hq
    obtain ⟨its2, rv2, p2, _⟩ := seqK_of I hq2
    obtain ⟨u, hu, ru⟩ := rv.get hx
    obtain ⟨u2, hu2, ru2⟩ := rv2.get hy
    have D1 := drawsK (k := k) (prog := X.prog) (w := X.w) (A := X.A.in1) (I.ok.hd hc) N a (Nat.ne_of_lt ha) its.toArray
    have D2 := drawsK (k := l) (prog := X.prog) (w := X.w) (A := X.A.in1) (I.ok.hd hc) (N + 1) b (Nat.ne_of_lt (Nat.lt_succ_of_lt hb)) its2.toArray
    have hzl : N + 4 < s.heap.objs.size := Heap.lt_size hz
    have hi1 : i < its.toArray.size := by
      have := (List.getElem?_eq_some_iff.mp hu).1
      simpa using this
    have hi2 : i < its2.toArray.size := by
      have := (List.getElem?_eq_some_iff.mp hu2).1
      simpa using this
    refine (GoesN.zip2 (elts := elts) (x1 := kk) (pos := tpos) (zip_sep2 (N := N) (fp1 := [a]) (fp2 := [b]) (by simpa using ha) (by simpa using hb)) D1 D2).goes i s
      (fun u s2 => ∃ x H', Inv X pins σ H' s2 ∧ RelV x u ∧ (ItzK k l X.K a b).yld i H x H' ∧ (IsZip s2.heap (N + 4) (N + 2) (N + 3) .none ∧ IsTupOf2 s2.heap (N + 2) (.ref N) (.ref (N + 1)) ∧ (∃ x y, IsTupOf2 s2.heap (N + 3) x y) ∧ IterK k s2.heap N a (i + 1) ∧ IterK l s2.heap (N + 1) b (i + 1)) ∧
        ∀ c ∈ [N + 4, N + 2, N + 3, N, N + 1], H' c = none)
      E (by omega) ⟨hz, hTI, hTO, ⟨h1, p⟩, ⟨h2, p2⟩⟩ fun v h' tk hY st' hk htk => ?_
    obtain ⟨T, y1, y2, rfl, hT, hy1, hy2, hTup⟩ := hY
    have e1 : y1 = u := by
      have : its.toArray[i]? = some u := by simpa using hu
      rw [this] at hy1; exact (Option.some.inj hy1).symm
    have e2 : y2 = u2 := by
      have : its2.toArray[i]? = some u2 := by simpa using hu2
      rw [this] at hy2; exact (Option.some.inj hy2).symm
    subst e1 e2
    have new : ObjOk X.prog X.w (upd H T (.tup [x, y])) h' T (.tup [x, y]) :=
      ⟨by show 2 ≤ sizeLine; decide, [y1, y2], .cons ru (.cons ru2 .nil), hTup⟩
    have I1 : Inv X pins σ (upd H T (.tup [x, y])) { s with heap := h', toks := tk } :=
      I.turnedNew (ch := [N + 4, N + 2, N + 3, N, N + 1]) (fun c ob hc q => hk c ob (fun z => hc (mem4 z)) q) hf hT new
    obtain ⟨a1, a2, a3, ⟨a4, _⟩, ⟨a5, _⟩⟩ := st'
    refine ⟨.ref T, _, I1, rfl, ⟨T, x, y, rfl, I.hok.fresh hT, rfl, fun zs hz => by rw [seqK_inj I hz hq]; exact hx, fun zs hz => by rw [seqK_inj I hz hq2]; exact hy⟩, ⟨a1, a2, a3, a4, a5⟩, fun c hc => ?_⟩
    have hc' : c < s.heap.objs.size := Nat.lt_of_le_of_lt (le5 hc) hzl
    rw [upd_ne (Nat.ne_of_lt (Nat.lt_of_lt_of_le hc' hT))]
    exact (hf c hc).1
  done := by
    intro X hP hw hK hc i pins s σ H E I hf st hg
    subst hP hw hK
    obtain ⟨hz, hTI, hTO, h1, h2⟩ := st
    obtain ⟨xs, ys, hq, hq2, hx⟩ := hg
    obtain ⟨its, rv, p, _⟩ := seqK_of I hq
    obtain ⟨its2, rv2, p2, _⟩ := seqK_of I hq2
    have D1 := drawsK (k := k) (prog := X.prog) (w := X.w) (A := X.A.in1) (I.ok.hd hc) N a (Nat.ne_of_lt ha) its.toArray
    have D2 := drawsK (k := l) (prog := X.prog) (w := X.w) (A := X.A.in1) (I.ok.hd hc) (N + 1) b (Nat.ne_of_lt (Nat.lt_succ_of_lt hb)) its2.toArray
    have hn : min its.toArray.size its2.toArray.size = i := by rw [← hx, rv.length, rv2.length]; simp
    refine (GoesN.zip2 (elts := elts) (x1 := kk) (pos := tpos) (zip_sep2 (N := N) (fp1 := [a]) (fp2 := [b]) (by simpa using ha) (by simpa using hb)) D1 D2).stops s _ E (by
      rw [hn]; exact ⟨hz, hTI, hTO, ⟨h1, p⟩, ⟨h2, p2⟩⟩) fun h' tk hk htk => ?_
    exact I.turnedL (ch := [N + 4, N + 2, N + 3, N, N + 1]) (fun c o hc q => hk c o (fun z => hc (mem4 z)) q) hf
  self := fun A i s Q E st h => wpAny_pyIter_zip st.1 h
def iZipK (K : PySem.W.Frag) (ta : TA) : TI := fun σ H R => ta σ H fun vs H1 => ∃ k l a b xs ys, vs = [.ref a, .ref b] ∧ SqK k K H1 a xs ∧ SqK l K H1 b ys ∧ R (ItzK k l K a b) H1
theorem seqK_lt {k : Bool} {h : Heap} {a : Addr} {its : Array Value} (p' : SeqK k h a its) : a < h.objs.size := by
  cases k with
  | true => obtain ⟨o, ho, _⟩ := p'; exact Heap.lt_size ho
  | false => obtain ⟨o, ho, _⟩ := p'; exact Heap.lt_size ho
theorem pi_zipK {X : Cx} {e e2 : Expr} {ta : TA} {p pos tpos : Pos} {elts : List Expr} {kk : Nat} (hg : Gl X "zip") (hm : X.mg "zip" = none) (ha : PA X [e, e2] ta)
    (hs : starEach [e, e2] X.env = (false, eval e X.env) :: starEach [e2] X.env := by rfl) (hpl : (backTo pos (starEach [e2] X.env)).any (·.1) = false := by rfl) :
    PI X (.Tuple elts kk tpos) (.Call (.Name "zip" p) [e, e2] [] pos) (iZipK X.K ta) := by
  refine ⟨fun pins s σ H R I h => ?_⟩
  refine Call_ (ld_blt I hg hm PyProof.Rows.boot_zip (PyProof.Rows.callWith_type1 (thn (ha.run pos pins s σ H _ I h) fun us s1 ⟨vs, H1, I1, r1, q1⟩ => ?_) hs hpl))
  obtain ⟨k, l, a, b, xs, ys, ex, hq, hq2, q⟩ := q1
  subst ex
  cases r1 with
  | cons r rr =>
    cases rr with
    | cons r' rr =>
      cases rr
      cases r
      cases r'
      obtain ⟨its, rv, p1, _⟩ := seqK_of I1 hq
      obtain ⟨its2, rv2, p2, _⟩ := seqK_of I1 hq2
      refine zip_begins2 (beginsK k a its.toArray) (beginsK l b its2.toArray) p1 p2 fun h' hz hTI hTO h1 h2 hsz hk => wpAny_pyIter_zip hz ?_
      have I2 : Inv X pins σ H1 { s1 with heap := h' } := I1.kept (t' := s1.toks) hk
      refine ⟨s1.heap.objs.size + 4, [s1.heap.objs.size + 4, s1.heap.objs.size + 2, s1.heap.objs.size + 3, s1.heap.objs.size, s1.heap.objs.size + 1], _, _, H1, rfl, I2, turn_zipK (k := k) (l := l) (seqK_lt p1) (seqK_lt p2),
        ⟨hz, hTI, ⟨_, _, hTO⟩, iter0 h1, iter0 h2⟩, fun c hc => ?_, q⟩
      have hle : s1.heap.objs.size ≤ c := ge5 hc
      exact I1.fpOk hle (I1.hok.fresh hle)
end DN
/-! Den6: what is walked, targets, comprehensions. -/
namespace DN
open PySem PySem.Spec PyProof.Rows L2

/-- J gives the items ds, one by one, wherever F stands -/
structure WalkD (J : It) (F : Hp) (ds : List PyData) : Prop where
  goes : ∀ i H, i < ds.length → Same F H → J.go i H
  stops : ∀ H, Same F H → J.stop ds.length H
  yields : ∀ i H x H' d F1, ds[i]? = some d → Same F F1 → Same F1 H → J.yld i H x H' → ∃ F', Ext F1 H F' H' ∧ DD F' x d
def PostI (mg : Str → Option Value) (W : WX) (σ : L2.St) (F H : Hp) (R : It → Hp → Prop) : Rs (List PyData) → Prop
  | .ok ds => ∀ J F' H', Ext F H F' H' → WalkD J F' ds → R J H'
  | .err c => ∀ C H', mg c = some (.ref C) → Same H H' → W (.ref C) none σ H'
  | .bad => False
structure EI (X : Cx) (W : WX) (tg iter : Expr) (wi : TI) (fi : Ev → Rs (List PyData)) : Prop where
  pi : PI X tg iter wi
  sound : ∀ {G H0 : Hp} {ρ : Ev} {σ : L2.St} {F H : Hp}, Rel X.K G H0 ρ σ F H → ∀ R : It → Hp → Prop, PostI X.mg W σ F H R (fi ρ) → wi σ H R
theorem pi_or {X : Cx} {tg e : Expr} {w1 w2 : TI} (h : PI X tg e w1) (g : PI X tg e w2) : PI X tg e (fun σ H R => w1 σ H R ∨ w2 σ H R) :=
  ⟨fun pins s σ H R I q => q.elim (h.run pins s σ H R I) (g.run pins s σ H R I)⟩
def seqD : PyData → Rs (List PyData)
  | .list ds => .ok ds
  | .tuple ds => .ok ds
  | _ => .bad
@[simp] theorem seqD_list (ds : List PyData) : seqD (.list ds) = .ok ds := rfl
@[simp] theorem seqD_tuple (ds : List PyData) : seqD (.tuple ds) = .ok ds := rfl
section
variable {K : PySem.W.Frag} {F : Hp} {a b : Addr} {xs ys : List V} {ds es : List PyData} {k l : Bool}
def At (k : Bool) (F : Hp) (a : Addr) (xs : List V) : Prop := match k with
  | true => F a = some (.tup xs)
  | false => F a = some (.lst xs)
theorem At.sq {H : Hp} (h : At k F a xs) (s : Same F H) : SqK k K H a xs := by
  cases k with
  | true => exact SqT.of (s _ _ h)
  | false => exact SqL.of (s _ _ h)
theorem walk_l (h : F a = some (.lst xs)) (r : DDs F xs ds) : WalkD (Itl K a) F ds where
  goes := fun i H hi s => ⟨xs, xs[i]'(by rw [r.len]; exact hi), SqL.of (s _ _ h), List.getElem?_eq_getElem _⟩
  stops := fun H s => ⟨xs, SqL.of (s _ _ h), by rw [r.len]; exact Nat.le_refl _⟩
  yields := fun i H x H' d F1 hd sF sH y => by
    obtain ⟨rfl, hy⟩ := y
    have := hy xs (SqL.of (sH _ _ (sF _ _ h)))
    obtain ⟨d', e1, e2⟩ := r.getV this
    rw [hd] at e1; cases e1
    exact ⟨F1, Ext.refl sH, DD.mono sF _ _ e2⟩
theorem walk_t (h : F a = some (.tup xs)) (r : DDs F xs ds) : WalkD (Itt K a) F ds where
  goes := fun i H hi s => ⟨xs, xs[i]'(by rw [r.len]; exact hi), SqT.of (s _ _ h), List.getElem?_eq_getElem _⟩
  stops := fun H s => ⟨xs, SqT.of (s _ _ h), by rw [r.len]; exact Nat.le_refl _⟩
  yields := fun i H x H' d F1 hd sF sH y => by
    obtain ⟨rfl, hy⟩ := y
    have := hy xs (SqT.of (sH _ _ (sF _ _ h)))
    obtain ⟨d', e1, e2⟩ := r.getV this
    rw [hd] at e1; cases e1
    exact ⟨F1, Ext.refl sH, DD.mono sF _ _ e2⟩
def rngD (lo : Int) (n : Nat) : List PyData := (List.range n).map fun (i : Nat) => PyData.int (lo + (i : Int))
theorem walk_r {lo : Int} {n : Nat} : WalkD (Itr lo n) F (rngD lo n) where
  goes := fun i H hi s => by
    show i < n
    simpa [rngD] using hi
  stops := fun H s => by simp [rngD]; exact Nat.le_refl n
  yields := fun i H x H' d F1 hd sF sH y => by
    obtain ⟨rfl, rfl⟩ := y
    have hi : i < n := by
      have := (List.getElem?_eq_some_iff.mp hd).1
      simpa [rngD] using this
    rw [show (rngD lo n)[i]? = some (.int (lo + (i : Int))) by simp [rngD, hi]] at hd
    cases hd
    exact ⟨F1, Ext.refl sH, .int _⟩
def enumD (ds : List PyData) : List PyData := ds.zipIdx.map fun p => PyData.tuple [.int (p.2 : Nat), p.1]
theorem enumD_get {i : Nat} {d : PyData} (h : (enumD ds)[i]? = some d) : ∃ x, ds[i]? = some x ∧ d = .tuple [.int (i : Nat), x] := by
  unfold enumD at h
  rw [List.getElem?_map, List.getElem?_zipIdx] at h
  cases hx : ds[i]? with
  | none => rw [hx] at h; cases h
  | some x =>
    rw [hx] at h
    simp at h
    exact ⟨x, rfl, h.symm⟩
theorem walk_e (h : At k F a xs) (r : DDs F xs ds) : WalkD (IteK k K a) F (enumD ds) where
  goes := fun i H hi s => ⟨xs, xs[i]'(by rw [r.len]; simpa [enumD] using hi), h.sq s, List.getElem?_eq_getElem _⟩
  stops := fun H s => ⟨xs, h.sq s, by rw [r.len]; simp [enumD]⟩
  yields := fun i H x H' d F1 hd sF sH y => by
    obtain ⟨T, z, rfl, nT, rfl, hy⟩ := y
    obtain ⟨d1, e1, rfl⟩ := enumD_get hd
    have := hy xs (h.sq (sF.trans sH))
    obtain ⟨d', e3, e2⟩ := r.getV this
    rw [e1] at e3; cases e3
    exact ⟨_, Ext.add sH nT, .tup upd_same (.cons (.int _) (.cons (DD.mono (sF.trans (same_new (sH.free nT))) _ _ e2) .nil))⟩
def zipD (ds es : List PyData) : List PyData := (ds.zip es).map fun p => PyData.tuple [p.1, p.2]
theorem zipD_get {i : Nat} {d : PyData} (h : (zipD ds es)[i]? = some d) : ∃ x y, ds[i]? = some x ∧ es[i]? = some y ∧ d = .tuple [x, y] := by
  simp [zipD, List.getElem?_zip_eq_some] at h
  obtain ⟨x, y, ⟨h1, h2⟩, h3⟩ := h
  exact ⟨x, y, h1, h2, h3.symm⟩
theorem walk_z (h : At k F a xs) (r : DDs F xs ds) (g : At l F b ys) (r' : DDs F ys es) : WalkD (ItzK k l K a b) F (zipD ds es) where
  goes := fun i H hi s => by
    have hi' : i < ds.length ∧ i < es.length := by simpa [zipD, Nat.lt_min] using hi
    exact ⟨xs, ys, xs[i]'(by rw [r.len]; exact hi'.1), ys[i]'(by rw [r'.len]; exact hi'.2), h.sq s, g.sq s, List.getElem?_eq_getElem _, List.getElem?_eq_getElem _⟩
  stops := fun H s => ⟨xs, ys, h.sq s, g.sq s, by rw [r.len, r'.len]; simp [zipD]⟩
  yields := fun i H x H' d F1 hd sF sH y => by
    obtain ⟨T, z, z', rfl, nT, rfl, hy, hy'⟩ := y
    obtain ⟨d1, d2, e1, e2, rfl⟩ := zipD_get hd
    obtain ⟨d', e3, e4⟩ := r.getV (hy xs (h.sq (sF.trans sH)))
    obtain ⟨d'', e5, e6⟩ := r'.getV (hy' ys (g.sq (sF.trans sH)))
    rw [e1] at e3; cases e3
    rw [e2] at e5; cases e5
    have sm := sF.trans (same_new (o := .tup [z, z']) (sH.free nT))
    exact ⟨_, Ext.add sH nT, .tup upd_same (.cons (DD.mono sm _ _ e4) (.cons (DD.mono sm _ _ e6) .nil))⟩
def strD (z : Str) : List PyData := z.cps.toList.map fun c => PyData.str ⟨#[c]⟩
theorem walk_s {z : Str} : WalkD (Its z) F (strD z) where
  goes := fun i H hi s => by
    show i < z.cps.size
    simpa [strD] using hi
  stops := fun H s => by
    show z.cps.size ≤ _
    simp [strD]
  yields := fun i H x H' d F1 hd sF sH y => by
    obtain ⟨rfl, c, hc, rfl⟩ := y
    have : (strD z)[i]? = some (.str ⟨#[c]⟩) := by
      unfold strD
      rw [List.getElem?_map, show z.cps.toList[i]? = some c by simpa using hc]
      rfl
    rw [this] at hd; cases hd
    exact ⟨F1, Ext.refl sH, .str _⟩
end

section
variable {X : Cx} {W : WX} {tg e e2 : Expr} {te te2 : TE} {f f2 : Ev → Rs R} {pos p tpos : Pos}
theorem postI_data {mg : Str → Option Value} {σ : L2.St} {F H : Hp} {Q1 : VK} {R' : It → Hp → Prop} {K : PySem.W.Frag} {m : Rs R} {k : PyData → Rs (List PyData)} (P : PostI mg W σ F H R' (m.bind fun r => r.d.bind k))
    (h : ∀ d v F1 H1 r, m = .ok r → r.d = .ok d → Ext F H F1 H1 → DD F1 v d → PostI mg W σ F1 H1 R' (k d) → Q1 v H1) : Post K mg W σ F H Q1 m := by
  cases m with
  | ok r =>
    intro v F' H' x y
    cases hd : r.d with
    | ok d =>
      obtain ⟨F2, e2, _, q2⟩ := y.data x hd
      have P' : PostI mg W σ F H R' (k d) := by
        have : ((Rs.ok r).bind fun r => r.d.bind k) = k d := by simp [hd]
        rw [this] at P; exact P
      refine h d v F2 H' r rfl hd e2 q2 ?_
      cases hk : k d with
      | ok ds => rw [hk] at P'; exact fun J F' H' x y => P' J F' H' (e2.trans x) y
      | err c => rw [hk] at P'; exact fun C H' x y => P' C H' x (e2.hh.trans y)
      | bad => rw [hk] at P'; exact P'
    | err c => exact absurd hd (by cases r <;> simp [R.d])
    | bad =>
      have : ((Rs.ok r).bind fun r => r.d.bind k) = .bad := by simp [hd]
      rw [this] at P; exact P.elim
  | err c => exact P
  | bad => exact P
@[simp] def fSeq (f : Ev → Rs R) : Ev → Rs (List PyData) := fun ρ => (f ρ).bind fun r => r.d.bind seqD
theorem ei_seq (h : EE X W e te f) : EI X W tg e (fun σ H R => iList X.K te σ H R ∨ iTup X.K te σ H R) (fSeq f) where
  pi := pi_or (pi_list h.pe) (pi_tup h.pe)
  sound := fun {G H0 ρ σ F H} rel R' P => by
    by_cases hl : ∃ r ds, f ρ = .ok r ∧ r.d = .ok (.tuple ds)
    · refine .inr (h.sound rel _ (postI_data P fun d v F1 H1 r hm hd e1 r1 P1 => ?_))
      obtain ⟨r0, ds, h1, h2⟩ := hl
      rw [hm] at h1; cases h1
      rw [hd] at h2; cases h2
      cases r1 with
      | @tup p xs ds h r => exact ⟨_, rfl, ⟨_, SqT.of (e1.sub _ _ h)⟩, P1 _ _ _ (Ext.refl e1.sub) (walk_t h r)⟩
    · refine .inl (h.sound rel _ (postI_data P fun d v F1 H1 r hm hd e1 r1 P1 => ?_))
      cases r1 with
      | @lst p xs ds h r => exact ⟨_, rfl, ⟨_, SqL.of (e1.sub _ _ h)⟩, P1 _ _ _ (Ext.refl e1.sub) (walk_l h r)⟩
      | @tup p xs ds h r => exact absurd ⟨_, _, hm, hd⟩ hl
      | _ => exact P1.elim
@[simp] def fStr (f : Ev → Rs R) : Ev → Rs (List PyData) := fun ρ => (f ρ).bind fun r => r.d.bind fun x => match x with
  | .str z => .ok (strD z)
  | _ => .bad
theorem ei_str (h : EE X W e te f) : EI X W tg e (iStr te) (fStr f) where
  pi := pi_str h.pe
  sound := fun {G H0 ρ σ F H} rel R' P => h.sound rel _ (postI_data P fun d v F1 H1 r hm hd e1 r1 P1 => by
    cases r1 with
    | str z => exact ⟨z, rfl, P1 _ _ _ (Ext.refl e1.sub) walk_s⟩
    | _ => exact P1.elim)
theorem postI_out {mg : Str → Option Value} {σ : L2.St} {F H : Hp} {Q1 : List V → Hp → Prop} {R' : It → Hp → Prop} {m : Rs (List PyData)} {k : List PyData → Rs (List PyData)} (P : PostI mg W σ F H R' (m.bind k))
    (h : ∀ ds vs F1 H1, Ext F H F1 H1 → DDs F1 vs ds → PostI mg W σ F1 H1 R' (k ds) → Q1 vs H1) : PostD mg W σ F H Q1 m := by
  cases m with
  | ok r =>
    intro v F' H' x y
    refine h r v F' H' x y ?_
    cases hk : k r with
    | ok ds =>
      have P' : PostI mg W σ F H R' (.ok ds) := by rw [← hk]; exact P
      exact fun J F1 H1 x' y' => P' J F1 H1 (x.trans x') y'
    | err c =>
      have P' : PostI mg W σ F H R' (.err c) := by rw [← hk]; exact P
      exact fun C H1 x' y' => P' C H1 x' (x.hh.trans y')
    | bad =>
      have P' : PostI mg W σ F H R' .bad := by rw [← hk]; exact P
      exact P'
  | err c => exact P
  | bad => exact P
def rg1 : List PyData → Rs (List PyData)
  | [.int j] => if j.natAbs ≤ 1000000 then .ok (rngD 0 j.toNat) else .bad
  | _ => .bad
def rg2 : List PyData → Rs (List PyData)
  | [.int i, .int j] => if i.natAbs ≤ 1000000 ∧ j.natAbs ≤ 1000000 then .ok (rngD i (j - i).toNat) else .bad
  | _ => .bad
@[simp] def fRg1 (f : Ev → Rs R) : Ev → Rs (List PyData) := fun ρ => (fCons f fNil ρ).bind rg1
@[simp] def fRg2 (f g : Ev → Rs R) : Ev → Rs (List PyData) := fun ρ => (fCons f (fCons g fNil) ρ).bind rg2
theorem ei_range1 (h : EE X W e te f) (hm : X.mg "range" = none) (hg : Gl X "range" := by rfl) (hs : starEach [e] X.env = [(false, eval e X.env)] := by rfl) : EI X W tg (.Call (.Name "range" p) [e] [] pos) (iRng1 (tCons te tNil)) (fRg1 f) where
  pi := pi_range1 hg hm (pa_cons h.pe pa_nil hs) hs
  sound := fun {G H0 ρ σ F H} rel R' P => (ed_cons h ed_nil hs).sound rel _ (postI_out P fun ds vs F1 H1 e1 r1 P1 => by
    unfold rg1 at P1
    split at P1
    · split at P1
      · rename_i j hj
        cases r1 with
        | cons a b =>
          cases a
          cases b
          exact ⟨j, rfl, by omega, by omega, P1 _ _ _ (Ext.refl e1.sub) walk_r⟩
      · exact P1.elim
    · exact P1.elim)
theorem ei_range2 (h : EE X W e te f) (h2 : EE X W e2 te2 f2) (hm : X.mg "range" = none) (hg : Gl X "range" := by rfl) (hs : starEach [e, e2] X.env = [(false, eval e X.env), (false, eval e2 X.env)] := by rfl) (hs2 : starEach [e2] X.env = [(false, eval e2 X.env)] := by rfl) :
    EI X W tg (.Call (.Name "range" p) [e, e2] [] pos) (iRng2 (tCons te (tCons te2 tNil))) (fRg2 f f2) where
  pi := pi_range2 hg hm (pa_cons h.pe (pa_cons h2.pe pa_nil hs2) (by rw [hs, hs2])) hs hs2
  sound := fun {G H0 ρ σ F H} rel R' P => (ed_cons h (ed_cons h2 ed_nil hs2) (by rw [hs, hs2])).sound rel _ (postI_out P fun ds vs F1 H1 e1 r1 P1 => by
    unfold rg2 at P1
    split at P1
    · split at P1
      · rename_i i j hj
        cases r1 with
        | cons a b =>
          cases a
          cases b with
          | cons a b =>
            cases a
            cases b
            exact ⟨i, j, rfl, ⟨by omega, by omega, by omega, by omega⟩, P1 _ _ _ (Ext.refl e1.sub) walk_r⟩
      · exact P1.elim
    · exact P1.elim)
@[simp] def fEnum (f : Ev → Rs R) : Ev → Rs (List PyData) := fun ρ => (fCons f fNil ρ).bind fun ds => match ds with
  | [x] => (seqD x).bind fun xs => .ok (enumD xs)
  | _ => .bad
theorem ei_enum {elts : List Expr} {kk : Nat} (h : EE X W e te f) (hm : X.mg "enumerate" = none) (hg : Gl X "enumerate" := by rfl) (hs : starEach [e] X.env = [(false, eval e X.env)] := by rfl) :
    EI X W (.Tuple elts kk tpos) (.Call (.Name "enumerate" p) [e] [] pos) (iEnumK X.K (tCons te tNil)) (fEnum f) where
  pi := pi_enumK hg hm (pa_cons h.pe pa_nil hs) hs
  sound := fun {G H0 ρ σ F H} rel R' P => (ed_cons h ed_nil hs).sound rel _ (postI_out P fun ds vs F1 H1 e1 r1 P1 => by
    cases r1 with
    | nil => exact P1.elim
    | cons a b =>
      cases b with
      | cons _ _ => exact P1.elim
      | nil =>
        cases a with
        | @lst p xs ds h r => exact ⟨false, _, _, rfl, SqL.of (e1.sub _ _ h), P1 _ _ _ (Ext.refl e1.sub) (walk_e (k := false) h r)⟩
        | @tup p xs ds h r => exact ⟨true, _, _, rfl, SqT.of (e1.sub _ _ h), P1 _ _ _ (Ext.refl e1.sub) (walk_e (k := true) h r)⟩
        | _ => exact P1.elim)
@[simp] def fZip (f g : Ev → Rs R) : Ev → Rs (List PyData) := fun ρ => (fCons f (fCons g fNil) ρ).bind fun ds => match ds with
  | [x, y] => (seqD x).bind fun xs => (seqD y).bind fun ys => .ok (zipD xs ys)
  | _ => .bad
theorem ei_zip {elts : List Expr} {kk : Nat} (h : EE X W e te f) (h2 : EE X W e2 te2 f2) (hm : X.mg "zip" = none) (hg : Gl X "zip" := by rfl) (hs : starEach [e, e2] X.env = (false, eval e X.env) :: starEach [e2] X.env := by rfl) (hs2 : starEach [e2] X.env = (false, eval e2 X.env) :: starEach [] X.env := by rfl)
    (hpl : (backTo pos (starEach [e2] X.env)).any (·.1) = false := by rfl) :
    EI X W (.Tuple elts kk tpos) (.Call (.Name "zip" p) [e, e2] [] pos) (iZipK X.K (tCons te (tCons te2 tNil))) (fZip f f2) where
  pi := pi_zipK hg hm (pa_cons h.pe (pa_cons h2.pe pa_nil hs2) hs) hs hpl
  sound := fun {G H0 ρ σ F H} rel R' P => (ed_cons h (ed_cons h2 ed_nil hs2) hs).sound rel _ (postI_out P fun ds vs F1 H1 e1 r1 P1 => by
    cases r1 with
    | nil => exact P1.elim
    | cons a b =>
      cases b with
      | nil => exact P1.elim
      | cons a2 b =>
        cases b with
        | cons _ _ => exact P1.elim
        | nil =>
          cases a with
          | @lst p xs ds h r =>
            cases a2 with
            | @lst q ys es g w => exact ⟨false, false, _, _, _, _, rfl, SqL.of (e1.sub _ _ h), SqL.of (e1.sub _ _ g), P1 _ _ _ (Ext.refl e1.sub) (walk_z (k := false) (l := false) h r g w)⟩
            | @tup q ys es g w => exact ⟨false, true, _, _, _, _, rfl, SqL.of (e1.sub _ _ h), SqT.of (e1.sub _ _ g), P1 _ _ _ (Ext.refl e1.sub) (walk_z (k := false) (l := true) h r g w)⟩
            | _ => exact P1.elim
          | @tup p xs ds h r =>
            cases a2 with
            | @lst q ys es g w => exact ⟨true, false, _, _, _, _, rfl, SqT.of (e1.sub _ _ h), SqL.of (e1.sub _ _ g), P1 _ _ _ (Ext.refl e1.sub) (walk_z (k := true) (l := false) h r g w)⟩
            | @tup q ys es g w => exact ⟨true, true, _, _, _, _, rfl, SqT.of (e1.sub _ _ h), SqT.of (e1.sub _ _ g), P1 _ _ _ (Ext.refl e1.sub) (walk_z (k := true) (l := true) h r g w)⟩
            | _ => exact P1.elim
          | _ => cases a2 <;> exact P1.elim)
end

/-! ### targets -/
structure EG (X : Cx) (tg : Expr) (g : TG) (is : List Nat) (ft : PyData → Ev → Rs Ev) : Prop where
  pg : PG X tg g
  sound : ∀ {G H0 : Hp} {ρ : Ev} {σ : L2.St} {F H : Hp} {v : V} {d : PyData} {ρ' : Ev}, Rel X.K G H0 ρ σ F H → DD F v d → ft d ρ = .ok ρ' → ∀ Q : L2.St → Hp → Prop,
    (∀ σ', Rel X.K G H0 ρ' σ' F H → σ'.length = σ.length → (∀ j, j ∉ is → σ'[j]? = σ[j]?) → Q σ' H) → g v σ H Q
structure EGs (X : Cx) (ts : List Expr) (g : TGs) (n : Nat) (is : List Nat) (ft : List PyData → Ev → Rs Ev) : Prop where
  pg : PGs X ts g
  len : ∀ ds ρ ρ', ft ds ρ = .ok ρ' → ds.length = n
  sound : ∀ {G H0 : Hp} {ρ : Ev} {σ : L2.St} {F H : Hp} {vs : List V} {ds : List PyData} {ρ' : Ev}, Rel X.K G H0 ρ σ F H → DDs F vs ds → ft ds ρ = .ok ρ' → ∀ Q : L2.St → Hp → Prop,
    (∀ σ', Rel X.K G H0 ρ' σ' F H → σ'.length = σ.length → (∀ j, j ∉ is → σ'[j]? = σ[j]?) → Q σ' H) → g vs σ H Q
@[simp] def tName (i : Nat) : PyData → Ev → Rs Ev := fun d ρ => .ok (ρ.set i (some (.val d)))
def tsNil : List PyData → Ev → Rs Ev
  | [], ρ => .ok ρ
  | _, _ => .bad
def tsCons (t : PyData → Ev → Rs Ev) (ts : List PyData → Ev → Rs Ev) : List PyData → Ev → Rs Ev
  | d :: ds, ρ => (t d ρ).bind (ts ds)
  | _, _ => .bad
def tTupl (ts : List PyData → Ev → Rs Ev) : PyData → Ev → Rs Ev
  | .tuple ds, ρ => ts ds ρ
  | _, _ => .bad
section
variable {X : Cx} {pos : Pos}
theorem eg_name (i : Nat) {x : Str} (hN : X.N.Nodup) (hi : X.N[i]? = some x := by rfl) (hx : Loc X.env.scope x := by first | exact .inl rfl | exact .inr rfl) (hf : X.fn x = true ∨ X.env.scope.names.lookup x = some .local := by first | exact .inl rfl | exact .inr rfl | assumption) :
    EG X (.Name x pos) (gName i) [i] (tName i) where
  pg := pg_name hN hi hx hf
  sound := fun rel h e Q k => by
    cases e
    exact k _ (rel.setVal h rfl) (by simp) fun j hj => by
      rw [List.getElem?_set_ne]
      exact fun z => hj (by simp [z])
theorem egs_nil : EGs X [] gNil 0 [] tsNil where
  pg := pgs_nil
  len := fun ds ρ ρ' h => by
    cases ds with
    | nil => rfl
    | cons _ _ => cases h
  sound := fun {G H0 ρ σ F H vs ds ρ'} rel r e Q k => by
    cases r with
    | nil => cases e; exact ⟨rfl, k _ rel rfl fun _ _ => rfl⟩
    | cons _ _ => cases e
theorem egs_cons {e : Expr} {es : List Expr} {g : TG} {gs : TGs} {n : Nat} {is js : List Nat} {t : PyData → Ev → Rs Ev} {ts : List PyData → Ev → Rs Ev} (h : EG X e g is t) (hs : EGs X es gs n js ts)
    (hh : (assignEach (e :: es) X.env).map (·.2) = assign e X.env :: (assignEach es X.env).map (·.2) := by rfl) : EGs X (e :: es) (gCons g gs) (n + 1) (is ++ js) (tsCons t ts) where
  pg := pgs_cons h.pg hs.pg hh
  len := fun ds ρ ρ' q => by
    cases ds with
    | nil => cases q
    | cons d ds =>
      replace q : (t d _).bind (ts ds) = .ok ρ' := q
      cases h1 : t d ρ with
      | ok ρ1 =>
        rw [h1] at q
        simp [hs.len ds ρ1 ρ' q]
      | err c => rw [h1] at q; cases q
      | bad => rw [h1] at q; cases q
  sound := fun {G H0 ρ σ F H vs ds ρ'} rel r q Q k => by
    cases r with
    | nil => cases q
    | @cons v vs d ds r1 r2 =>
      replace q : (t d _).bind (ts ds) = .ok ρ' := q
      cases h1 : t d ρ with
      | ok ρ1 =>
        rw [h1] at q
        refine ⟨v, vs, rfl, h.sound rel r1 h1 _ fun σ1 rel1 l1 o1 => hs.sound rel1 r2 q _ fun σ2 rel2 l2 o2 => k σ2 rel2 (l2.trans l1) fun j hj => ?_⟩
        rw [o2 j (fun z => hj (List.mem_append_right _ z)), o1 j (fun z => hj (List.mem_append_left _ z))]
      | err c => rw [h1] at q; cases q
      | bad => rw [h1] at q; cases q
theorem eg_tup {es : List Expr} {k n : Nat} {gs : TGs} {is : List Nat} {ts : List PyData → Ev → Rs Ev} (h : EGs X es gs n is ts) (hc : X.calm = true := by rfl)
    (hn : (assignEach es X.env).length = n := by rfl) (hst : (assignEach es X.env).findIdx? (·.1) = none := by rfl) : EG X (.Tuple es k pos) (gTup X.K n gs) is (tTupl ts) where
  pg := pg_tup hc h.pg hn hst
  sound := fun {G H0 ρ σ F H v d ρ'} rel r q Q kk => by
    cases r with
    | @tup a xs ds hF r =>
      exact ⟨a, xs, rfl, SqT.of (rel.sub _ _ hF), by rw [r.len]; exact h.len _ _ _ q, h.sound rel r q Q kk⟩
    | _ => cases q
end

/-! ### comprehensions -/
@[simp] def wipeE (ρ : Ev) : List Nat → Ev
  | [] => ρ
  | v :: vs => (wipeE ρ vs).set v none
theorem Rel.wipe {K : PySem.W.Frag} {G H0 F H : Hp} {ρ : Ev} {σ : L2.St} (h : Rel K G H0 ρ σ F H) : ∀ vs : List Nat, Rel K G H0 (wipeE ρ vs) (wipe σ vs) F H
  | [] => h
  | v :: vs => (Rel.wipe h vs).unset
theorem wipe_get {σ : L2.St} {j : Nat} : ∀ {vs : List Nat}, j ∈ vs → j < σ.length → (wipe σ vs)[j]? = some none
  | [], h, _ => by cases h
  | v :: vs, h, hl => by
    unfold wipe
    by_cases e : v = j
    · subst e
      rw [List.getElem?_set_self (by rw [wipe_length]; exact hl)]
    · rw [List.getElem?_set_ne e]
      exact wipe_get (by simpa [Ne.symm e] using h) hl
theorem wipe_eq {σ σ' : L2.St} {vs is : List Nat} (hs : ∀ i ∈ is, i ∈ vs) (hl : σ'.length = σ.length) (ho : ∀ j, j ∉ is → σ'[j]? = (wipe σ vs)[j]?) : wipe σ' vs = wipe σ vs := by
  apply List.ext_getElem?
  intro j
  by_cases hj : j ∈ vs
  · by_cases hb : j < σ.length
    · rw [wipe_get hj hb, wipe_get hj (by rw [hl]; exact hb)]
    · rw [List.getElem?_eq_none (by rw [wipe_length, hl]; omega), List.getElem?_eq_none (by rw [wipe_length]; omega)]
  · rw [wipe_out hj, wipe_out hj, ho j (fun z => hj (hs j z)), wipe_out hj]
structure ETs (X : Cx) (W : WX) (ifs : List Expr) (t : TT) (f : Ev → Rs Bool) : Prop where
  pts : PTs X ifs t
  sound : ∀ {G H0 : Hp} {ρ : Ev} {σ : L2.St} {F H : Hp}, Rel X.K G H0 ρ σ F H → ∀ Q : Bool → Hp → Prop, PostB X.mg W σ F H Q (f ρ) → t σ H Q
@[simp] def fYes : Ev → Rs Bool := fun _ => .ok true
theorem ets_nil {X : Cx} {W : WX} : ETs X W [] tYes fYes := ⟨pts_nil, fun rel Q P => P _ _ (Ext.refl rel.sub)⟩
theorem ets_one {X : Cx} {W : WX} {c : Expr} {t : TT} {f : Ev → Rs Bool} (h : ET X W c t f) : ETs X W [c] t f := ⟨pts_one h.pt, h.sound⟩
/-- the items that a comprehension gives -/
def lcGo (ft : PyData → Ev → Rs Ev) (fc : Ev → Rs Bool) (fe : Ev → Rs R) (ρ : Ev) : List PyData → Rs (List PyData)
  | [] => .ok []
  | d :: ds => (ft d ρ).bind fun ρ1 => (fc ρ1).bind fun b => if b = true then (fe ρ1).bind fun r => r.d.bind fun x => (lcGo ft fc fe ρ ds).bind fun xs => .ok (x :: xs) else lcGo ft fc fe ρ ds
def noErr {α : Type} : Rs α → Rs α
  | .ok a => .ok a
  | _ => .bad
def fLc (vs : List Nat) (fi : Ev → Rs (List PyData)) (ft : PyData → Ev → Rs Ev) (fc : Ev → Rs Bool) (fe : Ev → Rs R) : Ev → Rs R := fun ρ => (fi ρ).bind fun ds =>
  if ds.length ≤ lim then (noErr (lcGo ft fc fe (wipeE ρ vs) ds)).bind fun xs => .ok (.own xs) else .bad
abbrev W0 : WX := fun _ _ _ _ => False
theorem postI_post {mg : Str → Option Value} {W : WX} {σ : L2.St} {F H : Hp} {Q : VK} {R' : It → Hp → Prop} {K : PySem.W.Frag} {m : Rs (List PyData)} {k : List PyData → Rs R} (P : Post K mg W σ F H Q (m.bind k))
    (h : ∀ ds J F1 H1, Ext F H F1 H1 → WalkD J F1 ds → Post K mg W σ F1 H1 Q (k ds) → R' J H1) : PostI mg W σ F H R' m := by
  cases m with
  | ok r => exact fun J F' H' x y => h r J F' H' x y (post_step P x)
  | err c => exact P
  | bad => exact P
theorem ee_lc {X : Cx} {W : WX} {elt tg iter : Expr} {ifs : List Expr} {scope : Scope} {own : List (Str × Nat)} {pos : Pos} {wi : TI} {g : TG} {tt : TT} {te : TE} {is : List Nat} {fi : Ev → Rs (List PyData)} {ft : PyData → Ev → Rs Ev} {fc : Ev → Rs Bool} {fe : Ev → Rs R}
    (hN : X.N.Nodup) (hi : EI X W tg iter wi fi) (ok : BlkOk X.N X.env.scope scope own)
    (hg : ∀ (s : Shared) (H : Hp) (C : Addr) (cl : List (Str × Addr)) (fp : List Addr), EG (X.blk s H scope (compEnvC scope cl C X.env) fp) tg g is ft)
    (ht : ∀ (s : Shared) (H : Hp) (C : Addr) (cl : List (Str × Addr)) (fp : List Addr), ETs (X.blk s H scope (compEnvC scope cl C X.env) fp) W0 ifs tt fc)
    (he : ∀ (s : Shared) (H : Hp) (C : Addr) (cl : List (Str × Addr)) (fp : List Addr), EE (X.blk s H scope (compEnvC scope cl C X.env) fp) W0 elt te fe)
    (hsub : ∀ i ∈ is, i ∈ own.map (·.2) := by decide) (hc : X.calm = true := by rfl) (hs : ∀ x, foldedSetIterable iter X.env x = pure x := by intro _; rfl) :
    EE X W (.ListComp elt [⟨tg, iter, ifs, 0⟩] scope pos) (tLc wi g tt te (own.map (·.2))) (fLc (own.map (·.2)) fi ft fc fe) where
  pe := pe_lc hc hN hi.pi ok (fun s H C cl fp => (hg s H C cl fp).pg) (fun s H C cl fp => (ht s H C cl fp).pts) (fun s H C cl fp => (he s H C cl fp).pe) hs
  sound := fun {G H0 ρ σ F H} rel Q P => hi.sound rel _ (postI_post P fun ds J F1 H1 e1 wk P1 => by
    split at P1
    · rename_i hlim
      cases hgo : lcGo ft fc fe (wipeE ρ (own.map (·.2))) ds with
      | ok xs =>
        rw [hgo] at P1
        replace P1 : Post X.K X.mg W σ F1 H1 Q (.ok (.own xs)) := P1
        intro D nD
        have rel1 := (rel.step e1).wipe (own.map (·.2))
        refine ⟨fun i m H' => i ≤ ds.length ∧ m = ds.length - i ∧ ∃ F' vs acc rest, Ext F1 H1 F' H' ∧ H' D = some (.lst vs) ∧ F' D = none ∧ DDs F' vs acc ∧ acc.length ≤ i ∧ lcGo ft fc fe (wipeE ρ (own.map (·.2))) (ds.drop i) = .ok rest ∧ acc ++ rest = xs,
          ⟨ds.length, Nat.zero_le _, rfl, F1, [], [], xs, Ext.addH e1.sub nD, upd_same, e1.sub.free nD, .nil, Nat.zero_le _, hgo, rfl⟩, fun i m H' hW => ?_⟩
        obtain ⟨hi', rfl, F', vs, acc, rest, ex, hD, hF, hv, hal, hr, hx⟩ := hW
        by_cases hlt : i < ds.length
        · refine .inr ⟨wk.goes i H' hlt (ex.ff.trans ex.sub), fun H'' => i + 1 ≤ ds.length ∧ ∃ F' vs acc rest, Ext F1 H1 F' H'' ∧ H'' D = some (.lst vs) ∧ F' D = none ∧ DDs F' vs acc ∧ acc.length ≤ i + 1 ∧ lcGo ft fc fe (wipeE ρ (own.map (·.2))) (ds.drop (i + 1)) = .ok rest ∧ acc ++ rest = xs, fun H'' q => ⟨ds.length - (i + 1), by omega, q.1, rfl, q.2⟩, fun x H2 hy => ?_⟩
          have hd : ds[i]? = some ds[i] := List.getElem?_eq_getElem hlt
          obtain ⟨F2, e2, r2⟩ := wk.yields i H' x H2 ds[i] F' hd ex.ff ex.sub hy
          rw [List.drop_eq_getElem_cons hlt] at hr
          unfold lcGo at hr
          cases h1 : ft ds[i] (wipeE ρ (own.map (·.2))) with
          | ok ρ1 =>
            rw [h1] at hr
            simp only [bind_ok] at hr
            refine (hg X.s_0 X.H_0 0 [] []).sound ((rel1.step ex).step e2) r2 h1 _ fun σ2 rel2 l2 o2 => ⟨wipe_eq hsub (by rw [l2, wipe_length]) o2, ?_⟩
            cases h2 : fc ρ1 with
            | ok b =>
              rw [h2] at hr
              simp only [bind_ok] at hr
              refine (ht X.s_0 X.H_0 0 [] []).sound rel2 _ (by
                rw [h2]
                intro F3 H3 e3
                have hD3 : H3 D = some (.lst vs) := e3.hh _ _ (e2.hh _ _ hD)
                have hF3 : F3 D = none := e3.own (e2.hh _ _ hD) (e2.own hD hF)
                have hv3 : DDs F3 vs acc := DDs.mono (e2.ff.trans e3.ff) _ _ hv
                have ex3 : Ext F1 H1 F3 H3 := (ex.trans e2).trans e3
                cases b with
                | true =>
                  rw [if_pos rfl] at hr ⊢
                  cases h3 : fe ρ1 with
                  | ok r =>
                    rw [h3] at hr
                    simp only [bind_ok] at hr
                    refine (he X.s_0 X.H_0 0 [] []).sound (rel2.step e3) _ (by
                      rw [h3]
                      intro y F4 H4 e4 r4
                      cases h4 : r.d with
                      | ok dx =>
                        rw [h4] at hr
                        simp only [bind_ok] at hr
                        obtain ⟨F5, e5, s5, r5⟩ := r4.data e4 h4
                        cases h6 : lcGo ft fc fe (wipeE ρ (own.map (·.2))) (ds.drop (i + 1)) with
                        | ok rest' =>
                          rw [h6] at hr
                          cases hr
                          have hD5 : H4 D = some (.lst vs) := e5.hh _ _ hD3
                          have hF5 : F5 D = none := e5.own hD3 hF3
                          have ex5 : Ext F1 H1 F5 H4 := ex3.trans e5
                          have hlen : vs.length < sizeLine := by
                            have := hv.len
                            have := lim_lt
                            omega
                          refine ⟨vs, hD5, hlen, hlt, F5, vs ++ [y], acc ++ [dx], rest', ⟨ex5.old, ex5.ff, fun b o q => ?_, fun b o q => ?_, ex5.new⟩, upd_same, hF5, (DDs.mono e5.ff _ _ hv3).app (.cons r5 .nil), by simp; omega, rfl, by rw [← hx]; simp⟩
                          · have : b ≠ D := ne_of_none q nD
                            rw [upd_ne this]
                            exact ex5.hh _ _ q
                          · have : b ≠ D := ne_of_none q hF5
                            rw [upd_ne this]
                            exact ex5.sub _ _ q
                        | err c => rw [h6] at hr; cases hr
                        | bad => rw [h6] at hr; cases hr
                      | err c => rw [h4] at hr; cases hr
                      | bad => rw [h4] at hr; cases hr)
                  | err c => rw [h3] at hr; cases hr
                  | bad => rw [h3] at hr; cases hr
                | false =>
                  rw [if_neg (by decide)] at hr ⊢
                  exact ⟨hlt, F3, vs, acc, rest, ex3, hD3, hF3, hv3, by omega, hr, hx⟩)
            | err c => rw [h2] at hr; cases hr
            | bad => rw [h2] at hr; cases hr
          | err c => rw [h1] at hr; cases hr
          | bad => rw [h1] at hr; cases hr
        · have hin : i = ds.length := by omega
          subst hin
          refine .inl ⟨wk.stops H' (ex.ff.trans ex.sub), ?_⟩
          simp [lcGo] at hr
          subst hr
          rw [List.append_nil] at hx
          subst hx
          exact P1 _ F' H' ex ⟨⟨D, vs, rfl, hD, hF, hv⟩, fun _ q e => by cases e; exact nD⟩
      | err c => rw [hgo] at P1; exact P1.elim
      | bad => rw [hgo] at P1; exact P1.elim
    · exact P1.elim)
end DN
/-! Den7: statements, loops, a def by its body. -/
namespace DN
open PySem PySem.Spec PyProof.Rows L2

inductive RO where
  | nx (ρ : Ev)
  | ret (r : R)
  | exc (c : Str) (ρ : Ev)
  | bad
/-- an expression within a statement -/
def onR {α : Type} (ρ : Ev) (m : Rs α) (k : α → RO) : RO := match m with
  | .ok a => k a
  | .err c => .exc c ρ
  | .bad => .bad
@[simp] theorem onR_ok {α : Type} (ρ : Ev) (a : α) (k : α → RO) : onR ρ (.ok a) k = k a := rfl
@[simp] theorem onR_err {α : Type} (ρ : Ev) (c : Str) (k : α → RO) : onR ρ (.err c) k = .exc c ρ := rfl
@[simp] theorem onR_bad {α : Type} (ρ : Ev) (k : α → RO) : onR ρ .bad k = .bad := rfl
def RO.seq : RO → (Ev → RO) → RO
  | .nx ρ, k => k ρ
  | .ret r, _ => .ret r
  | .exc c ρ, _ => .exc c ρ
  | .bad, _ => .bad
@[simp] theorem seq_nx (ρ : Ev) (k : Ev → RO) : (RO.nx ρ).seq k = k ρ := rfl
@[simp] theorem seq_ret (r : R) (k : Ev → RO) : (RO.ret r).seq k = .ret r := rfl
@[simp] theorem seq_exc (c : Str) (ρ : Ev) (k : Ev → RO) : (RO.exc c ρ).seq k = .exc c ρ := rfl
@[simp] theorem seq_bad (k : Ev → RO) : RO.bad.seq k = .bad := rfl
section
variable (K : PySem.W.Frag) (mg : Str → Option Value) (W : WX) (G H0 : Hp)
def PostS (D : Ends) : RO → Prop
  | .nx ρ' => ∀ σ' F' H', Rel K G H0 ρ' σ' F' H' → D.nx σ' H'
  | .ret r => ∀ v F' H', Base G H0 F' H' → RepN K F' H' H0 v r → D.rt v H'
  | .exc c ρ' => ∀ C σ' F' H', mg c = some (.ref C) → Rel K G H0 ρ' σ' F' H' → W (.ref C) none σ' H'
  | .bad => False
end
structure ES (X : Cx) (W : WX) (st : Stmt) (t : TS) (g : Ev → RO) : Prop where
  ps : PS X st t
  sound : ∀ {G H0 : Hp} {ρ : Ev} {σ : L2.St} {F H : Hp}, Rel X.K G H0 ρ σ F H → ∀ D : Ends, PostS X.K X.mg W G H0 D (g ρ) → t D σ H
structure EB (X : Cx) (W : WX) (sts : List Stmt) (t : TS) (g : Ev → RO) : Prop where
  ps : PSs X sts t
  sound : ∀ {G H0 : Hp} {ρ : Ev} {σ : L2.St} {F H : Hp}, Rel X.K G H0 ρ σ F H → ∀ D : Ends, PostS X.K X.mg W G H0 D (g ρ) → t D σ H
section
variable {K : PySem.W.Frag} {mg : Str → Option Value} {W : WX} {G H0 F H F1 H1 : Hp} {ρ : Ev} {σ : L2.St} {D : Ends}
/-- over more that stays -/
theorem postS_re {m : RO} (b : Base G H0 F1 H1) (P : PostS K mg W G H0 D m) : PostS K mg W F1 H0 D m := by
  cases m with
  | nx ρ' => exact fun σ' F' H' r => P σ' F' H' (r.back b)
  | ret r => exact fun v F' H' e q => P v F' H' (b.re e) q
  | exc c ρ' => exact fun C σ' F' H' m r => P C σ' F' H' m (r.back b)
  | bad => exact P
theorem postS_seq {D' : Ends} {m : RO} {k : Ev → RO} (P : PostS K mg W G H0 D (m.seq k)) (hn : ∀ ρ' σ' F' H', Rel K G H0 ρ' σ' F' H' → PostS K mg W G H0 D (k ρ') → D'.nx σ' H') (hr : D'.rt = D.rt) : PostS K mg W G H0 D' m := by
  cases m with
  | nx ρ' => exact fun σ' F' H' r => hn ρ' σ' F' H' r P
  | ret r => exact fun v F' H' e q => by rw [hr]; exact P v F' H' e q
  | exc c ρ' => exact P
  | bad => exact P
theorem postS_on {Q : VK} {m : Rs R} {k : R → RO} (rel : Rel K G H0 ρ σ F H) (P : PostS K mg W G H0 D (onR ρ m k))
    (h : ∀ r v F' H', Ext F H F' H' → RepN K F' H' H v r → PostS K mg W G H0 D (k r) → Q v H') : Post K mg W σ F H Q m := by
  cases m with
  | ok r => exact fun v F' H' e q => h r v F' H' e q P
  | err c => exact fun C H' m s => P C σ F H' m (rel.step (Ext.more rel.sub s))
  | bad => exact P
theorem postS_data {Q : VK} {m : Rs R} {k : PyData → RO} (rel : Rel K G H0 ρ σ F H) (P : PostS K mg W G H0 D (onR ρ (m.bind R.d) k))
    (h : ∀ d v F' H', Ext F H F' H' → DD F' v d → PostS K mg W G H0 D (k d) → Q v H') : Post K mg W σ F H Q m := by
  cases m with
  | ok r =>
    intro v F' H' e q
    cases hd : r.d with
    | ok d =>
      obtain ⟨F2, e2, _, q2⟩ := q.data e hd
      have P' : PostS K mg W G H0 D (k d) := by
        have : onR ρ ((Rs.ok r).bind R.d) k = k d := by simp [hd]
        rw [this] at P; exact P
      exact h d v F2 H' e2 q2 P'
    | err c => exact absurd hd (by cases r <;> simp [R.d])
    | bad =>
      have : onR ρ ((Rs.ok r).bind R.d) k = .bad := by simp [hd]
      rw [this] at P; exact P.elim
  | err c => exact fun C H' m s => P C σ F H' m (rel.step (Ext.more rel.sub s))
  | bad => exact P
theorem postS_onB {Q : Bool → Hp → Prop} {m : Rs Bool} {k : Bool → RO} (rel : Rel K G H0 ρ σ F H) (P : PostS K mg W G H0 D (onR ρ m k))
    (h : ∀ b F' H', Ext F H F' H' → PostS K mg W G H0 D (k b) → Q b H') : PostB mg W σ F H Q m := by
  cases m with
  | ok r => exact fun F' H' e => h r F' H' e P
  | err c => exact fun C H' m s => P C σ F H' m (rel.step (Ext.more rel.sub s))
  | bad => exact P
theorem postS_onI {R' : It → Hp → Prop} {m : Rs (List PyData)} {k : List PyData → RO} (rel : Rel K G H0 ρ σ F H) (P : PostS K mg W G H0 D (onR ρ m k))
    (h : ∀ ds J F' H', Ext F H F' H' → WalkD J F' ds → PostS K mg W G H0 D (k ds) → R' J H') : PostI mg W σ F H R' m := by
  cases m with
  | ok r => exact fun J F' H' e w => h r J F' H' e w P
  | err c => exact fun C H' m s => P C σ F H' m (rel.step (Ext.more rel.sub s))
  | bad => exact P
end

/-! ### blocks -/
@[simp] def gNext : Ev → RO := fun ρ => .nx ρ
@[simp] def gSeq (g h : Ev → RO) : Ev → RO := fun ρ => (g ρ).seq h
section
variable {X : Cx} {W : WX} {st : Stmt} {rest : List Stmt} {t u : TS} {g h : Ev → RO} {e : Expr} {te : TE} {f : Ev → Rs R} {pos : Pos}
theorem eb_nil : EB X W [] tNext gNext := ⟨pss_nil, fun rel D P => P _ _ _ rel⟩
theorem eb_one (a : ES X W st t g) : EB X W [st] t g := ⟨pss_one a.ps, a.sound⟩
theorem eb_cons (a : ES X W st t g) (b : EB X W rest u h) : EB X W (st :: rest) (tSeq t u) (gSeq g h) where
  ps := pss_cons a.ps b.ps
  sound := fun rel D P => a.sound rel _ (postS_seq P (fun ρ' σ' F' H' r P' => b.sound r D P') rfl)
theorem es_pass : ES X W (.Pass pos) tNext gNext := ⟨ps_pass, fun rel D P => P _ _ _ rel⟩
/-- an expression whose value is dropped -/
@[simp] def gDrop (f : Ev → Rs R) : Ev → RO := fun ρ => onR ρ (f ρ) fun _ => .nx ρ
theorem es_expr (he : EE X W e te f) (hs : swapsWith e none pos.line X.env = pure false := by rfl) : ES X W (.Expr e pos) (tDrop te) (gDrop f) where
  ps := ps_expr he.pe hs
  sound := fun {G H0 ρ σ F H} rel D P => he.sound rel _ (postS_on rel P fun r v F' H' e q P' => P' _ _ _ (rel.step e))
/-- return -/
@[simp] def gRet (f : Ev → Rs R) : Ev → RO := fun ρ => onR ρ (f ρ) .ret
theorem es_ret (he : EE X W e te f) : ES X W (.Return (some e) pos) (tRet te) (gRet f) where
  ps := ps_ret he.pe
  sound := fun {G H0 ρ σ F H} rel D P => he.sound rel _ (postS_on rel P fun r v F' H' e q P' => P' v F' H' (rel.base.step e) ⟨q.1, fun o p z => rel.base.hh.free (q.2 o p z)⟩)
/-- return x, whatever x holds -/
@[simp] def gRetV (i : Nat) : Ev → RO := fun ρ => match ρ[i]? with
  | some (some r) => .ret r
  | _ => .bad
theorem es_retV (i : Nat) {x : Str} {p2 : Pos} (hN : X.N[i]? = some x := by rfl) (hv : Vis X.env.scope x := by first | exact Or.inl rfl | exact Or.inr (Or.inl rfl) | exact Or.inr (Or.inr rfl)) (hd : (x == ("__debug__" : Str)) = false := by decide)
    (hcd : (x == ("__classdict__" : Str)) = false := by decide) : ES X W (.Return (some (.Name x p2)) pos) (tRet (tVar i)) (gRetV i) where
  ps := ps_ret (pe_var hN hv hd hcd)
  sound := fun {G H0 ρ σ F H} rel D P => by
    unfold gRetV at P
    split at P
    · rename_i r h
      obtain ⟨v, a, b⟩ := rel.at_ i _ h
      exact ⟨v, a, P v F H rel.base ⟨b, fun o p z => rel.frs i r p h o (by rw [a, z])⟩⟩
    · exact P.elim
theorem es_retN : ES X W (.Return none pos) tRetN (fun _ => .ret (.val .none)) := ⟨ps_retN, fun {G H0 ρ σ F H} rel D P => P _ F H rel.base (.val .non)⟩
/-- if -/
@[simp] def gIf (c : Ev → Rs Bool) (g h : Ev → RO) : Ev → RO := fun ρ => onR ρ (c ρ) fun b => if b = true then g ρ else h ρ
theorem es_if {c : Expr} {a b : List Stmt} {tc : TT} {fc : Ev → Rs Bool} (hc : ET X W c tc fc) (ha : EB X W a t g) (hb : EB X W b u h) : ES X W (.If c a b pos) (tIfS tc t u) (gIf fc g h) where
  ps := ps_if hc.pt ha.ps hb.ps
  sound := fun {G H0 ρ σ F H} rel D P => hc.sound rel _ (postS_onB rel P fun b F' H' e P' => by
    cases b with
    | true =>
      rw [if_pos rfl] at P' ⊢
      exact ha.sound (rel.step e) D P'
    | false =>
      rw [if_neg (by decide)] at P' ⊢
      exact hb.sound (rel.step e) D P')
/-! ### assignments -/
/-- x = e, a new thing of ours stays ours; x = e, it is let go -/
@[simp] def gAsg (i : Nat) (f : Ev → Rs R) : Ev → RO := fun ρ => onR ρ (f ρ) fun r => .nx (ρ.set i (some r))
@[simp] def gAsgF (i : Nat) (f : Ev → Rs R) : Ev → RO := fun ρ => onR ρ ((f ρ).bind R.d) fun d => .nx (ρ.set i (some (.val d)))
theorem es_asgP {i : Nat} (hp : PS X st (tAsg te (gName i))) (he : EE X W e te f) : ES X W st (tAsg te (gName i)) (gAsg i f) where
  ps := hp
  sound := fun {G H0 ρ σ F H} rel D P => he.sound rel _ (postS_on rel P fun r v F' H' e q P' => P' _ _ _ (rel.setOwn e q))
theorem es_asgPF {i : Nat} (hp : PS X st (tAsg te (gName i))) (he : EE X W e te f) : ES X W st (tAsg te (gName i)) (gAsgF i f) where
  ps := hp
  sound := fun {G H0 ρ σ F H} rel D P => he.sound rel _ (postS_data rel P fun d v F' H' e q P' => P' _ _ _ ((rel.step e).setVal q rfl))
theorem es_asg (i : Nat) {x : Str} {pos' : Pos} (hN : X.N.Nodup) (he : EE X W e te f) (hi : X.N[i]? = some x := by rfl) (hx : Loc X.env.scope x := by first | exact .inl rfl | exact .inr rfl) (hs : swapsWith e (some (.Name x pos')) pos.line X.env = pure false := by rfl) (hf : X.fn x = true ∨ X.env.scope.names.lookup x = some .local := by first | exact .inl rfl | exact .inr rfl | assumption) :
    ES X W (.Assign [.Name x pos'] e pos) (tAsg te (gName i)) (gAsg i f) := es_asgP (ps_set hN hi hx he.pe hs hf) he
theorem es_asgF (i : Nat) {x : Str} {pos' : Pos} (hN : X.N.Nodup) (he : EE X W e te f) (hi : X.N[i]? = some x := by rfl) (hx : Loc X.env.scope x := by first | exact .inl rfl | exact .inr rfl) (hs : swapsWith e (some (.Name x pos')) pos.line X.env = pure false := by rfl) (hf : X.fn x = true ∨ X.env.scope.names.lookup x = some .local := by first | exact .inl rfl | exact .inr rfl | assumption) :
    ES X W (.Assign [.Name x pos'] e pos) (tAsg te (gName i)) (gAsgF i f) := es_asgPF (ps_set hN hi hx he.pe hs hf) he
/-- a, b, .. = e -/
@[simp] def gAsgT (ft : PyData → Ev → Rs Ev) (f : Ev → Rs R) : Ev → RO := fun ρ => onR ρ ((f ρ).bind R.d) fun d => match ft d ρ with
  | .ok ρ' => .nx ρ'
  | _ => .bad
theorem es_asgT {tg : Expr} {gt : TG} {is : List Nat} {ft : PyData → Ev → Rs Ev} (he : EE X W e te f) (hg : EG X tg gt is ft) (hs : swapsWithSole [tg] e pos.line X.env = pure false := by rfl) (hw : swappedStores [tg] e X.env = pure none := by rfl)
    (h1 : (assignEach [tg] X.env).map (·.2) = [assign tg X.env] := by rfl) : ES X W (.Assign [tg] e pos) (tAsg te gt) (gAsgT ft f) where
  ps := ps_asg he.pe hg.pg hs hw h1
  sound := fun {G H0 ρ σ F H} rel D P => he.sound rel _ (postS_data rel P fun d v F' H' e q P' => by
    cases h : ft d ρ with
    | ok ρ' =>
      rw [h] at P'
      exact hg.sound (rel.step e) q h _ fun σ' r _ _ => P' _ _ _ r
    | err c => rw [h] at P'; exact P'.elim
    | bad => rw [h] at P'; exact P'.elim)
/-- how a value is taken: as it is, or let go -/
def keepR (k : Bool) (r : R) : Rs R := match k with
  | true => .ok r
  | false => r.d.bind fun d => .ok (.val d)
@[simp] theorem keepR_t (r : R) : keepR true r = .ok r := rfl
@[simp] theorem keepR_f (r : R) : keepR false r = r.d.bind fun d => .ok (.val d) := rfl
theorem RepN.keep {K : PySem.W.Frag} {F H F1 H1 : Hp} {k : Bool} {v : V} {r r' : R} (e : Ext F H F1 H1) (q : RepN K F1 H1 H v r) (hk : keepR k r = .ok r') : ∃ F2, Ext F H F2 H1 ∧ Same F1 F2 ∧ RepN K F2 H1 H v r' := by
  cases k with
  | true => cases hk; exact ⟨F1, e, Same.refl _, q⟩
  | false =>
    unfold keepR at hk
    cases hd : r.d with
    | ok d =>
      rw [hd] at hk; cases hk
      obtain ⟨F2, a, b, c⟩ := q.data e hd
      exact ⟨F2, a, b, .val c⟩
    | err c => rw [hd] at hk; cases hk
    | bad => rw [hd] at hk; cases hk
/-- a, b = e1, e2 -/
@[simp] def gPar (i j : Nat) (k l : Bool) (f1 f2 : Ev → Rs R) : Ev → RO := fun ρ => onR ρ ((f1 ρ).bind (keepR k)) fun a => onR ρ ((f2 ρ).bind (keepR l)) fun b => .nx ((ρ.set i (some a)).set j (some b))
theorem postS_keep {K : PySem.W.Frag} {mg : Str → Option Value} {G H0 F H : Hp} {ρ : Ev} {σ : L2.St} {D : Ends} {k : Bool} {Q : VK} {m : Rs R} {n : R → RO} (rel : Rel K G H0 ρ σ F H) (P : PostS K mg W G H0 D (onR ρ (m.bind (keepR k)) n))
    (h : ∀ r v F' H', Ext F H F' H' → RepN K F' H' H v r → PostS K mg W G H0 D (n r) → Q v H') : Post K mg W σ F H Q m := by
  cases m with
  | ok r =>
    intro v F' H' e q
    cases hd : keepR k r with
    | ok d =>
      obtain ⟨F2, e2, _, q2⟩ := q.keep e hd
      have P' : PostS K mg W G H0 D (n d) := by
        have : onR ρ ((Rs.ok r).bind (keepR k)) n = n d := by simp [hd]
        rw [this] at P; exact P
      exact h d v F2 H' e2 q2 P'
    | err c =>
      exfalso
      cases k with
      | true => cases hd
      | false => cases r <;> simp [keepR, R.d] at hd
    | bad =>
      have : onR ρ ((Rs.ok r).bind (keepR k)) n = .bad := by simp [hd]
      rw [this] at P; exact P.elim
  | err c => exact fun C H' m s => P C σ F H' m (rel.step (Ext.more rel.sub s))
  | bad => exact P
theorem es_par (i j : Nat) (k l : Bool) {x y : Str} {a b : Expr} {ta tb : TE} {fa fb : Ev → Rs R} {px py pt pt2 : Pos} {kt k2 : Nat} (hN : X.N.Nodup) (ha : EE X W a ta fa) (hb : EE X W b tb fb)
    (hw : swappedStores [.Tuple [.Name x px, .Name y py] kt pt] (.Tuple [a, b] k2 pt2) X.env = pure (some [x, y]) := by rfl)
    (hi : X.N[i]? = some x := by rfl) (hj : X.N[j]? = some y := by rfl) (hij : i ≠ j := by decide) (hx : X.env.scope.names.lookup x = some .local := by rfl) (hy : X.env.scope.names.lookup y = some .local := by rfl) (hc : X.calm = true := by rfl)
    (hs : swapsWithSole [.Tuple [.Name x px, .Name y py] kt pt] (.Tuple [a, b] k2 pt2) pos.line X.env = pure false := by rfl)
    (hs1 : starEach [a, b] X.env = (false, eval a X.env) :: starEach [b] X.env := by rfl) (hs2 : starEach [b] X.env = (false, eval b X.env) :: starEach [] X.env := by rfl) :
    ES X W (.Assign [.Tuple [.Name x px, .Name y py] kt pt] (.Tuple [a, b] k2 pt2) pos) (tPar i j (tCons ta (tCons tb tNil))) (gPar i j k l fa fb) where
  ps := ps_par hc hN hi hj hij hx hy (pa_cons ha.pe (pa_cons hb.pe pa_nil hs2) hs1) hw hs
  sound := fun {G H0 ρ σ F H} rel D P => ha.sound rel _ (postS_keep rel P fun r v F1 H1 e1 q1 P1 => hb.sound (rel.step e1) _ (postS_keep (rel.step e1) P1 fun r2 v2 F2 H2 e2 q2 P2 =>
    ⟨v, v2, rfl, P2 _ _ _ (Rel.setOwn (rel.setOwn e1 q1) e2 q2)⟩))
/-- a, b, c = e1, e2, e3 -/
@[simp] def gPar3 (i j m : Nat) (k l n : Bool) (f1 f2 f3 : Ev → Rs R) : Ev → RO := fun ρ => onR ρ ((f1 ρ).bind (keepR k)) fun a => onR ρ ((f2 ρ).bind (keepR l)) fun b => onR ρ ((f3 ρ).bind (keepR n)) fun c => .nx (((ρ.set i (some a)).set j (some b)).set m (some c))
theorem es_par3 (i j m : Nat) (k l n : Bool) {x y z : Str} {a b c : Expr} {ta tb tc : TE} {fa fb fc : Ev → Rs R} {px py pz pt pt2 : Pos} {kt k2 : Nat} (hN : X.N.Nodup) (ha : EE X W a ta fa) (hb : EE X W b tb fb) (hc3 : EE X W c tc fc)
    (hw : swappedStores [.Tuple [.Name x px, .Name y py, .Name z pz] kt pt] (.Tuple [a, b, c] k2 pt2) X.env = pure (some [x, y, z]) := by rfl)
    (hi : X.N[i]? = some x := by rfl) (hj : X.N[j]? = some y := by rfl) (hl : X.N[m]? = some z := by rfl) (hij : i ≠ j := by decide) (him : i ≠ m := by decide) (hjm : j ≠ m := by decide)
    (hx : X.env.scope.names.lookup x = some .local := by rfl) (hy : X.env.scope.names.lookup y = some .local := by rfl) (hz : X.env.scope.names.lookup z = some .local := by rfl) (hc : X.calm = true := by rfl)
    (hs : swapsWithSole [.Tuple [.Name x px, .Name y py, .Name z pz] kt pt] (.Tuple [a, b, c] k2 pt2) pos.line X.env = pure false := by rfl)
    (hs1 : starEach [a, b, c] X.env = (false, eval a X.env) :: starEach [b, c] X.env := by rfl) (hs2 : starEach [b, c] X.env = (false, eval b X.env) :: starEach [c] X.env := by rfl) (hs3 : starEach [c] X.env = (false, eval c X.env) :: starEach [] X.env := by rfl) :
    ES X W (.Assign [.Tuple [.Name x px, .Name y py, .Name z pz] kt pt] (.Tuple [a, b, c] k2 pt2) pos) (tPar3 i j m (tCons ta (tCons tb (tCons tc tNil)))) (gPar3 i j m k l n fa fb fc) where
  ps := ps_par3 hc hN hi hj hl hij him hjm hx hy hz (pa_cons ha.pe (pa_cons hb.pe (pa_cons hc3.pe pa_nil hs3) hs2) hs1) hw hs
  sound := fun {G H0 ρ σ F H} rel D P => ha.sound rel _ (postS_keep rel P fun r v F1 H1 e1 q1 P1 => hb.sound (rel.step e1) _ (postS_keep (rel.step e1) P1 fun r2 v2 F2 H2 e2 q2 P2 =>
    hc3.sound ((rel.step e1).step e2) _ (postS_keep ((rel.step e1).step e2) P2 fun r3 v3 F3 H3 e3 q3 P3 => ⟨v, v2, v3, rfl, P3 _ _ _ (Rel.setOwn (Rel.setOwn (rel.setOwn e1 q1) e2 q2) e3 q3)⟩)))
/-- a thing of ours in a slot is let go -/
@[simp] def frzAt (i : Nat) (ρ : Ev) : Ev := match ρ[i]? with
  | some (some (.own xs)) => ρ.set i (some (.val (.list xs)))
  | _ => ρ
theorem Rel.frz {K : PySem.W.Frag} {G H0 F H : Hp} {ρ : Ev} {σ : L2.St} (i : Nat) (rel : Rel K G H0 ρ σ F H) : ∃ F', Rel K G H0 (frzAt i ρ) σ F' H := by
  unfold frzAt
  split
  · rename_i xs h
    obtain ⟨v, hv, p, vs, rfl, hp, hF, r⟩ := rel.at_ i _ h
    have np : H0 p = none := rel.frs i _ p h rfl hv
    have hl : i < ρ.length := by
      rcases Nat.lt_or_ge i ρ.length with z | z
      · exact z
      · rw [List.getElem?_eq_none z] at h; cases h
    have sm : Same F (upd F p (.lst vs)) := same_new hF
    have key : ∀ {j : Nat} {y : R}, (ρ.set i (some (.val (.list xs))))[j]? = some (some y) → y.isOwn = true → i ≠ j ∧ ρ[j]? = some (some y) := fun {j y} e o => by
      by_cases z : i = j
      · subst z
        rw [List.getElem?_set_self hl] at e
        cases e; cases o
      · rw [List.getElem?_set_ne z] at e
        exact ⟨z, e⟩
    refine ⟨upd F p (.lst vs), ⟨rel.base.keep.trans sm, rel.base.hh, fun b o q => ?_, fun a q => ?_⟩, by simp [rel.len], fun j y e => ?_, fun j y q e o s => rel.frs j y q (key e o).2 o s, fun j k y z q e1 o1 e2 o2 s1 s2 => rel.apart j k y z q (key e1 o1).2 o1 (key e2 o2).2 o2 s1 s2⟩
    · by_cases z : b = p
      · subst z; rw [upd_same] at q; rw [hp]; exact q
      · rw [upd_ne z] at q; exact rel.sub _ _ q
    · by_cases z : a = p
      · subst z; exact .inr (.none np)
      · rw [upd_ne z] at q; exact rel.base.new a q
    · by_cases z : i = j
      · subst z
        rw [List.getElem?_set_self hl] at e
        cases e
        exact ⟨_, hv, .lst upd_same (DDs.mono sm _ _ r)⟩
      · rw [List.getElem?_set_ne z] at e
        obtain ⟨w, a, b⟩ := rel.at_ j y e
        refine ⟨w, a, ?_⟩
        have other : ∀ q, w = .ref q → y.isOwn = true → q ≠ p := fun q eq o z2 => by
          subst z2
          exact z (rel.apart i j _ y q h rfl e o hv (by rw [a, eq]))
        cases y with
        | val d => exact DD.mono sm _ _ b
        | scr ns => obtain ⟨c, rfl, q⟩ := b; exact ⟨c, rfl, same_l sm q⟩
        | raw u => exact b
        | dfz _ => obtain ⟨q, o, us, rfl, b1, b2⟩ := b; exact ⟨q, o, us, rfl, sm _ _ b1, KD.mono sm b2⟩
        | own _ => obtain ⟨q, us, rfl, b1, b2, b3⟩ := b; exact ⟨q, us, rfl, b1, by rw [upd_ne (other q rfl rfl)]; exact b2, DDs.mono sm _ _ b3⟩
        | dct _ => obtain ⟨q, us, rfl, b1, b2, b3⟩ := b; exact ⟨q, us, rfl, b1, by rw [upd_ne (other q rfl rfl)]; exact b2, KD.mono sm b3⟩
        | dck _ => obtain ⟨q, us, rfl, b1, b2, b3⟩ := b; exact ⟨q, us, rfl, b1, by rw [upd_ne (other q rfl rfl)]; exact b2, KD.mono sm b3⟩
  · exact ⟨F, rel⟩
theorem es_frz (i : Nat) (a : ES X W st t g) : ES X W st t (fun ρ => g (frzAt i ρ)) := ⟨a.ps, fun rel D P => by
  obtain ⟨F', r⟩ := rel.frz i
  exact a.sound r D P⟩
end
end DN
/-! Den8: loops, things of ours that change, raise, a def by its body. -/
namespace DN
open PySem PySem.Spec PyProof.Rows L2

/-! ### for -/
def loop (ft : PyData → Ev → Rs Ev) (gb : Ev → RO) : List PyData → Ev → RO
  | [], ρ => .nx ρ
  | d :: ds, ρ => match ft d ρ with
    | .ok ρ1 => (gb ρ1).seq (loop ft gb ds)
    | _ => .bad
def gFor (fi : Ev → Rs (List PyData)) (ft : PyData → Ev → Rs Ev) (gb : Ev → RO) : Ev → RO := fun ρ => onR ρ (fi ρ) fun ds => loop ft gb ds ρ
section
variable {X : Cx} {W : WX} {pos : Pos}
theorem es_for {tg iter : Expr} {body : List Stmt} {wi : TI} {gt : TG} {tb : TS} {is : List Nat} {fi : Ev → Rs (List PyData)} {ft : PyData → Ev → Rs Ev} {gb : Ev → RO} (po : PassesOwn (model X.prog X.w) X.A X.env X.xe) (hi : EI X W tg iter wi fi) (hg : EG X tg gt is ft) (hb : EB X W body tb gb)
    (hc : X.calm = true := by rfl) (hs : ∀ x, foldedSetIterable iter X.env x = pure x := by intro _; rfl) : ES X W (.For tg iter body [] pos) (tFor wi gt tb) (gFor fi ft gb) where
  ps := ps_for po hc hi.pi hg.pg hb.ps hs
  sound := fun {G H0 ρ σ F H} rel D P => hi.sound rel _ (postS_onI rel P fun ds J F1 H1 e1 wk P1 => by
    have rel1 := rel.step e1
    refine ⟨fun i m σ' H' => i ≤ ds.length ∧ m = ds.length - i ∧ ∃ ρ' F', Rel X.K F1 H0 ρ' σ' F' H' ∧ PostS X.K X.mg W F1 H0 D (loop ft gb (ds.drop i) ρ'),
      ⟨ds.length, Nat.zero_le _, rfl, ρ, F1, rel1.re, postS_re rel1.base P1⟩, fun i m σ' H' hW => ?_⟩
    obtain ⟨hi', rfl, ρ', F', r', P'⟩ := hW
    have sF : Same F1 H' := r'.base.keep.trans r'.sub
    by_cases hlt : i < ds.length
    · refine .inr ⟨wk.goes i H' hlt sF, fun σ2 H2 => i + 1 ≤ ds.length ∧ ∃ ρ' F', Rel X.K F1 H0 ρ' σ2 F' H2 ∧ PostS X.K X.mg W F1 H0 D (loop ft gb (ds.drop (i + 1)) ρ'), fun σ2 H2 q => ⟨ds.length - (i + 1), by omega, q.1, rfl, q.2⟩, fun x H2 hy => ?_⟩
      have hd : ds[i]? = some ds[i] := List.getElem?_eq_getElem hlt
      obtain ⟨F2, e2, r2⟩ := wk.yields i H' x H2 ds[i] F' hd r'.base.keep r'.sub hy
      rw [List.drop_eq_getElem_cons hlt] at P'
      unfold loop at P'
      cases h1 : ft ds[i] ρ' with
      | ok ρ1 =>
        rw [h1] at P'
        replace P' : PostS X.K X.mg W F1 H0 D ((gb ρ1).seq (loop ft gb (ds.drop (i + 1)))) := P'
        exact hg.sound (r'.step e2) r2 h1 _ fun σ2 r3 _ _ => hb.sound r3 _ (postS_seq P' (fun ρ4 σ4 F4 H4 r4 P4 => ⟨hlt, ρ4, F4, r4, P4⟩) rfl)
      | err c => rw [h1] at P'; exact P'.elim
      | bad => rw [h1] at P'; exact P'.elim
    · have hin : i = ds.length := by omega
      subst hin
      refine .inl ⟨wk.stops H' sF, ?_⟩
      rw [List.drop_length] at P'
      exact P' σ' F' H' r')
/-! ### while -/
def whileN (fc : Ev → Rs Bool) (gb : Ev → RO) : Nat → Ev → RO
  | 0, _ => .bad
  | n + 1, ρ => onR ρ (fc ρ) fun b => if b = true then (gb ρ).seq (whileN fc gb n) else .nx ρ
def fuel : Nat := 1000000
def gWhile (fc : Ev → Rs Bool) (gb : Ev → RO) : Ev → RO := fun ρ => whileN fc gb fuel ρ
theorem es_while {c : Expr} {body : List Stmt} {tc : TT} {tb : TS} {fc : Ev → Rs Bool} {gb : Ev → RO} (po : PassesOwn (model X.prog X.w) X.A X.env X.xe) (hc : ET X W c tc fc) (hb : EB X W body tb gb) : ES X W (.While c body [] pos) (tWhile tc tb) (gWhile fc gb) where
  ps := ps_while po hc.pt hb.ps
  sound := fun {G H0 ρ σ F H} rel D P => by
    refine ⟨fun m σ' H' => ∃ ρ' F', Rel X.K G H0 ρ' σ' F' H' ∧ PostS X.K X.mg W G H0 D (whileN fc gb m ρ'), ⟨fuel, ρ, F, rel, P⟩, fun m σ' H' hW => ?_⟩
    obtain ⟨ρ', F', r', P'⟩ := hW
    cases m with
    | zero => exact P'.elim
    | succ m =>
      refine hc.sound r' _ (postS_onB r' P' fun b F2 H2 e2 P2 => ?_)
      cases b with
      | true =>
        rw [if_pos rfl] at P2 ⊢
        exact ⟨fun σ3 H3 => ∃ ρ' F', Rel X.K G H0 ρ' σ3 F' H3 ∧ PostS X.K X.mg W G H0 D (whileN fc gb m ρ'), fun σ3 H3 q => ⟨m, Nat.lt_succ_self m, q⟩, hb.sound (r'.step e2) _ (postS_seq P2 (fun ρ4 σ4 F4 H4 r4 P4 => ⟨ρ4, F4, r4, P4⟩) rfl)⟩
      | false =>
        rw [if_neg (by decide)] at P2 ⊢
        exact P2 _ _ _ (r'.step e2)
/-! ### raise -/
theorem es_raise {c m : Str} {j : Nat} {C : Addr} {p p2 pos' : Pos} {bmB : List Value} {B newId initId : String} (tk : Takes X W) (Fb : ExcBaseFacts B newId initId bmB) (q : PySem.W.excIn X.K C bmB newId = true) (gC : X.mg c = some (.ref C)) (kC : PySem.W.keepIn X.K (.ref C) = true)
    (r : Raises X (.ref C)) (hc : X.calm = true := by rfl) (hg : Gl X c := by rfl) (hdb : (c == ("__debug__" : Str)) = false := by decide) :
    ES X W (.Raise (some (.Call (.Name c p) [.Constant (.str m) j p2] [] pos')) none pos) (fun _ σ H => (fun (_ : L2.St) (H : Hp) (Q : XK) => Q (.ref C) none H) σ H fun cls d H' => W cls d σ H') (fun ρ => .exc c ρ) where
  ps := ps_raise hc tk (pmk_own Fb q gC kC r hg hdb)
  sound := fun {G H0 ρ σ F H} rel D P => P C σ F H gC rel
/-! ### things of ours change -/
theorem Rel.mut {K : PySem.W.Frag} {G H0 F H : Hp} {ρ : Ev} {σ : L2.St} {i : Nat} {r r' : R} {p : Addr} {o : HO} (rel : Rel K G H0 ρ σ F H) (h : ρ[i]? = some (some r)) (ho : r.isOwn = true) (hv : σ[i]? = some (some (.ref p))) (hF : F p = none)
    (q : Rep K F (upd H p o) (.ref p) r') (ho' : r'.isOwn = true) : Rel K G H0 (ρ.set i (some r')) σ F (upd H p o) := by
  have np : H0 p = none := rel.frs i _ p h ho hv
  have hl : i < ρ.length := by
    rcases Nat.lt_or_ge i ρ.length with z | z
    · exact z
    · rw [List.getElem?_eq_none z] at h; cases h
  have key : ∀ {j : Nat} {y : R}, (ρ.set i (some r'))[j]? = some (some y) → y.isOwn = true → ∃ y', ρ[j]? = some (some y') ∧ y'.isOwn = true := fun {j y} e oo => by
    by_cases z : i = j
    · subst z; exact ⟨r, h, ho⟩
    · rw [List.getElem?_set_ne z] at e
      exact ⟨y, e, oo⟩
  refine ⟨⟨rel.base.keep, fun b x e => ?_, fun b x e => ?_, rel.base.new⟩, by simp [rel.len], fun j y e => ?_, fun j y q e oo s => ?_, fun j k y z q e1 o1 e2 o2 s1 s2 => ?_⟩
  · rw [upd_ne (ne_of_none e np)]; exact rel.base.hh _ _ e
  · rw [upd_ne (ne_of_none e hF)]; exact rel.sub _ _ e
  · by_cases z : i = j
    · subst z
      rw [List.getElem?_set_self hl] at e
      cases e
      exact ⟨_, hv, q⟩
    · rw [List.getElem?_set_ne z] at e
      obtain ⟨w, a, b⟩ := rel.at_ j y e
      refine ⟨w, a, ?_⟩
      have other : ∀ a', w = .ref a' → y.isOwn = true → a' ≠ p := fun a' eq oo z2 =>
        z (rel.apart i j _ y p h ho e oo hv (by rw [a, eq, z2]))
      cases y with
      | val d => exact b
      | scr ns => exact b
      | raw u => exact b
      | dfz _ => exact b
      | own _ => obtain ⟨q, us, rfl, b1, b2, b3⟩ := b; exact ⟨q, us, rfl, by rw [upd_ne (other q rfl rfl)]; exact b1, b2, b3⟩
      | dct _ => obtain ⟨q, us, rfl, b1, b2, b3⟩ := b; exact ⟨q, us, rfl, by rw [upd_ne (other q rfl rfl)]; exact b1, b2, b3⟩
      | dck _ => obtain ⟨q, us, rfl, b1, b2, b3⟩ := b; exact ⟨q, us, rfl, by rw [upd_ne (other q rfl rfl)]; exact b1, b2, b3⟩
  · obtain ⟨y', a, b⟩ := key e oo
    exact rel.frs j y' q a b s
  · obtain ⟨y', a, b⟩ := key e1 o1
    obtain ⟨z', c, d⟩ := key e2 o2
    exact rel.apart j k y' z' q a b c d s1 s2
/-- x.append(e) -/
@[simp] def gApp (i : Nat) (f : Ev → Rs R) : Ev → RO := fun ρ => match ρ[i]? with
  | some (some (.own xs)) => onR ρ ((f ρ).bind R.d) fun d => if xs.length < lim then .nx (ρ.set i (some (.own (xs ++ [d])))) else .bad
  | _ => .bad
theorem es_app (i : Nat) {x : Str} {e : Expr} {te : TE} {f : Ev → Rs R} {p2 apos cpos : Pos} (he : EE X W e te f) (hN : X.N[i]? = some x := by rfl) (hv : Vis X.env.scope x := by first | exact Or.inl rfl | exact Or.inr (Or.inl rfl) | exact Or.inr (Or.inr rfl))
    (hd : (x == ("__debug__" : Str)) = false := by decide) (hcd : (x == ("__classdict__" : Str)) = false := by decide)
    (hbase : attributeBase (.Name x p2) "append" X.env (eval (.Name x p2) X.env) = eval (.Name x p2) X.env := by rfl)
    (hfew : ((backTo cpos (starEach [e] X.env)).all (fun x => !x.1) && (backToKw cpos (keywordEach [] X.env)).all (fun x => x.1.isSome)
      && decide (([e] : List Expr).length + ([] : List Keyword).length + (if ([] : List Keyword).isEmpty then 0 else 1) < 30)) = true := by rfl)
    (hline : (apos.endLine == cpos.line) = true := by rfl) (hs : starEach [e] X.env = (false, eval e X.env) :: starEach [] X.env := by rfl) (hplain : (backTo cpos (starEach [] X.env)).any (·.1) = false := by rfl)
    (hsw : swapsWith (.Call (.Attribute (.Name x p2) "append" apos) [e] [] cpos) none pos.line X.env = pure false := by rfl) :
    ES X W (.Expr (.Call (.Attribute (.Name x p2) "append" apos) [e] [] cpos) pos) (tDrop (tBM X.K "list" rAppend (tVar i) (tCons te tNil))) (gApp i f) where
  ps := ps_expr (pe_bm PySem.F.plainAttrs_list PySem.F.slot_list_append PySem.F.type_list_append mt_append (pe_var hN hv hd hcd) (pa_cons he.pe pa_nil hs) hbase hfew hline hs hplain) hsw
  sound := fun {G H0 ρ σ F H} rel D P => by
    unfold gApp at P
    split at P
    · rename_i xs h
      obtain ⟨v, hv, p, vs, rfl, hp, hF, r⟩ := rel.at_ i _ h
      refine ⟨_, hv, .inl ⟨rfl, vs, SqL.of hp⟩, he.sound rel _ (postS_data rel P fun d v F1 H1 e1 q1 P1 => ?_)⟩
      split at P1
      · rename_i hl
        have hp1 := e1.hh _ _ hp
        refine ⟨p, vs, v, rfl, rfl, hp1, by rw [r.len]; exact Nat.lt_trans hl lim_lt, P1 _ _ _ ((rel.step e1).mut h rfl hv (e1.own hp hF) ⟨p, _, rfl, upd_same, e1.own hp hF, (DDs.mono e1.ff _ _ r).app (.cons q1 .nil)⟩ rfl)⟩
      · exact P1.elim
    · exact P.elim
/-- x.extend(e) -/
@[simp] def gExt (i : Nat) (f : Ev → Rs R) : Ev → RO := fun ρ => match ρ[i]? with
  | some (some (.own xs)) => onR ρ ((f ρ).bind R.d) fun d => match d with
    | .list ys => if xs.length + ys.length ≤ lim then .nx (ρ.set i (some (.own (xs ++ ys)))) else .bad
    | _ => .bad
  | _ => .bad
theorem es_ext (i : Nat) {x : Str} {e : Expr} {te : TE} {f : Ev → Rs R} {p2 apos cpos : Pos} (he : EE X W e te f) (hN : X.N[i]? = some x := by rfl) (hv : Vis X.env.scope x := by first | exact Or.inl rfl | exact Or.inr (Or.inl rfl) | exact Or.inr (Or.inr rfl))
    (hd : (x == ("__debug__" : Str)) = false := by decide) (hcd : (x == ("__classdict__" : Str)) = false := by decide)
    (hbase : attributeBase (.Name x p2) "extend" X.env (eval (.Name x p2) X.env) = eval (.Name x p2) X.env := by rfl)
    (hfew : ((backTo cpos (starEach [e] X.env)).all (fun x => !x.1) && (backToKw cpos (keywordEach [] X.env)).all (fun x => x.1.isSome)
      && decide (([e] : List Expr).length + ([] : List Keyword).length + (if ([] : List Keyword).isEmpty then 0 else 1) < 30)) = true := by rfl)
    (hline : (apos.endLine == cpos.line) = true := by rfl) (hs : starEach [e] X.env = (false, eval e X.env) :: starEach [] X.env := by rfl) (hplain : (backTo cpos (starEach [] X.env)).any (·.1) = false := by rfl)
    (hsw : swapsWith (.Call (.Attribute (.Name x p2) "extend" apos) [e] [] cpos) none pos.line X.env = pure false := by rfl) :
    ES X W (.Expr (.Call (.Attribute (.Name x p2) "extend" apos) [e] [] cpos) pos) (tDrop (tBM X.K "list" rExtend (tVar i) (tCons te tNil))) (gExt i f) where
  ps := ps_expr (pe_bm PySem.F.plainAttrs_list PySem.F.slot_list_extend PySem.F.type_list_extend mt_extend (pe_var hN hv hd hcd) (pa_cons he.pe pa_nil hs) hbase hfew hline hs hplain) hsw
  sound := fun {G H0 ρ σ F H} rel D P => by
    unfold gExt at P
    split at P
    · rename_i xs h
      obtain ⟨v, hv, p, vs, rfl, hp, hF, r⟩ := rel.at_ i _ h
      refine ⟨_, hv, .inl ⟨rfl, vs, SqL.of hp⟩, he.sound rel _ (postS_data rel P fun d v F1 H1 e1 q1 P1 => ?_)⟩
      cases q1 with
      | @lst b ys ds hb w =>
        dsimp only at P1
        split at P1
        · rename_i hl
          have hp1 := e1.hh _ _ hp
          refine ⟨p, b, vs, ys, rfl, rfl, hp1, e1.sub _ _ hb, by rw [r.len, w.len]; exact Nat.le_trans hl lim_le, P1 _ _ _ ((rel.step e1).mut h rfl hv (e1.own hp hF) ⟨p, _, rfl, upd_same, e1.own hp hF, (DDs.mono e1.ff _ _ r).app w⟩ rfl)⟩
        · exact P1.elim
      | _ => exact P1.elim
    · exact P.elim
end

/-! ### a def by its body -/
def retOf : RO → Rs R
  | .nx _ => .ok (.val .none)
  | .ret r => .ok r
  | .exc c _ => .err c
  | .bad => .bad
@[simp] theorem retOf_nx (ρ : Ev) : retOf (.nx ρ) = .ok (.val .none) := rfl
@[simp] theorem retOf_ret (r : R) : retOf (.ret r) = .ok r := rfl
@[simp] theorem retOf_exc (c : Str) (ρ : Ev) : retOf (.exc c ρ) = .err c := rfl
@[simp] theorem retOf_bad : retOf .bad = .bad := rfl
/-- n slots in all -/
def startE (n : Nat) (rs : List R) : Ev := rs.map some ++ List.replicate (n - rs.length) none
def denB (n : Nat) (g : Ev → RO) (rs : List R) : Rs R := retOf (g (startE n rs))
theorem Args.get {K : PySem.W.Frag} {F H : Hp} : ∀ {vs : List V} {rs : List R} {i : Nat} {r : R}, Args K F H vs rs → rs[i]? = some r → ∃ v, vs[i]? = some v ∧ Rep K F H v r ∧ r.isOwn = false
  | _, _, _, _, .nil, e => by simp at e
  | _, _, 0, _, .cons r t, e => by simp at e; subst e; exact ⟨_, rfl, r⟩
  | _, _, i + 1, r, .cons _ t, e => by
    obtain ⟨v, h1, h2⟩ := Args.get (i := i) (r := r) t (by simpa using e)
    exact ⟨v, by simpa using h1, h2⟩
theorem startE_get {n i : Nat} {rs : List R} {r : R} (h : (startE n rs)[i]? = some (some r)) : rs[i]? = some r := by
  unfold startE at h
  by_cases hi : i < rs.length
  · rw [List.getElem?_append_left (by simpa using hi), List.getElem?_map] at h
    cases q : rs[i]? with
    | none => rw [q] at h; cases h
    | some y => rw [q] at h; simp at h; rw [h]
  · rw [List.getElem?_append_right (by simpa using hi), List.getElem?_replicate] at h
    split at h <;> simp at h
theorem rel_start {K : PySem.W.Frag} {F H : Hp} {N : List Str} {vs : List V} {rs : List R} (s : Same F H) (h : Args K F H vs rs) : Rel K F H (startE N.length rs) (L2.start N vs) F H where
  base := Base.refl s
  len := by simp [startE, L2.start, h.len]
  at_ := fun i r e => by
    have e := startE_get e
    obtain ⟨v, a, b, _⟩ := h.get e
    refine ⟨v, ?_, b⟩
    unfold L2.start
    have hi : i < vs.length := by
      rcases Nat.lt_or_ge i vs.length with z | z
      · exact z
      · rw [List.getElem?_eq_none z] at a; cases a
    rw [List.getElem?_append_left (by simpa using hi), List.getElem?_map, a]
    rfl
  frs := fun i r p e o _ => by
    obtain ⟨v, a, b, c⟩ := h.get (startE_get e)
    rw [c] at o; cases o
  apart := fun i j r r' p e o _ _ _ _ => by
    obtain ⟨v, a, b, c⟩ := h.get (startE_get e)
    rw [c] at o; cases o
section
variable {P : Program} {w : World} {K : PySem.W.Frag} {mg : Str → Option Value} {base : Heap}
theorem fn_den {x qual : Str} {st : Stmt} {f : Addr} {fd : FuncData} {N ps : List Str} {k n : Nat} {g : Ev → RO} (Fu : Fun K x qual st f fd) (S : FnScope N ps (defScope st)) (hn : ps.length = n)
    (hb : ∀ (cdv : Value) (A : Around) (outer : List Env) (s : Shared) (H : Hp) (E : XK), Room k (A.deeper (envOfC qual (defScope st) s.heap.objs.size f cdv)) →
      Takes (cxOf (L2.CX P w) P w K mg base N qual (defScope st) f cdv A outer s H E) (fun cls d _ H => E cls d H) →
      PassesOwn (model P w) (cxOf (L2.CX P w) P w K mg base N qual (defScope st) f cdv A outer s H E).A (cxOf (L2.CX P w) P w K mg base N qual (defScope st) f cdv A outer s H E).env (cxOf (L2.CX P w) P w K mg base N qual (defScope st) f cdv A outer s H E).xe →
      ∃ t, EB (cxOf (L2.CX P w) P w K mg base N qual (defScope st) f cdv A outer s H E) (fun cls d _ H => E cls d H) (defBody st) t g) :
    FnOk P w K mg base (L2.CX P w) (k + 1) f fd ps (spD K mg n (denB N.length g)) := by
  refine Fu.okX S (fun vs H Q E h => by rw [hn]; exact h.1) (fun cdv A outer s H vs Q E hr h => ?_)
  obtain ⟨hl, rs, F, sF, ha, hden⟩ := h
  obtain ⟨t, B⟩ := hb cdv A outer s H E hr (takes_of rfl rfl rfl rfl) (passes_of rfl)
  refine ⟨t, B.ps, B.sound (rel_start sF ha) _ ?_⟩
  unfold denB at hden
  cases hg : g (startE N.length rs) with
  | nx ρ =>
    rw [hg] at hden
    exact fun σ' F' H' r => hden .non F' H' (Base.ext sF r.base) (.val .non)
  | ret r =>
    rw [hg] at hden
    exact fun v F' H' e q => hden v F' H' (Base.ext sF e) q
  | exc c ρ =>
    rw [hg] at hden
    exact fun C σ' F' H' m r => hden C H' m r.base.hh
  | bad => rw [hg] at hden; exact hden.elim
end
end DN
/-! Den9: short forms for the generator. -/
namespace DN
open PySem PySem.Spec PyProof.Rows L2
theorem hu65_of {A : Around} {k : Nat} (hr : Room k A) : A.units + 65 < cLine := by
  have := hr.un
  omega
section
variable {X : Cx} {W : WX} {a b c e e2 tg : Expr} {es : List Expr} {ta tb tc te te2 : TE} {fa fb fc f f2 : Ev → Rs R} {pos p tpos : Pos} {mg : Str → Option Value}
/-- a test by a rule of its own over a value's reading -/
theorem et_of (hp : PT X e (tTest te)) (h : EE X W e te f) : ET X W e (tTest te) (fTest f) where
  pt := hp
  sound := fun rel Q P => h.sound rel _ (postB_data P fun d v F1 H1 e1 r1 P1 => by
    cases r1 <;> first
      | exact ⟨_, rfl, P1 _ _ (Ext.refl e1.sub)⟩
      | exact P1.elim)
theorem et_cmp {o : CmpOp} {r : R2} {op : PyData → PyData → Rs R} (ho : OpR X (compareOp o) r) (hd : OpD X.K X.mg W r op) (ha : EE X W a ta fa) (hb : EE X W b tb fb) (hm : behindInMarks o b = false) : ET X W (.Compare a [o] [b] pos) (tTest (tOp r ta tb)) (fTest (fOp op fa fb)) :=
  et_of (pt_cmpR ho ha.pe hb.pe hm) (ee_cmp ho hd ha hb hm)
theorem et_chain {o o' : CmpOp} {r r' : R2} {op op' : PyData → PyData → Rs R} (ho : OpR X (compareOp o) r) (ho' : OpR X (compareOp o') r') (hd : OpD X.K X.mg W r op) (hd' : OpD X.K X.mg W r' op') (ha : EE X W a ta fa) (hb : EE X W b tb fb) (hc : EE X W c tc fc)
    (hm : lastMarks [o, o'] [b, c] = false := by with_unfolding_all rfl) : ET X W (.Compare a [o, o'] [b, c] pos) (tTest (tChain r r' ta tb tc)) (fTest (fChain op op' fa fb fc)) :=
  et_of (pt_chain ho ho' ha.pe hb.pe hc.pe hm) (ee_chain ho ho' hd hd' ha hb hc hm)
/-! ### the same with the written part named: no context in the reading (for a comprehension's block) -/
variable (K : PySem.W.Frag)
theorem ek_add (ha : EE X W a ta fa) (hb : EE X W b tb fb) (hK : X.K = K := by rfl) : EE X W (.BinOp a .Add b pos) (tOp (rAddA K) ta tb) (fOp opAdd fa fb) := by
  subst hK; exact ee_op op_addA od_add ha hb
theorem ek_eq (hu : X.A.units + 64 < cLine) (ha : EE X W a ta fa) (hb : EE X W b tb fb) (hK : X.K = K := by rfl) : EE X W (.Compare a [.Eq] [b] pos) (tOp (rEqD K) ta tb) (fOp opEq fa fb) := by
  subst hK; exact ee_cmp (op_eqD hu) od_eq ha hb (nomark _)
theorem ek_ne (hu : X.A.units + 64 < cLine) (ha : EE X W a ta fa) (hb : EE X W b tb fb) (hK : X.K = K := by rfl) : EE X W (.Compare a [.NotEq] [b] pos) (tOp (rNeD K) ta tb) (fOp opNe fa fb) := by
  subst hK; exact ee_cmp (op_neD hu) od_ne ha hb (nomark _)
theorem ek_in (hu : X.A.units + 65 < cLine) (ha : EE X W a ta fa) (hb : EE X W b tb fb) (hm : behindInMarks .In b = false := by rfl) (hK : X.K = K := by rfl) : EE X W (.Compare a [.In] [b] pos) (tOp (rInA K) ta tb) (fOp opIn fa fb) := by
  subst hK; exact ee_cmp (op_inA hu) od_in ha hb hm
theorem ek_notIn (hu : X.A.units + 65 < cLine) (ha : EE X W a ta fa) (hb : EE X W b tb fb) (hm : behindInMarks .NotIn b = false := by rfl) (hK : X.K = K := by rfl) : EE X W (.Compare a [.NotIn] [b] pos) (tOp (rNotInA K) ta tb) (fOp opNotIn fa fb) := by
  subst hK; exact ee_cmp (op_notInA hu) od_notIn ha hb hm
theorem tk_eq (hu : X.A.units + 64 < cLine) (ha : EE X W a ta fa) (hb : EE X W b tb fb) (hK : X.K = K := by rfl) : ET X W (.Compare a [.Eq] [b] pos) (tTest (tOp (rEqD K) ta tb)) (fTest (fOp opEq fa fb)) := by
  subst hK; exact et_cmp (op_eqD hu) od_eq ha hb (nomark _)
theorem tk_ne (hu : X.A.units + 64 < cLine) (ha : EE X W a ta fa) (hb : EE X W b tb fb) (hK : X.K = K := by rfl) : ET X W (.Compare a [.NotEq] [b] pos) (tTest (tOp (rNeD K) ta tb)) (fTest (fOp opNe fa fb)) := by
  subst hK; exact et_cmp (op_neD hu) od_ne ha hb (nomark _)
theorem tk_in (hu : X.A.units + 65 < cLine) (ha : EE X W a ta fa) (hb : EE X W b tb fb) (hm : behindInMarks .In b = false := by rfl) (hK : X.K = K := by rfl) : ET X W (.Compare a [.In] [b] pos) (tTest (tOp (rInA K) ta tb)) (fTest (fOp opIn fa fb)) := by
  subst hK; exact et_cmp (op_inA hu) od_in ha hb hm
theorem tk_notIn (hu : X.A.units + 65 < cLine) (ha : EE X W a ta fa) (hb : EE X W b tb fb) (hm : behindInMarks .NotIn b = false := by rfl) (hK : X.K = K := by rfl) : ET X W (.Compare a [.NotIn] [b] pos) (tTest (tOp (rNotInA K) ta tb)) (fTest (fOp opNotIn fa fb)) := by
  subst hK; exact et_cmp (op_notInA hu) od_notIn ha hb hm
theorem ek_ix (ha : EE X W a ta fa) (hb : EE X W b tb fb) (hs : PlainIx b := by exact fun _ _ => rfl) (hK : X.K = K := by rfl) : EE X W (.Subscript a b pos) (tOp (rIx K) ta tb) (fOp opIx fa fb) := by
  subst hK; exact ee_ix ha hb hs
theorem ek_sl {lo hi : Option Expr} {tl th : TO} {fl fh : Ev → Rs (Option Int)} {p2 : Pos} (he : EE X W e te f) (hl : EO X W lo tl fl) (hh : EO X W hi th fh) (hK : X.K = K := by rfl) : EE X W (.Subscript e (.Slice lo hi none p2) pos) (tSl (rSlAll K) te tl th) (fSl f fl fh) := by
  subst hK; exact ee_sl he hl hh
theorem ek_isi {T : Str} {n : String} {p2 : Pos} (he : EE X W e te f) (hm : X.mg "isinstance" = none) (hT : X.mg T = none) (hb : bootBuiltins T = some (.type n)) (hg : Gl X "isinstance" := by rfl) (hgT : Gl X T := by rfl) (hn : T ≠ "__name__" := by decide) (hd : (T == ("__debug__" : Str)) = false := by decide)
    (hs1 : starEach [e, .Name T p2] X.env = (false, eval e X.env) :: starEach [.Name T p2] X.env := by rfl) (hs2 : starEach [.Name T p2] X.env = (false, eval (.Name T p2) X.env) :: starEach [] X.env := by rfl) (hpl : (backTo pos (starEach [.Name T p2] X.env)).any (·.1) = false := by rfl) (hK : X.K = K := by rfl) :
    EE X W (.Call (.Name "isinstance" p) [e, .Name T p2] [] pos) (tCB (rIsi K) (tCons te (tCons (tC (.ty n)) tNil))) (fUn (isiD n) f) := by
  subst hK; exact ee_isi he hm hT hb hg hgT hn hd hs1 hs2 hpl
theorem ek_call {k n : Nat} {fn : Addr} {fd : FuncData} {ps : List Str} {den : List R → Rs R} {x : Str} {t : TA} {fr : Ev → Rs (List R)} (Fn : FnOk X.prog X.w K mg X.base (L2.CX X.prog X.w) k fn fd ps (spD K mg n den)) (hr : Room k X.A) (hm : mg x = some (.ref fn))
    (hk : PySem.W.keepIn K (.ref fn) = true) (hb : Binds K fd ps []) (tk : Takes X W) (ha : EA X W (e :: es) t fr) (hn : (e :: es).length = n := by rfl) (hg : Gl X x := by rfl)
    (hdb : (x == ("__debug__" : Str)) = false := by decide) (he : starEach (e :: es) X.env = (false, eval e X.env) :: starEach es X.env := by rfl) (hpl : (backTo pos (starEach es X.env)).any (·.1) = false := by rfl) (hK : X.K = K := by rfl) (hmg : X.mg = mg := by rfl) :
    EE X W (.Call (.Name x p) (e :: es) [] pos) (tCallS (spD K mg n den) (WE W) t) (fCall den fr) := by
  subst hK hmg; exact ee_call Fn hr hm hk hb tk ha hn hg hdb he hpl
section
variable {x : Str} {t : TA} {fr : Ev → Rs (List PyData)}
theorem ek_len (hm : X.mg "len" = none) (ha : ED X W (e :: es) t fr) (hg : Gl X "len" := by rfl)
    (he : starEach (e :: es) X.env = (false, eval e X.env) :: starEach es X.env := by rfl) (hpl : (backTo pos (starEach es X.env)).any (·.1) = false := by rfl) (hK : X.K = K := by rfl) :
    EE X W (.Call (.Name "len" p) (e :: es) [] pos) (tCB (fun xs H Q => ∃ x n, xs = [x] ∧ LenV K x H n ∧ Q (.int n) H) t) (fBi biLen fr) := by
  subst hK; exact ee_callB call_len bd_len hm PySem.boot_len ha hg (by decide) (by decide) he hpl
theorem ek_all (hm : X.mg "all" = none) (ha : ED X W (e :: es) t fr) (hg : Gl X "all" := by rfl) (hc : X.calm = true := by rfl)
    (he : starEach (e :: es) X.env = (false, eval e X.env) :: starEach es X.env := by rfl) (hpl : (backTo pos (starEach es X.env)).any (·.1) = false := by rfl) (hK : X.K = K := by rfl) :
    EE X W (.Call (.Name "all" p) (e :: es) [] pos) (tCB (rAll K) t) (fBi biAll fr) := by
  subst hK; exact ee_callB (cr_all hc) bd_all hm (by decide +kernel) ha hg (by decide) (by decide) he hpl
theorem ek_any (hm : X.mg "any" = none) (ha : ED X W (e :: es) t fr) (hg : Gl X "any" := by rfl) (hc : X.calm = true := by rfl)
    (he : starEach (e :: es) X.env = (false, eval e X.env) :: starEach es X.env := by rfl) (hpl : (backTo pos (starEach es X.env)).any (·.1) = false := by rfl) (hK : X.K = K := by rfl) :
    EE X W (.Call (.Name "any" p) (e :: es) [] pos) (tCB (rAny K) t) (fBi biAny fr) := by
  subst hK; exact ee_callB (cr_any hc) bd_any hm (by decide +kernel) ha hg (by decide) (by decide) he hpl
theorem ek_list (hm : X.mg "list" = none) (ha : ED X W (e :: es) t fr) (hg : Gl X "list" := by rfl)
    (he : starEach (e :: es) X.env = (false, eval e X.env) :: starEach es X.env := by rfl) (hpl : (backTo pos (starEach es X.env)).any (·.1) = false := by rfl) (hK : X.K = K := by rfl) :
    EE X W (.Call (.Name "list" p) (e :: es) [] pos) (tCB (fun xs H Q => ∃ p ys, xs = [.ref p] ∧ (SqL K H p ys ∨ SqT K H p ys) ∧ ∀ l, H l = none → Q (.ref l) (upd H l (.lst ys))) t) (fBi biList fr) := by
  subst hK; exact ee_callTy call_list_of bd_list hm (by decide +kernel) ha hg (by decide) (by decide) he hpl
theorem ek_tuple (hm : X.mg "tuple" = none) (ha : ED X W (e :: es) t fr) (hg : Gl X "tuple" := by rfl)
    (he : starEach (e :: es) X.env = (false, eval e X.env) :: starEach es X.env := by rfl) (hpl : (backTo pos (starEach es X.env)).any (·.1) = false := by rfl) (hK : X.K = K := by rfl) :
    EE X W (.Call (.Name "tuple" p) (e :: es) [] pos) (tCB (fun xs H Q => ∃ p ys, xs = [.ref p] ∧ ((SqL K H p ys ∧ ∀ l, H l = none → Q (.ref l) (upd H l (.tup ys))) ∨ (SqT K H p ys ∧ Q (.ref p) H))) t) (fBi biTuple fr) := by
  subst hK; exact ee_callTy call_tuple_of bd_tuple hm (by decide +kernel) ha hg (by decide) (by decide) he hpl
end
theorem ik_seq (h : EE X W e te f) (hK : X.K = K := by rfl) : EI X W tg e (fun σ H R => iList K te σ H R ∨ iTup K te σ H R) (fSeq f) := by
  subst hK; exact ei_seq h
theorem ik_enum {elts : List Expr} {kk : Nat} (h : EE X W e te f) (hm : X.mg "enumerate" = none) (hg : Gl X "enumerate" := by rfl) (hs : starEach [e] X.env = [(false, eval e X.env)] := by rfl) (hK : X.K = K := by rfl) :
    EI X W (.Tuple elts kk tpos) (.Call (.Name "enumerate" p) [e] [] pos) (iEnumK K (tCons te tNil)) (fEnum f) := by
  subst hK; exact ei_enum h hm hg hs
theorem ik_zip {elts : List Expr} {kk : Nat} (h : EE X W e te f) (h2 : EE X W e2 te2 f2) (hm : X.mg "zip" = none) (hg : Gl X "zip" := by rfl) (hs : starEach [e, e2] X.env = (false, eval e X.env) :: starEach [e2] X.env := by rfl) (hs2 : starEach [e2] X.env = (false, eval e2 X.env) :: starEach [] X.env := by rfl)
    (hpl : (backTo pos (starEach [e2] X.env)).any (·.1) = false := by rfl) (hK : X.K = K := by rfl) :
    EI X W (.Tuple elts kk tpos) (.Call (.Name "zip" p) [e, e2] [] pos) (iZipK K (tCons te (tCons te2 tNil))) (fZip f f2) := by
  subst hK; exact ei_zip h h2 hm hg hs hs2 hpl
theorem gk_tup {k n : Nat} {gs : TGs} {is : List Nat} {ts : List PyData → Ev → Rs Ev} (h : EGs X es gs n is ts) (hc : X.calm = true := by rfl)
    (hn : (assignEach es X.env).length = n := by rfl) (hst : (assignEach es X.env).findIdx? (·.1) = none := by rfl) (hK : X.K = K := by rfl) : EG X (.Tuple es k pos) (gTup K n gs) is (tTupl ts) := by
  subst hK; exact eg_tup h hc hn hst
end
end DN
/-! Den10: the script, x = [..] on one line, calls without arguments, repetitions, sums. -/
namespace DN
open PySem PySem.Spec PyProof.Rows L2

section
variable {X : Cx} {W : WX} {a b c e e2 tg : Expr} {es : List Expr} {ta tb tc te te2 : TE} {fa fb fc f f2 : Ev → Rs R} {pos p tpos : Pos} {mg : Str → Option Value}
variable (K : PySem.W.Frag)
/-! ### the script -/
@[simp] def fSix (i : Nat) (fb : Ev → Rs R) : Ev → Rs R := fun ρ => match ρ[i]? with
  | some (some (.scr ns)) => (fb ρ).bind fun r => r.d.bind fun x => match x with
    | .int j => match atI ns j with
      | some n => .ok (.val (.int n))
      | none => .bad
    | _ => .bad
  | _ => .bad
theorem atI_map {α β : Type} (g : α → β) (xs : List α) (i : Int) : atI (xs.map g) i = (atI xs i).map g := by
  unfold atI
  rw [List.length_map]
  cases ixN xs.length i with
  | none => rfl
  | some j => simp
theorem ek_six (i : Nat) {x : Str} {p2 : Pos} (hb : EE X W b tb fb) (hN : X.N[i]? = some x := by rfl) (hv : Vis X.env.scope x := by first | exact Or.inl rfl | exact Or.inr (Or.inl rfl) | exact Or.inr (Or.inr rfl)) (hd : (x == ("__debug__" : Str)) = false := by decide)
    (hcd : (x == ("__classdict__" : Str)) = false := by decide) (hs : PlainIx b := by exact fun _ _ => rfl) (hK : X.K = K := by rfl) : EE X W (.Subscript (.Name x p2) b pos) (tOp (rIxL K) (tVar i) tb) (fSix i fb) := by
  subst hK
  refine ⟨pe_ix ix_list (pe_var hN hv hd hcd) hb.pe hs, fun {G H0 ρ σ F H} rel Q P => ?_⟩
  unfold fSix at P
  split at P
  · rename_i ns h
    obtain ⟨v, hv, a, rfl, q⟩ := rel.at_ i _ h
    refine ⟨_, hv, hb.sound rel _ (post_data P fun d v F1 H1 e1 r1 P1 => ?_)⟩
    cases r1 with
    | int j =>
      dsimp only at P1
      split at P1
      · rename_i n hn
        exact ⟨a, _, j, .int n, rfl, rfl, (rel.sub.trans e1.hh).seq q, by rw [atI_map, hn]; rfl, post_flat e1.sub (.int n) P1⟩
      · exact P1.elim
    | _ => exact P1.elim
  · exact P.elim
@[simp] def fSlen (i : Nat) : Ev → Rs R := fun ρ => match ρ[i]? with
  | some (some (.scr ns)) => .ok (.val (.int ns.length))
  | _ => .bad
theorem ek_slen (i : Nat) {x : Str} {p2 : Pos} (hm : X.mg "len" = none) (hN : X.N[i]? = some x := by rfl) (hv : Vis X.env.scope x := by first | exact Or.inl rfl | exact Or.inr (Or.inl rfl) | exact Or.inr (Or.inr rfl)) (hd : (x == ("__debug__" : Str)) = false := by decide)
    (hcd : (x == ("__classdict__" : Str)) = false := by decide) (hg : Gl X "len" := by rfl)
    (he : starEach [.Name x p2] X.env = (false, eval (.Name x p2) X.env) :: starEach [] X.env := by rfl) (hpl : (backTo pos (starEach [] X.env)).any (·.1) = false := by rfl) (hK : X.K = K := by rfl) :
    EE X W (.Call (.Name "len" p) [.Name x p2] [] pos) (tCB (fun xs H Q => ∃ x n, xs = [x] ∧ LenV K x H n ∧ Q (.int n) H) (tCons (tVar i) tNil)) (fSlen i) := by
  subst hK
  refine ⟨pe_callB call_len hg hm PySem.boot_len (pa_cons (pe_var hN hv hd hcd) pa_nil he) (by decide) (by decide) he hpl, fun {G H0 ρ σ F H} rel Q P => ?_⟩
  unfold fSlen at P
  split at P
  · rename_i ns h
    obtain ⟨v, hv, a, rfl, q⟩ := rel.at_ i _ h
    exact ⟨_, hv, _, _, rfl, .inl ⟨_, rel.sub.seq q, rfl⟩, by rw [List.length_map]; exact post_flat rel.sub (.int _) P⟩
  · exact P.elim
theorem shaped_ints (ns : List Int) : SeqAt.shaped (.list (ns.map .int)) = true := by
  have h1 : ∀ l : List Int, PyData.canLayAll0 (l.map .int) = true := fun l => by
    induction l with
    | nil => rfl
    | cons x r ih => simp [PyData.canLayAll0, PyData.canLay0, ih]
  have h2 : ∀ l : List Int, PyData.depthAll (l.map .int) = 0 := fun l => by
    induction l with
    | nil => rfl
    | cons x r ih => simp [PyData.depthAll, PyData.depth, ih]
  unfold SeqAt.shaped
  simp [PyData.canLay0, PyData.depth, h1, h2]
theorem dp_ints {H : Hp} {a : Addr} {ns : List Int} (h : SqL K H a (ns.map V.int)) : Dp K H (.ref a) (.list (ns.map .int)) := by
  refine .lst h ?_
  have : ∀ l : List Int, DpAll K H (l.map V.int) (l.map PyData.int) := fun l => by
    induction l with
    | nil => exact .nil
    | cons x r ih => exact .cons (.int x) ih
  exact this ns
@[simp] def fSne (i : Nat) : Ev → Rs Bool := fun ρ => match ρ[i]? with
  | some (some (.scr ns)) => .ok (!ns.isEmpty)
  | _ => .bad
theorem tk_sne (i : Nat) {x : Str} {p2 p3 : Pos} (hu : X.A.units + 64 < cLine) (hN : X.N[i]? = some x := by rfl) (hv : Vis X.env.scope x := by first | exact Or.inl rfl | exact Or.inr (Or.inl rfl) | exact Or.inr (Or.inr rfl)) (hd : (x == ("__debug__" : Str)) = false := by decide)
    (hcd : (x == ("__classdict__" : Str)) = false := by decide) (hK : X.K = K := by rfl) :
    ET X W (.Compare (.Name x p2) [.NotEq] [.List [] p3] pos) (tTest (tOp (rNeD K) (tVar i) (tLst tNil))) (fSne i) := by
  subst hK
  refine ⟨pt_cmpR (op_neD hu) (pe_var hN hv hd hcd) (pe_lst pa_nil) (nomark _), fun {G H0 ρ σ F H} rel Q P => ?_⟩
  unfold fSne at P
  split at P
  · rename_i ns h
    obtain ⟨v, hv, a, rfl, q⟩ := rel.at_ i _ h
    refine ⟨_, hv, Nat.zero_le _, fun l nl => ?_⟩
    refine ⟨_, _, dp_ints _ ((rel.sub.trans (same_new nl)).seq q), .lst (SqL.of upd_same) .nil, shaped_ints ns, by decide, _, rfl, ?_⟩
    have e : (!PyData.eqv (.list (ns.map .int)) (.list [])) = !ns.isEmpty := by
      cases ns with
      | nil => rfl
      | cons x r => rfl
    rw [e]
    exact P _ _ (Ext.addH rel.sub nl)
  · exact P.elim
/-! ### x = [..] on one line -/
theorem es_setLcF (i : Nat) {y : Str} {py : Pos} {elt tg iter : Expr} {ifs : List Expr} {scope : Scope} {own : List (Str × Nat)} {spos : Pos} {wi : TI} {g : TG} {tt : TT} {te : TE} {is : List Nat} {fi : Ev → Rs (List PyData)} {ft : PyData → Ev → Rs Ev} {fc : Ev → Rs Bool} {fe : Ev → Rs R}
    (hN : X.N.Nodup) (hi : EI X W tg iter wi fi) (ok : BlkOk X.N X.env.scope scope own)
    (hg : ∀ (s : Shared) (H : Hp) (C : Addr) (cl : List (Str × Addr)) (fp : List Addr), EG (X.blk s H scope (compEnvC scope cl C X.env) fp) tg g is ft)
    (ht : ∀ (s : Shared) (H : Hp) (C : Addr) (cl : List (Str × Addr)) (fp : List Addr), ETs (X.blk s H scope (compEnvC scope cl C X.env) fp) W0 ifs tt fc)
    (he : ∀ (s : Shared) (H : Hp) (C : Addr) (cl : List (Str × Addr)) (fp : List Addr), EE (X.blk s H scope (compEnvC scope cl C X.env) fp) W0 elt te fe)
    (hsub : ∀ i ∈ is, i ∈ own.map (·.2) := by decide) (hc : X.calm = true := by rfl) (hs : ∀ x, foldedSetIterable iter X.env x = pure x := by intro _; rfl)
    (hy : X.N[i]? = some y := by rfl) (hyl : X.env.scope.names.lookup y = some .local := by rfl) (hk : X.env.scope.kind = .function := by rfl) (hl : (py.line == pos.line) = true := by rfl)
    (ha : (scope.names.any fun (n, k) => n == y && (k == .local || k == .cell)) = false := by decide +kernel) :
    ES X W (.Assign [.Name y py] (.ListComp elt [⟨tg, iter, ifs, 0⟩] scope pos) spos) (tAsg (tLc wi g tt te (own.map (·.2))) (gName i)) (gAsgF i (fLc (own.map (·.2)) fi ft fc fe)) :=
  es_asgPF (ps_setLc hc hN hy hyl (sw_true hk hyl hl ha) hi.pi ok (fun s H C cl fp => (hg s H C cl fp).pg) (fun s H C cl fp => (ht s H C cl fp).pts) (fun s H C cl fp => (he s H C cl fp).pe) hs)
    (ee_lc (pos := pos) hN hi ok hg ht he hsub hc hs)
theorem es_setLc (i : Nat) {y : Str} {py : Pos} {elt tg iter : Expr} {ifs : List Expr} {scope : Scope} {own : List (Str × Nat)} {spos : Pos} {wi : TI} {g : TG} {tt : TT} {te : TE} {is : List Nat} {fi : Ev → Rs (List PyData)} {ft : PyData → Ev → Rs Ev} {fc : Ev → Rs Bool} {fe : Ev → Rs R}
    (hN : X.N.Nodup) (hi : EI X W tg iter wi fi) (ok : BlkOk X.N X.env.scope scope own)
    (hg : ∀ (s : Shared) (H : Hp) (C : Addr) (cl : List (Str × Addr)) (fp : List Addr), EG (X.blk s H scope (compEnvC scope cl C X.env) fp) tg g is ft)
    (ht : ∀ (s : Shared) (H : Hp) (C : Addr) (cl : List (Str × Addr)) (fp : List Addr), ETs (X.blk s H scope (compEnvC scope cl C X.env) fp) W0 ifs tt fc)
    (he : ∀ (s : Shared) (H : Hp) (C : Addr) (cl : List (Str × Addr)) (fp : List Addr), EE (X.blk s H scope (compEnvC scope cl C X.env) fp) W0 elt te fe)
    (hsub : ∀ i ∈ is, i ∈ own.map (·.2) := by decide) (hc : X.calm = true := by rfl) (hs : ∀ x, foldedSetIterable iter X.env x = pure x := by intro _; rfl)
    (hy : X.N[i]? = some y := by rfl) (hyl : X.env.scope.names.lookup y = some .local := by rfl) (hk : X.env.scope.kind = .function := by rfl) (hl : (py.line == pos.line) = true := by rfl)
    (ha : (scope.names.any fun (n, k) => n == y && (k == .local || k == .cell)) = false := by decide +kernel) :
    ES X W (.Assign [.Name y py] (.ListComp elt [⟨tg, iter, ifs, 0⟩] scope pos) spos) (tAsg (tLc wi g tt te (own.map (·.2))) (gName i)) (gAsg i (fLc (own.map (·.2)) fi ft fc fe)) :=
  es_asgP (ps_setLc hc hN hy hyl (sw_true hk hyl hl ha) hi.pi ok (fun s H C cl fp => (hg s H C cl fp).pg) (fun s H C cl fp => (ht s H C cl fp).pts) (fun s H C cl fp => (he s H C cl fp).pe) hs)
    (ee_lc (pos := pos) hN hi ok hg ht he hsub hc hs)
/-! ### f() -/
theorem ek_call0 {k : Nat} {fn : Addr} {fd : FuncData} {ps : List Str} {den : List R → Rs R} {x : Str} (Fn : FnOk X.prog X.w K mg X.base (L2.CX X.prog X.w) k fn fd ps (spD K mg 0 den)) (hr : Room k X.A) (hm : mg x = some (.ref fn))
    (hk : PySem.W.keepIn K (.ref fn) = true) (hb : Binds K fd ps []) (tk : Takes X W) (hW : ∀ c d σ σ' H, W c d σ H → W c d σ' H := by exact fun _ _ _ _ _ h => h) (hg : Gl X x := by rfl)
    (hdb : (x == ("__debug__" : Str)) = false := by decide) (hK : X.K = K := by rfl) (hmg : X.mg = mg := by rfl) :
    EE X W (.Call (.Name x p) [] [] pos) (tCall (spD K mg 0 den) [] (fun c d H => ∀ σ, W c d σ H) tNil) (fun _ => den []) := by
  subst hK hmg
  exact ee_call0 Fn hr hm hk hb _ (passes_call tk fun c d σ H h => h σ) (fun c d σ H h σ' => hW c d σ σ' H h) hg hdb
/-! ### repetitions -/
def opRepT : PyData → PyData → Rs R
  | .tuple xs, .int k => if xs ≠ [] ∧ 2 ≤ k ∧ k ≤ 1000 ∧ xs.length ≤ 1000 then .ok (.val (.tuple (List.replicate k.toNat xs).flatten)) else .bad
  | _, _ => .bad
theorem DDs.rep {F : Hp} {vs : List V} {ds : List PyData} (r : DDs F vs ds) : ∀ k : Nat, DDs F (List.replicate k vs).flatten (List.replicate k ds).flatten
  | 0 => .nil
  | k + 1 => by
    rw [List.replicate_succ, List.replicate_succ, List.flatten_cons, List.flatten_cons]
    exact r.app (DDs.rep r k)
theorem ek_repT (ha : EE X W a ta fa) (hb : EE X W b tb fb) (hK : X.K = K := by rfl) : EE X W (.BinOp a .Mult b pos) (tOp (rRepT K) ta tb) (fOp opRepT fa fb) := by
  subst hK
  refine ee_op op_repT (fun {σ F H Q v u x y} s a b P => ?_) ha hb
  unfold opRepT at P
  cases a with
  | @tup p xs ds h r =>
    cases b with
    | int k =>
      dsimp only at P
      split at P
      · rename_i hc
        refine ⟨_, k, xs, rfl, rfl, SqT.of (s _ _ h), fun z => hc.1 ?_, hc.2.1, hc.2.2.1, by rw [r.len]; exact hc.2.2.2, new_tup s (r.rep _) P⟩
        subst z
        cases r
        rfl
      · exact P.elim
    | _ => exact P.elim
  | _ => cases b <;> exact P.elim
def opRepL : PyData → PyData → Rs R
  | .list xs, .int k => if k.natAbs ≤ 1000000 ∧ xs.length * k.toNat ≤ lim then .ok (.own (List.replicate k.toNat xs).flatten) else .bad
  | _, _ => .bad
theorem ek_repL (ha : EE X W a ta fa) (hb : EE X W b tb fb) : EE X W (.BinOp a .Mult b pos) (tOp rRep ta tb) (fOp opRepL fa fb) := by
  refine ee_op op_rep (fun {σ F H Q v u x y} s a b P => ?_) ha hb
  unfold opRepL at P
  cases a with
  | @lst p xs ds h r =>
    cases b with
    | int k =>
      dsimp only at P
      split at P
      · rename_i hc
        exact ⟨_, k, xs, rfl, rfl, s _ _ h, by omega, by omega, by rw [r.len]; exact Nat.le_trans hc.2 lim_le, new_lst s (r.rep _) P⟩
      · exact P.elim
    | _ => exact P.elim
  | _ => cases b <;> exact P.elim
/-! ### sum, max, min of a list of ints -/
def asIs : List PyData → Option (List Int)
  | [] => some []
  | .int b :: r => (asIs r).map (b :: ·)
  | _ => none
theorem asIs_eq : ∀ {ds : List PyData} {bs : List Int}, asIs ds = some bs → ds = bs.map PyData.int
  | [], _, h => by simp [asIs] at h; subst h; rfl
  | d :: r, bs, h => by
    cases d <;> simp [asIs] at h
    obtain ⟨a, h1, rfl⟩ := h
    rw [asIs_eq h1]; rfl
@[simp] theorem asIs_map (bs : List Int) : asIs (bs.map PyData.int) = some bs := by
  induction bs with
  | nil => rfl
  | cons b r ih => simp [asIs, ih]
def biSum : List PyData → Rs R
  | [.list ds] => match asIs ds with
    | some bs => .ok (.val (.int bs.sum))
    | none => .bad
  | _ => .bad
def maxOf : List Int → Int
  | [] => 0
  | [x] => x
  | x :: r => max x (maxOf r)
def minOf : List Int → Int
  | [] => 0
  | [x] => x
  | x :: r => min x (minOf r)
theorem maxOf_spec : ∀ (ns : List Int), ns ≠ [] → maxOf ns ∈ ns ∧ ∀ y ∈ ns, y ≤ maxOf ns
  | [], h => absurd rfl h
  | [x], _ => by simp [maxOf]
  | x :: y :: r, _ => by
    have ih := maxOf_spec (y :: r) (by simp)
    show max x (maxOf (y :: r)) ∈ _ ∧ ∀ z ∈ _, z ≤ max x (maxOf (y :: r))
    refine ⟨?_, fun z hz => ?_⟩
    · rcases Int.le_total x (maxOf (y :: r)) with h | h
      · rw [Int.max_eq_right h]; exact List.mem_cons_of_mem _ ih.1
      · rw [Int.max_eq_left h]; exact List.mem_cons_self
    · rcases List.mem_cons.mp hz with rfl | h
      · exact Int.le_max_left _ _
      · exact Int.le_trans (ih.2 z h) (Int.le_max_right _ _)
theorem minOf_spec : ∀ (ns : List Int), ns ≠ [] → minOf ns ∈ ns ∧ ∀ y ∈ ns, minOf ns ≤ y
  | [], h => absurd rfl h
  | [x], _ => by simp [minOf]
  | x :: y :: r, _ => by
    have ih := minOf_spec (y :: r) (by simp)
    show min x (minOf (y :: r)) ∈ _ ∧ ∀ z ∈ _, min x (minOf (y :: r)) ≤ z
    refine ⟨?_, fun z hz => ?_⟩
    · rcases Int.le_total x (minOf (y :: r)) with h | h
      · rw [Int.min_eq_left h]; exact List.mem_cons_self
      · rw [Int.min_eq_right h]; exact List.mem_cons_of_mem _ ih.1
    · rcases List.mem_cons.mp hz with rfl | h
      · exact Int.min_le_left _ _
      · exact Int.le_trans (Int.min_le_right _ _) (ih.2 z h)
def biMax : List PyData → Rs R
  | [.list ds] => match asIs ds with
    | some bs => if bs = [] then .bad else .ok (.val (.int (maxOf bs)))
    | none => .bad
  | _ => .bad
def biMin : List PyData → Rs R
  | [.list ds] => match asIs ds with
    | some bs => if bs = [] then .bad else .ok (.val (.int (minOf bs)))
    | none => .bad
  | _ => .bad
theorem bd_sum : BiD X.K X.mg W (rSum X.K) biSum := fun {σ F H Q vs ds} s r P => by
  match ds, r with
  | [], .nil => exact P.elim
  | [_], .cons h .nil =>
    unfold biSum at P
    cases h with
    | @lst p xs ds h r =>
      dsimp only at P
      split at P
      · rename_i bs hb
        have e := asIs_eq hb
        subst e
        have e2 := r.ofInts
        subst e2
        exact ⟨_, bs, rfl, SqL.of (s _ _ h), post_flat s (.int _) P⟩
      · exact P.elim
    | _ => exact P.elim
  | _ :: _ :: _, .cons h (.cons _ _) => cases h <;> exact P.elim
theorem bd_max : BiD X.K X.mg W (rMax X.K) biMax := fun {σ F H Q vs ds} s r P => by
  match ds, r with
  | [], .nil => exact P.elim
  | [_], .cons h .nil =>
    unfold biMax at P
    cases h with
    | @lst p xs ds h r =>
      dsimp only at P
      split at P
      · rename_i bs hb
        split at P
        · exact P.elim
        · rename_i hne
          have e := asIs_eq hb
          subst e
          have e2 := r.ofInts
          subst e2
          refine ⟨_, bs, rfl, SqL.of (s _ _ h), List.length_pos_iff.mpr hne, fun m hm hy => ?_⟩
          have sp := maxOf_spec bs hne
          have : m = maxOf bs := Int.le_antisymm (sp.2 m hm) (hy _ sp.1)
          subst this
          exact post_flat s (.int _) P
      · exact P.elim
    | _ => exact P.elim
  | _ :: _ :: _, .cons h (.cons _ _) => cases h <;> exact P.elim
theorem bd_min : BiD X.K X.mg W (rMin X.K) biMin := fun {σ F H Q vs ds} s r P => by
  match ds, r with
  | [], .nil => exact P.elim
  | [_], .cons h .nil =>
    unfold biMin at P
    cases h with
    | @lst p xs ds h r =>
      dsimp only at P
      split at P
      · rename_i bs hb
        split at P
        · exact P.elim
        · rename_i hne
          have e := asIs_eq hb
          subst e
          have e2 := r.ofInts
          subst e2
          refine ⟨_, bs, rfl, SqL.of (s _ _ h), List.length_pos_iff.mpr hne, fun m hm hy => ?_⟩
          have sp := minOf_spec bs hne
          have : m = minOf bs := Int.le_antisymm (hy _ sp.1) (sp.2 m hm)
          subst this
          exact post_flat s (.int _) P
      · exact P.elim
    | _ => exact P.elim
  | _ :: _ :: _, .cons h (.cons _ _) => cases h <;> exact P.elim
section
variable {t : TA} {fr : Ev → Rs (List PyData)}
theorem ek_sum (hm : X.mg "sum" = none) (ha : ED X W (e :: es) t fr) (hg : Gl X "sum" := by rfl) (hc : X.calm = true := by rfl)
    (he : starEach (e :: es) X.env = (false, eval e X.env) :: starEach es X.env := by rfl) (hpl : (backTo pos (starEach es X.env)).any (·.1) = false := by rfl) (hK : X.K = K := by rfl) :
    EE X W (.Call (.Name "sum" p) (e :: es) [] pos) (tCB (rSum K) t) (fBi biSum fr) := by
  subst hK; exact ee_callB (cr_sum hc) bd_sum hm (by decide +kernel) ha hg (by decide) (by decide) he hpl
theorem ek_max (hm : X.mg "max" = none) (ha : ED X W (e :: es) t fr) (hg : Gl X "max" := by rfl) (hc : X.calm = true := by rfl)
    (he : starEach (e :: es) X.env = (false, eval e X.env) :: starEach es X.env := by rfl) (hpl : (backTo pos (starEach es X.env)).any (·.1) = false := by rfl) (hK : X.K = K := by rfl) :
    EE X W (.Call (.Name "max" p) (e :: es) [] pos) (tCB (rMax K) t) (fBi biMax fr) := by
  subst hK; exact ee_callB (cr_max hc) bd_max hm (by decide +kernel) ha hg (by decide) (by decide) he hpl
theorem ek_min (hm : X.mg "min" = none) (ha : ED X W (e :: es) t fr) (hg : Gl X "min" := by rfl) (hc : X.calm = true := by rfl)
    (he : starEach (e :: es) X.env = (false, eval e X.env) :: starEach es X.env := by rfl) (hpl : (backTo pos (starEach es X.env)).any (·.1) = false := by rfl) (hK : X.K = K := by rfl) :
    EE X W (.Call (.Name "min" p) (e :: es) [] pos) (tCB (rMin K) t) (fBi biMin fr) := by
  subst hK; exact ee_callB (cr_min hc) bd_min hm (by decide +kernel) ha hg (by decide) (by decide) he hpl
end
/-- a statement that the proof never comes to -/
theorem es_never {st : Stmt} : ES X W st tNever (fun _ => .bad) := ⟨ps_never, fun rel D P => P⟩
end
end DN
/-! Den11: comprehensions with two clauses. -/
namespace DN
open PySem PySem.Spec PyProof.Rows L2
/-- the heap turned at one place D that no slot holds -/
theorem Rel.turn {K : PySem.W.Frag} {G H0 F H F' H' : Hp} {ρ : Ev} {σ : L2.St} (r : Rel K G H0 ρ σ F H) (D : Addr) (ff : Same F F') (hh : ∀ b o, b ≠ D → H b = some o → H' b = some o) (h0 : H0 D = none) (sub : Same F' H') (new : ∀ a, F' a ≠ none → F a ≠ none ∨ Okn H a)
    (no : ∀ (i : Nat) (x : R), ρ[i]? = some (some x) → x.isOwn = true → σ[i]? ≠ some (some (.ref D))) : Rel K G H0 ρ σ F' H' where
  base := ⟨r.base.keep.trans ff, fun b o e => hh b o (ne_of_none e h0) (r.base.hh _ _ e), sub, fun x q => by
    rcases new x q with h | h
    · exact r.base.new x h
    · exact .inr (h.back r.base.hh)⟩
  len := r.len
  at_ := fun i x h => by
    obtain ⟨v, a, b⟩ := r.at_ i x h
    refine ⟨v, a, ?_⟩
    have fr : ∀ {p : Addr} {o : HO}, H p = some o → F p = none → (∀ xs, o ≠ .tup xs) → F' p = none := fun {p o} hp n ho => by
      cases q : F' p with
      | none => rfl
      | some y =>
        rcases new p (by rw [q]; exact fun z => nomatch z) with h | h
        · exact absurd n h
        · obtain ⟨xs, z⟩ := h _ hp
          exact absurd z (ho xs)
    cases x with
    | val d => exact DD.mono ff _ _ b
    | own xs =>
      obtain ⟨p, vs, rfl, c, d, e⟩ := b
      exact ⟨p, vs, rfl, hh _ _ (fun z => no i _ h rfl (z ▸ a)) c, fr c d (by intro _ z; cases z), DDs.mono ff _ _ e⟩
    | dct xs =>
      obtain ⟨p, vs, rfl, c, d, e⟩ := b
      exact ⟨p, vs, rfl, hh _ _ (fun z => no i _ h rfl (z ▸ a)) c, fr c d (by intro _ z; cases z), KD.mono ff e⟩
    | dck xs =>
      obtain ⟨p, vs, rfl, c, d, e⟩ := b
      exact ⟨p, vs, rfl, hh _ _ (fun z => no i _ h rfl (z ▸ a)) c, fr c d (by intro _ z; cases z), KD.mono ff e⟩
    | scr ns =>
      obtain ⟨a', rfl, h'⟩ := b
      exact ⟨a', rfl, same_l ff h'⟩
    | raw u => exact b
    | dfz _ => obtain ⟨q, o, us, rfl, b1, b2⟩ := b; exact ⟨q, o, us, rfl, ff _ _ b1, KD.mono ff b2⟩
  frs := r.frs
  apart := r.apart
def lc2Go (ft : PyData → Ev → Rs Ev) (fc : Ev → Rs Bool) (vs1 : List Nat) (fi1 : Ev → Rs (List PyData)) (ft1 : PyData → Ev → Rs Ev) (fc1 : Ev → Rs Bool) (fe : Ev → Rs R) (ρ : Ev) : List PyData → Rs (List PyData)
  | [] => .ok []
  | d :: ds => (ft d ρ).bind fun ρ1 => (fc ρ1).bind fun b => if b = true then (fi1 ρ1).bind fun ds1 => (lcGo ft1 fc1 fe (wipeE ρ1 vs1) ds1).bind fun ys => (lc2Go ft fc vs1 fi1 ft1 fc1 fe ρ ds).bind fun xs => .ok (ys ++ xs) else lc2Go ft fc vs1 fi1 ft1 fc1 fe ρ ds
def fLc2 (vs vs1 : List Nat) (fi : Ev → Rs (List PyData)) (ft : PyData → Ev → Rs Ev) (fc : Ev → Rs Bool) (fi1 : Ev → Rs (List PyData)) (ft1 : PyData → Ev → Rs Ev) (fc1 : Ev → Rs Bool) (fe : Ev → Rs R) : Ev → Rs R := fun ρ => (fi ρ).bind fun ds =>
  (noErr (lc2Go ft fc vs1 fi1 ft1 fc1 fe (wipeE ρ vs) ds)).bind fun xs => if xs.length ≤ lim then .ok (.own xs) else .bad
theorem lcGo_cons {ft : PyData → Ev → Rs Ev} {fc : Ev → Rs Bool} {fe : Ev → Rs R} {ρ : Ev} {d : PyData} {ds ys : List PyData} (h : lcGo ft fc fe ρ (d :: ds) = .ok ys) :
    ∃ ρ1 b, ft d ρ = .ok ρ1 ∧ fc ρ1 = .ok b ∧ ((b = true ∧ ∃ r x zs, fe ρ1 = .ok r ∧ r.d = .ok x ∧ lcGo ft fc fe ρ ds = .ok zs ∧ ys = x :: zs) ∨ (b = false ∧ lcGo ft fc fe ρ ds = .ok ys)) := by
  unfold lcGo at h
  cases h1 : ft d ρ with
  | ok ρ1 =>
    rw [h1, bind_ok] at h
    cases h2 : fc ρ1 with
    | ok b =>
      rw [h2, bind_ok] at h
      refine ⟨ρ1, b, rfl, h2, ?_⟩
      cases b with
      | true =>
        rw [if_pos rfl] at h
        cases h3 : fe ρ1 with
        | ok r =>
          rw [h3, bind_ok] at h
          cases h4 : r.d with
          | ok x =>
            rw [h4, bind_ok] at h
            cases h5 : lcGo ft fc fe ρ ds with
            | ok zs =>
              rw [h5, bind_ok] at h
              cases h
              exact .inl ⟨rfl, r, x, zs, rfl, h4, rfl, rfl⟩
            | err c => rw [h5] at h; cases h
            | bad => rw [h5] at h; cases h
          | err c => rw [h4] at h; cases h
          | bad => rw [h4] at h; cases h
        | err c => rw [h3] at h; cases h
        | bad => rw [h3] at h; cases h
      | false =>
        rw [if_neg (by decide)] at h
        exact .inr ⟨rfl, h⟩
    | err c => rw [h2] at h; cases h
    | bad => rw [h2] at h; cases h
  | err c => rw [h1] at h; cases h
  | bad => rw [h1] at h; cases h
theorem lc2Go_cons {ft : PyData → Ev → Rs Ev} {fc : Ev → Rs Bool} {vs1 : List Nat} {fi1 : Ev → Rs (List PyData)} {ft1 : PyData → Ev → Rs Ev} {fc1 : Ev → Rs Bool} {fe : Ev → Rs R} {ρ : Ev} {d : PyData} {ds ys : List PyData} (h : lc2Go ft fc vs1 fi1 ft1 fc1 fe ρ (d :: ds) = .ok ys) :
    ∃ ρ1 b, ft d ρ = .ok ρ1 ∧ fc ρ1 = .ok b ∧ ((b = true ∧ ∃ ds1 xs zs, fi1 ρ1 = .ok ds1 ∧ lcGo ft1 fc1 fe (wipeE ρ1 vs1) ds1 = .ok xs ∧ lc2Go ft fc vs1 fi1 ft1 fc1 fe ρ ds = .ok zs ∧ ys = xs ++ zs) ∨ (b = false ∧ lc2Go ft fc vs1 fi1 ft1 fc1 fe ρ ds = .ok ys)) := by
  unfold lc2Go at h
  cases h1 : ft d ρ with
  | ok ρ1 =>
    rw [h1, bind_ok] at h
    cases h2 : fc ρ1 with
    | ok b =>
      rw [h2, bind_ok] at h
      refine ⟨ρ1, b, rfl, h2, ?_⟩
      cases b with
      | true =>
        rw [if_pos rfl] at h
        cases h3 : fi1 ρ1 with
        | ok r =>
          rw [h3, bind_ok] at h
          cases h4 : lcGo ft1 fc1 fe (wipeE ρ1 vs1) r with
          | ok x =>
            rw [h4, bind_ok] at h
            cases h5 : lc2Go ft fc vs1 fi1 ft1 fc1 fe ρ ds with
            | ok zs =>
              rw [h5, bind_ok] at h
              cases h
              exact .inl ⟨rfl, r, x, zs, rfl, h4, rfl, rfl⟩
            | err c => rw [h5] at h; cases h
            | bad => rw [h5] at h; cases h
          | err c => rw [h4] at h; cases h
          | bad => rw [h4] at h; cases h
        | err c => rw [h3] at h; cases h
        | bad => rw [h3] at h; cases h
      | false =>
        rw [if_neg (by decide)] at h
        exact .inr ⟨rfl, h⟩
    | err c => rw [h2] at h; cases h
    | bad => rw [h2] at h; cases h
  | err c => rw [h1] at h; cases h
  | bad => rw [h1] at h; cases h
theorem ee_lc2 {X : Cx} {W : WX} {elt tg iter tg1 iter1 : Expr} {ifs ifs1 : List Expr} {scope : Scope} {own : List (Str × Nat)} {pos : Pos} {wi wi1 : TI} {g g1 : TG} {tt tt1 : TT} {te : TE} {i0 : Nat} {is1 : List Nat} {fi fi1 : Ev → Rs (List PyData)} {ft1 : PyData → Ev → Rs Ev} {fc fc1 : Ev → Rs Bool} {fe : Ev → Rs R}
    (hN : X.N.Nodup) (hi : EI X W tg iter wi fi) (ok : BlkOk X.N X.env.scope scope own)
    (hg : ∀ (s : Shared) (H : Hp) (C : Addr) (cl : List (Str × Addr)) (fp : List Addr), EG (X.blk s H scope (compEnvC scope cl C X.env) fp) tg g [i0] (tName i0))
    (ht : ∀ (s : Shared) (H : Hp) (C : Addr) (cl : List (Str × Addr)) (fp : List Addr), ETs (X.blk s H scope (compEnvC scope cl C X.env) fp) W0 ifs tt fc)
    (hi1 : ∀ (s : Shared) (H : Hp) (C : Addr) (cl : List (Str × Addr)) (fp : List Addr), EI (X.blk s H scope (compEnvC scope cl C X.env) fp) W0 tg1 iter1 wi1 fi1)
    (hg1 : ∀ (s : Shared) (H : Hp) (C : Addr) (cl : List (Str × Addr)) (fp : List Addr), EG (X.blk s H scope (compEnvC scope cl C X.env) fp) tg1 g1 is1 ft1)
    (ht1 : ∀ (s : Shared) (H : Hp) (C : Addr) (cl : List (Str × Addr)) (fp : List Addr), ETs (X.blk s H scope (compEnvC scope cl C X.env) fp) W0 ifs1 tt1 fc1)
    (he : ∀ (s : Shared) (H : Hp) (C : Addr) (cl : List (Str × Addr)) (fp : List Addr), EE (X.blk s H scope (compEnvC scope cl C X.env) fp) W0 elt te fe)
    (hsub : ∀ i ∈ [i0], i ∈ own.map (·.2) := by decide) (hv : ∀ i ∈ is1, i ∈ own.map (·.2) := by decide) (hc : X.calm = true := by rfl) (hs : ∀ x, foldedSetIterable iter X.env x = pure x := by intro _; rfl) (hs1 : ∀ env x, foldedSetIterable iter1 env x = pure x := by intro _ _; rfl) :
    EE X W (.ListComp elt [⟨tg, iter, ifs, 0⟩, ⟨tg1, iter1, ifs1, 0⟩] scope pos) (tLc2 wi g tt wi1 g1 tt1 te (own.map (·.2)) is1) (fLc2 (own.map (·.2)) is1 fi (tName i0) fc fi1 ft1 fc1 fe) where
  pe := pe_lc2 hc hN hi.pi ok hv (fun s H C cl fp => (hg s H C cl fp).pg) (fun s H C cl fp => (ht s H C cl fp).pts) (fun s H C cl fp => (hi1 s H C cl fp).pi) (fun s H C cl fp => (hg1 s H C cl fp).pg) (fun s H C cl fp => (ht1 s H C cl fp).pts) (fun s H C cl fp => (he s H C cl fp).pe) hs hs1
  sound := fun {G H0 ρ σ F H} rel Q P => hi.sound rel _ (postI_post P fun ds J F1 H1 e1 wk P1 => by
    cases hgo : lc2Go (tName i0) fc is1 fi1 ft1 fc1 fe (wipeE ρ (own.map (·.2))) ds with
    | err c => rw [hgo] at P1; exact P1.elim
    | bad => rw [hgo] at P1; exact P1.elim
    | ok xs =>
      rw [hgo] at P1
      replace P1 : Post X.K X.mg W σ F1 H1 Q (if xs.length ≤ lim then .ok (.own xs) else .bad) := P1
      by_cases hlim : xs.length ≤ lim
      · rw [if_pos hlim] at P1
        intro D nD
        have rel1 := (rel.step e1).wipe (own.map (·.2))
        have h0D : H0 D = none := rel1.base.hh.free nD
        -- what holds between turns of the outer loop
        let St : List PyData → Hp → Hp → Prop := fun acc F' H' => ∃ vs, Ext F1 H1 F' H' ∧ H' D = some (.lst vs) ∧ F' D = none ∧ DDs F' vs acc
        have step : ∀ {acc : List PyData} {F' H' F'' H'' : Hp}, St acc F' H' → Ext F' H' F'' H'' → St acc F'' H'' := fun {acc F' H' F'' H''} h e => by
          obtain ⟨vs, ex, hD, hF, hv⟩ := h
          exact ⟨vs, ex.trans e, e.hh _ _ hD, e.own hD hF, DDs.mono e.ff _ _ hv⟩
        refine ⟨fun i m H' => i ≤ ds.length ∧ m = ds.length - i ∧ ∃ F' acc rest, St acc F' H' ∧ lc2Go (tName i0) fc is1 fi1 ft1 fc1 fe (wipeE ρ (own.map (·.2))) (ds.drop i) = .ok rest ∧ acc ++ rest = xs,
          ⟨ds.length, Nat.zero_le _, rfl, F1, [], xs, ⟨[], Ext.addH e1.sub nD, upd_same, e1.sub.free nD, .nil⟩, hgo, rfl⟩, fun i m H' hW => ?_⟩
        obtain ⟨hi', rfl, F', acc, rest, hst, hr, hx⟩ := hW
        by_cases hlt : i < ds.length
        · refine .inr ⟨wk.goes i H' hlt (hst.elim fun vs q => q.1.ff.trans q.1.sub), fun H'' => i + 1 ≤ ds.length ∧ ∃ F' acc rest, St acc F' H'' ∧ lc2Go (tName i0) fc is1 fi1 ft1 fc1 fe (wipeE ρ (own.map (·.2))) (ds.drop (i + 1)) = .ok rest ∧ acc ++ rest = xs, fun H'' q => ⟨ds.length - (i + 1), by omega, q.1, rfl, q.2⟩, fun x H2 hy => ?_⟩
          have hd : ds[i]? = some ds[i] := List.getElem?_eq_getElem hlt
          obtain ⟨F2, e2, r2⟩ := wk.yields i H' x H2 ds[i] F' hd (hst.elim fun vs q => q.1.ff) (hst.elim fun vs q => q.1.sub) hy
          rw [List.drop_eq_getElem_cons hlt] at hr
          obtain ⟨ρ1, b, h1, h2, hr⟩ := lc2Go_cons hr
          have relA : Rel X.K G H0 (wipeE ρ (own.map (·.2))) (wipe σ (own.map (·.2))) F2 H2 := (rel1.step (hst.elim fun vs q => q.1)).step e2
          refine (hg X.s_0 X.H_0 0 [] []).sound relA r2 h1 _ fun σ2 rel2 l2 o2 => ⟨wipe_eq hsub (by rw [l2, wipe_length]) o2, ?_⟩
          -- no slot holds D
          have noD : ∀ (j : Nat) (y : R), ρ1[j]? = some (some y) → y.isOwn = true → σ2[j]? ≠ some (some (.ref D)) := fun j y hj hy z => by
            cases h1
            have hne : i0 ≠ j := fun e => by
              subst e
              rw [List.getElem?_set] at hj
              by_cases hb : i0 < (wipeE ρ (own.map (·.2))).length
              · simp [hb] at hj
                subst hj
                cases hy
              · simp [hb] at hj
            rw [List.getElem?_set_ne hne] at hj
            rw [o2 j (by simpa using Ne.symm hne)] at z
            obtain ⟨w, a, c⟩ := rel1.at_ j y hj
            rw [z] at a
            cases a
            cases y with
            | val d => cases hy
            | scr d => cases hy
            | raw d => cases hy
            | dfz d => cases hy
            | own d => obtain ⟨p', vs, e1, e2, _⟩ := c; cases e1; rw [nD] at e2; cases e2
            | dct d => obtain ⟨p', vs, e1, e2, _⟩ := c; cases e1; rw [nD] at e2; cases e2
            | dck d => obtain ⟨p', vs, e1, e2, _⟩ := c; cases e1; rw [nD] at e2; cases e2
          have hstA := step hst e2
          refine (ht X.s_0 X.H_0 0 [] []).sound rel2 _ (by
            rw [h2]
            intro F3 H3 e3
            have hst3 := step hstA e3
            rcases hr with ⟨rfl, ds1, ys, zs, h3, h4, h5, rfl⟩ | ⟨rfl, h5⟩
            · rw [if_pos rfl]
              have rel3 := rel2.step e3
              refine (hi1 X.s_0 X.H_0 0 [] []).sound rel3 _ ?_
              rw [h3]
              intro J1 F4 H4 e4 wk1
              have hst4 := step hst3 e4
              have rel4 := rel3.step e4
              -- the inner loop
              refine ⟨fun j k H' => j ≤ ds1.length ∧ k = ds1.length - j ∧ ∃ F' acc' rest', St acc' F' H' ∧ Same F4 F' ∧ Rel X.K G H0 ρ1 σ2 F' H' ∧ lcGo ft1 fc1 fe (wipeE ρ1 is1) (ds1.drop j) = .ok rest' ∧ acc' ++ rest' = acc ++ ys,
                ⟨ds1.length, Nat.zero_le _, rfl, F4, acc, ys, hst4, Same.refl _, rel4, h4, rfl⟩, fun j k H5 hW => ?_⟩
              obtain ⟨hj', rfl, F5, acc5, rest5, hst5, ff5, rel5, hr5, hx5⟩ := hW
              by_cases hlt5 : j < ds1.length
              · refine .inr ⟨wk1.goes j H5 hlt5 (ff5.trans rel5.sub), fun H' => j + 1 ≤ ds1.length ∧ ∃ F' acc' rest', St acc' F' H' ∧ Same F4 F' ∧ Rel X.K G H0 ρ1 σ2 F' H' ∧ lcGo ft1 fc1 fe (wipeE ρ1 is1) (ds1.drop (j + 1)) = .ok rest' ∧ acc' ++ rest' = acc ++ ys,
                  fun H' q => ⟨ds1.length - (j + 1), by omega, q.1, rfl, q.2⟩, fun x6 H6 hy6 => ?_⟩
                have hd6 : ds1[j]? = some ds1[j] := List.getElem?_eq_getElem hlt5
                obtain ⟨F6, e6, r6⟩ := wk1.yields j H5 x6 H6 ds1[j] F5 hd6 ff5 rel5.sub hy6
                rw [List.drop_eq_getElem_cons hlt5] at hr5
                obtain ⟨ρ6, b6, k1, k2, hr6⟩ := lcGo_cons hr5
                have hst6 := step hst5 e6
                have rel6 := rel5.step e6
                refine (hg1 X.s_0 X.H_0 0 [] []).sound (rel6.wipe is1) r6 k1 _ fun σ7 rel7 l7 o7 => ⟨wipe_eq (fun _ q => q) (by rw [l7, wipe_length]) o7, ?_⟩
                refine (ht1 X.s_0 X.H_0 0 [] []).sound rel7 _ (by
                  rw [k2]
                  intro F7 H7 e7
                  have hst7 := step hst6 e7
                  rcases hr6 with ⟨rfl, r, dx, zs6, k3, k4, k5, rfl⟩ | ⟨rfl, k5⟩
                  · rw [if_pos rfl]
                    refine (he X.s_0 X.H_0 0 [] []).sound (rel7.step e7) _ ?_
                    rw [k3]
                    intro y F8 H8 e8 r8
                    obtain ⟨F9, e9, s9, r9⟩ := r8.data e8 k4
                    obtain ⟨vs9, ex9, hD9, hF9, hv9⟩ := step hst7 e9
                    have rel9 := (rel6.step e7).step e9
                    have hlen : vs9.length < sizeLine := by
                      have h1 := hv9.len
                      have h2 := lim_lt
                      have h3 : (acc5 ++ dx :: zs6).length ≤ xs.length := by rw [hx5, ← hx]; simp
                      rw [List.length_append, List.length_cons] at h3
                      omega
                    refine ⟨vs9, hD9, hlen, hlt5, F9, acc5 ++ [dx], zs6, ⟨vs9 ++ [y], ⟨ex9.old, ex9.ff, fun b o q => ?_, fun b o q => ?_, ex9.new⟩, upd_same, hF9, hv9.app (.cons r9 .nil)⟩, ((ff5.trans e6.ff).trans e7.ff).trans e9.ff, ?_, k5, by simpa using hx5⟩
                    · have : b ≠ D := ne_of_none q nD
                      rw [upd_ne this]
                      exact ex9.hh _ _ q
                    · have : b ≠ D := ne_of_none q hF9
                      rw [upd_ne this]
                      exact ex9.sub _ _ q
                    · refine rel9.turn D (Same.refl _) (fun b o ne q => by rw [upd_ne ne]; exact q) h0D (fun b o q => ?_) (fun a q => .inl q) noD
                      have : b ≠ D := ne_of_none q hF9
                      rw [upd_ne this]
                      exact ex9.sub _ _ q
                  · rw [if_neg (by decide)]
                    exact ⟨hlt5, F7, acc5, rest5, hst7, (ff5.trans e6.ff).trans e7.ff, rel6.step e7, k5, hx5⟩)
              · have hin : j = ds1.length := by omega
                subst hin
                refine .inl ⟨wk1.stops H5 (ff5.trans rel5.sub), ?_⟩
                simp [lcGo] at hr5
                subst hr5
                rw [List.append_nil] at hx5
                subst hx5
                exact ⟨hlt, F5, acc ++ ys, zs, hst5, h5, by rw [← hx]; simp⟩
            · rw [if_neg (by decide)]
              exact ⟨hlt, F3, acc, rest, hst3, h5, hx⟩)
        · have hin : i = ds.length := by omega
          subst hin
          obtain ⟨vs, ex, hD, hF, hv'⟩ := hst
          refine .inl ⟨wk.stops H' (ex.ff.trans ex.sub), ?_⟩
          simp [lc2Go] at hr
          subst hr
          rw [List.append_nil] at hx
          subst hx
          exact P1 _ F' H' ex ⟨⟨D, vs, rfl, hD, hF, hv'⟩, fun _ q e => by cases e; exact nD⟩
      · rw [if_neg hlim] at P1
        exact P1.elim)
end DN
/-! Den12: things of ours, read as they stand. -/
namespace DN
open PySem PySem.Spec PyProof.Rows L2
section
variable {X : Cx} {W : WX} {a b e : Expr} {ta tb te : TE} {fa fb f : Ev → Rs R} {pos p : Pos} (K : PySem.W.Frag)
/-- an item of a list of ours -/
@[simp] def fOix (i : Nat) (fb : Ev → Rs R) : Ev → Rs R := fun ρ => match ρ[i]? with
  | some (some (.own ds)) => (fb ρ).bind fun r => r.d.bind fun x => match x with
    | .int j => match atI ds j with
      | some d => .ok (.val d)
      | none => .bad
    | _ => .bad
  | some (some (.val (.list ds))) => (fb ρ).bind fun r => r.d.bind fun x => match x with
    | .int j => match atI ds j with
      | some d => .ok (.val d)
      | none => .bad
    | _ => .bad
  | _ => .bad
theorem ek_oix (i : Nat) {x : Str} {p2 : Pos} (hb : EE X W b tb fb) (hN : X.N[i]? = some x := by rfl) (hv : Vis X.env.scope x := by first | exact Or.inl rfl | exact Or.inr (Or.inl rfl) | exact Or.inr (Or.inr rfl)) (hd : (x == ("__debug__" : Str)) = false := by decide)
    (hcd : (x == ("__classdict__" : Str)) = false := by decide) (hs : PlainIx b := by exact fun _ _ => rfl) (hK : X.K = K := by rfl) : EE X W (.Subscript (.Name x p2) b pos) (tOp (rIxL K) (tVar i) tb) (fOix i fb) := by
  subst hK
  refine ⟨pe_ix ix_list (pe_var hN hv hd hcd) hb.pe hs, fun {G H0 ρ σ F H} rel Q P => ?_⟩
  unfold fOix at P
  split at P
  · rename_i ds h
    obtain ⟨v, hv, a, vs, rfl, q1, q2, q3⟩ := rel.at_ i _ h
    refine ⟨_, hv, hb.sound rel _ (post_data P fun d v F1 H1 e1 r1 P1 => ?_)⟩
    cases r1 with
    | int j =>
      dsimp only at P1
      split at P1
      · rename_i n hn
        obtain ⟨w, k1, k2⟩ := atI_DD q3 hn
        exact ⟨a, _, j, w, rfl, rfl, SqL.of (e1.hh _ _ q1), k1, post_flat e1.sub (DD.mono e1.ff _ _ k2) P1⟩
      · exact P1.elim
    | _ => exact P1.elim
  · rename_i ds h
    obtain ⟨v, hv, q⟩ := rel.at_ i _ h
    refine ⟨_, hv, hb.sound rel _ (post_data P fun d v F1 H1 e1 r1 P1 => ?_)⟩
    cases q with
    | @lst a vs _ q1 q3 =>
      cases r1 with
      | int j =>
        dsimp only at P1
        split at P1
        · rename_i n hn
          obtain ⟨w, k1, k2⟩ := atI_DD q3 hn
          exact ⟨a, _, j, w, rfl, rfl, SqL.of (e1.hh _ _ (rel.sub _ _ q1)), k1, post_flat e1.sub (DD.mono e1.ff _ _ k2) P1⟩
        · exact P1.elim
      | _ => exact P1.elim
  · exact P.elim
end
end DN
/-! Den13: dicts with tuple keys; sorted. -/
namespace DN
open PySem PySem.Spec PyProof.Rows L2

/-! ### sorted: the rule -/
theorem each_vals {bs : List (V × PyData)} : ∀ {us : List Value}, Vals (bs.map (·.1)) us → PySem.W.EachIs (fun v (b : V × PyData) => RelV b.1 v) us bs := by
  induction bs with
  | nil => intro us r; cases r; exact .nil
  | cons b bs ih =>
    intro us r
    cases r with
    | cons h t => exact .cons h (ih t)
theorem vals_each {bs : List (V × PyData)} : ∀ {us : List Value}, PySem.W.EachIs (fun v (b : V × PyData) => RelV b.1 v) us bs → Vals (bs.map (·.1)) us := by
  induction bs with
  | nil => intro us r; cases r; exact .nil
  | cons b bs ih =>
    intro us r
    cases r with
    | cons h t => exact .cons h (ih t)
theorem each_reads {X : Cx} {pins : List (Addr × Obj)} {σ : L2.St} {H : Hp} {s : Shared} (I : Inv X pins σ H s) : ∀ {bs : List (V × PyData)} {us : List Value}, (∀ b ∈ bs, Dp X.K H b.1 b.2) → PySem.W.EachIs (fun v (b : V × PyData) => RelV b.1 v) us bs →
    PySem.W.EachIs (fun v (b : V × PyData) => ∃ as, Reads s.heap v b.2 as) us bs
  | _, _, _, .nil => .nil
  | b :: bs, _, h, .cons r t => .cons (Dp.reads I _ _ _ (h b List.mem_cons_self) r) (each_reads I (fun x hx => h x (List.mem_cons_of_mem _ hx)) t)
/-- the pairs of values and data, sorted by the data -/
def srt (bs : List (V × PyData)) : List (V × PyData) := bs.mergeSort (PySem.W.dataLe false fun b => b.2)
def rSortedA (K : PySem.W.Frag) : List V → Hp → VK → Prop := fun vs H Q => ∃ (a : Addr) (bs : List (V × PyData)), vs = [V.ref a] ∧ SqL K H a (bs.map (·.1)) ∧ (∀ b ∈ bs, Dp K H b.1 b.2) ∧ PySem.W.AllAlike (bs.map (·.2)) ∧ PySem.W.Sortable (bs.map (·.2)) ∧
  (∀ b ∈ bs, b.2.depth ≤ 16) ∧ bs.length ≤ sizeLine ∧ ∀ p, H p = none → Q (.ref p) (upd H p (.lst ((srt bs).map (·.1))))
section
variable {X : Cx}
theorem cr_sortedA (hu : X.A.units + 64 < cLine) : CallR X (.builtin "sorted") (rSortedA X.K) := by
  intro pins s σ H vs us Q I r h
  obtain ⟨a, bs, rfl, hs, hdp, hal, hk, hde, hL, q⟩ := h
  obtain ⟨its, rv, hl, _⟩ := I.list hs
  rw [Vals.ref1 r]
  have e := each_vals rv
  refine PySem.W.sorted_data (enc := fun b : V × PyData => b.2) (bs := bs) (R := fun v b => RelV b.1 v) hl.isList e (each_reads I hdp e) hal hk hL (fun b hb => ?_) fun out ho eo => ?_
  · have := hde b hb
    omega
  · obtain ⟨ep, he'⟩ := PyProof.Rows.sortedAll_at s.heap its out.toArray
    have hlen : ((srt bs).map (·.1)).length ≤ sizeLine := by
      unfold srt
      rw [List.length_map, List.length_mergeSort]
      exact hL
    exact ⟨.ref _, upd H (s.heap.objs.size + 1) (.lst ((srt bs).map (·.1))), I.laid (t' := s.toks) (fun _ _ => PyProof.Rows.sortedAll_old) (Nat.le_succ _) ⟨hlen, out, ep, vals_each eo, he'⟩, rfl, q _ (I.hok.fresh (Nat.le_succ _))⟩
/-! ### sorted(d), the keys tuples -/
def keyD : Key → PyData
  | .inl i => .int i
  | .inr x => .str x
theorem dp_key {K : PySem.W.Frag} {H : Hp} (k : Key) : Dp K H (kV k) (keyD k) := by
  cases k with
  | inl i => exact .int i
  | inr x => exact .str x
theorem dp_keys {K : PySem.W.Frag} {H : Hp} : ∀ ks : List Key, DpAll K H (ks.map kV) (ks.map keyD)
  | [] => .nil
  | k :: ks => .cons (dp_key k) (dp_keys ks)
def kTup (k : List Key) : PyData := .tuple (k.map keyD)
def rSortedDT : List V → Hp → VK → Prop := fun vs H Q => ∃ (a : Addr) (kvs : List (List Key × V)), vs = [V.ref a] ∧ H a = some (.dT kvs) ∧ PySem.W.AllAlike (kvs.map fun kv => kTup kv.1) ∧ PySem.W.Sortable (kvs.map fun kv => kTup kv.1) ∧
  ∀ p bs, H p = none → IsKeys H kvs bs → Q (.ref p) (upd H p (.lst ((srt ((bs.map V.ref).zip (kvs.map fun kv => kTup kv.1))).map (·.1))))
theorem depth_keys : ∀ ks : List Key, PyData.depthAll (ks.map keyD) = 0
  | [] => by simp [PyData.depthAll]
  | k :: ks => by
    rw [List.map_cons, PyData.depthAll, depth_keys ks]
    cases k <;> simp [keyD, PyData.depth]
theorem keys_zip {K : PySem.W.Frag} {H : Hp} : ∀ {kvs : List (List Key × V)} {bs : List Addr}, IsKeys H kvs bs → ((bs.map V.ref).zip (kvs.map fun kv => kTup kv.1)).map (·.1) = bs.map V.ref ∧ ((bs.map V.ref).zip (kvs.map fun kv => kTup kv.1)).map (·.2) = kvs.map (fun kv => kTup kv.1) ∧
    ∀ b ∈ (bs.map V.ref).zip (kvs.map fun kv => kTup kv.1), Dp K H b.1 b.2
  | _, _, .nil => ⟨rfl, rfl, fun _ h => by cases h⟩
  | kv :: kvs, b :: bs, .cons h t => by
    obtain ⟨a1, a2, a3⟩ := keys_zip (K := K) t
    refine ⟨by simp only [List.map_cons, List.zip_cons_cons, a1], by simp only [List.map_cons, List.zip_cons_cons, a2], fun x hx => ?_⟩
    rw [List.map_cons, List.map_cons, List.zip_cons_cons] at hx
    rcases List.mem_cons.mp hx with rfl | hx
    · exact .tup (SqT.of h) (dp_keys kv.1)
    · exact a3 x hx
theorem reads_keys {h : Heap} : ∀ (ks : List Key) (us : List Value) (as : List Addr), ReadsAll h us (ks.map keyD) as → as = []
  | [], _, _, r => by cases r; rfl
  | k :: ks, _, _, r => by
    rw [List.map_cons] at r
    cases r with
    | cons h1 h2 =>
      have e2 := reads_keys ks _ _ h2
      subst e2
      cases k with
      | inl i => cases h1; rfl
      | inr x => cases h1; rfl
theorem reads_kTup {h : Heap} {k : List Key} {v : Value} {as : List Addr} (r : Reads h v (kTup k) as) : as = [] := by
  unfold kTup at r
  cases r with
  | tuple h1 h2 h3 h4 => exact reads_keys k _ _ h4
theorem cr_sortedDT (hc : X.calm = true) (hu : X.A.units + 64 < cLine) : CallR X (.builtin "sorted") rSortedDT := by
  intro pins s σ H vs us Q I r h
  obtain ⟨d, kvs, rfl, hd, hal, hk, q⟩ := h
  obtain ⟨u, rfl, rx⟩ := r.one
  cases rx
  obtain ⟨z, hs, ks, pr, o, es, ep, ho, hx, hdt, he, hn⟩ := (show ObjOk X.prog X.w H s.heap d (.dT kvs) from (show Rd H d (.dT kvs) from .inl hd).ok I.hok)
  have l1 : es.size = ks.length := size_of_entries he
  have l2 : kvs.length = ks.length := Paired.length pr
  refine Calls.call_function_entry PyProof.Rows.kind_sorted PyProof.Rows.plain_sorted PyProof.Rows.entry_sorted (PyProof.Rows.args_sorted1 _) ?_
  unfold Builtin.«sorted»
  refine wpAny_bind (m := checkCount "sorted" 1 1 _) (wpAny_pure ?_)
  refine wpAny_bind (PySem.W.kdu_collect (A := X.A.in1) (kdl_raw hs hx hdt) (I.ok.hd hc) ho (by omega) fun h' tk acc hkp it => ?_)
  have ea : acc.toList = ks.map fun x => Value.ref x.2.1 := by
    have hl : acc.toList.length = ks.length := by rw [Array.length_toList, it.1]; exact l1
    apply List.ext_getElem?
    intro j
    rw [List.getElem?_map]
    cases hj : acc.toList[j]? with
    | none =>
      have h1 := List.getElem?_eq_none_iff.mp hj
      rw [List.getElem?_eq_none (by omega)]
      all_goals rfl
    | some v =>
      obtain ⟨en, hen, hv⟩ := it.2 j v (by rw [← Array.getElem?_toList]; exact hj)
      have qe := entry_at he j
      rw [hen] at qe
      cases hb : ks[j]? with
      | none =>
        rw [hb] at qe
        exact nomatch (show some en = none from qe)
      | some b =>
        rw [hb] at qe
        have e2 : en = entryOfKey (tupleKind (mixKind X.prog X.w)) b := Option.some.inj qe
        rw [hv, e2]
        all_goals rfl
  have isk := isKeys_of pr
  have I1 : Inv X pins σ H { s with heap := h', toks := tk } := I.kept hkp
  generalize hbs : (ks.map fun x => x.2.1) = bs at isk
  have eb : acc.toList = bs.map Value.ref := by rw [ea, ← hbs, List.map_map]; all_goals rfl
  obtain ⟨z1, z2, z3⟩ := keys_zip (K := X.K) isk
  have hlz : ((bs.map V.ref).zip (kvs.map fun kv => kTup kv.1)).length = ks.length := by
    have := congrArg List.length z1
    rw [List.length_map, List.length_map, ← hbs, List.length_map] at this
    rw [← hbs]
    exact this
  replace q := fun p hp => q p bs hp isk
  generalize (bs.map V.ref).zip (kvs.map fun kv => kTup kv.1) = zs at z1 z2 z3 q hlz
  have rv : Vals (zs.map (·.1)) acc.toList := by rw [z1, eb]; exact vals_refs _
  have e := each_vals rv
  have I2 : Inv X pins σ H { s with heap := h'.push (seqObj "list" acc.toList.toArray 0), toks := tk } := I.kept (fun b o q => Heap.get?_push_of_some _ (hkp b o q))
  refine wpAny_bind (wpAny_newList ?_ (by rw [eb, List.length_map, ← hbs, List.length_map]; omega))
  have hoL : (h'.push (seqObj "list" acc.toList.toArray 0)).get? h'.objs.size = some (seqObj "list" acc.toList.toArray 0) := Heap.get?_push_size _ rfl
  show wpAny _ _ _ _ _ { s with heap := h'.push (seqObj "list" acc.toList.toArray 0), toks := tk }
  refine wpAny_bind (wpAny_holding (PySem.W.list_sort_data (s := { s with heap := h'.push (seqObj "list" acc.toList.toArray 0), toks := tk }) (enc := fun b : V × PyData => b.2) (bs := zs) (R := fun v b => RelV b.1 v) (vs := acc.toList) hoL e ?_ (by rw [z2]; exact hal) (by rw [z2]; exact hk) (by omega) (fun b hb => ?_) fun out hlo eo => ?_))
  · have key : ∀ {us : List Value} {bs : List (V × PyData)}, (∀ b ∈ bs, b ∈ zs) → PySem.W.EachIs (fun v (b : V × PyData) => RelV b.1 v) us bs → PySem.W.EachIs (fun v (b : V × PyData) => ∃ as, Reads (h'.push (seqObj "list" acc.toList.toArray 0)) v b.2 as ∧ h'.objs.size ∉ as) us bs := by
      intro us bs' hsub ee
      induction ee with
      | nil => exact .nil
      | @cons v b us bs' r t ih =>
        refine .cons ?_ (ih fun x hx => hsub x (List.mem_cons_of_mem _ hx))
        obtain ⟨as, hr⟩ := Dp.reads I1 _ _ _ (z3 b (hsub b List.mem_cons_self)) r
        refine ⟨as, PyProof.Rows.Reads.keeps (fun b o q => Heap.get?_push_of_some _ q) hr, ?_⟩
        have hb2 : b.2 ∈ zs.map (·.2) := List.mem_map.mpr ⟨b, hsub b List.mem_cons_self, rfl⟩
        rw [z2] at hb2
        obtain ⟨kv, _, ekv⟩ := List.mem_map.mp hb2
        rw [← ekv] at hr
        rw [reads_kTup hr]
        exact List.not_mem_nil
    exact key (fun _ h => h) e
  · have hb2 : b.2 ∈ zs.map (·.2) := List.mem_map.mpr ⟨b, hb, rfl⟩
    rw [z2] at hb2
    obtain ⟨kv, _, ekv⟩ := List.mem_map.mp hb2
    have : (kTup kv.1).depth = 1 := by
      unfold kTup
      rw [PyData.depth, depth_keys]
    show X.A.in1.units + 1 + b.2.depth < cLine
    rw [← ekv, this]
    have : X.A.in1.units ≤ X.A.units + 1 := by first | exact Nat.le_succ _ | exact Nat.le_refl _ | (simp [Around.in1]; omega)
    omega
  · obtain ⟨e', he'⟩ := PyProof.Rows.sortedHeap_at (vs := acc.toList) (out := out.toArray) hoL
    have hlen : ((srt zs).map (·.1)).length ≤ sizeLine := by
      unfold srt
      rw [List.length_map, List.length_mergeSort]
      omega
    refine wpAny_pure ⟨_, rfl, .ref h'.objs.size, upd H h'.objs.size (.lst ((srt zs).map (·.1))), I1.laid (t' := tk) (fun b u e => ?_) (Nat.le_refl _)
      (show ObjOk X.prog X.w _ _ _ (.lst ((srt zs).map (·.1))) from ⟨hlen, out, e', vals_each eo, he'⟩), rfl, q _ (I1.hok.fresh (Nat.le_refl _))⟩
    have hb : b < h'.objs.size := Heap.lt_size e
    rw [PyProof.Rows.sortedHeap_old (Nat.ne_of_lt hb) (by rw [size_push']; exact Nat.lt_succ_of_lt hb)]
    exact Heap.get?_push_of_some _ e
end
/-! ### denotations -/
def sortable (ds : List PyData) : Bool := (ds.all fun d => ds.all fun e => PySem.W.alike d e) && ((ds.all fun d => match d with | .tuple (_ :: _) => true | _ => false) || ds.all fun d => match d with | .none => false | .tuple _ => false | _ => true) && ds.all fun d => decide (d.depth ≤ 16)
def sortD (ds : List PyData) : List PyData := ds.mergeSort (PySem.W.dataLe false fun d => d)
theorem sortable_ok {ds : List PyData} (h : sortable ds = true) : PySem.W.AllAlike ds ∧ PySem.W.Sortable ds ∧ ∀ d ∈ ds, d.depth ≤ 16 := by
  unfold sortable at h
  rw [Bool.and_eq_true, Bool.and_eq_true, Bool.or_eq_true] at h
  obtain ⟨⟨h1, h2⟩, h3⟩ := h
  refine ⟨fun d hd e he => List.all_eq_true.mp (List.all_eq_true.mp h1 d hd) e he, ?_, fun d hd => by simpa using List.all_eq_true.mp h3 d hd⟩
  rcases h2 with h2 | h2
  · refine .inl fun d hd => ?_
    have := List.all_eq_true.mp h2 d hd
    cases d with
    | tuple xs =>
      cases xs with
      | nil => simp at this
      | cons x r => exact ⟨x, r, rfl⟩
    | _ => simp at this
  · refine .inr fun d hd => ?_
    have := List.all_eq_true.mp h2 d hd
    cases d with
    | none => simp at this
    | tuple xs => simp at this
    | _ => exact And.intro (fun z => by cases z) (fun xs z => by cases z)
/-- sorting pairs by their data: the data come sorted -/
theorem srt_data (bs : List (V × PyData)) : (srt bs).map (·.2) = sortD (bs.map (·.2)) := by
  unfold srt sortD
  rw [List.map_mergeSort (r := fun a b => PySem.W.dataLe false (fun b : V × PyData => b.2) a b) (s := fun a b => PySem.W.dataLe false (fun d : PyData => d) a b)]
  intro a _ b _
  rfl
theorem DDs.zip {F : Hp} : ∀ {ds : List PyData} {vs : List V}, DDs F vs ds → ((vs.zip ds).map (·.1) = vs ∧ (vs.zip ds).map (·.2) = ds ∧ ∀ b ∈ vs.zip ds, DD F b.1 b.2)
  | [], _, .nil => ⟨rfl, rfl, fun _ h => by cases h⟩
  | d :: ds, v :: vs, .cons h r => by
    obtain ⟨a, b, c⟩ := DDs.zip r
    refine ⟨by simp only [List.zip_cons_cons, List.map_cons, a], by simp only [List.zip_cons_cons, List.map_cons, b], fun x hx => ?_⟩
    rw [List.zip_cons_cons] at hx
    rcases List.mem_cons.mp hx with rfl | hx
    · exact h
    · exact c x hx
theorem DDs.unzip {F : Hp} : ∀ {bs : List (V × PyData)}, (∀ b ∈ bs, DD F b.1 b.2) → DDs F (bs.map (·.1)) (bs.map (·.2))
  | [], _ => .nil
  | b :: bs, h => .cons (h b List.mem_cons_self) (DDs.unzip fun x hx => h x (List.mem_cons_of_mem _ hx))
theorem srt_DDs {F : Hp} {bs : List (V × PyData)} (h : ∀ b ∈ bs, DD F b.1 b.2) : DDs F ((srt bs).map (·.1)) (sortD (bs.map (·.2))) := by
  rw [← srt_data]
  exact DDs.unzip fun b hb => h b (by unfold srt at hb; exact (List.mem_mergeSort.mp hb))
def biSorted : List PyData → Rs R
  | [.list ds] => if (sortable ds && decide (ds.length ≤ lim)) = true then .ok (.own (sortD ds)) else .bad
  | _ => .bad
section
variable {X : Cx} {W : WX} {e : Expr} {es : List Expr} {t : TA} {fr : Ev → Rs (List PyData)} {p pos : Pos} (K : PySem.W.Frag)
theorem ek_sorted (hu : X.A.units + 64 < cLine) (hm : X.mg "sorted" = none) (ha : ED X W (e :: es) t fr) (hg : Gl X "sorted" := by rfl)
    (he : starEach (e :: es) X.env = (false, eval e X.env) :: starEach es X.env := by rfl) (hpl : (backTo pos (starEach es X.env)).any (·.1) = false := by rfl) (hK : X.K = K := by rfl) :
    EE X W (.Call (.Name "sorted" p) (e :: es) [] pos) (tCB (rSortedA K) t) (fBi biSorted fr) := by
  subst hK
  refine ee_callB (cr_sortedA hu) (fun {σ F H Q vs ds} s r P => ?_) hm (by decide +kernel) ha hg (by decide) (by decide) he hpl
  match ds, r with
  | [], .nil => exact P.elim
  | [_], .cons h .nil =>
    unfold biSorted at P
    cases h with
    | @lst p xs ds h r =>
      dsimp only at P
      split at P
      · rename_i hc
        rw [Bool.and_eq_true, decide_eq_true_eq] at hc
        obtain ⟨a1, a2, a3⟩ := sortable_ok hc.1
        obtain ⟨z1, z2, z3⟩ := r.zip
        refine ⟨p, xs.zip ds, rfl, by rw [z1]; exact SqL.of (s _ _ h), fun b hb => DD.dp s _ _ (z3 b hb), by rw [z2]; exact a1, by rw [z2]; exact a2, fun b hb => a3 b.2 ?_, ?_, ?_⟩
        · rw [← z2]
          exact List.mem_map.mpr ⟨b, hb, rfl⟩
        · have := congrArg List.length z2
          rw [List.length_map] at this
          rw [this]
          exact Nat.le_trans hc.2 lim_le
        · have q := srt_DDs z3
          rw [z2] at q
          exact new_lst s q P
      · exact P.elim
    | _ => exact P.elim
  | _ :: _ :: _, .cons h (.cons _ _) => cases h <;> exact P.elim
end
/-! ### dicts with tuple keys -/
def asKey : PyData → Option Key
  | .int i => some (.inl i)
  | .str x => some (.inr x)
  | _ => none
def asKeys : List PyData → Option (List Key)
  | [] => some []
  | d :: ds => match asKey d, asKeys ds with
    | some k, some ks => some (k :: ks)
    | _, _ => none
def asTup : PyData → Option (List Key)
  | .tuple ds => asKeys ds
  | _ => none
theorem asKeys_ok {F : Hp} : ∀ {ds : List PyData} {vs : List V} {ks : List Key}, DDs F vs ds → asKeys ds = some ks → vs = ks.map kV ∧ ds = ks.map keyD
  | [], _, _, .nil, h => by cases h; exact ⟨rfl, rfl⟩
  | d :: ds, _, ks, .cons r t, h => by
    unfold asKeys at h
    cases h1 : asKey d with
    | none => rw [h1] at h; cases h
    | some k =>
      cases h2 : asKeys ds with
      | none => rw [h1, h2] at h; cases h
      | some ks' =>
        rw [h1, h2] at h
        cases h
        obtain ⟨a, b⟩ := asKeys_ok t h2
        subst a b
        cases r with
        | int i => cases h1; exact ⟨rfl, rfl⟩
        | str x => cases h1; exact ⟨rfl, rfl⟩
        | _ => cases h1
theorem asTup_ok {F : Hp} {v : V} {d : PyData} {k : List Key} (r : DD F v d) (h : asTup d = some k) : ∃ b, v = .ref b ∧ F b = some (.tup (k.map kV)) := by
  cases r with
  | @tup a xs ds hF r =>
    have h : asKeys ds = some k := h
    obtain ⟨e, _⟩ := asKeys_ok r h
    subst e
    exact ⟨a, rfl, hF⟩
  | _ => cases h
section
variable {κ : Type} [DecidableEq κ]
def valP (kvs : List (κ × PyData)) (k : κ) : Option PyData := (kvs.find? fun kv => decide (kv.1 = k)).map (·.2)
def putP (kvs : List (κ × PyData)) (k : κ) (v : PyData) : List (κ × PyData) :=
  if (kvs.any fun kv => decide (kv.1 = k)) = true then kvs.map (fun kv => if kv.1 = k then (kv.1, v) else kv) else kvs ++ [(k, v)]
theorem KD.val {F : Hp} {k : κ} : ∀ {ws : List (κ × V)} {kvs : List (κ × PyData)}, KD F ws kvs → (valV ws k = none ∧ valP kvs k = none) ∨ ∃ v d, valV ws k = some v ∧ valP kvs k = some d ∧ DD F v d
  | _, _, .nil => .inl ⟨rfl, rfl⟩
  | w :: ws, kv :: kvs, .cons r t => by
    obtain ⟨e, h⟩ := r
    unfold valV valP
    by_cases hk : w.1 = k
    · refine .inr ⟨w.2, kv.2, ?_, ?_, h⟩
      · rw [List.find?_cons_of_pos (by simpa using hk)]; rfl
      · rw [List.find?_cons_of_pos (by simpa [← e] using hk)]; rfl
    · rw [List.find?_cons_of_neg (by simpa using hk), List.find?_cons_of_neg (by simpa [← e] using hk)]
      exact KD.val (k := k) t
theorem KD.any {F : Hp} {k : κ} : ∀ {ws : List (κ × V)} {kvs : List (κ × PyData)}, KD F ws kvs → (ws.any fun kv => decide (kv.1 = k)) = kvs.any fun kv => decide (kv.1 = k)
  | _, _, .nil => rfl
  | w :: ws, kv :: kvs, .cons r t => by
    rw [List.any_cons, List.any_cons, KD.any t, r.1]
theorem KD.app {F : Hp} {w : κ × V} {q : κ × PyData} (h : w.1 = q.1 ∧ DD F w.2 q.2) : ∀ {ws : List (κ × V)} {kvs : List (κ × PyData)}, KD F ws kvs → KD F (ws ++ [w]) (kvs ++ [q])
  | _, _, .nil => .cons h .nil
  | _ :: _, _ :: _, .cons r t => .cons r (KD.app h t)
theorem KD.mapPut {F : Hp} {k : κ} {v : V} {d : PyData} (h : DD F v d) : ∀ {ws : List (κ × V)} {kvs : List (κ × PyData)}, KD F ws kvs → KD F (ws.map fun kv => if kv.1 = k then (kv.1, v) else kv) (kvs.map fun kv => if kv.1 = k then (kv.1, d) else kv)
  | _, _, .nil => .nil
  | w :: ws, q :: kvs, .cons r t => by
    rw [List.map_cons, List.map_cons]
    refine .cons ?_ (KD.mapPut h t)
    by_cases hk : w.1 = k
    · rw [if_pos hk, if_pos (r.1 ▸ hk)]
      exact ⟨r.1, h⟩
    · rw [if_neg hk, if_neg (r.1 ▸ hk)]
      exact r
theorem KD.put {F : Hp} {k : κ} {v : V} {d : PyData} (h : DD F v d) {ws : List (κ × V)} {kvs : List (κ × PyData)} (r : KD F ws kvs) : KD F (putK ws k v) (putP kvs k d) := by
  unfold putK putP
  rw [KD.any r]
  split
  · exact KD.mapPut h r
  · exact KD.app ⟨rfl, h⟩ r
end
theorem KD.len {κ : Type} {F : Hp} : ∀ {ws : List (κ × V)} {kvs : List (κ × PyData)}, KD F ws kvs → ws.length = kvs.length
  | _, _, .nil => rfl
  | _ :: _, _ :: _, .cons _ t => congrArg (· + 1) (KD.len t)
theorem KD.keys {κ : Type} {F : Hp} : ∀ {ws : List (κ × V)} {kvs : List (κ × PyData)}, KD F ws kvs → ws.map (·.1) = kvs.map (·.1)
  | _, _, .nil => rfl
  | _ :: _, _ :: _, .cons r t => by rw [List.map_cons, List.map_cons, r.1, KD.keys t]
section
variable {X : Cx} {W : WX} {a b e f : Expr} {ta tb te tf : TE} {fa fb fe ff : Ev → Rs R} {pos p : Pos}
@[simp] def fDnewT : Ev → Rs R := fun _ => .ok (.dct [])
theorem ee_dnewT : EE X W (.Dict [] [] pos) tDNewT fDnewT where
  pe := pe_dnewT
  sound := fun {G H0 ρ σ F H} rel Q P => fun p np => P _ _ _ (Ext.addH rel.sub np) ⟨⟨p, [], rfl, upd_same, rel.sub.free np, .nil⟩, fun _ q e => by cases e; exact np⟩
/-- key in d -/
@[simp] def fDinT (i : Nat) (fa : Ev → Rs R) : Ev → Rs R := fun ρ => (fa ρ).bind fun r => r.d.bind fun x => match ρ[i]?, asTup x with
  | some (some (.dct kvs)), some k => .ok (.val (.bool (valP kvs k).isSome))
  | _, _ => .bad
@[simp] def fDNinT (i : Nat) (fa : Ev → Rs R) : Ev → Rs R := fun ρ => (fa ρ).bind fun r => r.d.bind fun x => match ρ[i]?, asTup x with
  | some (some (.dct kvs)), some k => .ok (.val (.bool (!(valP kvs k).isSome)))
  | _, _ => .bad
theorem KD.isSome {κ : Type} [DecidableEq κ] {F : Hp} {k : κ} {ws : List (κ × V)} {kvs : List (κ × PyData)} (r : KD F ws kvs) : (valV ws k).isSome = (valP kvs k).isSome := by
  rcases KD.val (k := k) r with ⟨h1, h2⟩ | ⟨v, d, h1, h2, _⟩ <;> rw [h1, h2] <;> rfl
theorem et_ofB {e : Expr} {te : TE} {f : Ev → Rs R} (hp : PT X e (tB te)) (h : EE X W e te f) : ET X W e (tB te) (fTest f) where
  pt := hp
  sound := fun rel Q P => h.sound rel _ (postB_data P fun d v F1 H1 e1 r1 P1 => by
    cases r1 <;> first
      | exact ⟨_, rfl, P1 _ _ (Ext.refl e1.sub)⟩
      | exact P1.elim)
section
variable (i : Nat) {x : Str} {p2 : Pos} (hu : X.A.units + 1 < cLine) (ha : EE X W a ta fa)
  (hN : X.N[i]? = some x := by rfl) (hv : Vis X.env.scope x := by first | exact Or.inl rfl | exact Or.inr (Or.inl rfl) | exact Or.inr (Or.inr rfl)) (hd : (x == ("__debug__" : Str)) = false := by decide) (hcd : (x == ("__classdict__" : Str)) = false := by decide)
include hu ha hN hv hd hcd
theorem ee_dinT (hm : behindInMarks .In (.Name x p2) = false := by rfl) : EE X W (.Compare a [.In] [.Name x p2] pos) (tDIn ta (tVar i)) (fDinT i fa) where
  pe := pe_cmp (pc_din hu ha.pe (pe_var hN hv hd hcd)) hm
  sound := fun {G H0 ρ σ F H} rel Q P => ha.sound rel _ (post_data P fun d v F1 H1 e1 r1 P1 => by
    split at P1
    · rename_i kvs k h hk
      obtain ⟨w, hw, p, ws, rfl, q1, q2, q3⟩ := (rel.step e1).at_ i _ h
      obtain ⟨b, rfl, hb⟩ := asTup_ok r1 hk
      refine ⟨_, hw, p, _, rfl, DGet.t q1 (e1.sub _ _ hb), ?_⟩
      rw [KD.isSome q3]
      exact post_flat e1.sub (.bl _) P1
    · exact P1.elim)
theorem ee_dNinT (hm : behindInMarks .NotIn (.Name x p2) = false := by rfl) : EE X W (.Compare a [.NotIn] [.Name x p2] pos) (tDNotIn ta (tVar i)) (fDNinT i fa) where
  pe := pe_cmp (pc_dnotin hu ha.pe (pe_var hN hv hd hcd)) hm
  sound := fun {G H0 ρ σ F H} rel Q P => ha.sound rel _ (post_data P fun d v F1 H1 e1 r1 P1 => by
    split at P1
    · rename_i kvs k h hk
      obtain ⟨w, hw, p, ws, rfl, q1, q2, q3⟩ := (rel.step e1).at_ i _ h
      obtain ⟨b, rfl, hb⟩ := asTup_ok r1 hk
      refine ⟨_, hw, p, _, rfl, DGet.t q1 (e1.sub _ _ hb), ?_⟩
      rw [KD.isSome q3]
      exact post_flat e1.sub (.bl _) P1
    · exact P1.elim)
theorem et_dinT (hm : behindInMarks .In (.Name x p2) = false := by rfl) : ET X W (.Compare a [.In] [.Name x p2] pos) (tB (tDIn ta (tVar i))) (fTest (fDinT i fa)) :=
  et_ofB (pt_cmp (pc_din hu ha.pe (pe_var hN hv hd hcd)) hm) (ee_dinT i hu ha hN hv hd hcd hm)
theorem et_dNinT (hm : behindInMarks .NotIn (.Name x p2) = false := by rfl) : ET X W (.Compare a [.NotIn] [.Name x p2] pos) (tB (tDNotIn ta (tVar i))) (fTest (fDNinT i fa)) :=
  et_ofB (pt_cmp (pc_dnotin hu ha.pe (pe_var hN hv hd hcd)) hm) (ee_dNinT i hu ha hN hv hd hcd hm)
/-- d[k] -/
@[simp] def fDgetT (i : Nat) (fa : Ev → Rs R) : Ev → Rs R := fun ρ => match ρ[i]? with
  | some (some (.dct kvs)) => (fa ρ).bind fun r => r.d.bind fun x => match asTup x with
    | some k => match valP kvs k with
      | some d => .ok (.val d)
      | none => .bad
    | none => .bad
  | _ => .bad
theorem ee_dgetT (hs : NoSl a := by exact fun _ _ => rfl) : EE X W (.Subscript (.Name x p2) a pos) (tDGet (tVar i) ta) (fDgetT i fa) where
  pe := pe_dget hu (pe_var hN hv hd hcd) ha.pe hs
  sound := fun {G H0 ρ σ F H} rel Q P => by
    unfold fDgetT at P
    split at P
    · rename_i kvs h
      obtain ⟨w, hw, p, ws, rfl, q1, q2, q3⟩ := rel.at_ i _ h
      refine ⟨_, hw, ha.sound rel _ (post_data P fun d v F1 H1 e1 r1 P1 => ?_)⟩
      split at P1
      · rename_i k hk
        obtain ⟨b, rfl, hb⟩ := asTup_ok r1 hk
        have q3' := KD.mono e1.ff q3
        rcases KD.val (k := k) q3' with ⟨_, h2⟩ | ⟨u, y, h1, h2, h3⟩
        · rw [h2] at P1; exact P1.elim
        · rw [h2] at P1
          refine ⟨p, u, rfl, ?_, post_flat e1.sub h3 P1⟩
          rw [← h1]
          exact DGet.t (e1.hh _ _ q1) (e1.sub _ _ hb)
      · exact P1.elim
    · exact P.elim
/-- d.get(k, default) -/
@[simp] def fDget2T (i : Nat) (fa fe : Ev → Rs R) : Ev → Rs R := fun ρ => match ρ[i]? with
  | some (some (.dct kvs)) => (fa ρ).bind fun r => r.d.bind fun x => (fe ρ).bind fun r2 => r2.d.bind fun y => match asTup x with
    | some k => .ok (.val ((valP kvs k).getD y))
    | none => .bad
  | _ => .bad
theorem ee_dget2T {apos : Pos} (he : EE X W e te fe) (m : M2 X (.Name x p2) "get" apos a e pos := by exact ⟨rfl, rfl, rfl, rfl⟩) : EE X W (.Call (.Attribute (.Name x p2) "get" apos) [a, e] [] pos) (tDGet2 (tVar i) ta te) (fDget2T i fa fe) where
  pe := pe_dget2 hu (pe_var hN hv hd hcd) ha.pe he.pe m
  sound := fun {G H0 ρ σ F H} rel Q P => by
    unfold fDget2T at P
    split at P
    · rename_i kvs h
      obtain ⟨w, hw, p, ws, rfl, q1, q2, q3⟩ := rel.at_ i _ h
      refine ⟨_, hw, p, rfl, .inr ⟨ws, .inl q1⟩, ha.sound rel _ (post_data P fun d v F1 H1 e1 r1 P1 => ?_)⟩
      refine he.sound (rel.step e1) _ (post_data P1 fun d2 v2 F2 H2 e2 r2 P2 => ?_)
      split at P2
      · rename_i k hk
        obtain ⟨b, rfl, hb⟩ := asTup_ok r1 hk
        have q3' := KD.mono (e1.ff.trans e2.ff) q3
        refine ⟨valV ws k, DGet.t (e2.hh _ _ (e1.hh _ _ q1)) (e2.hh _ _ (e1.sub _ _ hb)), ?_⟩
        rcases KD.val (k := k) q3' with ⟨h1, h2⟩ | ⟨u, y, h1, h2, h3⟩
        · rw [h1]; rw [h2] at P2
          exact post_flat e2.sub r2 P2
        · rw [h1]; rw [h2] at P2
          exact post_flat e2.sub h3 P2
      · exact P2.elim
    · exact P.elim
/-- d[k] = v -/
@[simp] def gDputT (i : Nat) (fa fe : Ev → Rs R) : Ev → RO := fun ρ => onR ρ ((fe ρ).bind R.d) fun v => match ρ[i]? with
  | some (some (.dct kvs)) => onR ρ ((fa ρ).bind R.d) fun x => match asTup x with
    | some k => if kvs.length < lim then .nx (ρ.set i (some (.dct (putP kvs k v)))) else .bad
    | none => .bad
  | _ => .bad
theorem es_dputT {tpos : Pos} (he : EE X W e te fe) (hsw : swapsWith e (some (.Subscript (.Name x p2) a tpos)) pos.line X.env = pure false := by rfl) : ES X W (.Assign [.Subscript (.Name x p2) a tpos] e pos) (sDPut (tVar i) ta te) (gDputT i fa fe) where
  ps := ps_dput hu (pe_var hN hv hd hcd) ha.pe he.pe hsw
  sound := fun {G H0 ρ σ F H} rel D P => he.sound rel _ (postS_data rel P fun d v F1 H1 e1 r1 P1 => by
    split at P1
    · rename_i kvs h
      have rel1 := rel.step e1
      obtain ⟨w, hw, p, ws, rfl, q1, q2, q3⟩ := rel1.at_ i _ h
      refine ⟨_, hw, ha.sound rel1 _ (postS_data rel1 P1 fun d2 v2 F2 H2 e2 r2 P2 => ?_)⟩
      split at P2
      · rename_i k hk
        obtain ⟨b, rfl, hb⟩ := asTup_ok r2 hk
        split at P2
        · rename_i hl
          have q3' := KD.mono e2.ff q3
          refine ⟨p, _, rfl, DPut.t (e2.hh _ _ q1) (e2.sub _ _ hb) (by rw [KD.len q3']; exact Nat.lt_trans hl lim_lt), P2 _ _ _ ((rel1.step e2).mut h rfl hw (e2.own q1 q2) ⟨p, _, rfl, upd_same, e2.own q1 q2, KD.put (DD.mono e2.ff _ _ r1) q3'⟩ rfl)⟩
        · exact P2.elim
      · exact P2.elim
    · exact P1.elim)
end
/-- sorted(d) -/
@[simp] def fSortedDT (i : Nat) : Ev → Rs R := fun ρ => match ρ[i]? with
  | some (some (.dct kvs)) => if sortable (kvs.map fun kv => kTup kv.1) = true then .ok (.own (sortD (kvs.map fun kv => kTup kv.1))) else .bad
  | _ => .bad
theorem keys_DD {K : PySem.W.Frag} {F : Hp} : ∀ {ws : List (List Key × V)} {bs : List Addr}, Paired (fun (p : List Key × V) (b : Addr) => F b = some (.tup (p.1.map kV))) ws bs → ∀ b ∈ (bs.map V.ref).zip (ws.map fun kv => kTup kv.1), DD F b.1 b.2
  | _, _, .nil => fun _ h => by cases h
  | w :: ws, b :: bs, .cons h t => fun x hx => by
    rw [List.map_cons, List.map_cons, List.zip_cons_cons] at hx
    rcases List.mem_cons.mp hx with rfl | hx
    · have key : ∀ ks : List Key, DDs F (ks.map kV) (ks.map keyD) := fun ks => by
        induction ks with
        | nil => exact .nil
        | cons k ks ih =>
          refine .cons ?_ ih
          cases k with
          | inl i => exact .int i
          | inr x => exact .str x
      exact .tup h (key w.1)
    · exact keys_DD (K := K) t x hx
/-- what stays, with the tuples at these places -/
def addTups (F H : Hp) (bs : List Addr) : Hp := fun a => match F a with
  | some o => some o
  | none => if a ∈ bs then (match H a with | some (.tup xs) => some (.tup xs) | _ => none) else none
theorem addTups_ext {F H : Hp} (s : Same F H) (bs : List Addr) : Ext F H (addTups F H bs) H where
  old := s
  ff := fun a o e => by unfold addTups; rw [e]
  hh := Same.refl _
  sub := fun a o e => by
    unfold addTups at e
    split at e
    · rename_i o' h; cases e; exact s _ _ h
    · split at e
      · split at e
        · rename_i xs h; cases e; exact h
        · cases e
      · cases e
  new := fun a q => by
    unfold addTups at q
    split at q
    · rename_i o' h; exact .inl (by rw [h]; exact fun z => nomatch z)
    · split at q
      · split at q
        · rename_i xs h
          exact .inr fun o e => by rw [h] at e; cases e; exact ⟨xs, rfl⟩
        · exact absurd rfl q
      · exact absurd rfl q
theorem addTups_at {F H : Hp} (s : Same F H) {bs : List Addr} {b : Addr} {xs : List V} (hb : b ∈ bs) (h : H b = some (.tup xs)) : addTups F H bs b = some (.tup xs) := by
  unfold addTups
  cases hF : F b with
  | some o =>
    have := s _ _ hF
    rw [h] at this
    cases this
    rfl
  | none => simp only [if_pos hb, h]
theorem isKeys_add {F H : Hp} (s : Same F H) : ∀ {ws : List (List Key × V)} {bs cs : List Addr}, (∀ b ∈ bs, b ∈ cs) → IsKeys H ws bs → Paired (fun (p : List Key × V) (b : Addr) => addTups F H cs b = some (.tup (p.1.map kV))) ws bs
  | _, _, _, _, .nil => .nil
  | w :: ws, b :: bs, cs, hs, .cons h t => .cons (addTups_at s (hs b List.mem_cons_self) h) (isKeys_add s (fun x hx => hs x (List.mem_cons_of_mem _ hx)) t)
theorem ee_sortedDT (i : Nat) {x : Str} {p2 : Pos} (hu : X.A.units + 64 < cLine) (hm : X.mg "sorted" = none) (hN : X.N[i]? = some x := by rfl) (hv : Vis X.env.scope x := by first | exact Or.inl rfl | exact Or.inr (Or.inl rfl) | exact Or.inr (Or.inr rfl)) (hd : (x == ("__debug__" : Str)) = false := by decide) (hcd : (x == ("__classdict__" : Str)) = false := by decide)
    (hg : Gl X "sorted" := by rfl) (hc : X.calm = true := by rfl) (he : starEach [.Name x p2] X.env = (false, eval (.Name x p2) X.env) :: starEach [] X.env := by rfl) (hpl : (backTo pos (starEach [] X.env)).any (·.1) = false := by rfl) :
    EE X W (.Call (.Name "sorted" p) [.Name x p2] [] pos) (tCB rSortedDT (tCons (tVar i) tNil)) (fSortedDT i) where
  pe := pe_callB (cr_sortedDT hc hu) hg hm (by decide +kernel) (pa_cons (pe_var hN hv hd hcd) pa_nil he) (by decide) (by decide) he hpl
  sound := fun {G H0 ρ σ F H} rel Q P => by
    unfold fSortedDT at P
    split at P
    · rename_i kvs h
      split at P
      · rename_i hc
        obtain ⟨w, hw, p, ws, rfl, q1, q2, q3⟩ := rel.at_ i _ h
        have ek : (ws.map fun kv => kTup kv.1) = kvs.map fun kv => kTup kv.1 := by
          have := congrArg (List.map kTup) (KD.keys q3)
          rw [List.map_map, List.map_map] at this
          exact this
        obtain ⟨a1, a2, a3⟩ := sortable_ok hc
        refine ⟨_, hw, p, ws, rfl, q1, by rw [ek]; exact a1, by rw [ek]; exact a2, fun l bs nl isk => ?_⟩
        have ex := addTups_ext rel.sub bs
        have dd := srt_DDs (keys_DD (K := X.K) (isKeys_add rel.sub (fun _ q => q) isk))
        rw [(keys_zip (K := X.K) isk).2.1, ek] at dd
        rw [ek] at *
        have nl' : H l = none := nl
        exact P _ _ _ (ex.trans (Ext.addH ex.sub nl')) ⟨⟨l, _, rfl, upd_same, ex.sub.free nl', dd⟩, fun _ q e => by cases e; exact nl'⟩
      · exact P.elim
    · exact P.elim
end
end DN
/-! Den14: sorted(set(xs)), len(set(xs)) of ints; list(range(n)); lists of ours: membership, stores. -/
namespace DN
open PySem PySem.Spec PyProof.Rows L2
abbrev noneYet (w : World) : Obj := { cls := .type "set", dict := none, data := .set #[] 0 (.fresh 0 0 (!w.params.followText "set-order")) }
section
variable {P : Program} {w : World} {A : Around} {E : Value → Shared → Prop} {s : Shared}
set_option maxRecDepth 100000 in
set_option maxHeartbeats 3200000 in
/-- set(xs), xs a list of ints -/
theorem set_of_list {l : Addr} {its : Array Value} (ns : List Int) {Q : Value → Shared → Prop} (nh : A.handled = none) (isl : s.heap.IsList l its) (iA : IntsAre its.toList ns) (small : ns.length + 1 < scanBound)
    (fin : ∀ (g : Heap) (tk c : Nat), SetR w g s.heap.objs.size (fun j => decide (j ∈ ns)) c → c ≤ ns.length → (∀ b o, s.heap.get? b = some o → g.get? b = some o) → Q (.ref s.heap.objs.size) { s with heap := g, toks := tk }) :
    wpAny (model P w) A (call (.type "set") [.ref l]) Q E s := by
  have isz : its.size = ns.length := by
    have q := IntsAre.length iA
    rw [Array.length_toList] at q
    exact q
  obtain ⟨c, tl, m1⟩ := F.called_set.mro
  have m2 := F.called_set.made
  have m3 := F.called_set.sub
  refine wpAny_call (codeAny_of_tree ?_)
  show wpAny _ A.in1 (callAny (.type "set") _) _ _ s
  refine wpAny_pure ⟨Code.quiet_builtin _ (by decide +kernel), codeAny_builtin F.entry_type_call ?_⟩ <;> skip
  rw [Around.under_plain (weight_type_call_type "set" [.ref l] []) rfl] <;> skip
  have m4 := F.called_set.notType
  have m5 := F.called_set.canCreate
  have m6 := F.typeCall_set_1 (.ref l)
  (repeat (any_goals (first | assumption | wp_step)))
  refine codeAny_mono (code_set_led1 (.ref l) (E := E) (Q₁ := fun obj s₁ => obj = .ref s.heap.objs.size ∧ s₁ = { s with heap := s.heap.push (noneYet w) }) ⟨rfl, rfl⟩) fun r s₁ hr => ?_
  cases r with
  | error e => exact hr
  | ok fl =>
    cases fl with
    | ret obj =>
      obtain ⟨rfl, rfl⟩ := hr
      have hS : (s.heap.push (noneYet w)).get? s.heap.objs.size = some (noneYet w) := Heap.get?_push_size _ rfl
      have hT : Shared.TypeIs { s with heap := s.heap.push (noneYet w) } (.ref s.heap.objs.size) "set" := ⟨_, hS, rfl⟩
      have m7 := F.called_set.init.lookup
      have m8 := F.called_set.init.bind (.ref s.heap.objs.size)
      (repeat (any_goals (first | assumption | wp_step)))
      refine codeAny_mono (codeAny_call_builtin (R := wants (fun r t => r = .none ∧ ∃ g tk c, t = { s with heap := g, toks := tk } ∧ SetR w g s.heap.objs.size (fun j => decide (j ∈ ns)) c ∧ c ≤ ns.length ∧ ∀ b o, s.heap.get? b = some o → g.get? b = some o) E) F.called_set.init.plain F.entry_set_init (check_set_init_1 hT ?_)) fun r2 s2 hr2 => ?_
      · obtain ⟨ol, hol, hcl, nl, hdl⟩ := isl
        obtain ⟨oc, od, oda, osl⟩ := ol
        simp only at hcl hdl
        subst hcl; subst hdl
        have at1 : (s.heap.push (noneYet w)).get? l = some { cls := .type "list", dict := od, data := .seq its nl, slots := osl } := Heap.get?_push_of_some _ hol
        have n1 := F.sub_list_set
        have n2 := F.sub_list_frozenset
        have n3 : (Value.type "list" == Value.type "dict") = false := rfl
        have l1 : (s.heap.push (noneYet w)).IsList l its := ⟨_, at1, rfl, nl, rfl⟩
        unfold Builtin.«set.__init__» noKeywords <;> unfold Builtin.Frozenset.updateFrom
        generalize hPI : pyIter = PI
        wp_walk
        subst hPI
        refine wpAny_pyIter_list l1 (wpAny_bind (wpAny_runValue ?_))
        have lS : l < s.heap.objs.size := Heap.lt_size hol
        have nh3 : A.in1.in1.in1.handled = none := by simp [nh]
        have sz1 : (s.heap.push (noneYet w)).objs.size = s.heap.objs.size + 1 := Heap.size_push ..
        have ne1 : l ≠ (s.heap.push (noneYet w)).objs.size := by rw [sz1]; exact Nat.ne_of_lt (Nat.lt_succ_of_lt lS)
        have out1 : s.heap.objs.size ∉ [(s.heap.push (noneYet w)).objs.size, l] := by
          intro z
          rw [sz1] at z
          rcases List.mem_cons.mp z with z | z
          · exact absurd z (Nat.ne_of_lt (Nat.lt_succ_self _))
          · exact absurd (List.mem_singleton.mp z) (Nat.ne_of_gt lS)
        have each : ∀ (i : Nat) (v : Value), its[i]? = some v → ∃ k t, ns[i]? = some k ∧ v = .int k t := fun i v hv => by
          have hi : i < ns.length := by rw [← isz]; exact (Array.getElem?_eq_some_iff.mp hv).1
          obtain ⟨t, e⟩ := PyProof.Rows.IntsAre.int_at iA i v (by rw [Array.getElem?_toList] <;> exact hv)
          refine ⟨ns[i], t, List.getElem?_eq_getElem hi, ?_⟩ <;> rw [e, List.getD_eq_getElem?_getD, List.getElem?_eq_getElem hi] <;> rfl
        refine set_update_ints ((Walks.list nh3 _ l ne1 its).toS) s.heap.objs.size out1 ns isz small each (its.size - 0) 0 _ (by omega) (Nat.zero_le _) ⟨⟨_, Heap.get?_push_size _ rfl, rfl, rfl⟩, (l1.push _)⟩ ?S0 ?SR
        case S0 =>
          have at2 : ((s.heap.push (noneYet w)).push { cls := .type "list_iterator", data := .fields #[.ref l, .int 0 0] }).get? s.heap.objs.size = some (noneYet w) := Heap.get?_push_of_some _ hS
          exact ⟨0, Nat.le_refl 0, setR_new_at at2⟩
        case SR =>
          intro s' c' mv hc' hS'
          obtain ⟨g, g2, d', tk', os'⟩ := s'
          have eg : g2 = s.gens := mv.gens
          have ed : d' = s.drawn := mv.drawn
          have eo : os' = s.os := mv.os
          subst eg; subst ed; subst eo
          show wpAny _ _ _ _ _ _
          refine wpAny_pure ?_
          show wpAny _ _ (ret Value.none) _ _ _
          rw [isz] at hc'
          refine wpAny_pure ⟨rfl, g, tk', c', rfl, hS', hc', fun b o e => ?_⟩
          have hb0 : b < s.heap.objs.size := Heap.lt_size e
          refine mv.heap b o ?_ (Heap.get?_push_of_some _ (Heap.get?_push_of_some _ e))
          intro z
          rw [sz1] at z
          rcases List.mem_cons.mp z with z | z
          · exact absurd z (Nat.ne_of_lt hb0)
          · exact absurd (List.mem_singleton.mp z) (Nat.ne_of_lt (Nat.lt_succ_of_lt hb0))
      · cases r2 with
        | error e => exact hr2
        | ok fl2 =>
          cases fl2 with
          | ret r =>
            obtain ⟨rfl, g, tk, c', rfl, hS', hc', hk'⟩ := hr2
            (repeat (any_goals (first | assumption | wp_step)))
            exact fin _ _ _ hS' hc' hk'
          | _ => exact hr2.elim
    | _ => exact hr.elim
end
end DN
namespace DN
open PySem PySem.Spec PyProof.Rows L2
/-! ### denotations -/
/-- the members of a list of ints, ascending, each once -/
def sortU (ns : List Int) : List Int := (ns.mergeSort (fun a b => decide (a ≤ b))).eraseDups
theorem lt_unique : ∀ {xs ys : List Int}, xs.Pairwise (· < ·) → ys.Pairwise (· < ·) → (∀ k, k ∈ xs ↔ k ∈ ys) → xs = ys
  | [], [], _, _, _ => rfl
  | [], y :: ys, _, _, h => by have := (h y).mpr List.mem_cons_self; cases this
  | x :: xs, [], _, _, h => by have := (h x).mp List.mem_cons_self; cases this
  | x :: xs, y :: ys, h1, h2, h => by
    rw [List.pairwise_cons] at h1 h2
    have e : x = y := by
      rcases List.mem_cons.mp ((h x).mp List.mem_cons_self) with e | e
      · exact e
      · rcases List.mem_cons.mp ((h y).mpr List.mem_cons_self) with e2 | e2
        · exact e2.symm
        · have := h2.1 x e
          have := h1.1 y e2
          omega
    subst e
    congr 1
    refine lt_unique h1.2 h2.2 fun k => ⟨fun hk => ?_, fun hk => ?_⟩
    · rcases List.mem_cons.mp ((h k).mp (List.mem_cons_of_mem _ hk)) with e | e
      · subst e
        have := h1.1 k hk
        omega
      · exact e
    · rcases List.mem_cons.mp ((h k).mpr (List.mem_cons_of_mem _ hk)) with e | e
      · subst e
        have := h2.1 k hk
        omega
      · exact e
theorem eraseDups_lt : ∀ (n : Nat) (xs : List Int), xs.length ≤ n → xs.Pairwise (· ≤ ·) → xs.eraseDups.Pairwise (· < ·)
  | _, [], _, _ => by rw [List.eraseDups_nil]; exact .nil
  | 0, x :: xs, hn, _ => by simp at hn
  | n + 1, x :: xs, hn, h => by
    rw [List.eraseDups_cons, List.pairwise_cons]
    rw [List.pairwise_cons] at h
    refine ⟨fun y hy => ?_, ?_⟩
    · have hy := List.mem_eraseDups.mp hy
      rw [List.mem_filter] at hy
      have h1 := h.1 y hy.1
      have h2 : y ≠ x := by simpa using hy.2
      omega
    · refine eraseDups_lt n _ ?_ (h.2.filter _)
      have := List.length_filter_le (fun b => !b == x) xs
      simp at hn
      omega
theorem sortU_lt (ns : List Int) : (sortU ns).Pairwise (· < ·) := by
  unfold sortU
  refine eraseDups_lt _ _ (Nat.le_refl _) ?_
  have := List.pairwise_mergeSort (le := fun a b : Int => decide (a ≤ b)) (fun a b c h1 h2 => by simp at *; omega) (fun a b => by simp; omega) ns
  simpa using this
theorem mem_sortU (ns : List Int) (k : Int) : k ∈ sortU ns ↔ k ∈ ns := by
  unfold sortU
  rw [List.mem_eraseDups, List.mem_mergeSort]
section
variable {X : Cx}
def rSetOfI (K : PySem.W.Frag) (w : World) : List V → Hp → VK → Prop := fun xs H Q => ∃ (l : Addr) (ns : List Int), xs = [V.ref l] ∧ SqL K H l (ns.map V.int) ∧ ns.length ≤ 1000 ∧
  ∀ a, H a = none → Q (.ref a) (upd H a (SetO w a (fun j => decide (j ∈ ns)) (sortU ns).length))
theorem setR_len {w : World} {h : Heap} {a : Addr} {ns : List Int} {c : Nat} (R : SetR w h a (fun j => decide (j ∈ ns)) c) : c = (sortU ns).length := by
  obtain ⟨o, es, ep, t, ho, hex, hdt, g, nd, hm, hb, hf, hn, _⟩ := R
  have hm : ∀ k, k ∈ es.toList.map keyOf ↔ k ∈ sortU ns := fun k => by
    rw [← hm k, mem_sortU]
    simp
  have nd2 : (sortU ns).Nodup := (sortU_lt ns).imp fun {a b} h => by omega
  have h1 := List.Nodup.length_le_of_subset nd (l₂ := sortU ns) fun k hk => (hm k).mp hk
  have h2 := List.Nodup.length_le_of_subset nd2 (l₂ := es.toList.map keyOf) fun k hk => (hm k).mpr hk
  have e1 : (es.toList.map keyOf).length = c := by rw [List.length_map, Array.length_toList]; exact hn
  omega
theorem cr_setOfI (hc : X.calm = true) : CallR X (.type "set") (rSetOfI X.K X.w) := by
  intro pins s σ H xs us Q I r h
  obtain ⟨l, ns, rfl, hl, hn, q⟩ := h
  rw [Vals.ref1 r]
  obtain ⟨its, rv, pl, hz⟩ := I.list hl
  refine set_of_list ns (I.ok.hd hc) pl.isList (by simpa using rv.ints) (by unfold scanBound; omega) fun g tk c R hcn k => ?_
  have hc := setR_len R
  subst hc
  exact ⟨.ref s.heap.objs.size, upd H s.heap.objs.size (SetO X.w s.heap.objs.size (fun j => decide (j ∈ ns)) (sortU ns).length), I.laid (t' := tk) k (Nat.le_refl _) (setO_new R), rfl, q _ (I.hok.fresh (Nat.le_refl _))⟩
end
def setSortedD : PyData → Rs R
  | .list ds => match asIs ds with
    | some ns => if ns.length ≤ 1000 ∧ (sortU ns).length < 64 then .ok (.own ((sortU ns).map .int)) else .bad
    | none => .bad
  | _ => .bad
section
variable {X : Cx} {W : WX} {a e : Expr} {ta te : TE} {fa : Ev → Rs R} {pos p p2 q : Pos} (K : PySem.W.Frag) (w : World)
theorem ek_setSorted (hm : X.mg "sorted" = none) (hm2 : X.mg "set" = none) (ha : EE X W a ta fa) (hg : Gl X "sorted" := by rfl) (hg2 : Gl X "set" := by rfl) (hc : X.calm = true := by rfl)
    (na : starEach [a] X.env = (false, eval a X.env) :: starEach [] X.env := by rfl) (ns : starEach [.Call (.Name "set" p2) [a] [] q] X.env = (false, eval (.Call (.Name "set" p2) [a] [] q) X.env) :: starEach [] X.env := by rfl)
    (hpl : (backTo pos (starEach [] X.env)).any (·.1) = false := by rfl) (hpl2 : (backTo q (starEach [] X.env)).any (·.1) = false := by rfl) (hK : X.K = K := by rfl) (hw : X.w = w := by rfl) :
    EE X W (.Call (.Name "sorted" p) [.Call (.Name "set" p2) [a] [] q] [] pos) (tCB (rSortedSet w) (tCons (tCB (rSetOfI K w) (tCons ta tNil)) tNil)) (fUn setSortedD fa) := by
  subst hK hw
  refine ⟨pe_callB (cr_sortedSet hc) hg hm (by decide +kernel) (pa_cons (pe_callTy (cr_setOfI hc) hg2 hm2 (by decide +kernel) (pa_cons ha.pe pa_nil na) (by decide) (by decide) na hpl2) pa_nil ns) (by decide) (by decide) ns hpl, fun {G H0 ρ σ F H} rel Q P => ?_⟩
  refine ha.sound rel _ (post_data P fun d v F1 H1 e1 r1 P1 => ?_)
  unfold setSortedD at P1
  cases r1 with
  | @lst l xs ds hl r =>
    dsimp only at P1
    split at P1
    · rename_i ns hns
      split at P1
      · rename_i h64
        have := asIs_eq hns
        subst this
        have := r.ofInts
        subst this
        refine ⟨l, ns, rfl, SqL.of (e1.sub _ _ hl), h64.1, fun s hs => ?_⟩
        refine ⟨s, _, _, rfl, upd_same, h64.2, fun ys p hp hmem _ hn => ?_⟩
        have ey : ys = sortU ns := lt_unique hp (sortU_lt ns) fun k => by
          rw [hmem k, mem_sortU]
          simp
        subst ey
        have np : H1 p = none := by
          by_cases z : p = s
          · subst z; rw [upd_same] at hn; cases hn
          · rw [upd_ne z] at hn; exact hn
        have ex : Ext F1 H1 F1 (upd (upd H1 s (SetO X.w s (fun j => decide (j ∈ ns)) (sortU ns).length)) p (.lst ((sortU ns).map V.int))) := (Ext.addH e1.sub hs).trans (Ext.addH ((e1.sub).trans (same_new hs)) hn)
        exact P1 _ _ _ ex ⟨⟨p, _, rfl, upd_same, e1.sub.free np, DDs.ints _⟩, fun _ q e => by cases e; exact np⟩
      · exact P1.elim
    · exact P1.elim
  | _ => exact P1.elim
end
/-! ### in, over a list of ours -/
theorem post_thaw {K : PySem.W.Frag} {mg : Str → Option Value} {W : WX} {σ : L2.St} {F H : Hp} {Q : VK} {p : Addr} {vs : List V} {b : Bool} (hp : H p = some (.lst vs)) (hF : F p = none) (P : Post K mg W σ F H Q (.ok (.val (.bool b)))) : Post K mg W σ (upd F p (.lst vs)) H Q (.ok (.val (.bool b))) := by
  intro v F' H' e r
  have hr : DD F' v (.bool b) := r.1
  cases hr
  refine P (.bl b) (fun a => if a = p then none else F' a) H' ⟨?_, fun a o q => ?_, e.hh, fun a o q => ?_, fun a q => ?_⟩ ⟨.bl b, fun z => by cases z⟩
  · exact fun a o q => e.old a o (by rw [upd_ne (ne_of_none q hF)]; exact q)
  · have : a ≠ p := ne_of_none q hF
    show (if a = p then none else F' a) = some o
    rw [if_neg this]
    exact e.ff a o (by rw [upd_ne this]; exact q)
  · have q : (if a = p then none else F' a) = some o := q
    split at q
    · cases q
    · exact e.sub a o q
  · have q : (if a = p then none else F' a) ≠ none := q
    split at q
    · exact absurd rfl q
    · rename_i hne
      rcases e.new a q with z | z
      · rw [upd_ne hne] at z
        exact .inl z
      · exact .inr z
@[simp] def fOin (i : Nat) (fa : Ev → Rs R) : Ev → Rs R := fun ρ => (fa ρ).bind fun r => r.d.bind fun x => match ρ[i]? with
  | some (some (.own ds)) => opIn x (.list ds)
  | some (some (.val d)) => opIn x d
  | _ => .bad
@[simp] def fONin (i : Nat) (fa : Ev → Rs R) : Ev → Rs R := fun ρ => (fa ρ).bind fun r => r.d.bind fun x => match ρ[i]? with
  | some (some (.own ds)) => opNotIn x (.list ds)
  | some (some (.val d)) => opNotIn x d
  | _ => .bad
section
variable {X : Cx} {W : WX} {a : Expr} {ta : TE} {fa : Ev → Rs R} {pos : Pos} (K : PySem.W.Frag)
  (i : Nat) {x : Str} {p2 : Pos} (hu : X.A.units + 65 < cLine) (ha : EE X W a ta fa)
  (hN : X.N[i]? = some x := by rfl) (hv : Vis X.env.scope x := by first | exact Or.inl rfl | exact Or.inr (Or.inl rfl) | exact Or.inr (Or.inr rfl)) (hd : (x == ("__debug__" : Str)) = false := by decide) (hcd : (x == ("__classdict__" : Str)) = false := by decide)
include hu ha hN hv hd hcd
theorem ek_oin (hm : behindInMarks .In (.Name x p2) = false := by rfl) (hK : X.K = K := by rfl) : EE X W (.Compare a [.In] [.Name x p2] pos) (tOp (rInA K) ta (tVar i)) (fOin i fa) := by
  subst hK
  refine ⟨pe_cmpR (op_inA hu) ha.pe (pe_var hN hv hd hcd) hm, fun {G H0 ρ σ F H} rel Q P => ha.sound rel _ (post_data P fun d v F1 H1 e1 r1 P1 => ?_)⟩
  split at P1
  · rename_i ds h
    obtain ⟨w, hw, p, vs, rfl, q1, q2, q3⟩ := (rel.step e1).at_ i _ h
    have sm : Same F1 (upd F1 p (.lst vs)) := same_new q2
    have sb : Same (upd F1 p (.lst vs)) H1 := fun b o q => by
      by_cases z : b = p
      · subst z; rw [upd_same] at q; rw [q1]; exact q
      · rw [upd_ne z] at q; exact e1.sub _ _ q
    refine ⟨_, hw, od_in (W := W) (σ := σ) sb (DD.mono sm _ _ r1) (.lst upd_same (DDs.mono sm _ _ q3)) ?_⟩
    unfold opIn at P1 ⊢
    cases hi : inD d (.list ds) with
    | ok b => rw [hi] at P1; exact post_thaw q1 q2 P1
    | err c => rw [hi] at P1; exact P1
    | bad => rw [hi] at P1; exact P1.elim
  · rename_i e h
    obtain ⟨w, hw, q⟩ := (rel.step e1).at_ i _ h
    exact ⟨_, hw, od_in (W := W) (σ := σ) e1.sub r1 q P1⟩
  · exact P1.elim
theorem ek_oNin (hm : behindInMarks .NotIn (.Name x p2) = false := by rfl) (hK : X.K = K := by rfl) : EE X W (.Compare a [.NotIn] [.Name x p2] pos) (tOp (rNotInA K) ta (tVar i)) (fONin i fa) := by
  subst hK
  refine ⟨pe_cmpR (op_notInA hu) ha.pe (pe_var hN hv hd hcd) hm, fun {G H0 ρ σ F H} rel Q P => ha.sound rel _ (post_data P fun d v F1 H1 e1 r1 P1 => ?_)⟩
  split at P1
  · rename_i ds h
    obtain ⟨w, hw, p, vs, rfl, q1, q2, q3⟩ := (rel.step e1).at_ i _ h
    have sm : Same F1 (upd F1 p (.lst vs)) := same_new q2
    have sb : Same (upd F1 p (.lst vs)) H1 := fun b o q => by
      by_cases z : b = p
      · subst z; rw [upd_same] at q; rw [q1]; exact q
      · rw [upd_ne z] at q; exact e1.sub _ _ q
    refine ⟨_, hw, od_notIn (W := W) (σ := σ) sb (DD.mono sm _ _ r1) (.lst upd_same (DDs.mono sm _ _ q3)) ?_⟩
    unfold opNotIn at P1 ⊢
    cases hi : inD d (.list ds) with
    | ok b => rw [hi] at P1; exact post_thaw q1 q2 P1
    | err c => rw [hi] at P1; exact P1
    | bad => rw [hi] at P1; exact P1.elim
  · rename_i e h
    obtain ⟨w, hw, q⟩ := (rel.step e1).at_ i _ h
    exact ⟨_, hw, od_notIn (W := W) (σ := σ) e1.sub r1 q P1⟩
  · exact P1.elim
theorem tk_oin (hm : behindInMarks .In (.Name x p2) = false := by rfl) (hK : X.K = K := by rfl) : ET X W (.Compare a [.In] [.Name x p2] pos) (tTest (tOp (rInA K) ta (tVar i))) (fTest (fOin i fa)) := by
  subst hK
  exact et_of (pt_cmpR (op_inA hu) ha.pe (pe_var hN hv hd hcd) hm) (ek_oin _ i hu ha hN hv hd hcd hm rfl)
theorem tk_oNin (hm : behindInMarks .NotIn (.Name x p2) = false := by rfl) (hK : X.K = K := by rfl) : ET X W (.Compare a [.NotIn] [.Name x p2] pos) (tTest (tOp (rNotInA K) ta (tVar i))) (fTest (fONin i fa)) := by
  subst hK
  exact et_of (pt_cmpR (op_notInA hu) ha.pe (pe_var hN hv hd hcd) hm) (ek_oNin _ i hu ha hN hv hd hcd hm rfl)
end
/-! ### list(range(..)) -/
theorem rgV_DDs {F : Hp} (i j : Int) : DDs F (rgV i j) (rngD i (j - i).toNat) := by
  unfold rgV rngD
  generalize List.range (j - i).toNat = xs
  induction xs with
  | nil => exact .nil
  | cons x xs ih => exact .cons (.int _) ih
@[simp] def fListRange (fa : Ev → Rs R) : Ev → Rs R := fun ρ => (fa ρ).bind fun r => r.d.bind fun x => match x with
  | .int n => if n.natAbs ≤ 1000000 then .ok (.own (rngD 0 n.toNat)) else .bad
  | _ => .bad
theorem ee_listRange {X : Cx} {W : WX} {a : Expr} {ta : TE} {fa : Ev → Rs R} {pos p q p2 : Pos} (ha : EE X W a ta fa) (hm : X.mg "list" = none) (hm2 : X.mg "range" = none) (hg : Gl X "list" := by rfl) (hg2 : Gl X "range" := by rfl) (hc : X.calm = true := by rfl)
    (na : starEach [a] X.env = (false, eval a X.env) :: starEach [] X.env := by rfl) (nr : starEach [.Call (.Name "range" p2) [a] [] q] X.env = (false, eval (.Call (.Name "range" p2) [a] [] q) X.env) :: starEach [] X.env := by rfl) :
    EE X W (.Call (.Name "list" p) [.Call (.Name "range" p2) [a] [] q] [] pos) (tLstRg (tRg1 ta)) (fListRange fa) where
  pe := pe_listRg hc hg hm (prg_1 hg2 hm2 ha.pe na) nr
  sound := fun {G H0 ρ σ F H} rel Q P => ha.sound rel _ (post_data P fun d v F1 H1 e1 r1 P1 => by
    cases r1 with
    | int n =>
      dsimp only at P1
      split at P1
      · refine ⟨n, rfl, ⟨by omega, by omega, by omega, by omega, by omega⟩, ?_⟩
        have q := rgV_DDs (F := F1) 0 n
        rw [show (n - 0).toNat = n.toNat by omega] at q
        exact new_lst e1.sub q P1
      · exact P1.elim
    | _ => exact P1.elim)
end DN
/-! Den16: sorted(set(xs)) of pairs, the list long, the set short; len(set(xs)) of ints. -/
namespace DN
open PySem PySem.Spec PyProof.Rows L2
section
variable {P : Program} {w : World} {A : Around} {E : Value → Shared → Prop} {s : Shared}
theorem few_of {h : Heap} {a : Addr} {L : List (Addr × List Int)} {es : Array (Int × Value)} {ep : Nat} {t : SetTable} (R : SetTR P w h a L es ep t) {D : List (List Int)} (hd : ∀ p ∈ L, p.2 ∈ D) : L.length ≤ D.length := by
  have := List.Nodup.length_le_of_subset R.nd (l₂ := D) fun k hk => by
    obtain ⟨p, hp, rfl⟩ := List.mem_map.mp hk
    exact hd p hp
  simpa using this
/-- the loop behind set(xs): the list may be long, what it holds is among few -/
theorem set_loop {I : Addr} {fp wr : List Addr} {G : Array GenState → Array GenState → Prop} {n : Nat} {Pv : Nat → Value → Prop} {St : Nat → Shared → Prop} {R : Result → Shared → Prop}
    (wk : WalksS P w A.in1 I fp wr G n Pv St) (z : Addr) (nz : z ∉ fp) (ks : List (Addr × List Int)) (len : n = ks.length) (D : List (List Int)) (small : D.length + 1 < 64) (inD : ∀ p ∈ ks, p.2 ∈ D) (each : ∀ i v, Pv i v → ∃ p, ks[i]? = some p ∧ v = .ref p.1)
    (h0 : Heap) (tups : ∀ p ∈ ks, IsT P w h0 p.2 p.1) (z0 : h0.get? z = none) (w0 : ∀ b ∈ wr, h0.get? b = none) (room : A.in1.units < cLine) :
    ∀ (k i : Nat) (s : Shared), n - i = k → i ≤ n → St i s → (∀ b o, h0.get? b = some o → s.heap.get? b = some o) → (∃ L es ep t, SetTR P w s.heap z L es ep t ∧ Got ks i L) →
      (∀ s' L es ep t, Moved (z :: wr) G s s' → SetTR P w s'.heap z L es ep t → Got ks n L → (∀ b o, h0.get? b = some o → s'.heap.get? b = some o) → R (.ok (.ret .none)) s') →
      codeAny (model P w) A (.builtin "set.update.loop" ⟨[.ref z, .ref I], []⟩) R s := by
  have zw : z ∉ wr := fun q => nz (wk.sub _ q)
  have more : ∀ b ∈ wr, b ∈ z :: wr := fun b q => List.mem_cons_of_mem _ q
  have stay : ∀ {s s' : Shared}, Moved wr G s s' → (∀ b o, h0.get? b = some o → s.heap.get? b = some o) → ∀ b o, h0.get? b = some o → s'.heap.get? b = some o := fun mv old b o e =>
    mv.heap b o (fun q => by rw [w0 b q] at e; cases e) (old b o e)
  intro k
  induction k with
  | zero =>
    intro i s ek hi st old ⟨L, es, ep, t, T, g⟩ fin
    have ei : i = n := by omega
    subst ei
    refine codeAny_builtin F.entry_set_update_loop ?_ <;> skip
    rw [Around.under_plainId F.plain_set_update_loop _] <;> skip
    show wpAny (model P w) A.in1 (pyNext (.ref I) >>= _) _ _ s
    refine wpAny_bind (wk.done s _ _ st fun s1 mv => ?_)
    show wpAny (model P w) A.in1 (ret Value.none) _ _ s1
    have old1 := stay mv old
    have T1 := T.keep (h' := s1.heap) (fun o e => mv.heap z o zw e) fun p hp => isT_keep (tups p (List.mem_of_mem_take (g.sub p hp))) old1
    exact wpAny_pure (fin s1 L es ep t (mv.mono more) T1 g old1)
  | succ k ih =>
    intro i s ek hi st old ⟨L, es, ep, t, T, g⟩ fin
    have lt : i < n := by omega
    refine codeAny_builtin F.entry_set_update_loop ?_ <;> skip
    rw [Around.under_plainId F.plain_set_update_loop _] <;> skip
    show wpAny (model P w) A.in1 (pyNext (.ref I) >>= _) _ _ s
    refine wpAny_bind (wk.item i s _ _ lt st fun v s1 pv st1 mv => ?_)
    obtain ⟨p, hp, rfl⟩ := each i v pv
    have old1 := stay mv old
    have inL : ∀ q ∈ L, q ∈ ks := fun q hq => List.mem_of_mem_take (g.sub q hq)
    have T1 := T.keep (h' := s1.heap) (fun o e => mv.heap z o zw e) fun p hp => isT_keep (tups p (inL p hp)) old1
    have tp : IsT P w s1.heap p.2 p.1 := isT_keep (tups p (List.mem_of_getElem? hp)) old1
    have few := few_of T1 (D := D) fun q hq => inD q (inL q hq)
    show wpAny (model P w) A.in1 (holding [Value.ref p.1] (setAdd z (.ref p.1)) >>= _) _ _ s1
    refine wpAny_bind (wpAny_holding ?_) <;> unfold setAdd
    refine wpAny_holding (wpAny_bind (wpAny_pyHash_tuple room tp ?_))
    refine add_at (s := { s1 with toks := s1.toks + (p.2.length + 1) }) T1 tp room (by omega) fun b h2 L2 es2 ep2 t2 sb T2 c1 c2 => ?_
    have g2 : Got ks (i + 1) L2 := by
      by_cases c : p.2 ∈ L.map (·.2)
      · rw [c1 c] <;> exact g.same hp c
      · exact g.more hp (c2 c)
    have old2 : ∀ b o, h0.get? b = some o → h2.get? b = some o := fun b o e => (sb.2 b (fun q => by rw [q, z0] at e; cases e)).trans (old1 b o e)
    refine wpAny_pure ⟨plainId_quiet F.plain_set_update_loop _, ih (i + 1) _ (by omega) lt (wk.frame _ s1 _ _ st1 (Nat.le_add_right _ _) fun b hb o e => ?_) old2 ⟨L2, es2, ep2, t2, T2, g2⟩ fun s3 L3 es3 ep3 t3 mv3 T3 g3 old3 => ?_⟩
    · rw [sb.2 b (fun q : b = z => nz (q ▸ hb))] <;> exact e
    · refine fin s3 L3 es3 ep3 t3 (Moved.trans wk.gtrans ((mv.mono more).then_heap (Nat.le_add_right _ _) fun b o hb e => ?_) mv3) T3 g3 old3
      rw [sb.2 b (fun q : b = z => hb (q ▸ List.mem_cons_self))] <;> exact e
set_option maxRecDepth 100000 in
set_option maxHeartbeats 3200000 in
/-- set(xs), xs a list of tuples of ints -/
theorem set_of_tups {l : Addr} {its : Array Value} (ks : List (Addr × List Int)) {Q : Value → Shared → Prop} (nh : A.handled = none) (isl : s.heap.IsList l its) (iA : its.toList = ks.map fun p => Value.ref p.1)
    (tups : ∀ p ∈ ks, IsT P w s.heap p.2 p.1) (D : List (List Int)) (small : D.length + 1 < 64) (inD : ∀ p ∈ ks, p.2 ∈ D) (room : A.units + 3 < cLine)
    (fin : ∀ (g : Heap) (tk : Nat) L es ep t, SetTR P w g s.heap.objs.size L es ep t → Got ks ks.length L → (∀ b o, s.heap.get? b = some o → g.get? b = some o) → Q (.ref s.heap.objs.size) { s with heap := g, toks := tk }) :
    wpAny (model P w) A (call (.type "set") [.ref l]) Q E s := by
  have isz : its.size = ks.length := by
    have q := congrArg List.length iA
    simpa using q
  obtain ⟨c, tl, m1⟩ := F.called_set.mro
  have m2 := F.called_set.made
  have m3 := F.called_set.sub
  refine wpAny_call (codeAny_of_tree ?_)
  show wpAny _ A.in1 (callAny (.type "set") _) _ _ s
  refine wpAny_pure ⟨Code.quiet_builtin _ (by decide +kernel), codeAny_builtin F.entry_type_call ?_⟩ <;> skip
  rw [Around.under_plain (weight_type_call_type "set" [.ref l] []) rfl] <;> skip
  have m4 := F.called_set.notType
  have m5 := F.called_set.canCreate
  have m6 := F.typeCall_set_1 (.ref l)
  (repeat (any_goals (first | assumption | wp_step)))
  refine codeAny_mono (code_set_led1 (.ref l) (E := E) (Q₁ := fun obj s₁ => obj = .ref s.heap.objs.size ∧ s₁ = { s with heap := s.heap.push (noneYet w) }) ⟨rfl, rfl⟩) fun r s₁ hr => ?_
  cases r with
  | error e => exact hr
  | ok fl =>
    cases fl with
    | ret obj =>
      obtain ⟨rfl, rfl⟩ := hr
      have hS : (s.heap.push (noneYet w)).get? s.heap.objs.size = some (noneYet w) := Heap.get?_push_size _ rfl
      have hT : Shared.TypeIs { s with heap := s.heap.push (noneYet w) } (.ref s.heap.objs.size) "set" := ⟨_, hS, rfl⟩
      have m7 := F.called_set.init.lookup
      have m8 := F.called_set.init.bind (.ref s.heap.objs.size)
      (repeat (any_goals (first | assumption | wp_step)))
      refine codeAny_mono (codeAny_call_builtin (R := wants (fun r t => r = .none ∧ ∃ g tk L es ep tb, t = { s with heap := g, toks := tk } ∧ SetTR P w g s.heap.objs.size L es ep tb ∧ Got ks ks.length L ∧ ∀ b o, s.heap.get? b = some o → g.get? b = some o) E) F.called_set.init.plain F.entry_set_init (check_set_init_1 hT ?_)) fun r2 s2 hr2 => ?_
      · obtain ⟨ol, hol, hcl, nl, hdl⟩ := isl
        obtain ⟨oc, od, oda, osl⟩ := ol
        simp only at hcl hdl
        subst hcl; subst hdl
        have at1 : (s.heap.push (noneYet w)).get? l = some { cls := .type "list", dict := od, data := .seq its nl, slots := osl } := Heap.get?_push_of_some _ hol
        have n1 := F.sub_list_set
        have n2 := F.sub_list_frozenset
        have n3 : (Value.type "list" == Value.type "dict") = false := rfl
        have l1 : (s.heap.push (noneYet w)).IsList l its := ⟨_, at1, rfl, nl, rfl⟩
        unfold Builtin.«set.__init__» noKeywords <;> unfold Builtin.Frozenset.updateFrom
        generalize hPI : pyIter = PI
        wp_walk
        subst hPI
        refine wpAny_pyIter_list l1 (wpAny_bind (wpAny_runValue ?_))
        have lS : l < s.heap.objs.size := Heap.lt_size hol
        have nh3 : A.in1.in1.in1.handled = none := by simp [nh]
        have sz1 : (s.heap.push (noneYet w)).objs.size = s.heap.objs.size + 1 := Heap.size_push ..
        have ne1 : l ≠ (s.heap.push (noneYet w)).objs.size := by rw [sz1]; exact Nat.ne_of_lt (Nat.lt_succ_of_lt lS)
        have out1 : s.heap.objs.size ∉ [(s.heap.push (noneYet w)).objs.size, l] := by
          intro z
          rw [sz1] at z
          rcases List.mem_cons.mp z with z | z
          · exact absurd z (Nat.ne_of_lt (Nat.lt_succ_self _))
          · exact absurd (List.mem_singleton.mp z) (Nat.ne_of_gt lS)
        have each : ∀ (i : Nat) (v : Value), its[i]? = some v → ∃ p, ks[i]? = some p ∧ v = .ref p.1 := fun i v hv => by
          have q : its.toList[i]? = some v := by simpa using hv
          rw [iA, List.getElem?_map] at q
          obtain ⟨p, hp, e⟩ := Option.map_eq_some_iff.mp q
          exact ⟨p, hp, e.symm⟩
        have nothing : ∀ b, s.heap.objs.size ≤ b → s.heap.get? b = none := fun b hb => by
          cases q : s.heap.get? b with
          | none => rfl
          | some o => exact absurd (Heap.lt_size q) (Nat.not_lt.mpr hb)
        refine set_loop ((Walks.list nh3 _ l ne1 its).toS) s.heap.objs.size out1 ks isz D small inD each s.heap tups (nothing _ (Nat.le_refl _)) (fun b hb => nothing b (by rw [List.mem_singleton.mp hb, sz1]; omega)) room (its.size - 0) 0 _ (by omega) (Nat.zero_le _) ⟨⟨_, Heap.get?_push_size _ rfl, rfl, rfl⟩, (l1.push _)⟩ (fun b o e => Heap.get?_push_of_some _ (Heap.get?_push_of_some _ e)) ?S0 ?SR
        case S0 =>
          have at2 : ((s.heap.push (noneYet w)).push { cls := .type "list_iterator", data := .fields #[.ref l, .int 0 0] }).get? s.heap.objs.size = some (noneYet w) := Heap.get?_push_of_some _ hS
          exact ⟨[], #[], 0, _, setTR_fresh at2, Got.zero ks⟩
        case SR =>
          intro s' L es ep tb mv hS' hg' old
          obtain ⟨g, g2, d', tk', os'⟩ := s'
          have eg : g2 = s.gens := mv.gens
          have ed : d' = s.drawn := mv.drawn
          have eo : os' = s.os := mv.os
          subst eg; subst ed; subst eo
          show wpAny _ _ _ _ _ _
          refine wpAny_pure ?_
          show wpAny _ _ (ret Value.none) _ _ _
          rw [isz] at hg'
          exact wpAny_pure ⟨rfl, g, tk', L, es, ep, tb, rfl, hS', hg', old⟩
      · cases r2 with
        | error e => exact hr2
        | ok fl2 =>
          cases fl2 with
          | ret r =>
            obtain ⟨rfl, g, tk, L, es, ep, tb, rfl, hS', hc', hk'⟩ := hr2
            (repeat (any_goals (first | assumption | wp_step)))
            exact fin _ _ _ _ _ _ hS' hc' hk'
          | _ => exact hr2.elim
    | _ => exact hr.elim
end
section
variable {X : Cx}
def rSetOfP (K : PySem.W.Frag) (P : Program) (w : World) : List V → Hp → VK → Prop := fun xs H Q => ∃ (l : Addr) (ks : List (Addr × List Int)) (D : List (List Int)), xs = [V.ref l] ∧ SqL K H l (ks.map fun p => V.ref p.1) ∧ (∀ p ∈ ks, SqT K H p.1 (p.2.map V.int)) ∧ D.length + 1 < 64 ∧ (∀ p ∈ ks, p.2 ∈ D) ∧
  ∀ a L, H a = none → (∀ p ∈ L, p ∈ ks) → (∀ p ∈ ks, p.2 ∈ L.map (·.2)) → Q (.ref a) (upd H a (SetTO P w a L))
theorem cr_setOfP (hc : X.calm = true) (hu : X.A.units + 64 < cLine) : CallR X (.type "set") (rSetOfP X.K X.prog X.w) := by
  intro pins s σ H xs us Q I r h
  obtain ⟨l, ks, D, rfl, hl, hk, hf, hD, q⟩ := h
  rw [Vals.ref1 r]
  obtain ⟨its, rv, pl, hz⟩ := I.list hl
  refine set_of_tups (P := X.prog) (w := X.w) ks (I.ok.hd hc) pl.isList (by simpa using refs_of_vals rv) (fun p hp => I.isT (hk p hp)) D hf hD (by omega) fun g tk L es ep t R gt k => ?_
  refine ⟨.ref s.heap.objs.size, upd H s.heap.objs.size (SetTO X.prog X.w s.heap.objs.size L), I.laid (t' := tk) k (Nat.le_refl _) (setTO_new R.t0), rfl, q _ L (I.hok.fresh (Nat.le_refl _)) (fun p hp => ?_) fun p hp => ?_⟩
  · exact List.mem_of_mem_take (gt.sub p hp)
  · exact gt.all p (by rw [List.take_length]; exact hp)
end
/-! ### on data -/
def asPairs : List PyData → Option (List (Int × Int))
  | [] => some []
  | .tuple [.int x, .int y] :: ds => (asPairs ds).map ((x, y) :: ·)
  | _ => none
def prD (p : Int × Int) : PyData := .tuple [.int p.1, .int p.2]
theorem asPairs_map (ps : List (Int × Int)) : asPairs (ps.map prD) = some ps := by
  induction ps with
  | nil => rfl
  | cons p ps ih =>
    show (asPairs (ps.map prD)).map (p :: ·) = _
    rw [ih]
    rfl
theorem asPairs_eq : ∀ {ds : List PyData} {ps : List (Int × Int)}, asPairs ds = some ps → ds = ps.map prD
  | [], ps, h => by cases h; rfl
  | d :: ds, ps, h => by
    unfold asPairs at h
    split at h
    · rename_i heq
      cases heq
    · rename_i x y ds' heq
      cases heq
      obtain ⟨qs, hq, rfl⟩ := Option.map_eq_some_iff.mp h
      rw [asPairs_eq hq]
      rfl
    · cases h
def cdP (p : Int × Int) : Int := p.1 * 64 + p.2
def unP (c : Int) : Int × Int := (c / 64, c % 64)
theorem un_cd {p : Int × Int} (h : 0 ≤ p.2 ∧ p.2 < 64) : unP (cdP p) = p := by
  unfold unP cdP
  refine Prod.ext ?_ ?_
  · show (p.1 * 64 + p.2) / 64 = p.1
    omega
  · show (p.1 * 64 + p.2) % 64 = p.2
    omega
def inB (p : Int × Int) : Bool := decide (0 ≤ p.1 ∧ p.1 < 64 ∧ 0 ≤ p.2 ∧ p.2 < 64)
def setSortedP : PyData → Rs R
  | .list ds => match asPairs ds with
    | some ps => if (ps.all inB = true ∧ (sortU (ps.map cdP)).length < 63) then .ok (.own ((sortU (ps.map cdP)).map fun c => prD (unP c))) else .bad
    | none => .bad
  | _ => .bad
/-- the pairs of a list, where they lie -/
theorem DDs.pairs {F : Hp} : ∀ {ps : List (Int × Int)} {vs : List V}, DDs F vs (ps.map prD) → ∃ ks : List (Addr × List Int), vs = (ks.map fun p => V.ref p.1) ∧ (ks.map fun p => p.2) = (ps.map fun p => [p.1, p.2]) ∧ ∀ p ∈ ks, F p.1 = some (.tup (p.2.map V.int))
  | [], _, .nil => ⟨[], rfl, rfl, fun p hp => by cases hp⟩
  | p :: ps, _, .cons h r => by
    obtain ⟨ks, e1, e2, e3⟩ := DDs.pairs r
    cases h with
    | @tup a xs ds hF hd =>
      cases hd with
      | cons h1 hd =>
        cases hd with
        | cons h2 hd =>
          cases hd
          cases h1
          cases h2
          refine ⟨(a, [p.1, p.2]) :: ks, by rw [e1]; rfl, by rw [List.map_cons, List.map_cons, e2], fun q hq => ?_⟩
          rcases List.mem_cons.mp hq with z | z
          · subst z
            exact hF
          · exact e3 q z
theorem code_cd (x y : Int) : TS.code 64 [x, y] = cdP (x, y) := code_pair x y
section
variable {X : Cx} {W : WX} {a e : Expr} {ta te : TE} {fa : Ev → Rs R} {pos p p2 q : Pos} (K : PySem.W.Frag) (w : World) (PR : Program)
theorem ek_setSortedP (hu : X.A.units + 64 < cLine) (hm : X.mg "sorted" = none) (hm2 : X.mg "set" = none) (ha : EE X W a ta fa) (hg : Gl X "sorted" := by rfl) (hg2 : Gl X "set" := by rfl) (hc : X.calm = true := by rfl)
    (na : starEach [a] X.env = (false, eval a X.env) :: starEach [] X.env := by rfl) (ns : starEach [.Call (.Name "set" p2) [a] [] q] X.env = (false, eval (.Call (.Name "set" p2) [a] [] q) X.env) :: starEach [] X.env := by rfl)
    (hpl : (backTo pos (starEach [] X.env)).any (·.1) = false := by rfl) (hpl2 : (backTo q (starEach [] X.env)).any (·.1) = false := by rfl) (hK : X.K = K := by rfl) (hw : X.w = w := by rfl) (hP : X.prog = PR := by rfl) :
    EE X W (.Call (.Name "sorted" p) [.Call (.Name "set" p2) [a] [] q] [] pos) (tCB (rSortedT K PR w) (tCons (tCB (rSetOfP K PR w) (tCons ta tNil)) tNil)) (fUn setSortedP fa) := by
  subst hK hw hP
  refine ⟨pe_callB (cr_sortedT hc) hg hm (by decide +kernel) (pa_cons (pe_callTy (cr_setOfP hc hu) hg2 hm2 (by decide +kernel) (pa_cons ha.pe pa_nil na) (by decide) (by decide) na hpl2) pa_nil ns) (by decide) (by decide) ns hpl, fun {G H0 ρ σ F H} rel Q P => ?_⟩
  refine ha.sound rel _ (post_data P fun d v F1 H1 e1 r1 P1 => ?_)
  unfold setSortedP at P1
  cases r1 with
  | @lst l xs ds hl r =>
    dsimp only at P1
    split at P1
    · rename_i ps hps
      split at P1
      · rename_i hin
        obtain ⟨hin, hlen⟩ := hin
        have hb : ∀ p ∈ ps, 0 ≤ p.1 ∧ p.1 < 64 ∧ 0 ≤ p.2 ∧ p.2 < 64 := fun p hp => by
          have := List.all_eq_true.mp hin p hp
          simpa [inB] using this
        have := asPairs_eq hps
        subst this
        obtain ⟨ks, rfl, e2, e3⟩ := r.pairs
        have hk : ∀ q ∈ ks, ∃ p ∈ ps, q.2 = [p.1, p.2] := fun q hq => by
          have : q.2 ∈ ks.map fun p => p.2 := List.mem_map.mpr ⟨q, hq, rfl⟩
          rw [e2] at this
          obtain ⟨p, hp, z⟩ := List.mem_map.mp this
          exact ⟨p, hp, z.symm⟩
        refine ⟨l, ks, (sortU (ps.map cdP)).map fun c => [(unP c).1, (unP c).2], rfl, SqL.of (e1.sub _ _ hl), fun q hq => SqT.of (e1.sub _ _ (e3 q hq)), by simp; omega, fun q hq => ?_, fun s L hs hL1 hL2 => ?_⟩
        · obtain ⟨p, hp, z⟩ := hk q hq
          rw [z]
          refine List.mem_map.mpr ⟨cdP p, (mem_sortU _ _).mpr (List.mem_map.mpr ⟨p, hp, rfl⟩), ?_⟩
          rw [un_cd ⟨(hb p hp).2.2.1, (hb p hp).2.2.2⟩]
        · refine ⟨s, L, 2, 64, rfl, upd_same, fun q hq => ?_, by decide, fun q hq => ?_, fun L' p hp hnd h64 hpw hn => ?_⟩
          · have hne : q.1 ≠ s := fun z => by
              have := e1.sub _ _ (e3 q (hL1 q hq))
              rw [z, hs] at this
              cases this
            exact SqT.of (by rw [upd_ne hne]; exact e1.sub _ _ (e3 q (hL1 q hq)))
          · obtain ⟨p, hp, z⟩ := hk q (hL1 q hq)
            rw [z]
            refine ⟨rfl, fun m hm => ?_⟩
            have := hb p hp
            rcases List.mem_cons.mp hm with z | z
            · subst z; exact ⟨this.1, this.2.1⟩
            · rw [List.mem_singleton.mp z]; exact this.2.2
          · have np : H1 p = none := by
              by_cases z : p = s
              · subst z; rw [upd_same] at hn; cases hn
              · rw [upd_ne z] at hn; exact hn
            have hk' : ∀ q ∈ L', ∃ p ∈ ps, q.2 = [p.1, p.2] := fun q hq => hk q (hL1 q (hp.mem_iff.mp hq))
            -- the codes of what is left
            have hcs : (L'.map fun q => TS.code 64 q.2) = sortU (ps.map cdP) := by
              refine lt_unique ?_ (sortU_lt _) fun c => ?_
              · rw [List.pairwise_map]
                have hnd' := List.pairwise_map.mp hnd
                refine (List.Pairwise.and hpw hnd').imp_of_mem fun {q r} hq hr h => ?_
                obtain ⟨a, ha, za⟩ := hk' q hq
                obtain ⟨b, hb', zb⟩ := hk' r hr
                have h1 := h.1
                have h2 : q.2 ≠ r.2 := h.2
                rw [za, zb] at h1 h2 ⊢
                rw [code_cd, code_cd] at h1 ⊢
                have ba := hb a ha
                have bb := hb b hb'
                have : cdP (a.1, a.2) ≠ cdP (b.1, b.2) := fun z => by
                  have e1 := un_cd (p := (a.1, a.2)) ⟨ba.2.2.1, ba.2.2.2⟩
                  have e2 := un_cd (p := (b.1, b.2)) ⟨bb.2.2.1, bb.2.2.2⟩
                  rw [z, e2] at e1
                  simp at e1
                  exact h2 (by rw [e1.1, e1.2])
                omega
              · rw [mem_sortU]
                constructor
                · intro hc
                  obtain ⟨q, hq, rfl⟩ := List.mem_map.mp hc
                  obtain ⟨a, ha, za⟩ := hk' q hq
                  rw [za, code_cd]
                  exact List.mem_map.mpr ⟨a, ha, rfl⟩
                · intro hc
                  obtain ⟨a, ha, rfl⟩ := List.mem_map.mp hc
                  have : [a.1, a.2] ∈ ks.map fun p => p.2 := by rw [e2]; exact List.mem_map.mpr ⟨a, ha, rfl⟩
                  obtain ⟨q, hq, zq⟩ := List.mem_map.mp this
                  have := hL2 q hq
                  obtain ⟨r, hr, zr⟩ := List.mem_map.mp this
                  refine List.mem_map.mpr ⟨r, hp.mem_iff.mpr hr, ?_⟩
                  rw [zr, zq, code_cd]
            have hDD : DDs F1 (L'.map fun q => V.ref q.1) ((sortU (ps.map cdP)).map fun c => prD (unP c)) := by
              rw [← hcs, List.map_map]
              have hk2 : ∀ q ∈ L', (∃ p ∈ ps, q.2 = [p.1, p.2]) ∧ F1 q.1 = some (.tup (q.2.map V.int)) := fun q hq => ⟨hk' q hq, e3 q (hL1 q (hp.mem_iff.mp hq))⟩
              clear hcs hpw hnd h64 hk' hp
              induction L' with
              | nil => exact .nil
              | cons q L' ih =>
                refine .cons ?_ (ih fun q hq => hk2 q (List.mem_cons_of_mem _ hq))
                obtain ⟨⟨a, ha, za⟩, hF⟩ := hk2 q List.mem_cons_self
                have ba := hb a ha
                show DD F1 (V.ref q.1) (prD (unP (TS.code 64 q.2)))
                rw [za] at hF ⊢
                rw [code_cd, un_cd ⟨ba.2.2.1, ba.2.2.2⟩]
                exact .tup hF (.cons (.int _) (.cons (.int _) .nil))
            have ex : Ext F1 H1 F1 (upd (upd H1 s (SetTO X.prog X.w s L)) p (.lst (L'.map fun q => V.ref q.1))) := (Ext.addH e1.sub hs).trans (Ext.addH ((e1.sub).trans (same_new hs)) hn)
            exact P1 _ _ _ ex ⟨⟨p, _, rfl, upd_same, e1.sub.free np, hDD⟩, fun _ q e => by cases e; exact np⟩
      · exact P1.elim
    · exact P1.elim
  | _ => exact P1.elim
end
end DN
/-! Den17: dicts with plain keys; list(range(a, b)); len(set(xs)); stores into lists of ours; zip of three. -/
namespace DN
open PySem PySem.Spec PyProof.Rows L2
section
variable {X : Cx} {W : WX} {a b e f : Expr} {ta tb te tf : TE} {fa fb fe ff : Ev → Rs R} {pos p : Pos}
theorem asKey_ok {F : Hp} {v : V} {d : PyData} {k : Key} (r : DD F v d) (h : asKey d = some k) : v = kV k := by
  cases r with
  | int i => cases h; rfl
  | str x => cases h; rfl
  | _ => cases h
@[simp] def fDnewK : Ev → Rs R := fun _ => .ok (.dck [])
theorem ee_dnewK : EE X W (.Dict [] [] pos) tDNewK fDnewK where
  pe := pe_dnewK
  sound := fun {G H0 ρ σ F H} rel Q P => fun p np => P _ _ _ (Ext.addH rel.sub np) ⟨⟨p, [], rfl, upd_same, rel.sub.free np, .nil⟩, fun _ q e => by cases e; exact np⟩
@[simp] def fDinK (i : Nat) (fa : Ev → Rs R) : Ev → Rs R := fun ρ => (fa ρ).bind fun r => r.d.bind fun x => match ρ[i]?, asKey x with
  | some (some (.dck kvs)), some k => .ok (.val (.bool (valP kvs k).isSome))
  | _, _ => .bad
@[simp] def fDNinK (i : Nat) (fa : Ev → Rs R) : Ev → Rs R := fun ρ => (fa ρ).bind fun r => r.d.bind fun x => match ρ[i]?, asKey x with
  | some (some (.dck kvs)), some k => .ok (.val (.bool (!(valP kvs k).isSome)))
  | _, _ => .bad
section
variable (i : Nat) {x : Str} {p2 : Pos} (hu : X.A.units + 1 < cLine) (ha : EE X W a ta fa)
  (hN : X.N[i]? = some x := by rfl) (hv : Vis X.env.scope x := by first | exact Or.inl rfl | exact Or.inr (Or.inl rfl) | exact Or.inr (Or.inr rfl)) (hd : (x == ("__debug__" : Str)) = false := by decide) (hcd : (x == ("__classdict__" : Str)) = false := by decide)
include hu ha hN hv hd hcd
theorem ee_dinK (hm : behindInMarks .In (.Name x p2) = false := by rfl) : EE X W (.Compare a [.In] [.Name x p2] pos) (tDIn ta (tVar i)) (fDinK i fa) where
  pe := pe_cmp (pc_din hu ha.pe (pe_var hN hv hd hcd)) hm
  sound := fun {G H0 ρ σ F H} rel Q P => ha.sound rel _ (post_data P fun d v F1 H1 e1 r1 P1 => by
    split at P1
    · rename_i kvs k h hk
      obtain ⟨w, hw, p, ws, rfl, q1, q2, q3⟩ := (rel.step e1).at_ i _ h
      have := asKey_ok r1 hk
      subst this
      refine ⟨_, hw, p, _, rfl, DGet.k q1, ?_⟩
      rw [KD.isSome q3]
      exact post_flat e1.sub (.bl _) P1
    · exact P1.elim)
theorem ee_dNinK (hm : behindInMarks .NotIn (.Name x p2) = false := by rfl) : EE X W (.Compare a [.NotIn] [.Name x p2] pos) (tDNotIn ta (tVar i)) (fDNinK i fa) where
  pe := pe_cmp (pc_dnotin hu ha.pe (pe_var hN hv hd hcd)) hm
  sound := fun {G H0 ρ σ F H} rel Q P => ha.sound rel _ (post_data P fun d v F1 H1 e1 r1 P1 => by
    split at P1
    · rename_i kvs k h hk
      obtain ⟨w, hw, p, ws, rfl, q1, q2, q3⟩ := (rel.step e1).at_ i _ h
      have := asKey_ok r1 hk
      subst this
      refine ⟨_, hw, p, _, rfl, DGet.k q1, ?_⟩
      rw [KD.isSome q3]
      exact post_flat e1.sub (.bl _) P1
    · exact P1.elim)
theorem et_dinK (hm : behindInMarks .In (.Name x p2) = false := by rfl) : ET X W (.Compare a [.In] [.Name x p2] pos) (tB (tDIn ta (tVar i))) (fTest (fDinK i fa)) :=
  et_ofB (pt_cmp (pc_din hu ha.pe (pe_var hN hv hd hcd)) hm) (ee_dinK i hu ha hN hv hd hcd hm)
theorem et_dNinK (hm : behindInMarks .NotIn (.Name x p2) = false := by rfl) : ET X W (.Compare a [.NotIn] [.Name x p2] pos) (tB (tDNotIn ta (tVar i))) (fTest (fDNinK i fa)) :=
  et_ofB (pt_cmp (pc_dnotin hu ha.pe (pe_var hN hv hd hcd)) hm) (ee_dNinK i hu ha hN hv hd hcd hm)
@[simp] def fDgetK (i : Nat) (fa : Ev → Rs R) : Ev → Rs R := fun ρ => match ρ[i]? with
  | some (some (.dck kvs)) => (fa ρ).bind fun r => r.d.bind fun x => match asKey x with
    | some k => match valP kvs k with
      | some d => .ok (.val d)
      | none => .bad
    | none => .bad
  | _ => .bad
theorem ee_dgetK (hs : NoSl a := by exact fun _ _ => rfl) : EE X W (.Subscript (.Name x p2) a pos) (tDGet (tVar i) ta) (fDgetK i fa) where
  pe := pe_dget hu (pe_var hN hv hd hcd) ha.pe hs
  sound := fun {G H0 ρ σ F H} rel Q P => by
    unfold fDgetK at P
    split at P
    · rename_i kvs h
      obtain ⟨w, hw, p, ws, rfl, q1, q2, q3⟩ := rel.at_ i _ h
      refine ⟨_, hw, ha.sound rel _ (post_data P fun d v F1 H1 e1 r1 P1 => ?_)⟩
      split at P1
      · rename_i k hk
        have := asKey_ok r1 hk
        subst this
        have q3' := KD.mono e1.ff q3
        rcases KD.val (k := k) q3' with ⟨_, h2⟩ | ⟨u, y, h1, h2, h3⟩
        · rw [h2] at P1; exact P1.elim
        · rw [h2] at P1
          refine ⟨p, u, rfl, ?_, post_flat e1.sub h3 P1⟩
          rw [← h1]
          exact DGet.k (e1.hh _ _ q1)
      · exact P1.elim
    · exact P.elim
@[simp] def fDget2K (i : Nat) (fa fe : Ev → Rs R) : Ev → Rs R := fun ρ => match ρ[i]? with
  | some (some (.dck kvs)) => (fa ρ).bind fun r => r.d.bind fun x => (fe ρ).bind fun r2 => r2.d.bind fun y => match asKey x with
    | some k => .ok (.val ((valP kvs k).getD y))
    | none => .bad
  | _ => .bad
theorem ee_dget2K {apos : Pos} (he : EE X W e te fe) (m : M2 X (.Name x p2) "get" apos a e pos := by exact ⟨rfl, rfl, rfl, rfl⟩) : EE X W (.Call (.Attribute (.Name x p2) "get" apos) [a, e] [] pos) (tDGet2 (tVar i) ta te) (fDget2K i fa fe) where
  pe := pe_dget2 hu (pe_var hN hv hd hcd) ha.pe he.pe m
  sound := fun {G H0 ρ σ F H} rel Q P => by
    unfold fDget2K at P
    split at P
    · rename_i kvs h
      obtain ⟨w, hw, p, ws, rfl, q1, q2, q3⟩ := rel.at_ i _ h
      refine ⟨_, hw, p, rfl, .inl ⟨ws, .inl q1⟩, ha.sound rel _ (post_data P fun d v F1 H1 e1 r1 P1 => ?_)⟩
      refine he.sound (rel.step e1) _ (post_data P1 fun d2 v2 F2 H2 e2 r2 P2 => ?_)
      split at P2
      · rename_i k hk
        have := asKey_ok r1 hk
        subst this
        have q3' := KD.mono (e1.ff.trans e2.ff) q3
        refine ⟨valV ws k, DGet.k (e2.hh _ _ (e1.hh _ _ q1)), ?_⟩
        rcases KD.val (k := k) q3' with ⟨h1, h2⟩ | ⟨u, y, h1, h2, h3⟩
        · rw [h1]; rw [h2] at P2
          exact post_flat e2.sub r2 P2
        · rw [h1]; rw [h2] at P2
          exact post_flat e2.sub h3 P2
      · exact P2.elim
    · exact P.elim
@[simp] def gDputK (i : Nat) (fa fe : Ev → Rs R) : Ev → RO := fun ρ => onR ρ ((fe ρ).bind R.d) fun v => match ρ[i]? with
  | some (some (.dck kvs)) => onR ρ ((fa ρ).bind R.d) fun x => match asKey x with
    | some k => if kvs.length < lim then .nx (ρ.set i (some (.dck (putP kvs k v)))) else .bad
    | none => .bad
  | _ => .bad
theorem es_dputK {tpos : Pos} (he : EE X W e te fe) (hsw : swapsWith e (some (.Subscript (.Name x p2) a tpos)) pos.line X.env = pure false := by rfl) : ES X W (.Assign [.Subscript (.Name x p2) a tpos] e pos) (sDPut (tVar i) ta te) (gDputK i fa fe) where
  ps := ps_dput hu (pe_var hN hv hd hcd) ha.pe he.pe hsw
  sound := fun {G H0 ρ σ F H} rel D P => he.sound rel _ (postS_data rel P fun d v F1 H1 e1 r1 P1 => by
    split at P1
    · rename_i kvs h
      have rel1 := rel.step e1
      obtain ⟨w, hw, p, ws, rfl, q1, q2, q3⟩ := rel1.at_ i _ h
      refine ⟨_, hw, ha.sound rel1 _ (postS_data rel1 P1 fun d2 v2 F2 H2 e2 r2 P2 => ?_)⟩
      split at P2
      · rename_i k hk
        have := asKey_ok r2 hk
        subst this
        split at P2
        · rename_i hl
          have q3' := KD.mono e2.ff q3
          refine ⟨p, _, rfl, DPut.k (e2.hh _ _ q1) (by rw [KD.len q3']; exact Nat.lt_trans hl lim_lt), P2 _ _ _ ((rel1.step e2).mut h rfl hw (e2.own q1 q2) ⟨p, _, rfl, upd_same, e2.own q1 q2, KD.put (DD.mono e2.ff _ _ r1) q3'⟩ rfl)⟩
        · exact P2.elim
      · exact P2.elim
    · exact P1.elim)
end
/-! ### x[i] = e, x a list of ours -/
@[simp] def gOset (i : Nat) (fb fe : Ev → Rs R) : Ev → RO := fun ρ => onR ρ ((fe ρ).bind R.d) fun v => match ρ[i]? with
  | some (some (.own xs)) => onR ρ ((fb ρ).bind R.d) fun y => match y with
    | .int j => match ixN xs.length j with
      | some m => .nx (ρ.set i (some (.own (xs.set m v))))
      | none => .bad
    | _ => .bad
  | _ => .bad
theorem es_oset (i : Nat) {x : Str} {p2 tpos : Pos} (hb : EE X W b tb fb) (he : EE X W e te fe) (hN : X.N[i]? = some x := by rfl) (hv : Vis X.env.scope x := by first | exact Or.inl rfl | exact Or.inr (Or.inl rfl) | exact Or.inr (Or.inr rfl)) (hd : (x == ("__debug__" : Str)) = false := by decide)
    (hcd : (x == ("__classdict__" : Str)) = false := by decide)
    (ha : ∀ v, assign (.Subscript (.Name x p2) b tpos) X.env v = (do
      let o1 ← holding [v] (eval (.Name x p2) X.env)
      let i1 ← holding [v, o1] (eval b X.env)
      standAt tpos
      holding [v, o1, i1] (setItem o1 i1 v)
      release [v, o1, i1] []) := by intro _; rfl)
    (hs : swapsWithSole [.Subscript (.Name x p2) b tpos] e pos.line X.env = pure false := by rfl) (hw : swappedStores [.Subscript (.Name x p2) b tpos] e X.env = pure none := by rfl)
    (h1 : (assignEach [.Subscript (.Name x p2) b tpos] X.env).map (·.2) = [assign (.Subscript (.Name x p2) b tpos) X.env] := by rfl) :
    ES X W (.Assign [.Subscript (.Name x p2) b tpos] e pos) (tAsg te (gSub (tVar i) tb rSetL)) (gOset i fb fe) where
  ps := ps_asg he.pe (pg_sub (pe_var hN hv hd hcd) hb.pe set_list ha) hs hw h1
  sound := fun {G H0 ρ σ F H} rel D P => he.sound rel _ (postS_data rel P fun d v F1 H1 e1 r1 P1 => by
    split at P1
    · rename_i xs h
      have rel1 := rel.step e1
      obtain ⟨w, hw, p, vs, rfl, q1, q2, q3⟩ := rel1.at_ i _ h
      refine ⟨_, hw, hb.sound rel1 _ (postS_data rel1 P1 fun d2 v2 F2 H2 e2 r2 P2 => ?_)⟩
      cases r2 with
      | int j =>
        dsimp only at P2
        split at P2
        · rename_i m hm
          have q3' := DDs.mono e2.ff _ _ q3
          refine ⟨p, vs, j, m, rfl, rfl, e2.hh _ _ q1, by rw [q3'.len]; exact hm, P2 _ _ _ ((rel1.step e2).mut h rfl hw (e2.own q1 q2) ⟨p, _, rfl, upd_same, e2.own q1 q2, q3'.set (DD.mono e2.ff _ _ r1) m⟩ rfl)⟩
        · exact P2.elim
      | _ => exact P2.elim
    · exact P1.elim)
end
/-! ### list(range(a, b)) -/
@[simp] def fListRange2 (fa fb : Ev → Rs R) : Ev → Rs R := fun ρ => (fa ρ).bind fun r => r.d.bind fun x => (fb ρ).bind fun r2 => r2.d.bind fun y => match x, y with
  | .int m, .int n => if m.natAbs ≤ 1000000 ∧ n.natAbs ≤ 1000000 then .ok (.own (rngD m (n - m).toNat)) else .bad
  | _, _ => .bad
theorem ee_listRange2 {X : Cx} {W : WX} {a b : Expr} {ta tb : TE} {fa fb : Ev → Rs R} {pos p q p2 : Pos} (ha : EE X W a ta fa) (hb : EE X W b tb fb) (hm : X.mg "list" = none) (hm2 : X.mg "range" = none) (hg : Gl X "list" := by rfl) (hg2 : Gl X "range" := by rfl) (hc : X.calm = true := by rfl)
    (na : starEach [a, b] X.env = (false, eval a X.env) :: starEach [b] X.env := by rfl) (nb : starEach [b] X.env = (false, eval b X.env) :: starEach [] X.env := by rfl) (hp : (backTo q (starEach [b] X.env)).any (·.1) = false := by rfl) (nr : starEach [.Call (.Name "range" p2) [a, b] [] q] X.env = (false, eval (.Call (.Name "range" p2) [a, b] [] q) X.env) :: starEach [] X.env := by rfl) :
    EE X W (.Call (.Name "list" p) [.Call (.Name "range" p2) [a, b] [] q] [] pos) (tLstRg (tRg2 ta tb)) (fListRange2 fa fb) where
  pe := pe_listRg hc hg hm (prg_2 hg2 hm2 ha.pe hb.pe na nb hp) nr
  sound := fun {G H0 ρ σ F H} rel Q P => ha.sound rel _ (post_data P fun d v F1 H1 e1 r1 P1 => hb.sound (rel.step e1) _ (post_data P1 fun d2 v2 F2 H2 e2 r2 P2 => by
    cases r1 with
    | int m =>
      cases r2 with
      | int n =>
        dsimp only at P2
        split at P2
        · refine ⟨m, n, rfl, rfl, ⟨by omega, by omega, by omega, by omega, by omega⟩, ?_⟩
          exact new_lst e2.sub (rgV_DDs (F := F2) m n) P2
        · exact P2.elim
      | _ => exact P2.elim
    | _ => exact P2.elim))
/-! ### len(set(xs)) -/
section
variable {X : Cx}
def rLenS (w : World) : List V → Hp → VK → Prop := fun vs H Q => ∃ (a : Addr) (S : Int → Bool) (n : Nat), vs = [V.ref a] ∧ H a = some (SetO w a S n) ∧ n ≤ 1000 ∧ Q (.int n) H
theorem cr_lenS : CallR X (.builtin "len") (rLenS X.w) := by
  intro pins s σ H vs us Q I r h
  obtain ⟨a, S, n, rfl, ha, hn, q⟩ := h
  have R := setO_get I ha
  rw [Vals.ref1 r]
  obtain ⟨o, es, ep, t, ho, hex, hdt, g, nd, hm, hb, hf, hes, _⟩ := R
  exact call_len_set ho hex hdt hf (by rw [hes]; omega) ⟨.int n, H, I.tok _, ⟨_, by rw [hes]⟩, q⟩
end
def setLenD : PyData → Rs R
  | .list ds => match asIs ds with
    | some ns => if ns.length ≤ 1000 then .ok (.val (.int (sortU ns).length)) else .bad
    | none => .bad
  | _ => .bad
theorem sortU_len_le (ns : List Int) : (sortU ns).length ≤ ns.length := by
  have nd : (sortU ns).Nodup := (sortU_lt ns).imp fun {a b} h => by omega
  exact List.Nodup.length_le_of_subset nd fun k hk => (mem_sortU ns k).mp hk
section
variable {X : Cx} {W : WX} {a e : Expr} {ta te : TE} {fa : Ev → Rs R} {pos p p2 q : Pos} (K : PySem.W.Frag) (w : World)
theorem ek_setLen (hm : X.mg "len" = none) (hm2 : X.mg "set" = none) (ha : EE X W a ta fa) (hg : Gl X "len" := by rfl) (hg2 : Gl X "set" := by rfl) (hc : X.calm = true := by rfl)
    (na : starEach [a] X.env = (false, eval a X.env) :: starEach [] X.env := by rfl) (ns : starEach [.Call (.Name "set" p2) [a] [] q] X.env = (false, eval (.Call (.Name "set" p2) [a] [] q) X.env) :: starEach [] X.env := by rfl)
    (hpl : (backTo pos (starEach [] X.env)).any (·.1) = false := by rfl) (hpl2 : (backTo q (starEach [] X.env)).any (·.1) = false := by rfl) (hK : X.K = K := by rfl) (hw : X.w = w := by rfl) :
    EE X W (.Call (.Name "len" p) [.Call (.Name "set" p2) [a] [] q] [] pos) (tCB (rLenS w) (tCons (tCB (rSetOfI K w) (tCons ta tNil)) tNil)) (fUn setLenD fa) := by
  subst hK hw
  refine ⟨pe_callB cr_lenS hg hm (by decide +kernel) (pa_cons (pe_callTy (cr_setOfI hc) hg2 hm2 (by decide +kernel) (pa_cons ha.pe pa_nil na) (by decide) (by decide) na hpl2) pa_nil ns) (by decide) (by decide) ns hpl, fun {G H0 ρ σ F H} rel Q P => ?_⟩
  refine ha.sound rel _ (post_data P fun d v F1 H1 e1 r1 P1 => ?_)
  unfold setLenD at P1
  cases r1 with
  | @lst l xs ds hl r =>
    dsimp only at P1
    split at P1
    · rename_i ns hns
      split at P1
      · rename_i h64
        have := asIs_eq hns
        subst this
        have := r.ofInts
        subst this
        refine ⟨l, ns, rfl, SqL.of (e1.sub _ _ hl), h64, fun s hs => ?_⟩
        refine ⟨s, _, _, rfl, upd_same, Nat.le_trans (sortU_len_le ns) h64, ?_⟩
        exact P1 _ _ _ (Ext.addH e1.sub hs) (.val (.int _))
      · exact P1.elim
    · exact P1.elim
  | _ => exact P1.elim
end
end DN
/-! ### zip of three -/
namespace DN
open PySem PySem.Spec PyProof.Rows L2
def It3K (k l m : Bool) (K : PySem.W.Frag) (a b c : Addr) : It :=
  ⟨fun i H => ∃ (xs ys zs : List V) (x y z : V), SqK k K H a xs ∧ SqK l K H b ys ∧ SqK m K H c zs ∧ xs[i]? = some x ∧ ys[i]? = some y ∧ zs[i]? = some z,
    fun i H v H' => ∃ T x y z, v = .ref T ∧ H T = none ∧ H' = upd H T (.tup [x, y, z]) ∧ (∀ xs, SqK k K H a xs → xs[i]? = some x) ∧ (∀ ys, SqK l K H b ys → ys[i]? = some y) ∧ ∀ zs, SqK m K H c zs → zs[i]? = some z,
    fun i H => ∃ xs ys zs : List V, SqK k K H a xs ∧ SqK l K H b ys ∧ SqK m K H c zs ∧ min (min xs.length ys.length) zs.length = i⟩
theorem mem5 {c N : Nat} (h : c ∈ [N + 5, N + 4, N, N + 1, N + 2]) : c ∈ [N + 5, N + 3, N + 4, N, N + 1, N + 2] := by
  have e : c = N + 5 ∨ c = N + 4 ∨ c = N ∨ c = N + 1 ∨ c = N + 2 := by simpa using h
  rcases e with z | z | z | z | z <;> simp [z]
theorem le6 {c N : Nat} (h : c ∈ [N + 5, N + 3, N + 4, N, N + 1, N + 2]) : c ≤ N + 5 := by
  have e : c = N + 5 ∨ c = N + 3 ∨ c = N + 4 ∨ c = N ∨ c = N + 1 ∨ c = N + 2 := by simpa using h
  omega
theorem ge6 {c N : Nat} (h : c ∈ [N + 5, N + 3, N + 4, N, N + 1, N + 2]) : N ≤ c := by
  have e : c = N + 5 ∨ c = N + 3 ∨ c = N + 4 ∨ c = N ∨ c = N + 1 ∨ c = N + 2 := by simpa using h
  omega
theorem turn_zip3K {k l m : Bool} {P : Program} {w : World} {K : PySem.W.Frag} {elts : List Expr} {kk : Nat} {tpos : Pos} {N a b c : Addr} (ha : a < N) (hb : b < N) (hcN : c < N) :
    Turn P w K (.Tuple elts kk tpos) (It3K k l m K a b c) [N + 5, N + 3, N + 4, N, N + 1, N + 2] (N + 5)
      (fun i h => IsZip h (N + 5) (N + 3) (N + 4) .none ∧ IsTupOf3 h (N + 3) (.ref N) (.ref (N + 1)) (.ref (N + 2)) ∧ (∃ x y z, IsTupOf3 h (N + 4) x y z) ∧ IterK k h N a i ∧ IterK l h (N + 1) b i ∧ IterK m h (N + 2) c i) where
  mem := by simp
  obj := fun i h st d hc => by
    obtain ⟨hz, hTI, ⟨x, y, z, hTO⟩, h1, h2, h3⟩ := st
    have e' : d = N + 5 ∨ d = N + 3 ∨ d = N + 4 ∨ d = N ∨ d = N + 1 ∨ d = N + 2 := by simpa using hc
    rcases e' with z | z | z | z | z | z
    · rw [z]; exact ⟨_, hz, fun v q => nomatch q⟩
    · rw [z]; exact ⟨_, hTI, fun v q => nomatch q⟩
    · rw [z]; exact ⟨_, hTO, fun v q => nomatch q⟩
    · rw [z]; exact h1.obj
    · rw [z]; exact h2.obj
    · rw [z]; exact h3.obj
  keep := fun i h h' st kp => by
    obtain ⟨hz, hTI, ⟨x, y, z, hTO⟩, h1, h2, h3⟩ := st
    exact ⟨kp _ (by simp) _ hz, kp _ (by simp) _ hTI, ⟨x, y, z, kp _ (by simp) _ hTO⟩, h1.at fun o q => kp _ (by simp) o q, h2.at fun o q => kp _ (by simp) o q, h3.at fun o q => kp _ (by simp) o q⟩
  item := by
    intro X hP hw hK hc i pins s σ H E I hf st hg
    subst hP hw hK
    obtain ⟨hz, hTI, hTO, h1, h2, h3⟩ := st
    obtain ⟨xs, ys, zs, x, y, z, hq, hq2, hq3, hx, hy, hzz⟩ := hg
    obtain ⟨its, rv, p, _⟩ := seqK_of I hq
    obtain ⟨its2, rv2, p2, _⟩ := seqK_of I hq2
    obtain ⟨its3, rv3, p3, _⟩ := seqK_of I hq3
    obtain ⟨u, hu, ru⟩ := rv.get hx
    obtain ⟨u2, hu2, ru2⟩ := rv2.get hy
    obtain ⟨u3, hu3, ru3⟩ := rv3.get hzz
    have D1 := drawsK (k := k) (prog := X.prog) (w := X.w) (A := X.A.in1) (I.ok.hd hc) N a (Nat.ne_of_lt ha) its.toArray
    have D2 := drawsK (k := l) (prog := X.prog) (w := X.w) (A := X.A.in1) (I.ok.hd hc) (N + 1) b (Nat.ne_of_lt (Nat.lt_succ_of_lt hb)) its2.toArray
    have D3 := drawsK (k := m) (prog := X.prog) (w := X.w) (A := X.A.in1) (I.ok.hd hc) (N + 2) c (Nat.ne_of_lt (Nat.lt_succ_of_lt (Nat.lt_succ_of_lt hcN))) its3.toArray
    have hzl : N + 5 < s.heap.objs.size := Heap.lt_size hz
    have hi1 : i < its.toArray.size := by
      have := (List.getElem?_eq_some_iff.mp hu).1
      simpa using this
    have hi2 : i < its2.toArray.size := by
      have := (List.getElem?_eq_some_iff.mp hu2).1
      simpa using this
    have hi3 : i < its3.toArray.size := by
      have := (List.getElem?_eq_some_iff.mp hu3).1
      simpa using this
    refine (GoesN.zip3 (elts := elts) (x1 := kk) (pos := tpos) (zip_sep3 (N := N) (fp1 := [a]) (fp2 := [b]) (fp3 := [c]) (by simpa using ha) (by simpa using hb) (by simpa using hcN)) D1 D2 D3).goes i s
      (fun u s2 => ∃ x H', Inv X pins σ H' s2 ∧ RelV x u ∧ (It3K k l m X.K a b c).yld i H x H' ∧ (IsZip s2.heap (N + 5) (N + 3) (N + 4) .none ∧ IsTupOf3 s2.heap (N + 3) (.ref N) (.ref (N + 1)) (.ref (N + 2)) ∧ (∃ x y z, IsTupOf3 s2.heap (N + 4) x y z) ∧ IterK k s2.heap N a (i + 1) ∧ IterK l s2.heap (N + 1) b (i + 1) ∧ IterK m s2.heap (N + 2) c (i + 1)) ∧
        ∀ d ∈ [N + 5, N + 3, N + 4, N, N + 1, N + 2], H' d = none)
      E (by omega) ⟨hz, hTI, hTO, ⟨h1, p⟩, ⟨h2, p2⟩, ⟨h3, p3⟩⟩ fun v h' tk hY st' hk htk => ?_
    obtain ⟨T, y1, y2, y3, rfl, hT, hy1, hy2, hy3, hTup⟩ := hY
    have e1 : y1 = u := by
      have : its.toArray[i]? = some u := by simpa using hu
      rw [this] at hy1; exact (Option.some.inj hy1).symm
    have e2 : y2 = u2 := by
      have : its2.toArray[i]? = some u2 := by simpa using hu2
      rw [this] at hy2; exact (Option.some.inj hy2).symm
    have e3 : y3 = u3 := by
      have : its3.toArray[i]? = some u3 := by simpa using hu3
      rw [this] at hy3; exact (Option.some.inj hy3).symm
    subst e1 e2 e3
    have new : ObjOk X.prog X.w (upd H T (.tup [x, y, z])) h' T (.tup [x, y, z]) :=
      ⟨by show 3 ≤ sizeLine; decide, [y1, y2, y3], .cons ru (.cons ru2 (.cons ru3 .nil)), hTup⟩
    have I1 : Inv X pins σ (upd H T (.tup [x, y, z])) { s with heap := h', toks := tk } :=
      I.turnedNew (ch := [N + 5, N + 3, N + 4, N, N + 1, N + 2]) (fun d ob hd q => hk d ob (fun z => hd (mem5 z)) q) hf hT new
    obtain ⟨a1, a2, a3, ⟨a4, _⟩, ⟨a5, _⟩, ⟨a6, _⟩⟩ := st'
    refine ⟨.ref T, _, I1, rfl, ⟨T, x, y, z, rfl, I.hok.fresh hT, rfl, fun ws hw => by rw [seqK_inj I hw hq]; exact hx, fun ws hw => by rw [seqK_inj I hw hq2]; exact hy, fun ws hw => by rw [seqK_inj I hw hq3]; exact hzz⟩, ⟨a1, a2, a3, a4, a5, a6⟩, fun d hd => ?_⟩
    have hc' : d < s.heap.objs.size := Nat.lt_of_le_of_lt (le6 hd) hzl
    rw [upd_ne (Nat.ne_of_lt (Nat.lt_of_lt_of_le hc' hT))]
    exact (hf d hd).1
  done := by
    intro X hP hw hK hc i pins s σ H E I hf st hg
    subst hP hw hK
    obtain ⟨hz, hTI, hTO, h1, h2, h3⟩ := st
    obtain ⟨xs, ys, zs, hq, hq2, hq3, hx⟩ := hg
    obtain ⟨its, rv, p, _⟩ := seqK_of I hq
    obtain ⟨its2, rv2, p2, _⟩ := seqK_of I hq2
    obtain ⟨its3, rv3, p3, _⟩ := seqK_of I hq3
    have D1 := drawsK (k := k) (prog := X.prog) (w := X.w) (A := X.A.in1) (I.ok.hd hc) N a (Nat.ne_of_lt ha) its.toArray
    have D2 := drawsK (k := l) (prog := X.prog) (w := X.w) (A := X.A.in1) (I.ok.hd hc) (N + 1) b (Nat.ne_of_lt (Nat.lt_succ_of_lt hb)) its2.toArray
    have D3 := drawsK (k := m) (prog := X.prog) (w := X.w) (A := X.A.in1) (I.ok.hd hc) (N + 2) c (Nat.ne_of_lt (Nat.lt_succ_of_lt (Nat.lt_succ_of_lt hcN))) its3.toArray
    have hn : min (min its.toArray.size its2.toArray.size) its3.toArray.size = i := by rw [← hx, rv.length, rv2.length, rv3.length]; simp
    refine (GoesN.zip3 (elts := elts) (x1 := kk) (pos := tpos) (zip_sep3 (N := N) (fp1 := [a]) (fp2 := [b]) (fp3 := [c]) (by simpa using ha) (by simpa using hb) (by simpa using hcN)) D1 D2 D3).stops s _ E (by
      rw [hn]; exact ⟨hz, hTI, hTO, ⟨h1, p⟩, ⟨h2, p2⟩, ⟨h3, p3⟩⟩) fun h' tk hk htk => ?_
    exact I.turnedL (ch := [N + 5, N + 3, N + 4, N, N + 1, N + 2]) (fun d o hd q => hk d o (fun z => hd (mem5 z)) q) hf
  self := fun A i s Q E st h => wpAny_pyIter_zip st.1 h
def iZip3K (K : PySem.W.Frag) (ta : TA) : TI := fun σ H R => ta σ H fun vs H1 => ∃ k l m a b c xs ys zs, vs = [.ref a, .ref b, .ref c] ∧ SqK k K H1 a xs ∧ SqK l K H1 b ys ∧ SqK m K H1 c zs ∧ R (It3K k l m K a b c) H1
theorem pi_zip3K {X : Cx} {e e2 e3 : Expr} {ta : TA} {p pos tpos : Pos} {elts : List Expr} {kk : Nat} (hg : Gl X "zip") (hm : X.mg "zip" = none) (ha : PA X [e, e2, e3] ta)
    (hs : starEach [e, e2, e3] X.env = (false, eval e X.env) :: starEach [e2, e3] X.env := by rfl) (hpl : (backTo pos (starEach [e2, e3] X.env)).any (·.1) = false := by rfl) :
    PI X (.Tuple elts kk tpos) (.Call (.Name "zip" p) [e, e2, e3] [] pos) (iZip3K X.K ta) := by
  refine ⟨fun pins s σ H R I h => ?_⟩
  refine Call_ (ld_blt I hg hm PyProof.Rows.boot_zip (PyProof.Rows.callWith_type1 (thn (ha.run pos pins s σ H _ I h) fun us s1 ⟨vs, H1, I1, r1, q1⟩ => ?_) hs hpl))
  obtain ⟨k, l, m, a, b, c, xs, ys, zs, ex, hq, hq2, hq3, q⟩ := q1
  subst ex
  cases r1 with
  | cons r rr =>
    cases rr with
    | cons r' rr =>
      cases rr with
      | cons r'' rr =>
        cases rr
        cases r
        cases r'
        cases r''
        obtain ⟨its, rv, p1, _⟩ := seqK_of I1 hq
        obtain ⟨its2, rv2, p2, _⟩ := seqK_of I1 hq2
        obtain ⟨its3, rv3, p3, _⟩ := seqK_of I1 hq3
        refine zip_begins3 (beginsK k a its.toArray) (beginsK l b its2.toArray) (beginsK m c its3.toArray) p1 p2 p3 fun h' hz hTI hTO h1 h2 h3 hsz hk => wpAny_pyIter_zip hz ?_
        have I2 : Inv X pins σ H1 { s1 with heap := h' } := I1.kept (t' := s1.toks) hk
        refine ⟨s1.heap.objs.size + 5, [s1.heap.objs.size + 5, s1.heap.objs.size + 3, s1.heap.objs.size + 4, s1.heap.objs.size, s1.heap.objs.size + 1, s1.heap.objs.size + 2], _, _, H1, rfl, I2, turn_zip3K (k := k) (l := l) (m := m) (seqK_lt p1) (seqK_lt p2) (seqK_lt p3),
          ⟨hz, hTI, ⟨_, _, _, hTO⟩, iter0 h1, iter0 h2, iter0 h3⟩, fun d hd => ?_, q⟩
        have hle : s1.heap.objs.size ≤ d := ge6 hd
        exact I1.fpOk hle (I1.hok.fresh hle)
def zip3D (ds es fs : List PyData) : List PyData := ((ds.zip es).zip fs).map fun p => PyData.tuple [p.1.1, p.1.2, p.2]
theorem zip3D_get {ds es fs : List PyData} {i : Nat} {d : PyData} (h : (zip3D ds es fs)[i]? = some d) : ∃ x y z, ds[i]? = some x ∧ es[i]? = some y ∧ fs[i]? = some z ∧ d = .tuple [x, y, z] := by
  unfold zip3D at h
  rw [List.getElem?_map, Option.map_eq_some_iff] at h
  obtain ⟨⟨⟨x, y⟩, z⟩, h, rfl⟩ := h
  rw [List.getElem?_zip_eq_some, List.getElem?_zip_eq_some] at h
  exact ⟨x, y, z, h.1.1, h.1.2, h.2, rfl⟩
section
variable {K : PySem.W.Frag} {F : Hp} {k l m : Bool} {a b c : Addr} {xs ys zs : List V} {ds es fs : List PyData}
theorem walk_z3 (h : At k F a xs) (r : DDs F xs ds) (g : At l F b ys) (r' : DDs F ys es) (g2 : At m F c zs) (r2 : DDs F zs fs) : WalkD (It3K k l m K a b c) F (zip3D ds es fs) where
  goes := fun i H hi s => by
    have hi' : i < ds.length ∧ i < es.length ∧ i < fs.length := by simpa [zip3D, Nat.lt_min] using hi
    exact ⟨xs, ys, zs, xs[i]'(by rw [r.len]; exact hi'.1), ys[i]'(by rw [r'.len]; exact hi'.2.1), zs[i]'(by rw [r2.len]; exact hi'.2.2), h.sq s, g.sq s, g2.sq s, List.getElem?_eq_getElem _, List.getElem?_eq_getElem _, List.getElem?_eq_getElem _⟩
  stops := fun H s => ⟨xs, ys, zs, h.sq s, g.sq s, g2.sq s, by rw [r.len, r'.len, r2.len]; simp [zip3D]⟩
  yields := fun i H x H' d F1 hd sF sH y => by
    obtain ⟨T, z, z', z'', rfl, nT, rfl, hy, hy', hy''⟩ := y
    obtain ⟨d1, d2, d3, e1, e2, e2', rfl⟩ := zip3D_get hd
    obtain ⟨d', e3, e4⟩ := r.getV (hy xs (h.sq (sF.trans sH)))
    obtain ⟨d'', e5, e6⟩ := r'.getV (hy' ys (g.sq (sF.trans sH)))
    obtain ⟨d''', e7, e8⟩ := r2.getV (hy'' zs (g2.sq (sF.trans sH)))
    rw [e1] at e3; cases e3
    rw [e2] at e5; cases e5
    rw [e2'] at e7; cases e7
    have sm := sF.trans (same_new (o := .tup [z, z', z'']) (sH.free nT))
    exact ⟨_, Ext.add sH nT, .tup upd_same (.cons (DD.mono sm _ _ e4) (.cons (DD.mono sm _ _ e6) (.cons (DD.mono sm _ _ e8) .nil)))⟩
theorem DD.seq {v : V} {d : PyData} (h : DD F v d) (hs : seqD d = .ok ds) : ∃ k a vs, v = .ref a ∧ At k F a vs ∧ DDs F vs ds := by
  cases h with
  | @lst a vs _ h r => cases hs; exact ⟨false, a, vs, rfl, h, r⟩
  | @tup a vs _ h r => cases hs; exact ⟨true, a, vs, rfl, h, r⟩
  | _ => cases hs
end
@[simp] def fZip3 (f g h : Ev → Rs R) : Ev → Rs (List PyData) := fun ρ => (fCons f (fCons g (fCons h fNil)) ρ).bind fun ds => match ds with
  | [x, y, z] => (seqD x).bind fun xs => (seqD y).bind fun ys => (seqD z).bind fun zs => .ok (zip3D xs ys zs)
  | _ => .bad
theorem seqD_err {d : PyData} : (∃ ds, seqD d = .ok ds) ∨ seqD d = .bad := by
  cases d <;> first
    | exact .inl ⟨_, rfl⟩
    | exact .inr rfl
theorem ik_zip3 {X : Cx} {W : WX} {e e2 e3 : Expr} {te te2 te3 : TE} {f f2 f3 : Ev → Rs R} {p pos tpos : Pos} (K : PySem.W.Frag) {elts : List Expr} {kk : Nat} (h : EE X W e te f) (h2 : EE X W e2 te2 f2) (h3 : EE X W e3 te3 f3) (hm : X.mg "zip" = none) (hg : Gl X "zip" := by rfl)
    (hs : starEach [e, e2, e3] X.env = (false, eval e X.env) :: starEach [e2, e3] X.env := by rfl) (hs2 : starEach [e2, e3] X.env = (false, eval e2 X.env) :: starEach [e3] X.env := by rfl) (hs3 : starEach [e3] X.env = (false, eval e3 X.env) :: starEach [] X.env := by rfl)
    (hpl : (backTo pos (starEach [e2, e3] X.env)).any (·.1) = false := by rfl) (hK : X.K = K := by rfl) :
    EI X W (.Tuple elts kk tpos) (.Call (.Name "zip" p) [e, e2, e3] [] pos) (iZip3K K (tCons te (tCons te2 (tCons te3 tNil)))) (fZip3 f f2 f3) := by
  subst hK
  refine ⟨pi_zip3K hg hm (pa_cons h.pe (pa_cons h2.pe (pa_cons h3.pe pa_nil hs3) hs2) hs) hs hpl, fun {G H0 ρ σ F H} rel R' P => (ed_cons h (ed_cons h2 (ed_cons h3 ed_nil hs3) hs2) hs).sound rel _ (postI_out P fun ds vs F1 H1 e1 r1 P1 => ?_)⟩
  split at P1
  · rename_i x y z
    rcases seqD_err (d := x) with ⟨xs, hx⟩ | hx
    · rcases seqD_err (d := y) with ⟨ys, hy⟩ | hy
      · rcases seqD_err (d := z) with ⟨zs, hz⟩ | hz
        · rw [hx, bind_ok, hy, bind_ok, hz, bind_ok] at P1
          cases r1 with
          | cons a r1 =>
            cases r1 with
            | cons b r1 =>
              cases r1 with
              | cons c r1 =>
                cases r1
                obtain ⟨k, A, us, rfl, a1, a2⟩ := a.seq hx
                obtain ⟨l, B, ws, rfl, b1, b2⟩ := b.seq hy
                obtain ⟨m, C, ts, rfl, c1, c2⟩ := c.seq hz
                exact ⟨k, l, m, A, B, C, us, ws, ts, rfl, a1.sq e1.sub, b1.sq e1.sub, c1.sq e1.sub, P1 _ _ _ (Ext.refl e1.sub) (walk_z3 a1 a2 b1 b2 c1 c2)⟩
        · rw [hx, bind_ok, hy, bind_ok, hz] at P1; exact P1.elim
      · rw [hx, bind_ok, hy] at P1; exact P1.elim
    · rw [hx] at P1; exact P1.elim
  · exact P1.elim
end DN
/-! Den18: len of a list of ours. -/
namespace DN
open PySem PySem.Spec PyProof.Rows L2
section
variable {X : Cx} {W : WX} {pos p : Pos} (K : PySem.W.Frag)
@[simp] def fOlen (i : Nat) : Ev → Rs R := fun ρ => match ρ[i]? with
  | some (some (.own ds)) => .ok (.val (.int ds.length))
  | some (some (.val (.list ds))) => .ok (.val (.int ds.length))
  | _ => .bad
theorem ek_olen (i : Nat) {x : Str} {p2 : Pos} (hm : X.mg "len" = none) (hN : X.N[i]? = some x := by rfl) (hv : Vis X.env.scope x := by first | exact Or.inl rfl | exact Or.inr (Or.inl rfl) | exact Or.inr (Or.inr rfl)) (hd : (x == ("__debug__" : Str)) = false := by decide)
    (hcd : (x == ("__classdict__" : Str)) = false := by decide) (hg : Gl X "len" := by rfl)
    (he : starEach [.Name x p2] X.env = (false, eval (.Name x p2) X.env) :: starEach [] X.env := by rfl) (hpl : (backTo pos (starEach [] X.env)).any (·.1) = false := by rfl) (hK : X.K = K := by rfl) :
    EE X W (.Call (.Name "len" p) [.Name x p2] [] pos) (tCB (fun xs H Q => ∃ x n, xs = [x] ∧ LenV K x H n ∧ Q (.int n) H) (tCons (tVar i) tNil)) (fOlen i) := by
  subst hK
  refine ⟨pe_callB call_len hg hm PySem.boot_len (pa_cons (pe_var hN hv hd hcd) pa_nil he) (by decide) (by decide) he hpl, fun {G H0 ρ σ F H} rel Q P => ?_⟩
  unfold fOlen at P
  split at P
  · rename_i ds h
    obtain ⟨v, hv, a, vs, rfl, q1, q2, q3⟩ := rel.at_ i _ h
    exact ⟨_, hv, _, _, rfl, .inl ⟨_, SqL.of q1, rfl⟩, by rw [q3.len]; exact post_flat rel.sub (.int _) P⟩
  · rename_i ds h
    obtain ⟨v, hv, q⟩ := rel.at_ i _ h
    cases q with
    | @lst a vs _ q1 q3 => exact ⟨_, hv, _, _, rfl, .inl ⟨_, SqL.of (rel.sub _ _ q1), rfl⟩, by rw [q3.len]; exact post_flat rel.sub (.int _) P⟩
  · exact P.elim
end
/-! ### a, b, .. = e1, e2, .. by a tuple, things of ours among them -/
section
variable {X : Cx} {W : WX} {pos : Pos} (K : PySem.W.Frag)
theorem es_unp2 (i j : Nat) (k l : Bool) {x y : Str} {a b : Expr} {ta tb : TE} {fa fb : Ev → Rs R} {px py pt pt2 : Pos} {kt k2 : Nat} (hN : X.N.Nodup) (ha : EE X W a ta fa) (hb : EE X W b tb fb)
    (hi : X.N[i]? = some x := by rfl) (hj : X.N[j]? = some y := by rfl) (hx : Loc X.env.scope x := by first | exact .inl rfl | exact .inr rfl) (hy : Loc X.env.scope y := by first | exact .inl rfl | exact .inr rfl)
    (fx : X.fn x = true ∨ X.env.scope.names.lookup x = some .local := by first | exact .inl rfl | exact .inr rfl | assumption) (fy : X.fn y = true ∨ X.env.scope.names.lookup y = some .local := by first | exact .inl rfl | exact .inr rfl | assumption) (hc : X.calm = true := by rfl)
    (hs1 : starEach [a, b] X.env = (false, eval a X.env) :: starEach [b] X.env := by rfl) (hs2 : starEach [b] X.env = (false, eval b X.env) :: starEach [] X.env := by rfl)
    (hh1 : (assignEach [.Name x px, .Name y py] X.env).map (·.2) = assign (.Name x px) X.env :: (assignEach [.Name y py] X.env).map (·.2) := by rfl) (hh2 : (assignEach [.Name y py] X.env).map (·.2) = assign (.Name y py) X.env :: (assignEach [] X.env).map (·.2) := by rfl)
    (hn : (assignEach [.Name x px, .Name y py] X.env).length = 2 := by rfl) (hst : (assignEach [.Name x px, .Name y py] X.env).findIdx? (·.1) = none := by rfl)
    (hs : swapsWithSole [.Tuple [.Name x px, .Name y py] kt pt] (.Tuple [a, b] k2 pt2) pos.line X.env = pure false := by rfl) (hw : swappedStores [.Tuple [.Name x px, .Name y py] kt pt] (.Tuple [a, b] k2 pt2) X.env = pure none := by rfl)
    (h1 : (assignEach [.Tuple [.Name x px, .Name y py] kt pt] X.env).map (·.2) = [assign (.Tuple [.Name x px, .Name y py] kt pt) X.env] := by rfl) (hK : X.K = K := by rfl) :
    ES X W (.Assign [.Tuple [.Name x px, .Name y py] kt pt] (.Tuple [a, b] k2 pt2) pos) (tAsg (tTup (tCons ta (tCons tb tNil))) (gTup K 2 (gCons (gName i) (gCons (gName j) gNil)))) (gPar i j k l fa fb) := by
  subst hK
  refine ⟨ps_asg (pe_tup (pa_cons ha.pe (pa_cons hb.pe pa_nil hs2) hs1)) (pg_tup hc (pgs_cons (pg_name hN hi hx fx) (pgs_cons (pg_name hN hj hy fy) pgs_nil hh2) hh1) hn hst) hs hw h1, fun {G H0 ρ σ F H} rel D P => ?_⟩
  refine ha.sound rel _ (postS_keep rel P fun r v F1 H1 e1 q1 P1 => hb.sound (rel.step e1) _ (postS_keep (rel.step e1) P1 fun r2 v2 F2 H2 e2 q2 P2 => ?_))
  have R := Rel.setOwn (i := j) (rel.setOwn (i := i) e1 q1) e2 q2
  exact ⟨by show 2 ≤ sizeLine; decide, fun p np => ⟨p, _, rfl, SqT.of upd_same, rfl, v, _, rfl, v2, _, rfl, rfl, P2 _ _ _ (R.step (Ext.addH R.sub np))⟩⟩
theorem es_unp3 (i j m : Nat) (k l n : Bool) {x y z : Str} {a b c : Expr} {ta tb tc : TE} {fa fb fc : Ev → Rs R} {px py pz pt pt2 : Pos} {kt k2 : Nat} (hN : X.N.Nodup) (ha : EE X W a ta fa) (hb : EE X W b tb fb) (hc3 : EE X W c tc fc)
    (hi : X.N[i]? = some x := by rfl) (hj : X.N[j]? = some y := by rfl) (hm : X.N[m]? = some z := by rfl) (hx : Loc X.env.scope x := by first | exact .inl rfl | exact .inr rfl) (hy : Loc X.env.scope y := by first | exact .inl rfl | exact .inr rfl) (hz : Loc X.env.scope z := by first | exact .inl rfl | exact .inr rfl)
    (fx : X.fn x = true ∨ X.env.scope.names.lookup x = some .local := by first | exact .inl rfl | exact .inr rfl | assumption) (fy : X.fn y = true ∨ X.env.scope.names.lookup y = some .local := by first | exact .inl rfl | exact .inr rfl | assumption) (fz : X.fn z = true ∨ X.env.scope.names.lookup z = some .local := by first | exact .inl rfl | exact .inr rfl | assumption) (hc : X.calm = true := by rfl)
    (hs1 : starEach [a, b, c] X.env = (false, eval a X.env) :: starEach [b, c] X.env := by rfl) (hs2 : starEach [b, c] X.env = (false, eval b X.env) :: starEach [c] X.env := by rfl) (hs3 : starEach [c] X.env = (false, eval c X.env) :: starEach [] X.env := by rfl)
    (hh1 : (assignEach [.Name x px, .Name y py, .Name z pz] X.env).map (·.2) = assign (.Name x px) X.env :: (assignEach [.Name y py, .Name z pz] X.env).map (·.2) := by rfl) (hh2 : (assignEach [.Name y py, .Name z pz] X.env).map (·.2) = assign (.Name y py) X.env :: (assignEach [.Name z pz] X.env).map (·.2) := by rfl)
    (hh3 : (assignEach [.Name z pz] X.env).map (·.2) = assign (.Name z pz) X.env :: (assignEach [] X.env).map (·.2) := by rfl)
    (hn : (assignEach [.Name x px, .Name y py, .Name z pz] X.env).length = 3 := by rfl) (hst : (assignEach [.Name x px, .Name y py, .Name z pz] X.env).findIdx? (·.1) = none := by rfl)
    (hs : swapsWithSole [.Tuple [.Name x px, .Name y py, .Name z pz] kt pt] (.Tuple [a, b, c] k2 pt2) pos.line X.env = pure false := by rfl) (hw : swappedStores [.Tuple [.Name x px, .Name y py, .Name z pz] kt pt] (.Tuple [a, b, c] k2 pt2) X.env = pure none := by rfl)
    (h1 : (assignEach [.Tuple [.Name x px, .Name y py, .Name z pz] kt pt] X.env).map (·.2) = [assign (.Tuple [.Name x px, .Name y py, .Name z pz] kt pt) X.env] := by rfl) (hK : X.K = K := by rfl) :
    ES X W (.Assign [.Tuple [.Name x px, .Name y py, .Name z pz] kt pt] (.Tuple [a, b, c] k2 pt2) pos) (tAsg (tTup (tCons ta (tCons tb (tCons tc tNil)))) (gTup K 3 (gCons (gName i) (gCons (gName j) (gCons (gName m) gNil))))) (gPar3 i j m k l n fa fb fc) := by
  subst hK
  refine ⟨ps_asg (pe_tup (pa_cons ha.pe (pa_cons hb.pe (pa_cons hc3.pe pa_nil hs3) hs2) hs1)) (pg_tup hc (pgs_cons (pg_name hN hi hx fx) (pgs_cons (pg_name hN hj hy fy) (pgs_cons (pg_name hN hm hz fz) pgs_nil hh3) hh2) hh1) hn hst) hs hw h1, fun {G H0 ρ σ F H} rel D P => ?_⟩
  refine ha.sound rel _ (postS_keep rel P fun r v F1 H1 e1 q1 P1 => hb.sound (rel.step e1) _ (postS_keep (rel.step e1) P1 fun r2 v2 F2 H2 e2 q2 P2 => hc3.sound ((rel.step e1).step e2) _ (postS_keep ((rel.step e1).step e2) P2 fun r3 v3 F3 H3 e3 q3 P3 => ?_)))
  have R := Rel.setOwn (i := m) (Rel.setOwn (i := j) (rel.setOwn (i := i) e1 q1) e2 q2) e3 q3
  exact ⟨by show 3 ≤ sizeLine; decide, fun p np => ⟨p, _, rfl, SqT.of upd_same, rfl, v, _, rfl, v2, _, rfl, v3, _, rfl, rfl, P3 _ _ _ (R.step (Ext.addH R.sub np))⟩⟩
end
end DN
namespace DN
open PySem PySem.Spec PyProof.Rows L2
/-- a def of which nothing is promised -/
theorem fn_bad {P : Program} {w : World} {K : PySem.W.Frag} {mg : Str → Option Value} {base : Heap} {CX : CXT} {k n : Nat} {f : Addr} {fd : FuncData} {ps : List Str} (hn : ps.length = n) : FnOk P w K mg base CX k f fd ps (spD K mg n fun _ => .bad) :=
  ⟨fun vs H Q E h => by rw [hn]; exact h.1, fun A outer s H args us vs Q E hr he hb hv h => by obtain ⟨_, _, _, _, _, z⟩ := h; exact z.elim⟩
end DN
/-! Den20: try .. except X as n. -/
namespace DN
open PySem PySem.Spec PyProof.Rows L2
def after (i : Nat) : RO → RO
  | .nx ρ => .nx (ρ.set i none)
  | .ret r => .ret r
  | _ => .bad
open Classical in
noncomputable def gTry (known : List Str) (i : Nat) (gb : Ev → RO) (gh : Str → Addr → Ev → RO) : Ev → RO := fun ρ => match gb ρ with
  | .exc c ρ' => if c ∈ known ∧ ∀ a, after i (gh c a (ρ'.set i (some (.raw (.ref a))))) = after i (gh c 0 (ρ'.set i (some (.raw (.ref 0))))) then after i (gh c 0 (ρ'.set i (some (.raw (.ref 0))))) else .bad
  | .nx ρ' => .nx ρ'
  | .ret r => .ret r
  | .bad => .bad
theorem gTry_nx {known : List Str} {i : Nat} {gb : Ev → RO} {gh : Str → Addr → Ev → RO} {ρ ρ' : Ev} (h : gb ρ = .nx ρ') : gTry known i gb gh ρ = .nx ρ' := by
  unfold gTry
  rw [h]
theorem gTry_ret {known : List Str} {i : Nat} {gb : Ev → RO} {gh : Str → Addr → Ev → RO} {ρ : Ev} {r : R} (h : gb ρ = .ret r) : gTry known i gb gh ρ = .ret r := by
  unfold gTry
  rw [h]
theorem gTry_exc {known : List Str} {i : Nat} {gb : Ev → RO} {gh : Str → Addr → Ev → RO} {ρ ρ' : Ev} {c : Str} {r : R} (h : gb ρ = .exc c ρ') (hc : c ∈ known) (hr : ∀ a, gh c a (ρ'.set i (some (.raw (.ref a)))) = .ret r) : gTry known i gb gh ρ = .ret r := by
  unfold gTry
  rw [h]
  simp only [hr, hc, true_and, implies_true, if_true]
  rfl
theorem pss_when {X : Cx} {sts : List Stmt} {t : TS} {p : Prop} (h : p → PSs X sts t) : PSs X sts (fun D σ H => p ∧ t D σ H) := ⟨fun pins s σ H D I q => (h q.1).run pins s σ H D I q.2⟩
def onRef (ts : Addr → TS) : Value → TS
  | .ref C => ts C
  | _ => fun _ _ _ => False
section
variable {X : Cx} {W : WX}
theorem es_try {x n : Str} {CL : Addr} {i : Nat} {known : List Str} {body suite : List Stmt} {b₀ : Stmt} {np pos pos' : Pos} {tb : WX → TS} {ts : Addr → Addr → TS} {gb : Ev → RO} {gh : Str → Addr → Ev → RO}
    (hs : X.stack = X.env :: X.outer) (hf : X.env.frame = some X.env.locals) (hN : X.N.Nodup) (hcl : X.mg x = some (.ref CL)) (tk : Takes X W)
    (hex : ∀ c C, c ∈ known → X.mg c = some (.ref C) → PySem.W.exmOne X.K (.ref C) (.ref CL) = some true)
    (hb : ∀ (W' : WX) (pn : List (Addr × Obj)) (xe : Value → Shared → Prop), Takes (X.tr pn xe) W' → PassesOwn (model X.prog X.w) X.A X.env xe → EB (X.tr pn xe) W' body (tb W') gb)
    (hsu : ∀ (a : Addr) (oe : Obj) (C : Addr) (c : Str) (pn : List (Addr × Obj)), c ∈ known → X.mg c = some (.ref C) → Zc (.ref C) none oe → (∃ vs, oe.data = .fields vs) → EB (X.suite a ((a, oe) :: pn)) W0 (b₀ :: suite) (ts a C) (gh c a))
    (hi : X.N[i]? = some n := by rfl) (hln : X.env.kindOf n = some .local := by rfl) (hg : Gl X x := by rfl) (hdb : (x == ("__debug__" : Str)) = false := by decide) :
    ES X W (.Try body [.ExceptHandler (some (.Name x np)) (some n) (b₀ :: suite) pos'] [] [] pos)
      (fun D σ H => tb (wAs X.K (.ref CL) i (fun a cls d D σ H => (∃ c C, c ∈ known ∧ X.mg c = some (.ref C) ∧ cls = .ref C ∧ d = none) ∧ onRef (ts a) cls D σ H) W D) D σ H) (gTry known i gb gh) where
  ps := ps_try_as hs hf hN hi hln ⟨hg, hdb, .inl hcl⟩ tk (fun W' pn xe t p => (hb W' pn xe t p).ps) fun a oe cls d pn hz hf => pss_when fun ⟨c, C, hc, hm, e1, e2⟩ => by
    subst e1 e2
    exact (hsu a oe C c pn hc hm hz hf).ps
  sound := fun {G H0 ρ σ F H} rel D P => by
    refine (hb _ [] (fun e s₁ => wpAny (model X.prog X.w) X.A (noteFrame e X.env) (fun _ s₂ => wpAny (model X.prog X.w) X.A (setFlight e none) (fun _ _ => True) (fun _ _ => True) s₂) (fun _ _ => True) s₁) (fun u s' xx => ?_) PassesOwn.looking).sound rel D ?_
    · obtain ⟨a, B, sI, pins', σ', H', cls, d, rfl, J', nb, up, sky, na, os, ag, w⟩ := xx
      have hfr : X.A.frames = some (X.env :: X.outer) := by rw [J'.ok.frames]; exact congrArg some hs
      have sky' : Sky B (X.env :: X.outer) a (Zc cls d) X.env.locals s'.heap := by rw [← hs]; exact sky
      show wpAny (model X.prog X.w) X.A (noteFrame (.ref a) X.env) _ _ _
      exact Sky.land Zc.steady hfr hf sky' fun h3 fl3 up3 => trivial
    unfold gTry at P
    cases h : gb ρ with
    | nx ρ' => rw [h] at P; exact P
    | ret r => rw [h] at P; exact P
    | bad => rw [h] at P; exact P
    | exc c ρ' =>
      rw [h] at P
      intro C σ' F' H' mC r
      by_cases hc : c ∈ known ∧ ∀ a, after i (gh c a (ρ'.set i (some (.raw (.ref a))))) = after i (gh c 0 (ρ'.set i (some (.raw (.ref 0)))))
      · have P : PostS X.K X.mg W G H0 D (after i (gh c 0 (ρ'.set i (some (.raw (.ref 0)))))) := by
          have := P
          simp only [if_pos hc] at this
          exact this
        refine ⟨true, hex c C hc.1 mC, fun _ a na => ⟨⟨c, C, hc.1, mC, rfl, rfl⟩, ?_⟩, fun z => nomatch z⟩
        have r2 : Rel X.K G H0 (ρ'.set i (some (.raw (.ref a)))) (σ'.set i (some (.ref a))) F' H' := r.setVal (r := .raw (.ref a)) (v := .ref a) rfl rfl
        refine (hsu a ⟨.ref C, none, .fields #[], #[]⟩ C c [] hc.1 mC ⟨rfl, rfl⟩ ⟨_, rfl⟩).sound r2 _ ?_
        rw [← hc.2 a] at P
        cases ho : gh c a (ρ'.set i (some (.raw (.ref a)))) with
        | nx ρ'' =>
          rw [ho] at P
          exact fun σ'' F'' H'' r3 => P _ F'' H'' r3.unset
        | ret r => rw [ho] at P; exact P
        | exc _ _ => rw [ho] at P; exact P.elim
        | bad => rw [ho] at P; exact P.elim
      · simp only [if_neg hc] at P
        exact P.elim
end
end DN
/-! Den21: what an except suite asks: isinstance(e, C), [..].index(True). -/
namespace DN
open PySem PySem.Spec PyProof.Rows L2
section
variable {X : Cx} {W : WX} {pos p : Pos} (K : PySem.W.Frag)
@[simp] def fIsE (a : Addr) (i : Nat) (b : Bool) : Ev → Rs R := fun ρ => match ρ[i]? with
  | some (some (.raw (.ref a'))) => if a' = a then .ok (.val (.bool b)) else .bad
  | _ => .bad
theorem ek_isE {a C CC : Addr} {oe : Obj} {pn : List (Addr × Obj)} (i : Nat) {b : Bool} {x q : Str} {p1 p2 : Pos} (E : ExcC K C) (hz : Zc (.ref C) none oe) (hf : ∃ vs, oe.data = .fields vs) (hm : X.mg "isinstance" = none) (hq : X.mg q = some (.ref CC)) (hkit : PySem.W.kitOne K (.ref C) (.ref CC) = some b)
    (hN : X.N[i]? = some x := by rfl) (hv : Vis X.env.scope x := by first | exact Or.inl rfl | exact Or.inr (Or.inl rfl) | exact Or.inr (Or.inr rfl)) (hd : (x == ("__debug__" : Str)) = false := by decide) (hcd : (x == ("__classdict__" : Str)) = false := by decide)
    (hg : Gl X "isinstance" := by rfl) (hgq : Gl X q := by rfl) (hdq : (q == ("__debug__" : Str)) = false := by decide)
    (hs1 : starEach [.Name x p1, .Name q p2] X.env = (false, eval (.Name x p1) X.env) :: starEach [.Name q p2] X.env := by rfl) (hs2 : starEach [.Name q p2] X.env = (false, eval (.Name q p2) X.env) :: starEach [] X.env := by rfl) (hpl : (backTo pos (starEach [.Name q p2] X.env)).any (·.1) = false := by rfl) (hK : X.K = K := by rfl) :
    EE (X.suite a ((a, oe) :: pn)) W (.Call (.Name "isinstance" p) [.Name x p1, .Name q p2] [] pos) (tCB (rIsE K C a) (tCons (tVar i) (tCons (tC (.ref CC)) tNil))) (fIsE a i b) := by
  subst hK
  refine ⟨pe_callB (call_isE E hz hf) hg hm (by decide +kernel) (pa_cons (pe_var hN hv hd hcd) (pa_cons (pe_glob hgq hq rfl hdq) pa_nil hs2) hs1) (by decide) (by decide) hs1 hpl, fun {G H0 ρ σ F H} rel Q P => ?_⟩
  unfold fIsE at P
  split at P
  · rename_i a' h
    split at P
    · rename_i e
      subst e
      obtain ⟨v, hv, e⟩ := rel.at_ i _ h
      cases e
      exact ⟨_, hv, .ref CC, .ref CC, b, rfl, fun u r => by cases r; rfl, hkit, post_flat rel.sub (.bl _) P⟩
    · exact P.elim
  · exact P.elim
def idxT : PyData → Rs R
  | .list ds => match asBs ds with
    | some bs => match bs.findIdx? id with
      | some j => .ok (.val (.int (j : Nat)))
      | none => .bad
    | none => .bad
  | _ => .bad
theorem ek_idxT {o : Expr} {te : TE} {f : Ev → Rs R} {apos cpos p2 : Pos} {jj : Nat} (he : EE X W o te f)
    (hbase : attributeBase o "index" X.env (eval o X.env) = eval o X.env := by rfl)
    (hfew : ((backTo cpos (starEach [Expr.Constant (.bool true) jj p2] X.env)).all (fun x => !x.1) && (backToKw cpos (keywordEach [] X.env)).all (fun x => x.1.isSome)
      && decide (([Expr.Constant (.bool true) jj p2] : List Expr).length + ([] : List Keyword).length + (if ([] : List Keyword).isEmpty then 0 else 1) < 30)) = true := by rfl)
    (hline : (apos.endLine == cpos.line) = true := by rfl) (hs : starEach [Expr.Constant (.bool true) jj p2] X.env = (false, eval (.Constant (.bool true) jj p2) X.env) :: starEach [] X.env := by rfl) (hplain : (backTo cpos (starEach [] X.env)).any (·.1) = false := by rfl) (hK : X.K = K := by rfl) :
    EE X W (.Call (.Attribute o "index" apos) [.Constant (.bool true) jj p2] [] cpos) (tBM K "list" (rIndex K) te (tCons (tC (.bl true)) tNil)) (fUn idxT f) := by
  subst hK
  refine ⟨pe_bm PySem.F.plainAttrs_list PySem.F.slot_list_index PySem.F.type_list_index mt_index he.pe (pa_cons (ee_bl (W := W)).pe pa_nil hs) hbase hfew hline hs hplain, fun {G H0 ρ σ F H} rel Q P => ?_⟩
  refine he.sound rel _ (post_data P fun d v F1 H1 e1 r1 P1 => ?_)
  unfold idxT at P1
  cases r1 with
  | @lst b ys ds hb w =>
    dsimp only at P1
    split at P1
    · rename_i bs hbs
      split at P1
      · rename_i k hk
        have hy := DDs.ofBools (asBs_eq hbs ▸ w)
        obtain ⟨hlt, h1, h2⟩ := List.findIdx?_eq_some_iff_getElem.mp hk
        refine ⟨.inl ⟨rfl, ys, SqL.of (e1.sub _ _ hb)⟩, b, ys, .bl true, k, .bl true, rfl, rfl, SqL.of (e1.sub _ _ hb), rfl, ?_, ?_, rfl, fun m z' hm hz' => ?_, post_flat e1.sub (.int _) P1⟩
        · rw [hy]; simp [flatV]
        · rw [hy, List.getElem?_map]
          simp [hlt]
          simpa using h1
        · rw [hy, List.getElem?_map] at hz'
          have := h2 m hm
          have hml : m < bs.length := by omega
          simp [hml] at hz'
          subst hz'
          simp at this
          rw [this]
          rfl
      · exact P1.elim
    · exact P1.elim
  | _ => exact P1.elim
end
end DN
/-! Den22: [f, g, ..][i](..), a def picked from a list of defs. -/
namespace DN
open PySem PySem.Spec PyProof.Rows L2
structure Picked (P : Program) (w : World) (K : PySem.W.Frag) (mg : Str → Option Value) (base : Heap) (k n : Nat) (f : Addr) (den : List R → Rs R) : Prop where
  ex : ∃ (fd : FuncData) (ps : List Str), FnOk P w K mg base (L2.CX P w) k f fd ps (spD K mg n den) ∧ PySem.W.keepIn K (.ref f) = true ∧ Binds K fd ps []
def refs : List Addr → TA
  | [] => tNil
  | f :: fs => tCons (tC (.ref f)) (refs fs)
theorem refs_is : ∀ (fs : List Addr) (σ : L2.St) (H : Hp) (Q : List V → Hp → Prop), refs fs σ H Q ↔ Q (fs.map V.ref) H
  | [], σ, H, Q => Iff.rfl
  | f :: fs, σ, H, Q => refs_is fs σ H fun xs H1 => Q (.ref f :: xs) H1
@[simp] def fPick (m : Nat) (dens : Nat → List R → Rs R) (fb : Ev → Rs R) (fr : Ev → Rs (List R)) : Ev → Rs R := fun ρ => (fb ρ).bind fun r => r.d.bind fun d => match d with
  | .int j => if 0 ≤ j ∧ j < (m : Nat) then (fr ρ).bind fun rs => dens j.toNat rs else .bad
  | _ => .bad
section
variable {X : Cx} {W : WX} {pos lp sp : Pos} (K : PySem.W.Frag)
def tPick (K : PySem.W.Frag) (mg : Str → Option Value) (n : Nat) (fs : List Addr) (dens : Nat → List R → Rs R) (E : L2.St → XK) (tb : TE) (t : TA) : TE := fun σ H Q =>
  tOp (rIxL K) (tLst (refs fs)) tb σ H fun v H1 => ∃ j f, v = .ref f ∧ fs[j]? = some f ∧ t σ H1 fun vs H2 => spD K mg n (dens j) vs H2 Q (E σ)
theorem ek_pick {k n : Nat} {fs : List Addr} {dens : Nat → List R → Rs R} {ns es : List Expr} {b e : Expr} {tb : TE} {fb : Ev → Rs R} {t : TA} {fr : Ev → Rs (List R)} {mg : Str → Option Value}
    (hp : ∀ j f, fs[j]? = some f → Picked X.prog X.w K mg X.base k n f (dens j)) (hr : Room k X.A) (tk : Takes X W) (hn : PA X ns (refs fs)) (hb : EE X W b tb fb) (ha : EA X W (e :: es) t fr) (hfl : fs.length ≤ 100 := by decide) (hl : (e :: es).length = n := by rfl)
    (hs : PlainIx b := by exact fun _ _ => rfl) (ht : eval (.Call (.Subscript (.List ns lp) b sp) (e :: es) [] pos) X.env = (do callWith pos (← eval (.Subscript (.List ns lp) b sp) X.env) [] (backTo pos (starEach (e :: es) X.env)) (backToKw pos (keywordEach [] X.env))) := by rfl)
    (he : starEach (e :: es) X.env = (false, eval e X.env) :: starEach es X.env := by rfl) (hpl : (backTo pos (starEach es X.env)).any (·.1) = false := by rfl) (hK : X.K = K := by rfl) (hmg : X.mg = mg := by rfl) :
    EE X W (.Call (.Subscript (.List ns lp) b sp) (e :: es) [] pos) (tPick K mg n fs dens (WE W) tb t) (fPick fs.length dens fb fr) := by
  subst hK hmg
  refine ⟨⟨fun pins s σ H Q I h => ?_⟩, fun {G H0 ρ σ F H} rel Q P => ?_⟩
  · refine Call_ (thn ((pe_ix ix_list (pe_lst hn) hb.pe hs).run pins s σ H _ I h) fun u s1 ⟨v, H1, I1, rv, j, f, e1, hj, q⟩ => ?_) ht
    subst e1
    obtain rfl : u = Value.ref f := rv
    obtain ⟨fd, ps, F, hk, hbd⟩ := (hp j f hj).ex
    refine PySem.W.callWith_K (h₀ := X.base) I.ok.mod.kin hk (thn (ha.pa.run pos pins s1 σ H1 _ I1 q) fun us s2 ⟨vs, H2, I2, r, q2⟩ => ⟨I2.kIn, ?_⟩) he hpl
    exact run_fnS F hr hbd (passAt tk σ) I2 r q2
  · refine (refs_is fs σ H _).mpr ⟨by simp; exact Nat.le_trans hfl (by decide), fun p np => ?_⟩
    have e0 : Ext F H F (upd H p (.lst (fs.map V.ref))) := Ext.addH rel.sub np
    unfold fPick at P
    refine hb.sound (rel.step e0) _ (post_data (post_step P e0) fun d v F1 H1 e1 r1 P1 => ?_)
    cases r1 with
    | int j =>
      dsimp only at P1
      split at P1
      · rename_i hj
        obtain ⟨f, hf⟩ : ∃ f, fs[j.toNat]? = some f := ⟨_, List.getElem?_eq_getElem (by omega)⟩
        have hat : atI (fs.map V.ref) j = some (.ref f) := by
          obtain ⟨m, rfl⟩ := Int.eq_ofNat_of_zero_le hj.1
          have hf : fs[m]? = some f := by simpa using hf
          exact atI_nat (by rw [List.getElem?_map, hf]; rfl)
        refine ⟨p, _, j, .ref f, rfl, rfl, SqL.of (e1.hh _ _ upd_same), hat, j.toNat, f, rfl, hf, ?_⟩
        refine ha.sound ((rel.step e0).step e1) _ (postA_out P1 fun rs vs F3 H3 q e3 r3 P3 => ⟨by rw [r3.len, ha.len ρ rs q]; exact hl, rs, F3, e3.sub, r3, ?_⟩)
        cases hd : dens j.toNat rs with
        | ok r => rw [hd] at P3; exact P3
        | err c => rw [hd] at P3; exact P3
        | bad => rw [hd] at P3; exact P3
      · exact P1.elim
    | _ => exact P1.elim
end
end DN
/-! Den23: x = [.. for .. for ..] on one line. -/
namespace DN
open PySem PySem.Spec PyProof.Rows L2
theorem lookup_relabel {env : Env} {x : Str} : ∀ {names : List (Str × NameKind)}, names.lookup x = some .cell ∨ names.lookup x = some .free →
    (names.map fun (n, k) => if (k == NameKind.free && env.scope.kind == .function && env.kindOf n == some .cell) then (n, NameKind.cell) else (n, k)).lookup x = some .cell ∨ (names.map fun (n, k) => if (k == NameKind.free && env.scope.kind == .function && env.kindOf n == some .cell) then (n, NameKind.cell) else (n, k)).lookup x = some .free
  | [], h => by rcases h with h | h <;> cases h
  | (n, k) :: r, h => by
    rw [List.map_cons]
    cases hx : x == n with
    | true =>
      have hk : k = .cell ∨ k = .free := by
        rcases h with h | h
        · rw [List.lookup_cons, hx] at h
          injection h with h
          exact .inl h
        · rw [List.lookup_cons, hx] at h
          injection h with h
          exact .inr h
      by_cases hc : (k == NameKind.free && env.scope.kind == .function && env.kindOf n == some .cell) = true
      · left
        simp only [if_pos hc, List.lookup_cons, hx]
      · simp only [if_neg hc, List.lookup_cons, hx]
        rcases hk with rfl | rfl
        · exact .inl rfl
        · exact .inr rfl
    | false =>
      have h' : r.lookup x = some .cell ∨ r.lookup x = some .free := by
        rcases h with h | h
        · rw [List.lookup_cons, hx] at h; exact .inl h
        · rw [List.lookup_cons, hx] at h; exact .inr h
      have ih := lookup_relabel (env := env) h'
      by_cases hc : (k == NameKind.free && env.scope.kind == .function && env.kindOf n == some .cell) = true
      · simp only [if_pos hc, List.lookup_cons, hx]
        exact ih
      · simp only [if_neg hc, List.lookup_cons, hx]
        exact ih
/-- a comprehension within a comprehension -/
theorem blkOk_in {N : List Str} {sc scope : Scope} {env : Env} {own : List (Str × Nat)} (h : blkC N sc scope own = true) : BlkOk N (relabel sc env) scope own where
  kind := (blkOk_by h).kind
  uniq := (blkOk_by h).uniq
  ix := (blkOk_by h).ix
  free := fun y hy e => lookup_relabel ((blkOk_by h).free y hy e)
  own := (blkOk_by h).own
section
variable {X : Cx} {W : WX} {pos : Pos}
theorem es_setLc2F (i : Nat) {y : Str} {py : Pos} {elt tg iter tg1 iter1 : Expr} {ifs ifs1 : List Expr} {scope : Scope} {own : List (Str × Nat)} {spos : Pos} {wi wi1 : TI} {g g1 : TG} {tt tt1 : TT} {te : TE} {i0 : Nat} {is1 : List Nat} {fi fi1 : Ev → Rs (List PyData)} {ft1 : PyData → Ev → Rs Ev} {fc fc1 : Ev → Rs Bool} {fe : Ev → Rs R}
    (hN : X.N.Nodup) (hi : EI X W tg iter wi fi) (ok : BlkOk X.N X.env.scope scope own)
    (hg : ∀ (s : Shared) (H : Hp) (C : Addr) (cl : List (Str × Addr)) (fp : List Addr), EG (X.blk s H scope (compEnvC scope cl C X.env) fp) tg g [i0] (tName i0))
    (ht : ∀ (s : Shared) (H : Hp) (C : Addr) (cl : List (Str × Addr)) (fp : List Addr), ETs (X.blk s H scope (compEnvC scope cl C X.env) fp) W0 ifs tt fc)
    (hi1 : ∀ (s : Shared) (H : Hp) (C : Addr) (cl : List (Str × Addr)) (fp : List Addr), EI (X.blk s H scope (compEnvC scope cl C X.env) fp) W0 tg1 iter1 wi1 fi1)
    (hg1 : ∀ (s : Shared) (H : Hp) (C : Addr) (cl : List (Str × Addr)) (fp : List Addr), EG (X.blk s H scope (compEnvC scope cl C X.env) fp) tg1 g1 is1 ft1)
    (ht1 : ∀ (s : Shared) (H : Hp) (C : Addr) (cl : List (Str × Addr)) (fp : List Addr), ETs (X.blk s H scope (compEnvC scope cl C X.env) fp) W0 ifs1 tt1 fc1)
    (he : ∀ (s : Shared) (H : Hp) (C : Addr) (cl : List (Str × Addr)) (fp : List Addr), EE (X.blk s H scope (compEnvC scope cl C X.env) fp) W0 elt te fe)
    (hsub : ∀ i ∈ [i0], i ∈ own.map (·.2) := by decide) (hv : ∀ i ∈ is1, i ∈ own.map (·.2) := by decide) (hc : X.calm = true := by rfl) (hs : ∀ x, foldedSetIterable iter X.env x = pure x := by intro _; rfl) (hs1 : ∀ env x, foldedSetIterable iter1 env x = pure x := by intro _ _; rfl)
    (hy : X.N[i]? = some y := by rfl) (hyl : X.env.scope.names.lookup y = some .local := by rfl) (hk : X.env.scope.kind = .function := by rfl) (hl : (py.line == pos.line) = true := by rfl)
    (ha : (scope.names.any fun (n, k) => n == y && (k == .local || k == .cell)) = false := by decide +kernel) :
    ES X W (.Assign [.Name y py] (.ListComp elt [⟨tg, iter, ifs, 0⟩, ⟨tg1, iter1, ifs1, 0⟩] scope pos) spos) (tAsg (tLc2 wi g tt wi1 g1 tt1 te (own.map (·.2)) is1) (gName i)) (gAsgF i (fLc2 (own.map (·.2)) is1 fi (tName i0) fc fi1 ft1 fc1 fe)) :=
  es_asgPF (ps_setLc2 hc hN hy hyl (sw_true hk hyl hl ha) hi.pi ok hv (fun s H C cl fp => (hg s H C cl fp).pg) (fun s H C cl fp => (ht s H C cl fp).pts) (fun s H C cl fp => (hi1 s H C cl fp).pi) (fun s H C cl fp => (hg1 s H C cl fp).pg) (fun s H C cl fp => (ht1 s H C cl fp).pts) (fun s H C cl fp => (he s H C cl fp).pe) hs hs1)
    (ee_lc2 (pos := pos) hN hi ok hg ht hi1 hg1 ht1 he hsub hv hc hs hs1)
theorem es_setLc2 (i : Nat) {y : Str} {py : Pos} {elt tg iter tg1 iter1 : Expr} {ifs ifs1 : List Expr} {scope : Scope} {own : List (Str × Nat)} {spos : Pos} {wi wi1 : TI} {g g1 : TG} {tt tt1 : TT} {te : TE} {i0 : Nat} {is1 : List Nat} {fi fi1 : Ev → Rs (List PyData)} {ft1 : PyData → Ev → Rs Ev} {fc fc1 : Ev → Rs Bool} {fe : Ev → Rs R}
    (hN : X.N.Nodup) (hi : EI X W tg iter wi fi) (ok : BlkOk X.N X.env.scope scope own)
    (hg : ∀ (s : Shared) (H : Hp) (C : Addr) (cl : List (Str × Addr)) (fp : List Addr), EG (X.blk s H scope (compEnvC scope cl C X.env) fp) tg g [i0] (tName i0))
    (ht : ∀ (s : Shared) (H : Hp) (C : Addr) (cl : List (Str × Addr)) (fp : List Addr), ETs (X.blk s H scope (compEnvC scope cl C X.env) fp) W0 ifs tt fc)
    (hi1 : ∀ (s : Shared) (H : Hp) (C : Addr) (cl : List (Str × Addr)) (fp : List Addr), EI (X.blk s H scope (compEnvC scope cl C X.env) fp) W0 tg1 iter1 wi1 fi1)
    (hg1 : ∀ (s : Shared) (H : Hp) (C : Addr) (cl : List (Str × Addr)) (fp : List Addr), EG (X.blk s H scope (compEnvC scope cl C X.env) fp) tg1 g1 is1 ft1)
    (ht1 : ∀ (s : Shared) (H : Hp) (C : Addr) (cl : List (Str × Addr)) (fp : List Addr), ETs (X.blk s H scope (compEnvC scope cl C X.env) fp) W0 ifs1 tt1 fc1)
    (he : ∀ (s : Shared) (H : Hp) (C : Addr) (cl : List (Str × Addr)) (fp : List Addr), EE (X.blk s H scope (compEnvC scope cl C X.env) fp) W0 elt te fe)
    (hsub : ∀ i ∈ [i0], i ∈ own.map (·.2) := by decide) (hv : ∀ i ∈ is1, i ∈ own.map (·.2) := by decide) (hc : X.calm = true := by rfl) (hs : ∀ x, foldedSetIterable iter X.env x = pure x := by intro _; rfl) (hs1 : ∀ env x, foldedSetIterable iter1 env x = pure x := by intro _ _; rfl)
    (hy : X.N[i]? = some y := by rfl) (hyl : X.env.scope.names.lookup y = some .local := by rfl) (hk : X.env.scope.kind = .function := by rfl) (hl : (py.line == pos.line) = true := by rfl)
    (ha : (scope.names.any fun (n, k) => n == y && (k == .local || k == .cell)) = false := by decide +kernel) :
    ES X W (.Assign [.Name y py] (.ListComp elt [⟨tg, iter, ifs, 0⟩, ⟨tg1, iter1, ifs1, 0⟩] scope pos) spos) (tAsg (tLc2 wi g tt wi1 g1 tt1 te (own.map (·.2)) is1) (gName i)) (gAsg i (fLc2 (own.map (·.2)) is1 fi (tName i0) fc fi1 ft1 fc1 fe)) :=
  es_asgP (ps_setLc2 hc hN hy hyl (sw_true hk hyl hl ha) hi.pi ok hv (fun s H C cl fp => (hg s H C cl fp).pg) (fun s H C cl fp => (ht s H C cl fp).pts) (fun s H C cl fp => (hi1 s H C cl fp).pi) (fun s H C cl fp => (hg1 s H C cl fp).pg) (fun s H C cl fp => (ht1 s H C cl fp).pts) (fun s H C cl fp => (he s H C cl fp).pe) hs hs1)
    (ee_lc2 (pos := pos) hN hi ok hg ht hi1 hg1 ht1 he hsub hv hc hs hs1)
end
end DN
/-! Den24: dicts with tuple keys that stay: let go, walked, read. -/
namespace DN
open PySem PySem.Spec PyProof.Rows L2
/-- a dict of ours is let go -/
def R.fz : R → Rs R
  | .dct kvs => .ok (.dfz kvs)
  | _ => .bad
@[simp] theorem fz_dct (kvs : List (List Key × PyData)) : (R.dct kvs).fz = .ok (.dfz kvs) := rfl
@[simp] def fFz (f : Ev → Rs R) : Ev → Rs R := fun ρ => (f ρ).bind R.fz
def tLockV (t : TE) : TE := fun σ H Q => t σ H fun v H1 => ∃ p u, v = .ref p ∧ H1 p = some u ∧ Mut (some u) ∧ ∀ od, Q v (upd H1 p (.frz od u))
section
variable {X : Cx} {W : WX}
theorem pe_lockV {e : Expr} {t : TE} (h : PE X e t) : PE X e (tLockV t) := by
  refine ⟨fun pins s σ H Q I hw => ?_⟩
  refine thn (h.run pins s σ H _ I hw) fun u s1 ⟨x, H1, I1, r, p, ho, e, hp, mu, q⟩ => ?_
  obtain ⟨od, I2⟩ := I1.lock hp mu
  exact ⟨x, _, I2, r, q od⟩
theorem ek_fz {e : Expr} {t : TE} {f : Ev → Rs R} (h : EE X W e t f) : EE X W e (tLockV t) (fFz f) where
  pe := pe_lockV h.pe
  sound := fun {G H0 ρ σ F H} rel Q P => by
    unfold fFz at P
    cases hf : f ρ with
    | err c => rw [hf] at P; exact h.sound rel _ (by rw [hf]; exact P)
    | bad => rw [hf] at P; exact P.elim
    | ok r =>
      rw [hf] at P
      cases r with
      | dct kvs =>
        have P : Post X.K X.mg W σ F H Q (.ok (.dfz kvs)) := P
        refine h.sound rel _ ?_
        rw [hf]
        intro v F1 H1 e1 q1
        obtain ⟨⟨p, ws, rfl, hp, hF, kd⟩, fr⟩ := q1
        have np : H p = none := fr rfl p rfl
        refine ⟨p, _, rfl, hp, trivial, fun od => P _ (upd F1 p (.frz od (.dT ws))) _ ⟨e1.old, e1.ff.trans (same_new hF), fun b x e => by rw [upd_ne (ne_of_none e np)]; exact e1.hh _ _ e, same_upd2 e1.sub, fun a q => ?_⟩ ⟨⟨p, od, ws, rfl, upd_same, KD.mono (same_new hF) kd⟩, fun e => nomatch e⟩⟩
        by_cases z : a = p
        · subst z; exact .inr (.none np)
        · rw [upd_ne z] at q; exact e1.new a q
      | _ => exact P.elim
/-! ### a dict in a slot is let go -/
@[simp] def frzD (i : Nat) (ρ : Ev) : Ev := match ρ[i]? with
  | some (some (.dct kvs)) => ρ.set i (some (.dfz kvs))
  | _ => ρ
def tLockI (i : Nat) (t : TS) : TS := fun D σ H => t D σ H ∨ ∃ p u, σ[i]? = some (some (.ref p)) ∧ H p = some u ∧ Mut (some u) ∧ ∀ od, t D σ (upd H p (.frz od u))
theorem ps_lockI {st : Stmt} {t : TS} (i : Nat) (h : PS X st t) : PS X st (tLockI i t) := by
  refine ⟨fun pins s σ H D I hw => ?_⟩
  rcases hw with hw | ⟨p, u, hi, hp, mu, hw⟩
  · exact h.run pins s σ H D I hw
  · obtain ⟨od, I1⟩ := I.lock hp mu
    exact h.run pins s σ _ D I1 (hw od)
theorem Rel.lock {K : PySem.W.Frag} {G H0 F H : Hp} {ρ : Ev} {σ : L2.St} {i : Nat} {kvs : List (List Key × PyData)} {p : Addr} {ws : List (List Key × V)} (rel : Rel K G H0 ρ σ F H) (h : ρ[i]? = some (some (.dct kvs))) (hv : σ[i]? = some (some (.ref p))) (hp : H p = some (.dT ws)) (hF : F p = none) (r : KD F ws kvs) (od : Obj) :
    Rel K G H0 (ρ.set i (some (.dfz kvs))) σ (upd F p (.frz od (.dT ws))) (upd H p (.frz od (.dT ws))) := by
  have np : H0 p = none := rel.frs i _ p h rfl hv
  have hl : i < ρ.length := by
    rcases Nat.lt_or_ge i ρ.length with z | z
    · exact z
    · rw [List.getElem?_eq_none z] at h; cases h
  have sm : Same F (upd F p (.frz od (.dT ws))) := same_new hF
  have key : ∀ {j : Nat} {y : R}, (ρ.set i (some (.dfz kvs)))[j]? = some (some y) → y.isOwn = true → i ≠ j ∧ ρ[j]? = some (some y) := fun {j y} e o => by
    by_cases z : i = j
    · subst z
      rw [List.getElem?_set_self hl] at e
      cases e; cases o
    · rw [List.getElem?_set_ne z] at e
      exact ⟨z, e⟩
  refine ⟨⟨rel.base.keep.trans sm, fun b o q => ?_, same_upd2 rel.base.sub, fun a q => ?_⟩, by simp [rel.len], fun j y e => ?_, fun j y q e o s => rel.frs j y q (key e o).2 o s, fun j k y z q e1 o1 e2 o2 s1 s2 => rel.apart j k y z q (key e1 o1).2 o1 (key e2 o2).2 o2 s1 s2⟩
  · rw [upd_ne (ne_of_none q np)]; exact rel.base.hh _ _ q
  · by_cases z : a = p
    · subst z; exact .inr (.none np)
    · rw [upd_ne z] at q; exact rel.base.new a q
  · by_cases z : i = j
    · subst z
      rw [List.getElem?_set_self hl] at e
      cases e
      exact ⟨_, hv, p, od, ws, rfl, upd_same, KD.mono sm r⟩
    · rw [List.getElem?_set_ne z] at e
      obtain ⟨w, a, b⟩ := rel.at_ j y e
      refine ⟨w, a, ?_⟩
      have other : ∀ q, w = .ref q → y.isOwn = true → q ≠ p := fun q eq o z2 => by
        subst z2
        exact z (rel.apart i j _ y q h rfl e o hv (by rw [a, eq]))
      cases y with
      | val d => exact DD.mono sm _ _ b
      | scr ns => obtain ⟨c, rfl, q⟩ := b; exact ⟨c, rfl, same_l sm q⟩
      | raw u => exact b
      | dfz _ => obtain ⟨q, o, us, rfl, b1, b2⟩ := b; exact ⟨q, o, us, rfl, sm _ _ b1, KD.mono sm b2⟩
      | own _ => obtain ⟨q, us, rfl, b1, b2, b3⟩ := b; exact ⟨q, us, rfl, by rw [upd_ne (other q rfl rfl)]; exact b1, by rw [upd_ne (other q rfl rfl)]; exact b2, DDs.mono sm _ _ b3⟩
      | dct _ => obtain ⟨q, us, rfl, b1, b2, b3⟩ := b; exact ⟨q, us, rfl, by rw [upd_ne (other q rfl rfl)]; exact b1, by rw [upd_ne (other q rfl rfl)]; exact b2, KD.mono sm b3⟩
      | dck _ => obtain ⟨q, us, rfl, b1, b2, b3⟩ := b; exact ⟨q, us, rfl, by rw [upd_ne (other q rfl rfl)]; exact b1, by rw [upd_ne (other q rfl rfl)]; exact b2, KD.mono sm b3⟩
theorem es_frzD {st : Stmt} {t : TS} {g : Ev → RO} (i : Nat) (a : ES X W st t g) : ES X W st (tLockI i t) (fun ρ => g (frzD i ρ)) where
  ps := ps_lockI i a.ps
  sound := fun {G H0 ρ σ F H} rel D P => by
    unfold frzD at P
    split at P
    · rename_i kvs h
      obtain ⟨v, hv, p, ws, rfl, hp, hF, r⟩ := rel.at_ i _ h
      exact .inr ⟨p, _, hv, hp, trivial, fun od => a.sound (rel.lock h hv hp hF r od) D P⟩
    · exact .inl (a.sound rel D P)
/-! ### for k in d -/
theorem keyDDs {F : Hp} : ∀ ks : List Key, DDs F (ks.map kV) (ks.map keyD)
  | [] => .nil
  | .inl i :: ks => .cons (.int i) (keyDDs ks)
  | .inr x :: ks => .cons (.str x) (keyDDs ks)
theorem walk_kt {F : Hp} {d : Addr} {o : Obj} {ws : List (List Key × V)} (h : F d = some (.frz o (.dT ws))) : WalkD (Itkt d o ws) F (ws.map fun kv => kTup kv.1) where
  goes := fun i H hi s => ⟨s _ _ h, by simpa using hi⟩
  stops := fun H s => ⟨s _ _ h, by simp⟩
  yields := fun i H x H' d' F1 hd sF sH y => by
    obtain ⟨rfl, k, v, q, hk, rfl, hq⟩ := y
    rw [List.getElem?_map, hk] at hd
    cases hd
    exact ⟨_, addTups_ext sH [q], .tup (addTups_at sH List.mem_cons_self hq) (keyDDs k)⟩
@[simp] def fKeysF (f : Ev → Rs R) : Ev → Rs (List PyData) := fun ρ => (f ρ).bind fun r => match r with
  | .dfz kvs => .ok (kvs.map fun kv => kTup kv.1)
  | _ => .bad
theorem ei_keysF {tg e : Expr} {te : TE} {f : Ev → Rs R} (h : EE X W e te f) : EI X W tg e (iKeys te) (fKeysF f) where
  pi := pi_keys h.pe
  sound := fun {G H0 ρ σ F H} rel R' P => by
    unfold fKeysF at P
    cases hf : f ρ with
    | err c => rw [hf] at P; exact h.sound rel _ (by rw [hf]; exact P)
    | bad => rw [hf] at P; exact P.elim
    | ok r =>
      rw [hf] at P
      cases r with
      | dfz kvs =>
        have P : PostI X.mg W σ F H R' (.ok (kvs.map fun kv => kTup kv.1)) := P
        refine h.sound rel _ ?_
        rw [hf]
        intro v F1 H1 e1 q1
        obtain ⟨⟨p, o, ws, rfl, hp, kd⟩, _⟩ := q1
        have ek : (ws.map fun kv => kTup kv.1) = kvs.map fun kv => kTup kv.1 := by
          have := congrArg (List.map kTup) (KD.keys kd)
          rw [List.map_map, List.map_map] at this
          exact this
        refine ⟨p, o, rfl, .inr ⟨ws, e1.sub _ _ hp, P _ F1 H1 e1 ?_⟩⟩
        rw [← ek]
        exact walk_kt hp
      | _ => exact P.elim
/-! ### d[k] -/
@[simp] def fDgetF (i : Nat) (fa : Ev → Rs R) : Ev → Rs R := fun ρ => match ρ[i]? with
  | some (some (.dfz kvs)) => (fa ρ).bind fun r => r.d.bind fun x => match asTup x with
    | some k => match valP kvs k with
      | some d => .ok (.val d)
      | none => .bad
    | none => .bad
  | _ => .bad
theorem ee_dgetF (i : Nat) {x : Str} {p2 pos : Pos} {a : Expr} {ta : TE} {fa : Ev → Rs R} (hu : X.A.units + 1 < cLine) (ha : EE X W a ta fa)
    (hN : X.N[i]? = some x := by rfl) (hv : Vis X.env.scope x := by first | exact Or.inl rfl | exact Or.inr (Or.inl rfl) | exact Or.inr (Or.inr rfl)) (hd : (x == ("__debug__" : Str)) = false := by decide) (hcd : (x == ("__classdict__" : Str)) = false := by decide)
    (hs : NoSl a := by exact fun _ _ => rfl) : EE X W (.Subscript (.Name x p2) a pos) (tDGet (tVar i) ta) (fDgetF i fa) where
  pe := pe_dget hu (pe_var hN hv hd hcd) ha.pe hs
  sound := fun {G H0 ρ σ F H} rel Q P => by
    unfold fDgetF at P
    split at P
    · rename_i kvs h
      obtain ⟨w, hw, p, o, ws, rfl, q1, q3⟩ := rel.at_ i _ h
      refine ⟨_, hw, ha.sound rel _ (post_data P fun d v F1 H1 e1 r1 P1 => ?_)⟩
      split at P1
      · rename_i k hk
        obtain ⟨b, rfl, hb⟩ := asTup_ok r1 hk
        have q3' := KD.mono e1.ff q3
        rcases KD.val (k := k) q3' with ⟨_, h2⟩ | ⟨u, y, h1, h2, h3⟩
        · rw [h2] at P1; exact P1.elim
        · rw [h2] at P1
          refine ⟨p, u, rfl, ?_, post_flat e1.sub h3 P1⟩
          rw [← h1]
          exact .inr ⟨ws, k, b, .inr ⟨o, e1.hh _ _ (rel.sub _ _ q1)⟩, rfl, e1.sub _ _ hb, rfl⟩
      · exact P1.elim
    · exact P.elim
end
end DN
/-! Den25: data compared: x < y, min(l), min(x, y). -/
namespace PySem
section
variable {s : Shared} {E : Value → Shared → Prop} {A : Around} {w : World} {prog : Program}
/-- min(a, b), the two compared where H stands -/
theorem min_twoH {x y : Value} {R : Value → Shared → Prop}
    (h : wpAny (model prog w) A.in1 (pyIter (.ref s.heap.objs.size)) (fun it s₂ => ∃ I fp wr G n P St H bt, it = .ref I ∧ WalksS prog w A.in1 I fp wr G n P St ∧ St 0 s₂ ∧ (∀ b ∈ fp, b < s₂.heap.objs.size) ∧ 0 < n ∧
        (∀ b o, H.get? b = some o → b ∉ wr) ∧ (∀ b o, H.get? b = some o → s₂.heap.get? b = some o) ∧ CmpIn prog w A.in1 .Lt H P bt ∧ ∀ v s', P (argBest bt (n - 1)) v → Moved wr G s₂ s' → R v s') E
        { s with heap := s.heap.push { cls := .type "tuple", data := .seq #[x, y] } }) : wpAny (model prog w) A (call (.builtin "min") [x, y]) R E s := by
  have nm : (toString "min" ++ toString ".loop" : String) = "min.loop" := by decide
  refine call_function_tree F.kind_min F.plain_min F.entry_min (F.args_min2 x y) (wpAny_bind (wpAny_of_eq (show Builtin.Builtins.bindParams "min" ["key", "default"] 0 ⟨[], []⟩ = pure [none, none] from rfl) ?_))
  refine (show wpAny _ A.in1 (newTuple [x, y] >>= _) _ _ s from wpAny_bind (wpAny_newObj_type (wpAny_bind (wpAny_mono h (fun it s₂ z => ?_) fun _ _ e => e))))
  obtain ⟨I, fp, wr, G, n, P, St, H, bt, rfl, W, st0, low, pos, out, keep, cmp, fin⟩ := z
  have fresh : s₂.heap.objs.size ∉ fp := fun hm => Nat.lt_irrefl _ (low _ hm)
  refine wpAny_bind (wpAny_newObj_type (by rw [nm]; exact wpAny_pure ⟨plainId_quiet F.plain_min_loop _, codeAny_min_loop_firstH W H out bt cmp s₂.heap.objs.size fresh (fresh_in keep) _ pos (fun b o e => Heap.get?_push_of_some _ (keep b o e)) (W.frame 0 s₂ _ s₂.toks st0 (Nat.le_refl _) fun b _ o e => Heap.get?_push_of_some _ e) (Heap.get?_push_size _ rfl) fun v s' hP hm => fin v s' hP (Moved.drop_new (tk := s₂.toks) hm (Nat.le_refl _))⟩))
end
end PySem
namespace DN
open PySem PySem.Spec PyProof.Rows L2
/-- data that can be compared with one another -/
def minOk (ds : List PyData) : Bool := (ds.all fun d => ds.all fun e => PySem.W.alike d e) && ds.all (fun d => match d with | .none => false | _ => true) && ds.all fun d => decide (d.depth ≤ 16)
theorem minOk_ok {ds : List PyData} (h : minOk ds = true) : PySem.W.AlikeAll ds ∧ PyData.depthAll ds ≤ 16 := by
  unfold minOk at h
  simp only [Bool.and_eq_true, List.all_eq_true, decide_eq_true_eq] at h
  refine ⟨⟨h.1.1, fun x hx e => ?_⟩, ?_⟩
  · have := h.1.2 x hx
    rw [e] at this
    cases this
  · have key : ∀ ds : List PyData, (∀ d ∈ ds, d.depth ≤ 16) → PyData.depthAll ds ≤ 16 := by
      intro ds
      induction ds with
      | nil => intro _; simp [PyData.depthAll]
      | cons d ds ih =>
        intro hd
        simp only [PyData.depthAll]
        have := hd d List.mem_cons_self
        have := ih fun x hx => hd x (List.mem_cons_of_mem _ hx)
        omega
    exact key ds h.2
theorem minD_mem : ∀ (xs : List PyData) (x : PyData), PySem.W.minD x xs ∈ x :: xs
  | [], x => List.mem_cons_self
  | y :: ys, x => by
    show PySem.W.minD (if PySem.W.dataLt y x then y else x) ys ∈ _
    have := minD_mem ys (if PySem.W.dataLt y x then y else x)
    rcases List.mem_cons.mp this with z | z
    · rw [z]
      split
      · exact List.mem_cons_of_mem _ List.mem_cons_self
      · exact List.mem_cons_self
    · exact List.mem_cons_of_mem _ (List.mem_cons_of_mem _ z)
theorem each_at {α β : Type} {P : α → β → Prop} : ∀ {us : List α} {bs : List β} {i : Nat} {u : α}, PySem.W.EachIs P us bs → us[i]? = some u → ∃ b ∈ bs, P u b
  | _, _, i, u, .nil, h => by simp at h
  | _, _, 0, u, .cons r t, h => by
    simp at h
    subst h
    exact ⟨_, List.mem_cons_self, r⟩
  | _, _, i + 1, u, .cons r t, h => by
    obtain ⟨b, hb, p⟩ := each_at (i := i) t (by simpa using h)
    exact ⟨b, List.mem_cons_of_mem _ hb, p⟩
theorem dpAll_of {K : PySem.W.Frag} {H : Hp} : ∀ {bs : List (V × PyData)}, (∀ b ∈ bs, Dp K H b.1 b.2) → DpAll K H (bs.map (·.1)) (bs.map (·.2))
  | [], _ => .nil
  | b :: bs, h => .cons (h b List.mem_cons_self) (dpAll_of fun x hx => h x (List.mem_cons_of_mem _ hx))
def rMinD (K : PySem.W.Frag) : List V → Hp → VK → Prop := fun vs H Q => ∃ (a : Addr) (x : V × PyData) (bs : List (V × PyData)), vs = [V.ref a] ∧ SqL K H a ((x :: bs).map (·.1)) ∧ (∀ b ∈ x :: bs, Dp K H b.1 b.2) ∧
  PySem.W.AlikeAll ((x :: bs).map (·.2)) ∧ PyData.depthAll ((x :: bs).map (·.2)) ≤ 16 ∧ ∀ b ∈ x :: bs, b.2 = PySem.W.minD x.2 (bs.map (·.2)) → Q b.1 H
def rMin2D (K : PySem.W.Frag) : List V → Hp → VK → Prop := fun vs H Q => ∃ x y : V × PyData, vs = [x.1, y.1] ∧ (∀ b ∈ [x, y], Dp K H b.1 b.2) ∧
  PySem.W.AlikeAll [x.2, y.2] ∧ PyData.depthAll [x.2, y.2] ≤ 16 ∧ ∀ b ∈ [x, y], b.2 = PySem.W.minD x.2 [y.2] → Q b.1 H
def rLtD (K : PySem.W.Frag) : R2 := fun x y H Q => ∃ d e, Dp K H x d ∧ Dp K H y e ∧ PySem.W.AlikeAll [d, e] ∧ PyData.depthAll [d, e] ≤ 16 ∧ Q (.bl (PySem.W.dataLt d e)) H
section
variable {X : Cx}
theorem cr_minD (hc : X.calm = true) (hu : X.A.units + 64 < cLine) : CallR X (.builtin "min") (rMinD X.K) := by
  intro pins s σ H vs us Q I r h
  obtain ⟨a, x, bs, rfl, hs, hdp, hal, hde, q⟩ := h
  obtain ⟨its, rv, hl, _⟩ := I.list hs
  rw [Vals.ref1 r]
  have e := each_vals rv
  obtain ⟨as, ra⟩ := Dp.readsAll I _ _ _ (dpAll_of hdp) rv
  have hal' : PySem.W.AlikeAll (x.2 :: bs.map (fun b => b.2)) := hal
  refine PySem.W.min_list_data (I.ok.hd hc) hl.isList (x := x.2) (xs := bs.map (fun b => b.2)) (as := as) (by simpa using ra) hal' (by show X.A.units + 1 + PyData.depthAll ((x :: bs).map (·.2)) < cLine; omega) fun i v h' tk cs hv hr hk => ?_
  obtain ⟨b, hb, rb⟩ := each_at e (by simpa using hv)
  obtain ⟨as2, r2⟩ := Dp.reads I _ _ _ (hdp b hb) rb
  have hm := minD_mem (bs.map (·.2)) x.2
  have eq := PySem.W.alike_unique b.2 _ v _ _ (hal.1 _ (List.mem_map.mpr ⟨b, hb, rfl⟩) _ hm) (PySem.W.reads_keeps hk r2) hr
  exact ⟨b.1, H, I.kept hk, rb, q b hb eq⟩
theorem cr_min2D (hc : X.calm = true) (hu : X.A.units + 64 < cLine) : CallR X (.builtin "min") (rMin2D X.K) := by
  intro pins s σ H vs us Q I r h
  obtain ⟨x, y, rfl, hdp, hal, hde, q⟩ := h
  obtain ⟨u, v, rfl, ru, rv⟩ := vals2 r
  obtain ⟨as1, r1⟩ := Dp.reads I _ _ _ (hdp x List.mem_cons_self) ru
  obtain ⟨as2, r2⟩ := Dp.reads I _ _ _ (hdp y (List.mem_cons_of_mem _ List.mem_cons_self)) rv
  have push : ∀ b o, s.heap.get? b = some o → (s.heap.push { cls := .type "tuple", data := .seq #[u, v] }).get? b = some o := fun b o e => Heap.get?_push_of_some _ e
  have hT : (s.heap.push { cls := .type "tuple", data := .seq #[u, v] }).IsTuple s.heap.objs.size #[u, v] := ⟨_, Heap.get?_push_size _ rfl, rfl, 0, rfl⟩
  have hr : ReadsAll (s.heap.push { cls := .type "tuple", data := .seq #[u, v] }) (#[u, v] : Array Value).toList [x.2, y.2] _ := .cons (PySem.W.reads_keeps push r1) (.cons (PySem.W.reads_keeps push r2) .nil)
  refine min_twoH (PySem.W.iter_tupleW (A := X.A.in1) (s := { s with heap := s.heap.push { cls := .type "tuple", data := .seq #[u, v] } }) (I.ok.hd hc) hT fun s₂ e W st hfp hw hk => ?_)
  refine ⟨_, _, _, _, _, _, _, s.heap.push { cls := .type "tuple", data := .seq #[u, v] }, _, rfl, W, st, hfp, Nat.zero_lt_succ _, hw, hk, PySem.W.cmpIn_lt (s := { s with heap := s.heap.push { cls := .type "tuple", data := .seq #[u, v] } }) (A := X.A.in1) hr hal (by show X.A.units + 1 + _ < _; omega), fun z s' hP m => ?_⟩
  obtain ⟨h', tk, rfl, hk'⟩ := PySem.W.moved_old (s := { s with heap := s.heap.push { cls := .type "tuple", data := .seq #[u, v] } }) e rfl m
  obtain ⟨cs, rz, _, _, _⟩ := PySem.W.readsAll_atA hr _ z hP
  have e2 := (PySem.W.argBest_fold PySem.W.dataLt PyData.none x.2 [y.2] 1 (Nat.le_refl _)).2
  have rz' : Reads h' z (PySem.W.minD x.2 [y.2]) cs := PySem.W.reads_keeps hk' (by unfold PySem.W.minD; rw [show ([y.2] : List PyData) = [y.2].take 1 from rfl, ← e2]; exact rz)
  have hm := minD_mem [y.2] x.2
  have kept : ∀ b o, s.heap.get? b = some o → h'.get? b = some o := fun b o e => hk' b o (push b o e)
  have cases_z : z = u ∨ z = v := by
    have : z ∈ ([u, v] : List Value) := by
      have := List.mem_of_getElem? (show ([u, v] : List Value)[_]? = some z by simpa using hP)
      exact this
    simpa using this
  rcases cases_z with rfl | rfl
  · have eq := PySem.W.alike_unique x.2 _ z _ _ (hal.1 _ List.mem_cons_self _ hm) (PySem.W.reads_keeps kept r1) rz'
    exact ⟨x.1, H, I.kept kept, ru, q x List.mem_cons_self eq⟩
  · have eq := PySem.W.alike_unique y.2 _ z _ _ (hal.1 _ (List.mem_cons_of_mem _ List.mem_cons_self) _ hm) (PySem.W.reads_keeps kept r2) rz'
    exact ⟨y.1, H, I.kept kept, rv, q y (List.mem_cons_of_mem _ List.mem_cons_self) eq⟩
theorem op_ltD (hu : X.A.units + 64 < cLine) : OpR X (compareOp .Lt) (rLtD X.K) := by
  intro pins s σ H x y v u Q I rx ry h
  obtain ⟨d, e, hd, he, hal, hde, q⟩ := h
  obtain ⟨as, r1⟩ := Dp.reads I d x v hd rx
  obtain ⟨bs, r2⟩ := Dp.reads I e y u he ry
  have hm := Nat.min_le_left d.depth e.depth
  have h1 : d.depth ≤ PyData.depthAll [d, e] := by simp only [PyData.depthAll]; omega
  exact PySem.W.rcLt_alike d e X.A s v u _ _ r1 r2 (hal.1 _ List.mem_cons_self _ (List.mem_cons_of_mem _ List.mem_cons_self)) (hal.2 _ List.mem_cons_self) (by omega) X.prog X.w _ _ ⟨.bl _, H, I, rfl, q⟩
end
/-! ### denotations -/
def biMinD : List PyData → Rs R
  | [.list (d :: ds)] => if minOk (d :: ds) = true then .ok (.val (PySem.W.minD d ds)) else .bad
  | _ => .bad
def biMin2D : List PyData → Rs R
  | [x, y] => if minOk [x, y] = true then .ok (.val (PySem.W.minD x [y])) else .bad
  | _ => .bad
def opLtD (d e : PyData) : Rs R := if minOk [d, e] = true then .ok (.val (.bool (PySem.W.dataLt d e))) else .bad
section
variable {X : Cx} {W : WX} {a b e : Expr} {ta tb : TE} {fa fb : Ev → Rs R} {es : List Expr} {t : TA} {fr : Ev → Rs (List PyData)} {p pos : Pos} (K : PySem.W.Frag)
theorem ek_minD (hu : X.A.units + 64 < cLine) (hm : X.mg "min" = none) (ha : ED X W (e :: es) t fr) (hg : Gl X "min" := by rfl) (hc : X.calm = true := by rfl)
    (he : starEach (e :: es) X.env = (false, eval e X.env) :: starEach es X.env := by rfl) (hpl : (backTo pos (starEach es X.env)).any (·.1) = false := by rfl) (hK : X.K = K := by rfl) :
    EE X W (.Call (.Name "min" p) (e :: es) [] pos) (tCB (rMinD K) t) (fBi biMinD fr) := by
  subst hK
  refine ee_callB (cr_minD hc hu) (fun {σ F H Q vs ds} s r P => ?_) hm (by decide +kernel) ha hg (by decide) (by decide) he hpl
  match ds, r with
  | [], .nil => exact P.elim
  | [_], .cons h .nil =>
    unfold biMinD at P
    cases h with
    | @lst p xs ds h r =>
      cases r with
      | nil => exact P.elim
      | @cons v vs d ds hv r =>
        dsimp only at P
        split at P
        · rename_i hk
          obtain ⟨a1, a2⟩ := minOk_ok hk
          obtain ⟨z1, z2, z3⟩ := r.zip
          refine ⟨p, (v, d), vs.zip ds, rfl, by rw [List.map_cons, z1]; exact SqL.of (s _ _ h), fun b hb => ?_, by rw [List.map_cons, z2]; exact a1, by rw [List.map_cons, z2]; exact a2, fun b hb eq => ?_⟩
          · rcases List.mem_cons.mp hb with rfl | hb
            · exact DD.dp s _ _ hv
            · exact DD.dp s _ _ (z3 b hb)
          · rw [z2] at eq
            rw [← eq] at P
            rcases List.mem_cons.mp hb with rfl | hb
            · exact post_flat s hv P
            · exact post_flat s (z3 b hb) P
        · exact P.elim
    | _ => exact P.elim
  | x :: y :: zs, .cons h (.cons _ _) =>
    have : biMinD (x :: y :: zs) = .bad := by unfold biMinD; split <;> simp_all
    rw [this] at P
    exact P.elim
theorem ek_min2D (hu : X.A.units + 64 < cLine) (hm : X.mg "min" = none) (ha : ED X W (e :: es) t fr) (hg : Gl X "min" := by rfl) (hc : X.calm = true := by rfl)
    (he : starEach (e :: es) X.env = (false, eval e X.env) :: starEach es X.env := by rfl) (hpl : (backTo pos (starEach es X.env)).any (·.1) = false := by rfl) (hK : X.K = K := by rfl) :
    EE X W (.Call (.Name "min" p) (e :: es) [] pos) (tCB (rMin2D K) t) (fBi biMin2D fr) := by
  subst hK
  refine ee_callB (cr_min2D hc hu) (fun {σ F H Q vs ds} s r P => ?_) hm (by decide +kernel) ha hg (by decide) (by decide) he hpl
  match ds, r with
  | [], .nil => exact P.elim
  | [_], .cons h .nil => exact P.elim
  | [x, y], .cons (v := v) hx (.cons (v := u) hy .nil) =>
    have P : Post X.K X.mg W σ F H Q (if minOk [x, y] = true then .ok (.val (PySem.W.minD x [y])) else .bad) := P
    split at P
    · rename_i hk
      obtain ⟨a1, a2⟩ := minOk_ok hk
      refine ⟨(v, x), (u, y), rfl, fun b hb => ?_, a1, a2, fun b hb eq => ?_⟩
      · rcases List.mem_cons.mp hb with rfl | hb
        · exact DD.dp s _ _ hx
        · rw [List.mem_singleton.mp hb]; exact DD.dp s _ _ hy
      · have eq : b.2 = PySem.W.minD x [y] := eq
        rw [← eq] at P
        rcases List.mem_cons.mp hb with rfl | hb
        · exact post_flat s hx P
        · have := List.mem_singleton.mp hb
          subst this
          exact post_flat s hy P
    · exact P.elim
  | _ :: _ :: _ :: _, .cons h (.cons _ (.cons _ _)) => exact P.elim
theorem od_ltD : OpD X.K X.mg W (rLtD X.K) opLtD := fun {σ F H Q v u x y} s hx hy P => by
  unfold opLtD at P
  split at P
  · rename_i hk
    obtain ⟨a1, a2⟩ := minOk_ok hk
    exact ⟨_, _, DD.dp s _ _ hx, DD.dp s _ _ hy, a1, a2, post_flat s (.bl _) P⟩
  · exact P.elim
theorem ek_ltD (hu : X.A.units + 64 < cLine) (ha : EE X W a ta fa) (hb : EE X W b tb fb) (hK : X.K = K := by rfl) : EE X W (.Compare a [.Lt] [b] pos) (tOp (rLtD K) ta tb) (fOp opLtD fa fb) := by
  subst hK; exact ee_cmp (op_ltD hu) od_ltD ha hb (nomark _)
theorem tk_ltD (hu : X.A.units + 64 < cLine) (ha : EE X W a ta fa) (hb : EE X W b tb fb) (hK : X.K = K := by rfl) : ET X W (.Compare a [.Lt] [b] pos) (tTest (tOp (rLtD K) ta tb)) (fTest (fOp opLtD fa fb)) := by
  subst hK; exact et_cmp (op_ltD hu) od_ltD ha hb (nomark _)
end
end DN
/-! Den26: texts: split, partition, join, endswith, str(int), int(text), text * int. -/
namespace DN
open PySem PySem.Spec PyProof.Rows L2
/-! ### methods of a text with one argument -/
@[simp] def fM1 (op : Str → PyData → Rs R) (fa fb : Ev → Rs R) : Ev → Rs R := fun ρ => (fa ρ).bind fun a => a.d.bind fun x => match x with
  | .str z => (fb ρ).bind fun b => b.d.bind fun y => op z y
  | _ => .bad
def opSplit (a : Str) : PyData → Rs R
  | .str b => if b.length ≠ 0 ∧ a.length ≤ 10000 then .ok (.own ((Txt.split a b).map .str)) else .bad
  | _ => .bad
def opPartition (a : Str) : PyData → Rs R
  | .str b => if b.length ≠ 0 ∧ a.length ≤ 10000 then .ok (.val (.tuple [.str (Txt.partition a b).1, .str (Txt.partition a b).2.1, .str (Txt.partition a b).2.2])) else .bad
  | _ => .bad
def opEndswith (a : Str) : PyData → Rs R
  | .str b => .ok (.val (.bool (Txt.endswith a b)))
  | _ => .bad
def asSs : List PyData → Option (List Str)
  | [] => some []
  | .str z :: ds => (asSs ds).map (z :: ·)
  | _ :: _ => none
theorem asSs_some : ∀ {ds : List PyData} {ys : List Str}, asSs ds = some ys → ds = ys.map .str
  | [], ys, h => by cases h; rfl
  | .str z :: ds, ys, h => by
    simp only [asSs, Option.map_eq_some_iff] at h
    obtain ⟨zs, h1, rfl⟩ := h
    rw [asSs_some h1]; rfl
  | .none :: _, _, h => by cases h
  | .bool _ :: _, _, h => by cases h
  | .int _ :: _, _, h => by cases h
  | .list _ :: _, _, h => by cases h
  | .tuple _ :: _, _, h => by cases h
  | .dict _ :: _, _, h => by cases h
@[simp] theorem asSs_map : ∀ ys : List Str, asSs (ys.map .str) = some ys
  | [] => rfl
  | y :: ys => by simp [asSs, asSs_map ys]
def opJoin (a : Str) : PyData → Rs R
  | .list ds => match asSs ds with
    | some ys => if (ys.map (·.length)).sum + ys.length * a.length ≤ 16777216 then .ok (.val (.str (Txt.join a ys))) else .bad
    | none => .bad
  | _ => .bad
theorem DDs.strs {F : Hp} : ∀ {ys : List Str} {vs : List V}, DDs F vs (ys.map .str) → vs = ys.map V.str
  | [], _, .nil => rfl
  | y :: ys, _, .cons h r => by cases h; rw [DDs.strs r]; rfl
theorem DDs.texts {F : Hp} : ∀ ys : List Str, DDs F (ys.map V.str) (ys.map .str)
  | [] => .nil
  | y :: ys => .cons (.str y) (DDs.texts ys)
def MtD (K : PySem.W.Frag) (mg : Str → Option Value) (W : WX) (r : V → List V → Hp → VK → Prop) (op : Str → PyData → Rs R) : Prop :=
  ∀ {σ : L2.St} {F H : Hp} {Q : VK} {z : Str} {u : V} {y : PyData}, Same F H → DD F u y → Post K mg W σ F H Q (op z y) → r (.str z) [u] H Q
section
variable {X : Cx} {W : WX} {a b c e : Expr} {es : List Expr} {ta tb te : TE} {fa fb f : Ev → Rs R} {pos apos p : Pos}
theorem m1_sound {r : V → List V → Hp → VK → Prop} {op : Str → PyData → Rs R} (hd : MtD X.K X.mg W r op) (ha : EE X W a ta fa) (hb : EE X W b tb fb) {G H0 : Hp} {ρ : Ev} {σ : L2.St} {F H : Hp} (rel : Rel X.K G H0 ρ σ F H) (Q : VK)
    (P : Post X.K X.mg W σ F H Q (fM1 op fa fb ρ)) : tM1 r ta tb σ H Q := by
  refine ha.sound rel _ (post_data P fun d v F1 H1 e1 r1 P1 => ?_)
  cases r1 with
  | str z => exact ⟨⟨z, rfl⟩, hb.sound (rel.step e1) _ (post_data P1 fun d2 v2 F2 H2 e2 r2 P2 => hd e2.sub r2 P2)⟩
  | _ => exact P1.elim
def rSplit : V → List V → Hp → VK → Prop := fun x xs H Q => ∃ a b, x = .str a ∧ xs = [.str b] ∧ (b.length == 0) = false ∧ a.length + 2 ≤ sizeLine ∧ rNewStrs (Txt.split a b) H Q
def rPartition : V → List V → Hp → VK → Prop := fun x xs H Q => ∃ a b, x = .str a ∧ xs = [.str b] ∧ (b.length == 0) = false ∧ a.length ≤ sizeLine ∧
  ∀ l, H l = none → Q (.ref l) (upd H l (.tup [.str (Txt.partition a b).1, .str (Txt.partition a b).2.1, .str (Txt.partition a b).2.2]))
def rEndswith : V → List V → Hp → VK → Prop := fun x xs H Q => ∃ a b, x = .str a ∧ xs = [.str b] ∧ Q (.bl (Txt.endswith a b)) H
def rJoin (K : PySem.W.Frag) : V → List V → Hp → VK → Prop := fun x xs H Q => ∃ a l, ∃ ys : List Str, x = .str a ∧ xs = [.ref l] ∧ (SqL K H l (ys.map V.str) ∨ SqT K H l (ys.map V.str)) ∧
  (ys.map (·.length)).sum + ys.length * a.length ≤ 16777216 ∧ Q (.str (Txt.join a ys)) H
theorem ek_split (ha : EE X W a ta fa) (hb : EE X W b tb fb) (hs : starEach [b] X.env = [(false, eval b X.env)] := by rfl) (hbase : attributeBase a "split" X.env (eval a X.env) = eval a X.env := by rfl) (hl : (apos.endLine == pos.line) = true := by rfl) :
    EE X W (.Call (.Attribute a "split" apos) [b] [] pos) (tM1 rSplit ta tb) (fM1 opSplit fa fb) :=
  ⟨pe_split ha.pe hb.pe hs hbase hl, m1_sound (fun {σ F H Q z u y} s r P => by
    unfold opSplit at P
    cases r with
    | str t =>
      dsimp only at P
      split at P
      · rename_i h
        exact ⟨z, t, rfl, rfl, by simpa using h.1, Nat.le_trans (Nat.add_le_add_right h.2 2) (by decide), new_lst s (DDs.texts _) P⟩
      · exact P.elim
    | _ => exact P.elim) ha hb⟩
theorem ek_partition (ha : EE X W a ta fa) (hb : EE X W b tb fb) (hs : starEach [b] X.env = [(false, eval b X.env)] := by rfl) (hbase : attributeBase a "partition" X.env (eval a X.env) = eval a X.env := by rfl) (hl : (apos.endLine == pos.line) = true := by rfl) :
    EE X W (.Call (.Attribute a "partition" apos) [b] [] pos) (tM1 rPartition ta tb) (fM1 opPartition fa fb) :=
  ⟨pe_partition ha.pe hb.pe hs hbase hl, m1_sound (fun {σ F H Q z u y} s r P => by
    unfold opPartition at P
    cases r with
    | str t =>
      dsimp only at P
      split at P
      · rename_i h
        exact ⟨z, t, rfl, rfl, by simpa using h.1, Nat.le_trans h.2 (by decide), new_tup s (.cons (.str _) (.cons (.str _) (.cons (.str _) .nil))) P⟩
      · exact P.elim
    | _ => exact P.elim) ha hb⟩
theorem ek_endswith (ha : EE X W a ta fa) (hb : EE X W b tb fb) (hs : starEach [b] X.env = [(false, eval b X.env)] := by rfl) (hbase : attributeBase a "endswith" X.env (eval a X.env) = eval a X.env := by rfl) (hl : (apos.endLine == pos.line) = true := by rfl) :
    EE X W (.Call (.Attribute a "endswith" apos) [b] [] pos) (tM1 rEndswith ta tb) (fM1 opEndswith fa fb) :=
  ⟨pe_m1 F.slot_str_endswith F.type_str_endswith mt_endswith ha.pe hb.pe hs hbase hl, m1_sound (fun {σ F H Q z u y} s r P => by
    unfold opEndswith at P
    cases r with
    | str t => exact ⟨z, t, rfl, rfl, post_flat s (.bl _) P⟩
    | _ => exact P.elim) ha hb⟩
theorem ek_join (K : PySem.W.Frag) (ha : EE X W a ta fa) (hb : EE X W b tb fb) (hs : starEach [b] X.env = [(false, eval b X.env)] := by rfl) (hbase : attributeBase a "join" X.env (eval a X.env) = eval a X.env := by rfl) (hl : (apos.endLine == pos.line) = true := by rfl) (hK : X.K = K := by rfl) :
    EE X W (.Call (.Attribute a "join" apos) [b] [] pos) (tM1 (rJoin K) ta tb) (fM1 opJoin fa fb) := by
  subst hK
  exact ⟨pe_join ha.pe hb.pe hs hbase hl, m1_sound (fun {σ F H Q z u y} s r P => by
    unfold opJoin at P
    cases r with
    | @lst p xs ds h r =>
      dsimp only at P
      split at P
      · rename_i ys hy
        have hd := asSs_some hy
        subst hd
        have hx := DDs.strs r
        subst hx
        split at P
        · rename_i hz
          exact ⟨z, p, ys, rfl, rfl, .inl (SqL.of (s _ _ h)), hz, post_flat s (.str _) P⟩
        · exact P.elim
      · exact P.elim
    | _ => exact P.elim) ha hb⟩
/-! ### str(int), int(text) -/
def biStr : List PyData → Rs R
  | [.int i] => if i.natAbs ≤ 1000000 then .ok (.val (.str (toString i))) else .bad
  | _ => .bad
theorem bd_strI : BiD X.K X.mg W (fun xs H Q => ∃ i, xs = [.int i] ∧ i.natAbs.log2 < 1920 ∧ Q (.str (toString i)) H) biStr := fun {σ F H Q vs ds} s r P => by
  match ds, r with
  | [], .nil => exact P.elim
  | [_], .cons h .nil =>
    unfold biStr at P
    cases h with
    | int i =>
      dsimp only at P
      split at P
      · rename_i hz
        refine ⟨i, rfl, ?_, post_flat s (.str _) P⟩
        by_cases z : i.natAbs = 0
        · rw [z]; decide
        · exact Nat.lt_of_lt_of_le ((Nat.log2_lt z).mpr (show i.natAbs < 2 ^ 20 by omega)) (by decide)
      · exact P.elim
    | _ => exact P.elim
  | _ :: _ :: _, .cons h (.cons _ _) => cases h <;> exact P.elim
def biIntS : List PyData → Rs R
  | [.str a] => if a.length ≤ 640 then (match PySem.intText? a with
    | some n => .ok (.val (.int n))
    | none => .bad) else .bad
  | _ => .bad
theorem bd_intS : BiD X.K X.mg W (fun xs H Q => ∃ a n, xs = [.str a] ∧ PySem.intText? a = some n ∧ a.length ≤ 640 ∧ Q (.int n) H) biIntS := fun {σ F H Q vs ds} s r P => by
  match ds, r with
  | [], .nil => exact P.elim
  | [_], .cons h .nil =>
    unfold biIntS at P
    cases h with
    | str z =>
      dsimp only at P
      split at P
      · rename_i hz
        split at P
        · rename_i n hn
          exact ⟨z, n, rfl, hn, hz, post_flat s (.int _) P⟩
        · exact P.elim
      · exact P.elim
    | _ => exact P.elim
  | _ :: _ :: _, .cons h (.cons _ _) => cases h <;> exact P.elim
/-! ### text * int -/
def repS (z : Str) (k : Nat) : Str := ⟨(List.replicate k z.cps).foldl (· ++ ·) #[]⟩
theorem fold_size (a : Array Nat) : ∀ (k : Nat) (acc : Array Nat), ((List.replicate k a).foldl (· ++ ·) acc).size = acc.size + k * a.size
  | 0, acc => by simp
  | k + 1, acc => by
    rw [List.replicate_succ, List.foldl_cons, fold_size a k, Array.size_append, Nat.add_mul]
    omega
theorem repS_len (z : Str) (k : Nat) : (repS z k).length = k * z.length := by
  show ((List.replicate k z.cps).foldl (· ++ ·) #[]).size = _
  rw [fold_size]
  simp [Str.length]
def rRepS : R2 := fun x y H Q => ∃ z k, x = .str z ∧ y = .int k ∧ 2 ≤ k ∧ k ≤ 1000 ∧ 1 ≤ z.length ∧ z.length ≤ 1000 ∧ Q (.str (repS z k.toNat)) H
theorem op_repS : OpR X (binaryOp .Mult) rRepS := by
  intro pins s σ H x y v u Q I rx ry h
  obtain ⟨z, k, rfl, rfl, h1, h2, h3, h4, q⟩ := h
  obtain ⟨t, rfl⟩ := rx
  obtain ⟨t', rfl⟩ := ry
  have e1 : ¬ k < 1 := by omega
  have e2 : (k == 1 || z.length == 0) = false := by
    have a1 : (k == 1) = false := by simpa using (show k ≠ 1 by omega)
    have a2 : (z.length == 0) = false := by simpa using (show z.length ≠ 0 by omega)
    rw [a1, a2]; rfl
  refine P.mul_str (by
    rw [decide_eq_false (show ¬ k < -(2 ^ 63 : Int) by omega), decide_eq_false (show ¬ k ≥ 2 ^ 63 by omega)]; rfl) (fun _ _ => ?_) (fun _ _ => ?_) ?_
  · have : (1000 : Int) ≤ (2 ^ 63 - 1) / k := by
      rw [Int.le_ediv_iff_mul_le (by omega)]; omega
    omega
  · have hm : z.length * k.toNat ≤ 1000000 := by
      have := Nat.mul_le_mul h4 (show k.toNat ≤ 1000 by omega)
      omega
    exact decide_eq_false (show ¬ (z.length * k.toNat > sizeLine) by have := lim_le; unfold lim at this; omega)
  · rw [if_neg e1, e2]
    refine ⟨?_, .str (repS z k.toNat), H, I.tok _, ⟨_, rfl⟩, q⟩
    show (repS z k.toNat).length ≤ sizeLine
    rw [repS_len]
    have := Nat.mul_le_mul (show k.toNat ≤ 1000 by omega) h4
    have l := lim_le
    unfold lim at l
    omega
def opRepS : PyData → PyData → Rs R
  | .str z, .int k => if 2 ≤ k ∧ k ≤ 1000 ∧ 1 ≤ z.length ∧ z.length ≤ 1000 then .ok (.val (.str (repS z k.toNat))) else .bad
  | _, _ => .bad
theorem ek_repS (ha : EE X W a ta fa) (hb : EE X W b tb fb) : EE X W (.BinOp a .Mult b pos) (tOp rRepS ta tb) (fOp opRepS fa fb) := by
  refine ee_op op_repS (fun {σ F H Q v u x y} s a b P => ?_) ha hb
  unfold opRepS at P
  cases a with
  | str z =>
    cases b with
    | int k =>
      dsimp only at P
      split at P
      · rename_i hc
        exact ⟨z, k, rfl, rfl, hc.1, hc.2.1, hc.2.2.1, hc.2.2.2, post_flat s (.str _) P⟩
      · exact P.elim
    | _ => exact P.elim
  | _ => cases b <;> exact P.elim
end
end DN
/-! DenL: how denotations are reckoned. -/
namespace DN
open PySem PySem.Spec PyProof.Rows L2

/-! ### what the operations give, by the form of their operands -/
section
variable (g : Int → Int → PyData) (i j : Int) (a b : Str) (xs ys : List PyData) (d e : PyData) (ρ : Ev) (t : PyData → Ev → Rs Ev) (ts : List PyData → Ev → Rs Ev)
@[simp] theorem oI_ii : oI g (.int i) (.int j) = .ok (.val (g i j)) := rfl
@[simp] theorem oIc_ii (C : Int → Int → Prop) [∀ i j, Decidable (C i j)] : oIc C g (.int i) (.int j) = if C i j then .ok (.val (g i j)) else .bad := rfl
@[simp] theorem opAdd_ii : opAdd (.int i) (.int j) = .ok (.val (.int (i + j))) := rfl
@[simp] theorem opAdd_ss : opAdd (.str a) (.str b) = if a.length + b.length ≤ lim then .ok (.val (.str (a ++ b))) else .bad := rfl
@[simp] theorem opAdd_ll : opAdd (.list xs) (.list ys) = if xs.length + ys.length ≤ lim then .ok (.own (xs ++ ys)) else .bad := rfl
@[simp] theorem opAdd_tt : opAdd (.tuple xs) (.tuple ys) = if xs.length + ys.length ≤ lim then .ok (.val (.tuple (xs ++ ys))) else .bad := rfl
@[simp] theorem opIs_n : opIs .none .none = .ok (.val (.bool true)) := rfl
@[simp] theorem opIs_in : opIs (.int i) .none = .ok (.val (.bool false)) := rfl
@[simp] theorem opIs_tn : opIs (.tuple xs) .none = .ok (.val (.bool false)) := rfl
@[simp] theorem opIs_sn : opIs (.str a) .none = .ok (.val (.bool false)) := rfl
@[simp] theorem opIs_bb (x y : Bool) : opIs (.bool x) (.bool y) = .ok (.val (.bool (decide (x = y)))) := rfl
@[simp] theorem opIsNot_n : opIsNot .none .none = .ok (.val (.bool false)) := rfl
@[simp] theorem opIsNot_in : opIsNot (.int i) .none = .ok (.val (.bool true)) := rfl
@[simp] theorem opIsNot_tn : opIsNot (.tuple xs) .none = .ok (.val (.bool true)) := rfl
@[simp] theorem opIsNot_sn : opIsNot (.str a) .none = .ok (.val (.bool true)) := rfl
@[simp] theorem opIsNot_bb (x y : Bool) : opIsNot (.bool x) (.bool y) = .ok (.val (.bool (!decide (x = y)))) := rfl
@[simp] theorem opNeg_i : opNeg (.int i) = .ok (.val (.int (-i))) := rfl
@[simp] theorem opIx_l : opIx (.list xs) (.int i) = match atI xs i with | some d => .ok (.val d) | none => .bad := rfl
@[simp] theorem opIx_t : opIx (.tuple xs) (.int i) = match atI xs i with | some d => .ok (.val d) | none => .bad := rfl
@[simp] theorem asI_i : asI (.int i) = .ok (some i) := rfl
@[simp] theorem opSl_l (lo hi : Option Int) : opSl (.list xs) lo hi = .ok (.own (cut xs lo hi)) := rfl
@[simp] theorem opSl_t (lo hi : Option Int) : opSl (.tuple xs) lo hi = .ok (.val (.tuple (cut xs lo hi))) := rfl
@[simp] theorem opSl_s (lo hi : Option Int) : opSl (.str a) lo hi = if a.length ≤ lim then .ok (.val (.str (cutS a lo hi))) else .bad := rfl
@[simp] theorem biLen_l : biLen [.list xs] = .ok (.val (.int xs.length)) := rfl
@[simp] theorem biLen_t : biLen [.tuple xs] = .ok (.val (.int xs.length)) := rfl
@[simp] theorem biLen_s : biLen [.str a] = if a.length ≤ lim then .ok (.val (.int a.length)) else .bad := rfl
@[simp] theorem biAll_l : biAll [.list xs] = match asBs xs with | some bs => .ok (.val (.bool (bs.all id))) | none => .bad := rfl
@[simp] theorem biAny_l : biAny [.list xs] = match asBs xs with | some bs => .ok (.val (.bool (bs.any id))) | none => .bad := rfl
@[simp] theorem biList_l : biList [.list xs] = .ok (.own xs) := rfl
@[simp] theorem biList_t : biList [.tuple xs] = .ok (.own xs) := rfl
@[simp] theorem biTuple_l : biTuple [.list xs] = .ok (.val (.tuple xs)) := rfl
@[simp] theorem biTuple_t : biTuple [.tuple xs] = .ok (.val (.tuple xs)) := rfl
@[simp] theorem biMax2_i : biMax2 [.int i, .int j] = .ok (.val (.int (if j > i then j else i))) := rfl
@[simp] theorem biMin2_i : biMin2 [.int i, .int j] = .ok (.val (.int (if j < i then j else i))) := rfl
@[simp] theorem biInt_i : biInt [.int i] = .ok (.val (.int i)) := rfl
@[simp] theorem rg1_i : rg1 [.int j] = if j.natAbs ≤ 1000000 then .ok (rngD 0 j.toNat) else .bad := rfl
@[simp] theorem rg2_i : rg2 [.int i, .int j] = if i.natAbs ≤ 1000000 ∧ j.natAbs ≤ 1000000 then .ok (rngD i (j - i).toNat) else .bad := rfl
@[simp] theorem tsNil_n : tsNil [] ρ = .ok ρ := rfl
@[simp] theorem tsCons_c : tsCons t ts (d :: xs) ρ = (t d ρ).bind (ts xs) := rfl
@[simp] theorem tTupl_t : tTupl ts (.tuple xs) ρ = ts xs ρ := rfl
@[simp] theorem opRepT_ti : opRepT (.tuple xs) (.int i) = if xs ≠ [] ∧ 2 ≤ i ∧ i ≤ 1000 ∧ xs.length ≤ 1000 then .ok (.val (.tuple (List.replicate i.toNat xs).flatten)) else .bad := rfl
@[simp] theorem opRepL_li : opRepL (.list xs) (.int i) = if i.natAbs ≤ 1000000 ∧ xs.length * i.toNat ≤ lim then .ok (.own (List.replicate i.toNat xs).flatten) else .bad := rfl
@[simp] theorem biSum_l : biSum [.list xs] = match asIs xs with | some bs => .ok (.val (.int bs.sum)) | none => .bad := rfl
@[simp] theorem biMax_l : biMax [.list xs] = match asIs xs with | some bs => if bs = [] then .bad else .ok (.val (.int (maxOf bs))) | none => .bad := rfl
@[simp] theorem biMin_l : biMin [.list xs] = match asIs xs with | some bs => if bs = [] then .bad else .ok (.val (.int (minOf bs))) | none => .bad := rfl
end
theorem rngD_eq (n : Nat) : rngD 0 n = (List.range n).map fun i => PyData.int (i : Nat) := by
  unfold rngD
  apply List.map_congr_left
  intro i _
  simp
theorem rg1_nat {n : Nat} (h : n ≤ 1000000) : rg1 [.int (n : Nat)] = .ok ((List.range n).map fun i => PyData.int (i : Nat)) := by
  rw [rg1_i, if_pos (by omega), rngD_eq]
  rfl
theorem range_get {α : Type} {n i : Nat} {f : Nat → α} {d : α} (h : ((List.range n).map f)[i]? = some d) : i < n ∧ d = f i := by
  rw [List.getElem?_map, Option.map_eq_some_iff] at h
  obtain ⟨j, hj, rfl⟩ := h
  rw [List.getElem?_eq_some_iff] at hj
  obtain ⟨hj, hj3⟩ := hj
  rw [List.length_range] at hj
  rw [List.getElem_range] at hj3
  subst hj3
  exact ⟨hj, rfl⟩
theorem list_get {α : Type} {xs : List α} {f : α → PyData} {i : Nat} {d : PyData} (h : (xs.map f)[i]? = some d) : ∃ x, xs[i]? = some x ∧ d = f x ∧ xs.take (i + 1) = xs.take i ++ [x] := by
  rw [List.getElem?_map, Option.map_eq_some_iff] at h
  obtain ⟨x, hx, rfl⟩ := h
  refine ⟨x, hx, rfl, ?_⟩
  rw [List.take_succ, hx]
  rfl
/-! ### comprehensions over typed items -/
theorem lcGo_typed {α : Type} {ft : PyData → Ev → Rs Ev} {fc : Ev → Rs Bool} {fe : Ev → Rs R} {ρ : Ev} (enc : α → PyData) (en : α → Ev) (c : α → Bool) (h : α → PyData) :
    ∀ (xs : List α), (∀ x ∈ xs, ft (enc x) ρ = .ok (en x)) → (∀ x ∈ xs, fc (en x) = .ok (c x)) → (∀ x ∈ xs, c x = true → (fe (en x)).bind R.d = .ok (h x)) →
      lcGo ft fc fe ρ (xs.map enc) = .ok ((xs.filter c).map h)
  | [], _, _, _ => rfl
  | x :: xs, h1, h2, h3 => by
    have ih := lcGo_typed enc en c h xs (fun y hy => h1 y (List.mem_cons_of_mem _ hy)) (fun y hy => h2 y (List.mem_cons_of_mem _ hy)) (fun y hy => h3 y (List.mem_cons_of_mem _ hy))
    rw [List.map_cons]
    unfold lcGo
    rw [h1 x List.mem_cons_self, bind_ok, h2 x List.mem_cons_self, bind_ok]
    cases hc : c x with
    | true =>
      rw [if_pos rfl]
      have e := h3 x List.mem_cons_self hc
      rw [List.filter_cons_of_pos hc, List.map_cons]
      cases hf : fe (en x) with
      | ok r =>
        rw [hf, bind_ok] at e
        rw [bind_ok, e, bind_ok, ih, bind_ok]
      | err c => rw [hf] at e; cases e
      | bad => rw [hf] at e; cases e
    | false =>
      rw [if_neg (by decide), ih, List.filter_cons_of_neg (by simp [hc])]
theorem lcGo_map {α : Type} {ft : PyData → Ev → Rs Ev} {fe : Ev → Rs R} {ρ : Ev} (enc : α → PyData) (en : α → Ev) (h : α → PyData) (xs : List α) (h1 : ∀ x ∈ xs, ft (enc x) ρ = .ok (en x)) (h3 : ∀ x ∈ xs, (fe (en x)).bind R.d = .ok (h x)) :
    lcGo ft fYes fe ρ (xs.map enc) = .ok (xs.map h) := by
  rw [lcGo_typed enc en (fun _ => true) h xs h1 (fun _ _ => rfl) (fun x hx _ => h3 x hx)]
  rw [List.filter_eq_self.mpr (fun _ _ => rfl)]
theorem fLc_of {vs : List Nat} {fi : Ev → Rs (List PyData)} {ft : PyData → Ev → Rs Ev} {fc : Ev → Rs Bool} {fe : Ev → Rs R} {ρ : Ev} {ds xs : List PyData} (h : fi ρ = .ok ds) (hl : ds.length ≤ lim) (hg : lcGo ft fc fe (wipeE ρ vs) ds = .ok xs) :
    fLc vs fi ft fc fe ρ = .ok (.own xs) := by
  unfold fLc
  rw [h, bind_ok, if_pos hl, hg]
  rfl
@[simp] theorem capL_short (ds : List PyData) (r : R) (h : ds.length ≤ 1000) : capL ds r = .ok r := by
  unfold capL
  rw [if_pos (Nat.le_trans h (by decide))]
/-! ### loops -/
theorem loop_rel {ft : PyData → Ev → Rs Ev} {gb : Ev → RO} (I : Nat → Ev → Prop) : ∀ (ds : List PyData) (k : Nat) (ρ : Ev), I k ρ →
    (∀ (i : Nat) (d : PyData) (ρ : Ev), ds[i]? = some d → I (k + i) ρ → ∃ ρ1 ρ2, ft d ρ = .ok ρ1 ∧ gb ρ1 = .nx ρ2 ∧ I (k + i + 1) ρ2) → ∃ ρ', loop ft gb ds ρ = .nx ρ' ∧ I (k + ds.length) ρ'
  | [], k, ρ, h, _ => ⟨ρ, rfl, h⟩
  | d :: ds, k, ρ, h, hs => by
    obtain ⟨ρ1, ρ2, e1, e2, h2⟩ := hs 0 d ρ rfl h
    obtain ⟨ρ', e3, h3⟩ := loop_rel I ds (k + 1) ρ2 (by simpa using h2) (fun i d' ρ' hd hI => by
      have := hs (i + 1) d' ρ' (by simpa using hd) (by rw [show k + (i + 1) = k + 1 + i by omega]; exact hI)
      rw [show k + (i + 1) + 1 = k + 1 + i + 1 by omega] at this
      exact this)
    refine ⟨ρ', ?_, by rw [List.length_cons, show k + (ds.length + 1) = k + 1 + ds.length by omega]; exact h3⟩
    unfold loop
    rw [e1]
    show (gb ρ1).seq _ = _
    rw [e2]
    exact e3
/-- a loop whose turns leave the environment as a function of the turn -/
theorem loop_env {ft : PyData → Ev → Rs Ev} {gb : Ev → RO} {ds : List PyData} (I : Nat → Ev → Prop) {ρ : Ev} (h0 : I 0 ρ)
    (hs : ∀ (i : Nat) (d : PyData) (ρ : Ev), ds[i]? = some d → I i ρ → ∃ ρ1 ρ2, ft d ρ = .ok ρ1 ∧ gb ρ1 = .nx ρ2 ∧ I (i + 1) ρ2) : ∃ ρ', loop ft gb ds ρ = .nx ρ' ∧ I ds.length ρ' := by
  have := loop_rel (ft := ft) (gb := gb) I ds 0 ρ h0 (fun i d ρ hd hI => by simpa using hs i d ρ hd (by simpa using hI))
  simpa using this
theorem gFor_env {fi : Ev → Rs (List PyData)} {ft : PyData → Ev → Rs Ev} {gb : Ev → RO} {ds : List PyData} (I : Nat → Ev → Prop) {ρ : Ev} (hf : fi ρ = .ok ds) (h0 : I 0 ρ)
    (hs : ∀ (i : Nat) (d : PyData) (ρ : Ev), ds[i]? = some d → I i ρ → ∃ ρ1 ρ2, ft d ρ = .ok ρ1 ∧ gb ρ1 = .nx ρ2 ∧ I (i + 1) ρ2) : ∃ ρ', gFor fi ft gb ρ = .nx ρ' ∧ I ds.length ρ' := by
  unfold gFor
  rw [hf]
  exact loop_env I h0 hs
/-- a while by a measure -/
theorem whileN_rel {fc : Ev → Rs Bool} {gb : Ev → RO} (I : Ev → Prop) (μ : Ev → Nat) (hs : ∀ ρ, I ρ → ∃ b, fc ρ = .ok b ∧ (b = true → ∃ ρ', gb ρ = .nx ρ' ∧ I ρ' ∧ μ ρ' < μ ρ)) :
    ∀ (n : Nat) (ρ : Ev), I ρ → μ ρ < n → ∃ ρ', whileN fc gb n ρ = .nx ρ' ∧ I ρ' ∧ fc ρ' = .ok false
  | 0, ρ, _, h => by omega
  | n + 1, ρ, hI, h => by
    obtain ⟨b, e, hb⟩ := hs ρ hI
    unfold whileN
    rw [e, onR_ok]
    cases b with
    | true =>
      obtain ⟨ρ1, e1, h1, h2⟩ := hb rfl
      rw [if_pos rfl, e1]
      exact whileN_rel I μ hs n ρ1 h1 (by omega)
    | false =>
      rw [if_neg (by decide)]
      exact ⟨ρ, rfl, hI, e⟩
theorem gWhile_rel {fc : Ev → Rs Bool} {gb : Ev → RO} (I : Ev → Prop) (μ : Ev → Nat) {ρ : Ev} (h0 : I ρ) (hμ : μ ρ < 1000000) (hs : ∀ ρ, I ρ → ∃ b, fc ρ = .ok b ∧ (b = true → ∃ ρ', gb ρ = .nx ρ' ∧ I ρ' ∧ μ ρ' < μ ρ)) :
    ∃ ρ', gWhile fc gb ρ = .nx ρ' ∧ I ρ' ∧ fc ρ' = .ok false := whileN_rel I μ hs _ ρ h0 hμ

/-- the whole number in a slot -/
def natAt (i : Nat) (ρ : Ev) : Nat := match ρ[i]? with
  | some (some (R.val (PyData.int a))) => a.toNat
  | _ => 0
/-! ### isinstance -/
def isI : PyData → Bool
  | .int _ => true
  | .bool _ => true
  | _ => false
def isB : PyData → Bool
  | .bool _ => true
  | _ => false
def isT : PyData → Bool
  | .tuple _ => true
  | _ => false
def isL : PyData → Bool
  | .list _ => true
  | _ => false
def isS : PyData → Bool
  | .str _ => true
  | _ => false
theorem kit_facts : kitB "NoneType" "int" = some false ∧ kitB "bool" "int" = some true ∧ kitB "int" "int" = some true ∧ kitB "str" "int" = some false ∧ kitB "list" "int" = some false ∧ kitB "tuple" "int" = some false ∧ kitB "dict" "int" = some false ∧
    kitB "NoneType" "bool" = some false ∧ kitB "bool" "bool" = some true ∧ kitB "int" "bool" = some false ∧ kitB "str" "bool" = some false ∧ kitB "list" "bool" = some false ∧ kitB "tuple" "bool" = some false ∧ kitB "dict" "bool" = some false ∧
    kitB "NoneType" "tuple" = some false ∧ kitB "bool" "tuple" = some false ∧ kitB "int" "tuple" = some false ∧ kitB "str" "tuple" = some false ∧ kitB "list" "tuple" = some false ∧ kitB "tuple" "tuple" = some true ∧ kitB "dict" "tuple" = some false ∧
    kitB "NoneType" "list" = some false ∧ kitB "bool" "list" = some false ∧ kitB "int" "list" = some false ∧ kitB "str" "list" = some false ∧ kitB "list" "list" = some true ∧ kitB "tuple" "list" = some false ∧ kitB "dict" "list" = some false ∧
    kitB "NoneType" "str" = some false ∧ kitB "bool" "str" = some false ∧ kitB "int" "str" = some false ∧ kitB "str" "str" = some true ∧ kitB "list" "str" = some false ∧ kitB "tuple" "str" = some false ∧ kitB "dict" "str" = some false := by decide +kernel
@[simp] theorem isi_int (d : PyData) : isiD "int" d = .ok (.val (.bool (isI d))) := by
  obtain ⟨a1, a2, a3, a4, a5, a6, a7, _⟩ := kit_facts
  cases d <;> simp [isiD, tyD, isI, *]
@[simp] theorem isi_bool (d : PyData) : isiD "bool" d = .ok (.val (.bool (isB d))) := by
  obtain ⟨_, _, _, _, _, _, _, a1, a2, a3, a4, a5, a6, a7, _⟩ := kit_facts
  cases d <;> simp [isiD, tyD, isB, *]
@[simp] theorem isi_tuple (d : PyData) : isiD "tuple" d = .ok (.val (.bool (isT d))) := by
  obtain ⟨_, _, _, _, _, _, _, _, _, _, _, _, _, _, a1, a2, a3, a4, a5, a6, a7, _⟩ := kit_facts
  cases d <;> simp [isiD, tyD, isT, *]
@[simp] theorem isi_list (d : PyData) : isiD "list" d = .ok (.val (.bool (isL d))) := by
  obtain ⟨_, _, _, _, _, _, _, _, _, _, _, _, _, _, _, _, _, _, _, _, _, a1, a2, a3, a4, a5, a6, a7, _⟩ := kit_facts
  cases d <;> simp [isiD, tyD, isL, *]
@[simp] theorem isi_str (d : PyData) : isiD "str" d = .ok (.val (.bool (isS d))) := by
  obtain ⟨_, _, _, _, _, _, _, _, _, _, _, _, _, _, _, _, _, _, _, _, _, _, _, _, _, _, _, _, a1, a2, a3, a4, a5, a6, a7⟩ := kit_facts
  cases d <;> simp [isiD, tyD, isS, *]
/-! ### sizes and == -/
@[simp] theorem asB_bool (b : Bool) : asB (.bool b) = .ok b := rfl
theorem lay_int (i : Int) : PyData.canLay0 (.int i) = true := by simp [PyData.canLay0]
/-! how deep data lie, at most -/
mutual
def dOk : Nat → PyData → Bool
  | _, .none => true
  | _, .bool _ => true
  | _, .int _ => true
  | _, .str x => PyData.strOk x
  | n + 1, .list xs => dOks n xs
  | n + 1, .tuple xs => dOks n xs
  | _, _ => false
def dOks : Nat → List PyData → Bool
  | _, [] => true
  | n, x :: xs => dOk n x && dOks n xs
end
mutual
theorem dOk_lay : ∀ (n : Nat) (d : PyData), dOk n d = true → d.canLay0 = true ∧ d.depth ≤ n
  | _, .none, _ => by simp [PyData.canLay0, PyData.depth]
  | _, .bool _, _ => by simp [PyData.canLay0, PyData.depth]
  | _, .int _, _ => by simp [PyData.canLay0, PyData.depth]
  | _, .str x, h => by
    have h' : PyData.strOk x = true := by simpa [dOk] using h
    simp [PyData.canLay0, PyData.depth, h']
  | n + 1, .list xs, h => by
    have h' : dOks n xs = true := by simpa [dOk] using h
    have := dOks_lay n xs h'
    simp [PyData.canLay0, PyData.depth, this.1]
    omega
  | n + 1, .tuple xs, h => by
    have h' : dOks n xs = true := by simpa [dOk] using h
    have := dOks_lay n xs h'
    simp [PyData.canLay0, PyData.depth, this.1]
    omega
  | 0, .list _, h => by simp [dOk] at h
  | 0, .tuple _, h => by simp [dOk] at h
  | _, .dict _, h => by simp [dOk] at h
theorem dOks_lay : ∀ (n : Nat) (ds : List PyData), dOks n ds = true → PyData.canLayAll0 ds = true ∧ PyData.depthAll ds ≤ n
  | _, [], _ => by simp [PyData.canLayAll0, PyData.depthAll]
  | n, d :: ds, h => by
    have h' : dOk n d = true ∧ dOks n ds = true := by simpa [dOks] using h
    have a := dOk_lay n d h'.1
    have b := dOks_lay n ds h'.2
    simp [PyData.canLayAll0, PyData.depthAll, a.1, b.1]
    omega
end
theorem shaped_of {n : Nat} {d : PyData} (h : dOk n d = true) (hn : n ≤ 64) : SeqAt.shaped d = true := by
  have := dOk_lay n d h
  unfold SeqAt.shaped
  simp [this.1]
  omega
theorem dOks_all {n : Nat} : ∀ {ds : List PyData}, (∀ d ∈ ds, dOk n d = true) → dOks n ds = true
  | [], _ => by simp [dOks]
  | d :: ds, h => by
    simp [dOks, h d List.mem_cons_self]
    exact dOks_all fun x hx => h x (List.mem_cons_of_mem _ hx)
theorem dOks_map {α : Type} {n : Nat} {xs : List α} {f : α → PyData} (h : ∀ x ∈ xs, dOk n (f x) = true) : dOks n (xs.map f) = true := dOks_all fun d hd => by
  obtain ⟨x, hx, rfl⟩ := List.mem_map.mp hd
  exact h x hx
theorem eqD_of {n m : Nat} {d e : PyData} (h : dOk n d = true) (g : dOk m e = true) (hn : n ≤ 64) (hm : m ≤ 64) : eqD d e = .ok (PyData.eqv d e) := by
  unfold eqD
  rw [shaped_of h hn, shaped_of g hm]
  rfl
@[simp] theorem eqD_int (i j : Int) : eqD (.int i) (.int j) = .ok (decide (i = j)) := by
  rw [eqD_of (n := 0) (m := 0) (by simp [dOk]) (by simp [dOk]) (by decide) (by decide)]
  simp [PyData.eqv]
  by_cases h : i = j <;> simp [h]
/-! ### positions -/
@[simp] theorem atI_nat' {α : Type} (xs : List α) (j : Nat) : atI xs (j : Int) = xs[j]? := by
  unfold atI ixN
  rw [if_pos (Int.natCast_nonneg j)]
  by_cases h : j < xs.length
  · rw [if_pos (by omega)]; simp
  · rw [if_neg (by omega)]; simp; omega
theorem atI_pos {α : Type} (xs : List α) {i : Int} (h : 0 ≤ i) : atI xs i = xs[i.toNat]? := by
  obtain ⟨j, rfl⟩ := Int.eq_ofNat_of_zero_le h
  simp
theorem atI_m1 {α : Type} (xs : List α) : atI xs (-1) = xs.getLast? := by
  unfold atI ixN
  rw [if_neg (by decide)]
  by_cases h : xs = []
  · subst h; rfl
  · have hl : 0 < xs.length := List.length_pos_iff.mpr h
    rw [if_pos (by omega), List.getLast?_eq_getElem?]
    show xs[(-1 + (xs.length : Int)).toNat]? = _
    congr 1
    all_goals omega
@[simp] theorem atI_zero {α : Type} (xs : List α) : atI xs 0 = xs[0]? := atI_nat' xs 0
@[simp] theorem atI_one {α : Type} (xs : List α) : atI xs 1 = xs[1]? := atI_nat' xs 1
@[simp] theorem atI_2 {α : Type} (xs : List α) : atI xs 2 = xs[2]? := atI_nat' xs 2
@[simp] theorem atI_3 {α : Type} (xs : List α) : atI xs 3 = xs[3]? := atI_nat' xs 3
@[simp] theorem atI_4 {α : Type} (xs : List α) : atI xs 4 = xs[4]? := atI_nat' xs 4
@[simp] theorem atI_5 {α : Type} (xs : List α) : atI xs 5 = xs[5]? := atI_nat' xs 5
@[simp] theorem atI_6 {α : Type} (xs : List α) : atI xs 6 = xs[6]? := atI_nat' xs 6
@[simp] theorem atI_7 {α : Type} (xs : List α) : atI xs 7 = xs[7]? := atI_nat' xs 7
@[simp] theorem atI_8 {α : Type} (xs : List α) : atI xs 8 = xs[8]? := atI_nat' xs 8
@[simp] theorem atI_9 {α : Type} (xs : List α) : atI xs 9 = xs[9]? := atI_nat' xs 9
theorem sIx_none' (n d : Nat) : HT.sIx n d none = d := rfl
theorem cut_all {α : Type} (xs : List α) : cut xs none none = xs := by simp [cut, HT.sIx]
theorem cut_from {α : Type} (xs : List α) (k : Nat) : cut xs (some (k : Int)) none = xs.drop k := by
  unfold cut
  rw [HT.sIx_nat, HT.sIx_none]
  by_cases h : k ≤ xs.length
  · rw [Nat.min_eq_left h]
    exact List.take_of_length_le (by simp)
  · rw [Nat.min_eq_right (by omega)]
    simp
    omega
theorem cut_to {α : Type} (xs : List α) (k : Nat) : cut xs none (some (k : Int)) = xs.take k := by
  unfold cut
  rw [HT.sIx_nat, HT.sIx_none]
  simp
end DN
/-! DenM: more on ==, in. -/
namespace DN
open PySem PySem.Spec PyProof.Rows L2
theorem eqD_same {n : Nat} {d : PyData} (h : dOk n d = true) (hn : n ≤ 64) : eqD d d = .ok true := by
  rw [eqD_of h h hn hn, SeqAt.eqv_refl d (dOk_lay n d h).1]
@[simp] theorem dOk_int (n : Nat) (i : Int) : dOk n (.int i) = true := by cases n <;> simp [dOk]
@[simp] theorem dOk_none (n : Nat) : dOk n .none = true := by cases n <;> simp [dOk]
@[simp] theorem dOk_bool (n : Nat) (b : Bool) : dOk n (.bool b) = true := by cases n <;> simp [dOk]
theorem dOk_list {n : Nat} {xs : List PyData} (h : dOks n xs = true) : dOk (n + 1) (.list xs) = true := by simpa [dOk] using h
theorem dOk_tuple {n : Nat} {xs : List PyData} (h : dOks n xs = true) : dOk (n + 1) (.tuple xs) = true := by simpa [dOk] using h
theorem eqF_int (i j : Int) : eqF (.int i) (.int j) = decide (i = j) := by
  show (i == j) = _
  by_cases h : i = j <;> simp [h]
theorem inD_ints (x : Int) (xs : List Int) : inD (.int x) (.list (xs.map .int)) = .ok (decide (x ∈ xs)) := by
  have h : (flatD (.int x) && (xs.map PyData.int).all flatD) = true := by simp [flatD]
  show (if (flatD (.int x) && (xs.map PyData.int).all flatD) = true then Rs.ok ((xs.map PyData.int).any fun y => eqF y (.int x)) else _) = _
  rw [if_pos h]
  congr 1
  rw [List.any_map]
  by_cases hx : x ∈ xs
  · simp [hx, eqF_int]
  · simp [hx, eqF_int]
    intro y hy e
    exact hx (e ▸ hy)
end DN
namespace DN
open PySem PySem.Spec PyProof.Rows L2
theorem lc2Go_map {α : Type} {ft : PyData → Ev → Rs Ev} {vs1 : List Nat} {fi1 : Ev → Rs (List PyData)} {ft1 : PyData → Ev → Rs Ev} {fc1 : Ev → Rs Bool} {fe : Ev → Rs R} {ρ : Ev} (enc : α → PyData) (en : α → Ev) (ds1 h : α → List PyData) :
    ∀ (xs : List α), (∀ x ∈ xs, ft (enc x) ρ = .ok (en x)) → (∀ x ∈ xs, fi1 (en x) = .ok (ds1 x)) → (∀ x ∈ xs, lcGo ft1 fc1 fe (wipeE (en x) vs1) (ds1 x) = .ok (h x)) → lc2Go ft fYes vs1 fi1 ft1 fc1 fe ρ (xs.map enc) = .ok (xs.flatMap h)
  | [], _, _, _ => rfl
  | x :: xs, h1, h2, h3 => by
    have ih := lc2Go_map (ft := ft) (vs1 := vs1) (fi1 := fi1) (ft1 := ft1) (fc1 := fc1) (fe := fe) (ρ := ρ) enc en ds1 h xs (fun y hy => h1 y (List.mem_cons_of_mem _ hy)) (fun y hy => h2 y (List.mem_cons_of_mem _ hy)) (fun y hy => h3 y (List.mem_cons_of_mem _ hy))
    rw [List.map_cons]
    unfold lc2Go
    rw [h1 x List.mem_cons_self, bind_ok]
    rw [show fYes (en x) = .ok true from rfl, bind_ok, if_pos rfl, h2 x List.mem_cons_self, bind_ok, h3 x List.mem_cons_self, bind_ok, ih, bind_ok, List.flatMap_cons]
theorem fLc2_of {vs vs1 : List Nat} {fi : Ev → Rs (List PyData)} {ft : PyData → Ev → Rs Ev} {fc : Ev → Rs Bool} {fi1 : Ev → Rs (List PyData)} {ft1 : PyData → Ev → Rs Ev} {fc1 : Ev → Rs Bool} {fe : Ev → Rs R} {ρ : Ev} {ds xs : List PyData} (h : fi ρ = .ok ds) (hl : xs.length ≤ lim)
    (hg : lc2Go ft fc vs1 fi1 ft1 fc1 fe (wipeE ρ vs) ds = .ok xs) : fLc2 vs vs1 fi ft fc fi1 ft1 fc1 fe ρ = .ok (.own xs) := by
  unfold fLc2
  rw [h, bind_ok, hg]
  show (if xs.length ≤ lim then Rs.ok (R.own xs) else Rs.bad) = _
  rw [if_pos hl]
theorem range_get2 {n i : Nat} {d : PyData} (h : ((List.range n).map fun j => PyData.int (j : Nat))[i]? = some d) : i < n ∧ d = .int (i : Nat) := range_get h
/-- range(1, n) -/
theorem rg2_one {n : Nat} (h : n ≤ 1000000) : rg2 [.int 1, .int (n : Nat)] = .ok ((List.range (n - 1)).map fun i => PyData.int (((i + 1 : Nat)) : Int)) := by
  rw [rg2_i, if_pos ⟨by decide, by omega⟩]
  congr 1
  unfold rngD
  rw [show ((n : Int) - 1).toNat = n - 1 by omega]
  apply List.map_congr_left
  intro i _
  congr 1
  omega
end DN
namespace DN
open PySem PySem.Spec PyProof.Rows L2
/-- goes on, with P -/
def Nx (o : RO) (P : Ev → Prop) : Prop := ∃ ρ, o = .nx ρ ∧ P ρ
@[simp] theorem Nx_nx (ρ : Ev) (P : Ev → Prop) : Nx (.nx ρ) P ↔ P ρ := ⟨fun ⟨_, e, h⟩ => by cases e; exact h, fun h => ⟨_, rfl, h⟩⟩
theorem Nx.imp {o : RO} {P Q : Ev → Prop} (h : Nx o P) (k : ∀ ρ, P ρ → Q ρ) : Nx o Q := by
  obtain ⟨ρ, e, p⟩ := h
  exact ⟨ρ, e, k ρ p⟩
theorem Nx.seq {o : RO} {g : Ev → RO} {P Q : Ev → Prop} (h : Nx o P) (k : ∀ ρ, P ρ → Nx (g ρ) Q) : Nx (o.seq g) Q := by
  obtain ⟨ρ, e, p⟩ := h
  rw [e, seq_nx]
  exact k ρ p
/-- one turn of a loop -/
def bdy (ft : PyData → Ev → Rs Ev) (gb : Ev → RO) (d : PyData) (ρ : Ev) : RO := match ft d ρ with
  | .ok ρ1 => gb ρ1
  | _ => .bad
@[simp] theorem bdy_name (i : Nat) (gb : Ev → RO) (d : PyData) (ρ : Ev) : bdy (tName i) gb d ρ = gb (ρ.set i (some (.val d))) := rfl
@[simp] theorem bdy_tup (ts : List PyData → Ev → Rs Ev) (gb : Ev → RO) (ds : List PyData) (ρ : Ev) : bdy (tTupl ts) gb (.tuple ds) ρ = match ts ds ρ with
  | .ok ρ1 => gb ρ1
  | _ => .bad := rfl
theorem gFor_sat {fi : Ev → Rs (List PyData)} {ft : PyData → Ev → Rs Ev} {gb : Ev → RO} {ds : List PyData} (I : Nat → Ev → Prop) {ρ : Ev} (hf : fi ρ = .ok ds) (h0 : I 0 ρ)
    (hs : ∀ (i : Nat) (d : PyData) (ρ : Ev), ds[i]? = some d → I i ρ → Nx (bdy ft gb d ρ) (I (i + 1))) : Nx (gFor fi ft gb ρ) (I ds.length) := by
  refine gFor_env I hf h0 fun i d ρ hd hI => ?_
  obtain ⟨ρ2, e, h⟩ := hs i d ρ hd hI
  unfold bdy at e
  split at e
  · rename_i ρ1 h1
    exact ⟨ρ1, ρ2, h1, e, h⟩
  · cases e
/-- the loop over the items of a typed list -/
theorem gFor_list {α : Type} {fi : Ev → Rs (List PyData)} {ft : PyData → Ev → Rs Ev} {gb : Ev → RO} {enc : α → PyData} {xs : List α} (I : List α → Ev → Prop) {ρ : Ev} (hf : fi ρ = .ok (xs.map enc)) (h0 : I [] ρ)
    (hs : ∀ (ys : List α) (x : α) (zs : List α) (ρ : Ev), xs = ys ++ x :: zs → I ys ρ → Nx (bdy ft gb (enc x) ρ) (I (ys ++ [x]))) : Nx (gFor fi ft gb ρ) (I xs) := by
  have := gFor_sat (ft := ft) (gb := gb) (fun i => I (xs.take i)) hf (by simpa using h0) (fun i d ρ hd hI => by
    obtain ⟨x, hx, rfl, e⟩ := list_get hd
    rw [e]
    refine hs (xs.take i) x (xs.drop (i + 1)) ρ ?_ hI
    obtain ⟨hl, rfl⟩ := List.getElem?_eq_some_iff.mp hx
    simp)
  simpa using this
/-- the loop over range(n) -/
theorem gFor_range {fi : Ev → Rs (List PyData)} {ft : PyData → Ev → Rs Ev} {gb : Ev → RO} {n : Nat} (I : Nat → Ev → Prop) {ρ : Ev} (hf : fi ρ = .ok ((List.range n).map fun i => PyData.int (i : Nat))) (h0 : I 0 ρ)
    (hs : ∀ (i : Nat) (ρ : Ev), i < n → I i ρ → Nx (bdy ft gb (.int (i : Nat)) ρ) (I (i + 1))) : Nx (gFor fi ft gb ρ) (I n) := by
  have := gFor_sat (ft := ft) (gb := gb) I hf h0 (fun i d ρ hd hI => by
    obtain ⟨hi, rfl⟩ := range_get hd
    exact hs i ρ hi hI)
  simpa using this
end DN
namespace DN
open PySem PySem.Spec PyProof.Rows L2
theorem eqD_nil {n : Nat} {xs : List PyData} (h : dOks n xs = true) (hn : n < 64) : eqD (.list xs) (.list []) = .ok xs.isEmpty := by
  rw [eqD_of (dOk_list h) (m := 1) (by simp [dOk, dOks]) (by omega) (by decide)]
  cases xs <;> simp [PyData.eqv, PyData.eqvAll]
theorem eqD_tnil {n : Nat} {xs : List PyData} (h : dOks n xs = true) (hn : n < 64) : eqD (.tuple xs) (.tuple []) = .ok xs.isEmpty := by
  rw [eqD_of (dOk_tuple h) (m := 1) (by simp [dOk, dOks]) (by omega) (by decide)]
  cases xs <;> simp [PyData.eqv, PyData.eqvAll]
end DN
namespace DN
theorem opAdd_tup {xs ys : List PySem.PyData} (h : xs.length + ys.length ≤ 1000) : opAdd (.tuple xs) (.tuple ys) = .ok (.val (.tuple (xs ++ ys))) := by
  rw [opAdd_tt, if_pos (Nat.le_trans h (by decide))]
theorem opAdd_lst {xs ys : List PySem.PyData} (h : xs.length + ys.length ≤ 1000) : opAdd (.list xs) (.list ys) = .ok (.own (xs ++ ys)) := by
  rw [opAdd_ll, if_pos (Nat.le_trans h (by decide))]
end DN
namespace LW
open PySem PySem.Spec PyProof.Rows L2 DN

def topS (i : Nat) : Stmt := PySem.Challenge.pw_limitsigns_k68_formats.main.body.getD i (.Pass ⟨0, 0, 0, 0⟩)

abbrev s_is_int : Stmt := topS 11
theorem sc_is_int : FnScope ["value", "least", "most"] ["value", "least", "most"] (defScope s_is_int) := ⟨rfl, rfl, rfl, by decide +kernel, rfl, by decide +kernel, by decide +kernel⟩
abbrev s_are_signs : Stmt := topS 12
theorem sc_are_signs : FnScope ["value", "sign"] ["value"] (defScope s_are_signs) := ⟨rfl, rfl, rfl, by decide +kernel, rfl, by decide +kernel, by decide +kernel⟩
abbrev s_is_road : Stmt := topS 13
theorem sc_is_road : FnScope ["value"] ["value"] (defScope s_is_road) := ⟨rfl, rfl, rfl, by decide +kernel, rfl, by decide +kernel, by decide +kernel⟩
abbrev s_is_net : Stmt := topS 14
theorem sc_is_net : FnScope ["candidate", "fast", "slow", "keeps", "roads", "road"] ["candidate"] (defScope s_is_net) := ⟨rfl, rfl, rfl, by decide +kernel, rfl, by decide +kernel, by decide +kernel⟩
abbrev s_check_net : Stmt := topS 15
theorem sc_check_net : FnScope ["value"] ["value"] (defScope s_check_net) := ⟨rfl, rfl, rfl, by decide +kernel, rfl, by decide +kernel, by decide +kernel⟩
abbrev s_check_road : Stmt := topS 16
theorem sc_check_road : FnScope ["net", "value"] ["net", "value"] (defScope s_check_road) := ⟨rfl, rfl, rfl, by decide +kernel, rfl, by decide +kernel, by decide +kernel⟩
abbrev s_find_followers : Stmt := topS 17
theorem sc_find_followers : FnScope ["net", "road", "number", "other"] ["net", "road"] (defScope s_find_followers) := ⟨rfl, rfl, rfl, by decide +kernel, rfl, by decide +kernel, by decide +kernel⟩
abbrev s_find_standing : Stmt := topS 18
theorem sc_find_standing : FnScope ["net", "road"] ["net", "road"] (defScope s_find_standing) := ⟨rfl, rfl, rfl, by decide +kernel, rfl, by decide +kernel, by decide +kernel⟩
abbrev s_pieces : Stmt := topS 20
theorem sc_pieces : FnScope ["net", "road", "state", "rest", "one"] ["net", "road", "state"] (defScope s_pieces) := ⟨rfl, rfl, rfl, by decide +kernel, rfl, by decide +kernel, by decide +kernel⟩
abbrev s_leave : Stmt := topS 21
theorem sc_leave : FnScope ["net", "road", "state", "signs"] ["net", "road", "state"] (defScope s_leave) := ⟨rfl, rfl, rfl, by decide +kernel, rfl, by decide +kernel, by decide +kernel⟩
abbrev s_go_over : Stmt := topS 22
theorem sc_go_over : FnScope ["net", "state"] ["net", "state"] (defScope s_go_over) := ⟨rfl, rfl, rfl, by decide +kernel, rfl, by decide +kernel, by decide +kernel⟩
abbrev s_find_places : Stmt := topS 24
theorem sc_find_places : FnScope ["net", "level", "found", "later", "road", "state", "behind", "other"] ["net"] (defScope s_find_places) := ⟨rfl, rfl, rfl, by decide +kernel, rfl, by decide +kernel, by decide +kernel⟩
abbrev s_find_states : Stmt := topS 25
theorem sc_find_states : FnScope ["net", "road", "other", "state"] ["net", "road"] (defScope s_find_states) := ⟨rfl, rfl, rfl, by decide +kernel, rfl, by decide +kernel, by decide +kernel⟩
abbrev s_find_possible : Stmt := topS 26
theorem sc_find_possible : FnScope ["net", "road", "piece", "state"] ["net", "road", "piece"] (defScope s_find_possible) := ⟨rfl, rfl, rfl, by decide +kernel, rfl, by decide +kernel, by decide +kernel⟩
abbrev s_join_road : Stmt := topS 37
theorem sc_join_road : FnScope ["road", "start", "end", "town", "signs", "text", "sign"] ["road"] (defScope s_join_road) := ⟨rfl, rfl, rfl, by decide +kernel, rfl, by decide +kernel, by decide +kernel⟩
abbrev s_join_net : Stmt := topS 38
theorem sc_join_net : FnScope ["net", "head", "number", "road"] ["net"] (defScope s_join_net) := ⟨rfl, rfl, rfl, by decide +kernel, rfl, by decide +kernel, by decide +kernel⟩
abbrev s_format_net : Stmt := topS 39
theorem sc_format_net : FnScope ["net"] ["net"] (defScope s_format_net) := ⟨rfl, rfl, rfl, by decide +kernel, rfl, by decide +kernel, by decide +kernel⟩
abbrev s_read_int : Stmt := topS 40
theorem sc_read_int : FnScope ["text", "sign"] ["text"] (defScope s_read_int) := ⟨rfl, rfl, rfl, by decide +kernel, rfl, by decide +kernel, by decide +kernel⟩
abbrev s_read_road : Stmt := topS 41
theorem sc_read_road : FnScope ["text", "places", "signs", "start", "dash", "end", "town", "sign"] ["text"] (defScope s_read_road) := ⟨rfl, rfl, rfl, by decide +kernel, rfl, by decide +kernel, by decide +kernel⟩
abbrev s_parse_net : Stmt := topS 42
theorem sc_parse_net : FnScope ["text", "parts", "net", "part"] ["text"] (defScope s_parse_net) := ⟨rfl, rfl, rfl, by decide +kernel, rfl, by decide +kernel, by decide +kernel⟩
abbrev s_board : Stmt := topS 43
theorem sc_board : FnScope ["net", "road", "found", "piece", "limit"] ["net", "road"] (defScope s_board) := ⟨rfl, rfl, rfl, by decide +kernel, rfl, by decide +kernel, by decide +kernel⟩
abbrev s_l_drawn : Stmt := topS 45
theorem sc_l_drawn : FnScope ["script", "k", "many", "cell", "turn", "rest"] ["script", "k", "many"] (defScope s_l_drawn) := ⟨rfl, rfl, rfl, by decide +kernel, rfl, by decide +kernel, by decide +kernel⟩
abbrev s_l_net : Stmt := topS 46
theorem sc_l_net : FnScope ["script", "at", "most", "fast", "slow", "keeps", "roads", "k", "spot", "some", "many", "signs", "town", "n"] ["script", "at", "most"] (defScope s_l_net) := ⟨rfl, rfl, rfl, by decide +kernel, rfl, by decide +kernel, by decide +kernel⟩
abbrev s_l_pieces : Stmt := topS 47
theorem sc_l_pieces : FnScope ["net", "road", "state", "start", "end", "town", "signs", "one"] ["net", "road", "state"] (defScope s_l_pieces) := ⟨rfl, rfl, rfl, by decide +kernel, rfl, by decide +kernel, by decide +kernel⟩
abbrev s_l_behind : Stmt := topS 48
theorem sc_l_behind : FnScope ["net", "road", "state", "signs"] ["net", "road", "state"] (defScope s_l_behind) := ⟨rfl, rfl, rfl, by decide +kernel, rfl, by decide +kernel, by decide +kernel⟩
abbrev s_l_next : Stmt := topS 49
theorem sc_l_next : FnScope ["net", "road", "k"] ["net", "road"] (defScope s_l_next) := ⟨rfl, rfl, rfl, by decide +kernel, rfl, by decide +kernel, by decide +kernel⟩
abbrev s_l_places : Stmt := topS 50
theorem sc_l_places : FnScope ["net", "found", "last", "later", "road", "state", "other"] ["net"] (defScope s_l_places) := ⟨rfl, rfl, rfl, by decide +kernel, rfl, by decide +kernel, by decide +kernel⟩
abbrev s_l_badnet : Stmt := topS 51
theorem sc_l_badnet : FnScope ["script", "at", "road", "bad", "odd"] ["script", "at"] (defScope s_l_badnet) := ⟨rfl, rfl, rfl, by decide +kernel, rfl, by decide +kernel, by decide +kernel⟩
abbrev s_l_text : Stmt := topS 52
theorem sc_l_text : FnScope ["net", "found", "start", "end", "town", "signs", "sign"] ["net"] (defScope s_l_text) := ⟨rfl, rfl, rfl, by decide +kernel, rfl, by decide +kernel, by decide +kernel⟩
abbrev s_l_again : Stmt := topS 53
theorem sc_l_again : FnScope ["text", "e"] ["text"] (defScope s_l_again) := ⟨rfl, rfl, rfl, by decide +kernel, rfl, by decide +kernel, by decide +kernel⟩
abbrev s_l_bad : Stmt := topS 54
theorem sc_l_bad : FnScope ["bad", "one"] [] (defScope s_l_bad) := ⟨rfl, rfl, rfl, by decide +kernel, rfl, by decide +kernel, by decide +kernel⟩
abbrev s_l_refused : Stmt := topS 55
theorem sc_l_refused : FnScope ["way", "one", "two", "e"] ["way", "one", "two"] (defScope s_l_refused) := ⟨rfl, rfl, rfl, by decide +kernel, rfl, by decide +kernel, by decide +kernel⟩
abbrev s_law : Stmt := topS 56
theorem sc_law : FnScope ["script", "net", "text", "places", "road", "rows", "due", "piece", "k", "at", "cut", "sign", "new", "bent", "odd", "bad", "told", "one", "state", "limit", "row"] ["script"] (defScope s_law) := ⟨rfl, rfl, rfl, by decide +kernel, rfl, by decide +kernel, by decide +kernel⟩

abbrev knownX : List Str := ["InvalidNet", "InvalidRoad", "ParseError"]
noncomputable section

structure Fx (K : PySem.W.Frag) (mg : Str → Option Value) where
  f_is_int : Addr
  fd_is_int : FuncData
  F_is_int : Fun K "is_int" "is_int" s_is_int f_is_int fd_is_int
  b_is_int : Binds K fd_is_int ["value", "least", "most"] []
  g_is_int : mg "is_int" = some (.ref f_is_int)
  f_are_signs : Addr
  fd_are_signs : FuncData
  F_are_signs : Fun K "are_signs" "are_signs" s_are_signs f_are_signs fd_are_signs
  b_are_signs : Binds K fd_are_signs ["value"] []
  g_are_signs : mg "are_signs" = some (.ref f_are_signs)
  f_is_road : Addr
  fd_is_road : FuncData
  F_is_road : Fun K "is_road" "is_road" s_is_road f_is_road fd_is_road
  b_is_road : Binds K fd_is_road ["value"] []
  g_is_road : mg "is_road" = some (.ref f_is_road)
  f_is_net : Addr
  fd_is_net : FuncData
  F_is_net : Fun K "is_net" "is_net" s_is_net f_is_net fd_is_net
  b_is_net : Binds K fd_is_net ["candidate"] []
  g_is_net : mg "is_net" = some (.ref f_is_net)
  f_check_net : Addr
  fd_check_net : FuncData
  F_check_net : Fun K "check_net" "check_net" s_check_net f_check_net fd_check_net
  b_check_net : Binds K fd_check_net ["value"] []
  g_check_net : mg "check_net" = some (.ref f_check_net)
  f_check_road : Addr
  fd_check_road : FuncData
  F_check_road : Fun K "check_road" "check_road" s_check_road f_check_road fd_check_road
  b_check_road : Binds K fd_check_road ["net", "value"] []
  g_check_road : mg "check_road" = some (.ref f_check_road)
  f_find_followers : Addr
  fd_find_followers : FuncData
  F_find_followers : Fun K "find_followers" "find_followers" s_find_followers f_find_followers fd_find_followers
  b_find_followers : Binds K fd_find_followers ["net", "road"] []
  g_find_followers : mg "find_followers" = some (.ref f_find_followers)
  f_find_standing : Addr
  fd_find_standing : FuncData
  F_find_standing : Fun K "find_standing" "find_standing" s_find_standing f_find_standing fd_find_standing
  b_find_standing : Binds K fd_find_standing ["net", "road"] []
  g_find_standing : mg "find_standing" = some (.ref f_find_standing)
  f_pieces : Addr
  fd_pieces : FuncData
  F_pieces : Fun K "pieces" "pieces" s_pieces f_pieces fd_pieces
  b_pieces : Binds K fd_pieces ["net", "road", "state"] []
  g_pieces : mg "pieces" = some (.ref f_pieces)
  f_leave : Addr
  fd_leave : FuncData
  F_leave : Fun K "leave" "leave" s_leave f_leave fd_leave
  b_leave : Binds K fd_leave ["net", "road", "state"] []
  g_leave : mg "leave" = some (.ref f_leave)
  f_go_over : Addr
  fd_go_over : FuncData
  F_go_over : Fun K "go_over" "go_over" s_go_over f_go_over fd_go_over
  b_go_over : Binds K fd_go_over ["net", "state"] []
  g_go_over : mg "go_over" = some (.ref f_go_over)
  f_find_places : Addr
  fd_find_places : FuncData
  F_find_places : Fun K "find_places" "find_places" s_find_places f_find_places fd_find_places
  b_find_places : Binds K fd_find_places ["net"] []
  g_find_places : mg "find_places" = some (.ref f_find_places)
  f_find_states : Addr
  fd_find_states : FuncData
  F_find_states : Fun K "find_states" "find_states" s_find_states f_find_states fd_find_states
  b_find_states : Binds K fd_find_states ["net", "road"] []
  g_find_states : mg "find_states" = some (.ref f_find_states)
  f_find_possible : Addr
  fd_find_possible : FuncData
  F_find_possible : Fun K "find_possible" "find_possible" s_find_possible f_find_possible fd_find_possible
  b_find_possible : Binds K fd_find_possible ["net", "road", "piece"] []
  g_find_possible : mg "find_possible" = some (.ref f_find_possible)
  f_join_road : Addr
  fd_join_road : FuncData
  F_join_road : Fun K "join_road" "join_road" s_join_road f_join_road fd_join_road
  b_join_road : Binds K fd_join_road ["road"] []
  g_join_road : mg "join_road" = some (.ref f_join_road)
  f_join_net : Addr
  fd_join_net : FuncData
  F_join_net : Fun K "join_net" "join_net" s_join_net f_join_net fd_join_net
  b_join_net : Binds K fd_join_net ["net"] []
  g_join_net : mg "join_net" = some (.ref f_join_net)
  f_format_net : Addr
  fd_format_net : FuncData
  F_format_net : Fun K "format_net" "format_net" s_format_net f_format_net fd_format_net
  b_format_net : Binds K fd_format_net ["net"] []
  g_format_net : mg "format_net" = some (.ref f_format_net)
  f_read_int : Addr
  fd_read_int : FuncData
  F_read_int : Fun K "read_int" "read_int" s_read_int f_read_int fd_read_int
  b_read_int : Binds K fd_read_int ["text"] []
  g_read_int : mg "read_int" = some (.ref f_read_int)
  f_read_road : Addr
  fd_read_road : FuncData
  F_read_road : Fun K "read_road" "read_road" s_read_road f_read_road fd_read_road
  b_read_road : Binds K fd_read_road ["text"] []
  g_read_road : mg "read_road" = some (.ref f_read_road)
  f_parse_net : Addr
  fd_parse_net : FuncData
  F_parse_net : Fun K "parse_net" "parse_net" s_parse_net f_parse_net fd_parse_net
  b_parse_net : Binds K fd_parse_net ["text"] []
  g_parse_net : mg "parse_net" = some (.ref f_parse_net)
  f_board : Addr
  fd_board : FuncData
  F_board : Fun K "board" "board" s_board f_board fd_board
  b_board : Binds K fd_board ["net", "road"] []
  g_board : mg "board" = some (.ref f_board)
  f_l_drawn : Addr
  fd_l_drawn : FuncData
  F_l_drawn : Fun K "_law_drawn" "_law_drawn" s_l_drawn f_l_drawn fd_l_drawn
  b_l_drawn : Binds K fd_l_drawn ["script", "k", "many"] []
  g_l_drawn : mg "_law_drawn" = some (.ref f_l_drawn)
  f_l_net : Addr
  fd_l_net : FuncData
  F_l_net : Fun K "_law_net" "_law_net" s_l_net f_l_net fd_l_net
  b_l_net : Binds K fd_l_net ["script", "at", "most"] []
  g_l_net : mg "_law_net" = some (.ref f_l_net)
  f_l_pieces : Addr
  fd_l_pieces : FuncData
  F_l_pieces : Fun K "_law_pieces" "_law_pieces" s_l_pieces f_l_pieces fd_l_pieces
  b_l_pieces : Binds K fd_l_pieces ["net", "road", "state"] []
  g_l_pieces : mg "_law_pieces" = some (.ref f_l_pieces)
  f_l_behind : Addr
  fd_l_behind : FuncData
  F_l_behind : Fun K "_law_behind" "_law_behind" s_l_behind f_l_behind fd_l_behind
  b_l_behind : Binds K fd_l_behind ["net", "road", "state"] []
  g_l_behind : mg "_law_behind" = some (.ref f_l_behind)
  f_l_next : Addr
  fd_l_next : FuncData
  F_l_next : Fun K "_law_next" "_law_next" s_l_next f_l_next fd_l_next
  b_l_next : Binds K fd_l_next ["net", "road"] []
  g_l_next : mg "_law_next" = some (.ref f_l_next)
  f_l_places : Addr
  fd_l_places : FuncData
  F_l_places : Fun K "_law_places" "_law_places" s_l_places f_l_places fd_l_places
  b_l_places : Binds K fd_l_places ["net"] []
  g_l_places : mg "_law_places" = some (.ref f_l_places)
  f_l_badnet : Addr
  fd_l_badnet : FuncData
  F_l_badnet : Fun K "_law_badnet" "_law_badnet" s_l_badnet f_l_badnet fd_l_badnet
  b_l_badnet : Binds K fd_l_badnet ["script", "at"] []
  g_l_badnet : mg "_law_badnet" = some (.ref f_l_badnet)
  f_l_text : Addr
  fd_l_text : FuncData
  F_l_text : Fun K "_law_text" "_law_text" s_l_text f_l_text fd_l_text
  b_l_text : Binds K fd_l_text ["net"] []
  g_l_text : mg "_law_text" = some (.ref f_l_text)
  f_l_again : Addr
  fd_l_again : FuncData
  F_l_again : Fun K "_law_again" "_law_again" s_l_again f_l_again fd_l_again
  b_l_again : Binds K fd_l_again ["text"] []
  g_l_again : mg "_law_again" = some (.ref f_l_again)
  f_l_bad : Addr
  fd_l_bad : FuncData
  F_l_bad : Fun K "_law_bad" "_law_bad" s_l_bad f_l_bad fd_l_bad
  b_l_bad : Binds K fd_l_bad [] []
  g_l_bad : mg "_law_bad" = some (.ref f_l_bad)
  f_l_refused : Addr
  fd_l_refused : FuncData
  F_l_refused : Fun K "_law_refused" "_law_refused" s_l_refused f_l_refused fd_l_refused
  b_l_refused : Binds K fd_l_refused ["way", "one", "two"] []
  g_l_refused : mg "_law_refused" = some (.ref f_l_refused)
  f_law : Addr
  fd_law : FuncData
  F_law : Fun K "law" "law" s_law f_law fd_law
  b_law : Binds K fd_law ["script"] []
  g_law : mg "law" = some (.ref f_law)
  m_all : mg "all" = none
  m_bool : mg "bool" = none
  m_enumerate : mg "enumerate" = none
  m_int : mg "int" = none
  m_isinstance : mg "isinstance" = none
  m_len : mg "len" = none
  m_range : mg "range" = none
  m_set : mg "set" = none
  m_sorted : mg "sorted" = none
  m_str : mg "str" = none
  m_tuple : mg "tuple" = none
  c_COLON : ∃ u, mg "COLON" = some (.str ":" u)
  c_DASH : ∃ u, mg "DASH" = some (.str "-" u)
  c_DIGITS : ∃ u, mg "DIGITS" = some (.str "0123456789" u)
  c_HEAD : ∃ u, mg "HEAD" = some (.int 3 u)
  c_MAX_DIGITS : ∃ u, mg "MAX_DIGITS" = some (.int 2 u)
  c_MAX_JUNCTION : ∃ u, mg "MAX_JUNCTION" = some (.int 5 u)
  c_MAX_LIMIT : ∃ u, mg "MAX_LIMIT" = some (.int 13 u)
  c_MAX_ROADS : ∃ u, mg "MAX_ROADS" = some (.int 8 u)
  c_MAX_SIGNS : ∃ u, mg "MAX_SIGNS" = some (.int 3 u)
  c_MIN_FAST : ∃ u, mg "MIN_FAST" = some (.int 5 u)
  c_OR : ∃ u, mg "OR" = some (.str " or " u)
  c_SPACE : ∃ u, mg "SPACE" = some (.str " " u)
  c_TOWN : ∃ u, mg "TOWN" = some (.str "t" u)
  c_UNIT : ∃ u, mg "UNIT" = some (.str "0 km/h" u)
  C_InvalidNet : Addr
  gc_InvalidNet : mg "InvalidNet" = some (.ref C_InvalidNet)
  x_InvalidNet : PySem.W.excIn K C_InvalidNet [.type "ValueError", .type "Exception", .type "BaseException", .type "object"] "ValueError.__new__" = true
  k_InvalidNet : PySem.W.keepIn K (.ref C_InvalidNet) = true
  sb_InvalidNet : PySem.W.subIn K (.ref C_InvalidNet) (.type "BaseException") = some true
  ty_InvalidNet : PySem.W.typeIn K (.ref C_InvalidNet) = some (.type "type")
  C_InvalidRoad : Addr
  gc_InvalidRoad : mg "InvalidRoad" = some (.ref C_InvalidRoad)
  x_InvalidRoad : PySem.W.excIn K C_InvalidRoad [.type "ValueError", .type "Exception", .type "BaseException", .type "object"] "ValueError.__new__" = true
  k_InvalidRoad : PySem.W.keepIn K (.ref C_InvalidRoad) = true
  sb_InvalidRoad : PySem.W.subIn K (.ref C_InvalidRoad) (.type "BaseException") = some true
  ty_InvalidRoad : PySem.W.typeIn K (.ref C_InvalidRoad) = some (.type "type")
  C_ParseError : Addr
  gc_ParseError : mg "ParseError" = some (.ref C_ParseError)
  x_ParseError : PySem.W.excIn K C_ParseError [.type "ValueError", .type "Exception", .type "BaseException", .type "object"] "ValueError.__new__" = true
  k_ParseError : PySem.W.keepIn K (.ref C_ParseError) = true
  sb_ParseError : PySem.W.subIn K (.ref C_ParseError) (.type "BaseException") = some true
  ty_ParseError : PySem.W.typeIn K (.ref C_ParseError) = some (.type "type")
  C_LimitError : Addr
  gc_LimitError : mg "LimitError" = some (.ref C_LimitError)
  ex_LimitError : ∀ c C, c ∈ knownX → mg c = some (.ref C) → PySem.W.exmOne K (.ref C) (.ref C_LimitError) = some true
  ec : ∀ c C, c ∈ knownX → mg c = some (.ref C) → ExcC K C
  kt_InvalidNet : ∀ c C, c ∈ knownX → mg c = some (.ref C) → PySem.W.kitOne K (.ref C) (.ref C_InvalidNet) = some (decide (c = ("InvalidNet" : Str)))
  kt_InvalidRoad : ∀ c C, c ∈ knownX → mg c = some (.ref C) → PySem.W.kitOne K (.ref C) (.ref C_InvalidRoad) = some (decide (c = ("InvalidRoad" : Str)))
  kt_ParseError : ∀ c C, c ∈ knownX → mg c = some (.ref C) → PySem.W.kitOne K (.ref C) (.ref C_ParseError) = some (decide (c = ("ParseError" : Str)))

def g_is_int : Ev → RO := (gRet (fAndV (fUn (isiD "int") (fVar 0)) (fAndV (fNotV (fUn (isiD "bool") (fVar 0))) (fChain opLe opLe (fVar 1) (fVar 0) (fVar 2)))))
abbrev d_is_int : List R → Rs R := denB 3 g_is_int

def are_signs_c1 : Ev → Rs R := fLc [1] (fSeq (fVar 0)) (tName 1) fYes (fCall d_is_int (aCons (fVar 1) (aCons (fC (.int 0)) (aCons (fC (.int 13)) aNil))))
def g_are_signs : Ev → RO := (gSeq (gIf (fOr (fNot (fTest (fUn (isiD "tuple") (fVar 0)))) (fTest (fOp opGt (fBi biLen (fCons (fVar 0) fNil)) (fC (.int 3))))) (gRet (fC (.bool false))) gNext)
  (gRet (fBi biAll (fCons are_signs_c1 fNil))))
abbrev d_are_signs : List R → Rs R := denB 2 g_are_signs

def g_is_road : Ev → RO := (gSeq (gIf (fOr (fNot (fTest (fUn (isiD "tuple") (fVar 0)))) (fOr (fTest (fOp opNe (fBi biLen (fCons (fVar 0) fNil)) (fC (.int 4)))) (fNot (fTest (fCall d_are_signs (aCons (fOp opIx (fVar 0) (fC (.int 3))) aNil)))))) (gRet (fC (.bool false))) gNext)
  (gRet (fAndV (fCall d_is_int (aCons (fOp opIx (fVar 0) (fC (.int 0))) (aCons (fC (.int 0)) (aCons (fC (.int 5)) aNil)))) (fAndV (fCall d_is_int (aCons (fOp opIx (fVar 0) (fC (.int 1))) (aCons (fC (.int 0)) (aCons (fC (.int 5)) aNil)))) (fCall d_is_int (aCons (fOp opIx (fVar 0) (fC (.int 2))) (aCons (fC (.int 0)) (aCons (fC (.int 1)) aNil))))))))
abbrev d_is_road : List R → Rs R := denB 1 g_is_road

def is_net_c1 : Ev → Rs R := fLc [5] (fSeq (fVar 4)) (tName 5) fYes (fCall d_is_road (aCons (fVar 5) aNil))
def g_is_net : Ev → RO := (gSeq (gIf (fOr (fNot (fTest (fUn (isiD "tuple") (fVar 0)))) (fOr (fTest (fOp opNe (fBi biLen (fCons (fVar 0) fNil)) (fC (.int 4)))) (fNot (fTest (fCall d_is_int (aCons (fOp opIx (fVar 0) (fC (.int 0))) (aCons (fC (.int 5)) (aCons (fC (.int 13)) aNil)))))))) (gRet (fC (.bool false))) gNext)
  (gSeq (gAsgT (tTupl (tsCons (tName 1) (tsCons (tName 2) (tsCons (tName 3) (tsCons (tName 4) tsNil))))) (fVar 0))
  (gSeq (gIf (fOr (fNot (fTest (fCall d_is_int (aCons (fVar 2) (aCons (fC (.int 1)) (aCons (fVar 1) aNil)))))) (fNot (fTest (fCall d_is_int (aCons (fVar 3) (aCons (fC (.int 0)) (aCons (fC (.int 1)) aNil))))))) (gRet (fC (.bool false))) gNext)
  (gRet (fAndV (fUn (isiD "tuple") (fVar 4)) (fAndV (fChain opLe opLe (fC (.int 1)) (fBi biLen (fCons (fVar 4) fNil)) (fC (.int 8))) (fBi biAll (fCons is_net_c1 fNil))))))))
abbrev d_is_net : List R → Rs R := denB 6 g_is_net

def g_check_net : Ev → RO := (gIf (fNot (fTest (fCall d_is_net (aCons (fVar 0) aNil)))) (fun ρ => .exc "InvalidNet" ρ) gNext)
abbrev d_check_net : List R → Rs R := denB 1 g_check_net

def g_check_road : Ev → RO := (gSeq (gDrop (fCall d_check_net (aCons (fVar 0) aNil)))
  (gIf (fNot (fTest (fCall d_is_int (aCons (fVar 1) (aCons (fC (.int 0)) (aCons (fOp opSub (fBi biLen (fCons (fOp opIx (fVar 0) (fC (.int 3))) fNil)) (fC (.int 1))) aNil)))))) (fun ρ => .exc "InvalidRoad" ρ) gNext))
abbrev d_check_road : List R → Rs R := denB 2 g_check_road

def find_followers_c1 : Ev → Rs R := fLc [2, 3] (fEnum (fOp opIx (fVar 0) (fC (.int 3)))) (tTupl (tsCons (tName 2) (tsCons (tName 3) tsNil))) (fTest (fOp opEq (fOp opIx (fVar 3) (fC (.int 0))) (fOp opIx (fOp opIx (fOp opIx (fVar 0) (fC (.int 3))) (fVar 1)) (fC (.int 1))))) (fVar 2)
def g_find_followers : Ev → RO := (gRet find_followers_c1)
abbrev d_find_followers : List R → Rs R := denB 4 g_find_followers

def g_find_standing : Ev → RO := (gRet (fIf (fTest (fOp opEq (fOp opIx (fOp opIx (fOp opIx (fVar 0) (fC (.int 3))) (fVar 1)) (fC (.int 2))) (fC (.int 1)))) (fOp opIx (fVar 0) (fC (.int 1))) (fOp opIx (fVar 0) (fC (.int 0)))))
abbrev d_find_standing : List R → Rs R := denB 2 g_find_standing

def pieces_c1 : Ev → Rs R := fLc [4] (fSeq (fOp opAdd (fTup (fCons (fVar 2) fNil)) (fOp opIx (fOp opIx (fOp opIx (fVar 0) (fC (.int 3))) (fVar 1)) (fC (.int 3))))) (tName 4) fYes (fIf (fTest (fOp opGt (fVar 4) (fC (.int 0)))) (fVar 4) (fVar 3))
def g_pieces : Ev → RO := (gSeq (gAsgF 3 (fCall d_find_standing (aCons (fVar 0) (aCons (fVar 1) aNil))))
  (gRet pieces_c1))
abbrev d_pieces : List R → Rs R := denB 5 g_pieces

def g_leave : Ev → RO := (gSeq (gAsgF 3 (fOp opIx (fOp opIx (fOp opIx (fVar 0) (fC (.int 3))) (fVar 1)) (fC (.int 3))))
  (gRet (fIf (fTest (fOp opNe (fVar 3) (fTup fNil))) (fOp opIx (fVar 3) (fUn opNeg (fC (.int 1)))) (fVar 2))))
abbrev d_leave : List R → Rs R := denB 4 g_leave

def g_go_over : Ev → RO := (gRet (fIf (fTest (fOp opEq (fOp opIx (fVar 0) (fC (.int 2))) (fC (.int 1)))) (fVar 1) (fC (.int 0))))
abbrev d_go_over : List R → Rs R := denB 2 g_go_over

def find_places_c1 : Ev → Rs R := fLc [4] (fRg1 (fBi biLen (fCons (fOp opIx (fVar 0) (fC (.int 3))) fNil))) (tName 4) fYes (fTup (fCons (fVar 4) (fCons (fC (.int 0)) fNil)))
def find_places_c2 : Ev → Rs R := fLc [7] (fSeq (fCall d_find_followers (aCons (fVar 0) (aCons (fVar 4) aNil)))) (tName 7) fYes (fTup (fCons (fVar 7) (fCons (fVar 6) fNil)))
def find_places_b1 : Ev → RO := (gIf (fTest (fDNinT 2 (fTup (fCons (fVar 4) (fCons (fVar 5) fNil))))) (gSeq (gDputT 2 (fTup (fCons (fVar 4) (fCons (fVar 5) fNil))) (fC (.bool true)))
  (gSeq (gAsgF 6 (fCall d_go_over (aCons (fVar 0) (aCons (fCall d_leave (aCons (fVar 0) (aCons (fVar 4) (aCons (fVar 5) aNil)))) aNil))))
  (gExt 3 find_places_c2))) gNext)
def find_places_b2 : Ev → RO := (gSeq (gAsg 3 (fLst fNil))
  (gSeq (gFor (fSeq (fVar 1)) (tTupl (tsCons (tName 4) (tsCons (tName 5) tsNil))) find_places_b1)
  (fun ρ => (gAsgF 1 (fVar 3)) (frzAt 3 ρ))))
def find_places_t1 : Ev → Rs Bool := (fTest (fOp opNe (fVar 1) (fLst fNil)))
def g_find_places : Ev → RO := (gSeq (gAsgF 1 find_places_c1)
  (gSeq (gAsg 2 fDnewT)
  (gSeq (gWhile find_places_t1 find_places_b2)
  (gRet (fSortedDT 2)))))
abbrev d_find_places : List R → Rs R := denB 8 g_find_places

def find_states_c1 : Ev → Rs R := fLc [2, 3] (fSeq (fCall d_find_places (aCons (fVar 0) aNil))) (tTupl (tsCons (tName 2) (tsCons (tName 3) tsNil))) (fTest (fOp opEq (fVar 2) (fVar 1))) (fVar 3)
def g_find_states : Ev → RO := (gRet find_states_c1)
abbrev d_find_states : List R → Rs R := denB 4 g_find_states

def find_possible_c1 : Ev → Rs R := fLc [3] (fSeq (fCall d_find_states (aCons (fVar 0) (aCons (fVar 1) aNil)))) (tName 3) fYes (fOp opIx (fCall d_pieces (aCons (fVar 0) (aCons (fVar 1) (aCons (fVar 3) aNil)))) (fVar 2))
def g_find_possible : Ev → RO := (gRet (fUn setSortedD find_possible_c1))
abbrev d_find_possible : List R → Rs R := denB 4 g_find_possible

def join_road_c1 : Ev → Rs R := fLc [6] (fSeq (fVar 4)) (tName 6) fYes (fOp opAdd (fC (.str ":")) (fBi biStr (fCons (fVar 6) fNil)))
def g_join_road : Ev → RO := (gSeq (gAsgT (tTupl (tsCons (tName 1) (tsCons (tName 2) (tsCons (tName 3) (tsCons (tName 4) tsNil))))) (fVar 0))
  (gSeq (gAsgF 5 (fOp opAdd (fOp opAdd (fOp opAdd (fBi biStr (fCons (fVar 1) fNil)) (fC (.str "-"))) (fBi biStr (fCons (fVar 2) fNil))) (fIf (fTest (fOp opEq (fVar 3) (fC (.int 1)))) (fC (.str "t")) (fC (.str "")))))
  (gRet (fOp opAdd (fVar 5) (fM1 opJoin (fC (.str "")) join_road_c1)))))
abbrev d_join_road : List R → Rs R := denB 7 g_join_road

def join_net_c1 : Ev → Rs R := fLc [2] (fSeq (fSl (fVar 0) fNo (fPart (fC (.int 3))))) (tName 2) fYes (fBi biStr (fCons (fVar 2) fNil))
def join_net_c2 : Ev → Rs R := fLc [3] (fSeq (fOp opIx (fVar 0) (fC (.int 3)))) (tName 3) fYes (fCall d_join_road (aCons (fVar 3) aNil))
def g_join_net : Ev → RO := (gSeq (gAsgF 1 join_net_c1)
  (gRet (fM1 opJoin (fC (.str " ")) (fOp opAdd (fVar 1) join_net_c2))))
abbrev d_join_net : List R → Rs R := denB 4 g_join_net

def g_format_net : Ev → RO := (gSeq (gDrop (fCall d_check_net (aCons (fVar 0) aNil)))
  (gRet (fCall d_join_net (aCons (fVar 0) aNil))))
abbrev d_format_net : List R → Rs R := denB 1 g_format_net

def read_int_c1 : Ev → Rs R := fLc [1] (fStr (fVar 0)) (tName 1) fYes (fOp opIn (fVar 1) (fC (.str "0123456789")))
def g_read_int : Ev → RO := (gSeq (gIf (fOr (fNot (fTest (fChain opLe opLe (fC (.int 1)) (fBi biLen (fCons (fVar 0) fNil)) (fC (.int 2))))) (fNot (fTest (fBi biAll (fCons read_int_c1 fNil))))) (gRet (fC .none)) gNext)
  (gRet (fBi biIntS (fCons (fVar 0) fNil))))
abbrev d_read_int : List R → Rs R := denB 2 g_read_int

def read_road_c1 : Ev → Rs R := fLc [7] (fSeq (fVar 2)) (tName 7) fYes (fCall d_read_int (aCons (fVar 7) aNil))
def g_read_road : Ev → RO := (gSeq (gPar 1 2 false false (fOp opIx (fM1 opSplit (fVar 0) (fC (.str ":"))) (fC (.int 0))) (fSl (fM1 opSplit (fVar 0) (fC (.str ":"))) (fPart (fC (.int 1))) fNo))
  (gSeq (gAsgT (tTupl (tsCons (tName 3) (tsCons (tName 4) (tsCons (tName 5) tsNil)))) (fM1 opPartition (fVar 1) (fC (.str "-"))))
  (gSeq (gAsgF 6 (fIf (fTest (fM1 opEndswith (fVar 5) (fC (.str "t")))) (fC (.int 1)) (fC (.int 0))))
  (gSeq (gAsgF 5 (fIf (fTest (fOp opEq (fVar 6) (fC (.int 1)))) (fSl (fVar 5) fNo (fPart (fUn opNeg (fC (.int 1))))) (fVar 5)))
  (gRet (fTup (fCons (fCall d_read_int (aCons (fVar 3) aNil)) (fCons (fCall d_read_int (aCons (fVar 5) aNil)) (fCons (fVar 6) (fCons (fBi biTuple (fCons read_road_c1 fNil)) fNil))))))))))
abbrev d_read_road : List R → Rs R := denB 8 g_read_road

def parse_net_c1 : Ev → Rs R := fLc [3] (fSeq (fSl (fVar 1) fNo (fPart (fC (.int 3))))) (tName 3) fYes (fCall d_read_int (aCons (fVar 3) aNil))
def parse_net_c2 : Ev → Rs R := fLc [3] (fSeq (fSl (fVar 1) (fPart (fC (.int 3))) fNo)) (tName 3) fYes (fCall d_read_road (aCons (fVar 3) aNil))
def g_parse_net : Ev → RO := (gSeq (gIf (fNot (fTest (fUn (isiD "str") (fVar 0)))) (fun ρ => .exc "ParseError" ρ) gNext)
  (gSeq (gAsgF 1 (fM1 opSplit (fVar 0) (fC (.str " "))))
  (gSeq (gAsgF 2 (fOp opAdd (fBi biTuple (fCons parse_net_c1 fNil)) (fTup (fCons (fBi biTuple (fCons parse_net_c2 fNil)) fNil))))
  (gSeq (gIf (fOr (fNot (fTest (fCall d_is_net (aCons (fVar 2) aNil)))) (fTest (fOp opNe (fCall d_join_net (aCons (fVar 2) aNil)) (fVar 0)))) (fun ρ => .exc "ParseError" ρ) gNext)
  (gRetV 2)))))
abbrev d_parse_net : List R → Rs R := denB 4 g_parse_net

def board_c1 : Ev → Rs R := fLc [4] (fSeq (fCall d_find_possible (aCons (fVar 0) (aCons (fVar 1) (aCons (fVar 3) aNil))))) (tName 4) fYes (fOp opAdd (fBi biStr (fCons (fVar 4) fNil)) (fC (.str "0 km/h")))
def board_b1 : Ev → RO := (gApp 2 (fM1 opJoin (fC (.str " or ")) board_c1))
def g_board : Ev → RO := (gSeq (gDrop (fCall d_check_road (aCons (fVar 0) (aCons (fVar 1) aNil))))
  (gSeq (gAsg 2 (fLst fNil))
  (gSeq (gFor (fRg1 (fOp opAdd (fBi biLen (fCons (fOp opIx (fOp opIx (fOp opIx (fVar 0) (fC (.int 3))) (fVar 1)) (fC (.int 3))) fNil)) (fC (.int 1)))) (tName 3) board_b1)
  (gRetV 2))))
abbrev d_board : List R → Rs R := denB 5 g_board

def l_drawn_b1 : Ev → RO := (gSeq (gAsgF 5 (fOp opDiv (fVar 5) (fC (.int 1000000))))
  (gAsgF 4 (fOp opSub (fVar 4) (fC (.int 1)))))
def l_drawn_t1 : Ev → Rs Bool := (fAnd (fTest (fOp opGt (fVar 5) (fC (.int 0)))) (fTest (fOp opGt (fVar 4) (fC (.int 0)))))
def g_l_drawn : Ev → RO := (gSeq (gAsgF 3 (fOp opMulI (fC (.int 7)) (fVar 1)))
  (gSeq (gIf (fSne 0) (gSeq (gAsgF 3 (fSix 0 (fOp opMod (fVar 1) (fSlen 0))))
  (gSeq (gAsgF 4 (fOp opDiv (fVar 1) (fSlen 0)))
  (gSeq (gIf (fAnd (fTest (fOp opGe (fVar 3) (fOp opPow (fC (.int 10)) (fC (.int 18))))) (fTest (fOp opLt (fVar 4) (fC (.int 60))))) (gSeq (gAsgF 5 (fOp opDiv (fVar 3) (fOp opPow (fC (.int 10)) (fC (.int 18)))))
  (gSeq (gWhile l_drawn_t1 l_drawn_b1)
  (gIf (fTest (fOp opGt (fVar 5) (fC (.int 0)))) (gRet (fOp opMod (fOp opMod (fVar 5) (fC (.int 1000000))) (fVar 2))) gNext))) gNext)
  (gAsgF 3 (fOp opAdd (fVar 3) (fOp opMulI (fC (.int 6553)) (fOp opDiv (fVar 1) (fSlen 0)))))))) gNext)
  (gSeq (gAsgF 3 (fOp opMod (fOp opAdd (fOp opMulI (fOp opMod (fVar 3) (fC (.int 2147483563))) (fC (.int 69069))) (fOp opMulI (fC (.int 104723)) (fOp opAdd (fVar 1) (fC (.int 1))))) (fC (.int 2147483563))))
  (gSeq (gAsgF 3 (fOp opMod (fOp opAdd (fOp opMulI (fVar 3) (fVar 3)) (fOp opDiv (fVar 3) (fC (.int 3)))) (fC (.int 2147483399))))
  (gRet (fOp opMod (fOp opDiv (fOp opMod (fOp opAdd (fOp opMulI (fVar 3) (fVar 3)) (fOp opDiv (fVar 3) (fC (.int 7)))) (fC (.int 2147483647))) (fC (.int 11))) (fVar 2)))))))
abbrev d_l_drawn : List R → Rs R := denB 6 g_l_drawn

def l_net_c1 : Ev → Rs R := fLc [13] (fRg1 (fC (.int 3))) (tName 13) fYes (fLst (fCons (fC (.int 0)) (fCons (fC (.int 0)) (fCons (fVar 3) (fCons (fVar 4) (fCons (fC (.int 7)) (fCons (fCall d_l_drawn (aCons (fVar 0) (aCons (fOp opAdd (fOp opAdd (fVar 8) (fC (.int 3))) (fVar 13)) (aCons (fC (.int 14)) aNil)))) fNil)))))))
def l_net_c2 : Ev → Rs R := fLc [13] (fRg1 (fVar 10)) (tName 13) fYes (fOp opIx (fOp opIx (fVar 9) (fVar 13)) (fCall d_l_drawn (aCons (fVar 0) (aCons (fOp opAdd (fOp opAdd (fVar 8) (fC (.int 2))) (fVar 13)) (aCons (fC (.int 6)) aNil)))))
def l_net_b1 : Ev → RO := (gSeq (gAsgF 8 (fOp opAdd (fOp opAdd (fVar 1) (fC (.int 4))) (fOp opMulI (fC (.int 7)) (fVar 7))))
  (gSeq (gAsgF 9 l_net_c1)
  (gSeq (gAsgF 10 (fOp opIx (fLst (fCons (fC (.int 0)) (fCons (fC (.int 1)) (fCons (fC (.int 0)) (fCons (fC (.int 2)) (fCons (fC (.int 3)) fNil)))))) (fCall d_l_drawn (aCons (fVar 0) (aCons (fOp opAdd (fVar 8) (fC (.int 6))) (aCons (fC (.int 5)) aNil))))))
  (gSeq (gAsgF 11 (fBi biTuple (fCons l_net_c2 fNil)))
  (gSeq (gAsgF 12 (fOp opIx (fLst (fCons (fC (.int 0)) (fCons (fC (.int 0)) (fCons (fC (.int 1)) fNil)))) (fCall d_l_drawn (aCons (fVar 0) (aCons (fOp opAdd (fVar 8) (fC (.int 5))) (aCons (fC (.int 3)) aNil))))))
  (gApp 6 (fTup (fCons (fCall d_l_drawn (aCons (fVar 0) (aCons (fVar 8) (aCons (fC (.int 4)) aNil)))) (fCons (fCall d_l_drawn (aCons (fVar 0) (aCons (fOp opAdd (fVar 8) (fC (.int 1))) (aCons (fC (.int 4)) aNil)))) (fCons (fVar 12) (fCons (fVar 11) fNil)))))))))))
def g_l_net : Ev → RO := (gSeq (gAsgF 3 (fOp opAdd (fC (.int 5)) (fCall d_l_drawn (aCons (fVar 0) (aCons (fVar 1) (aCons (fC (.int 9)) aNil))))))
  (gSeq (gPar3 4 5 6 false false true (fOp opAdd (fC (.int 1)) (fCall d_l_drawn (aCons (fVar 0) (aCons (fOp opAdd (fVar 1) (fC (.int 1))) (aCons (fVar 3) aNil))))) (fOp opIx (fLst (fCons (fC (.int 1)) (fCons (fC (.int 1)) (fCons (fC (.int 0)) fNil)))) (fCall d_l_drawn (aCons (fVar 0) (aCons (fOp opAdd (fVar 1) (fC (.int 2))) (aCons (fC (.int 3)) aNil))))) (fLst fNil))
  (gSeq (gFor (fRg1 (fOp opAdd (fC (.int 1)) (fCall d_l_drawn (aCons (fVar 0) (aCons (fOp opAdd (fVar 1) (fC (.int 3))) (aCons (fVar 2) aNil)))))) (tName 7) l_net_b1)
  (fun ρ => (gRet (fTup (fCons (fVar 3) (fCons (fVar 4) (fCons (fVar 5) (fCons (fBi biTuple (fCons (fVar 6) fNil)) fNil)))))) (frzAt 6 ρ)))))
abbrev d_l_net : List R → Rs R := denB 14 g_l_net

def l_pieces_c1 : Ev → Rs R := fLc [7] (fSeq (fOp opAdd (fTup (fCons (fVar 2) fNil)) (fVar 6))) (tName 7) fYes (fIf (fTest (fOp opGt (fVar 7) (fC (.int 0)))) (fVar 7) (fIf (fTest (fOp opEq (fVar 5) (fC (.int 1)))) (fOp opIx (fVar 0) (fC (.int 1))) (fOp opIx (fVar 0) (fC (.int 0)))))
def g_l_pieces : Ev → RO := (gSeq (gAsgT (tTupl (tsCons (tName 3) (tsCons (tName 4) (tsCons (tName 5) (tsCons (tName 6) tsNil))))) (fOp opIx (fOp opIx (fVar 0) (fC (.int 3))) (fVar 1)))
  (gRet l_pieces_c1))
abbrev d_l_pieces : List R → Rs R := denB 8 g_l_pieces

def g_l_behind : Ev → RO := (gSeq (gAsgF 3 (fOp opIx (fOp opIx (fOp opIx (fVar 0) (fC (.int 3))) (fVar 1)) (fC (.int 3))))
  (gRet (fOp opMulI (fIf (fTest (fOp opNe (fVar 3) (fTup fNil))) (fOp opIx (fVar 3) (fUn opNeg (fC (.int 1)))) (fVar 2)) (fOp opIx (fVar 0) (fC (.int 2))))))
abbrev d_l_behind : List R → Rs R := denB 4 g_l_behind

def l_next_c1 : Ev → Rs R := fLc [2] (fRg1 (fBi biLen (fCons (fOp opIx (fVar 0) (fC (.int 3))) fNil))) (tName 2) (fTest (fOp opEq (fOp opIx (fOp opIx (fOp opIx (fVar 0) (fC (.int 3))) (fVar 2)) (fC (.int 0))) (fOp opIx (fOp opIx (fOp opIx (fVar 0) (fC (.int 3))) (fVar 1)) (fC (.int 1))))) (fVar 2)
def g_l_next : Ev → RO := (gRet l_next_c1)
abbrev d_l_next : List R → Rs R := denB 3 g_l_next

def l_places_c1 : Ev → Rs R := fLc [4] (fRg1 (fBi biLen (fCons (fOp opIx (fVar 0) (fC (.int 3))) fNil))) (tName 4) fYes (fTup (fCons (fVar 4) (fCons (fC (.int 0)) fNil)))
def l_places_c2 : Ev → Rs R := fLc [6] (fSeq (fCall d_l_next (aCons (fVar 0) (aCons (fVar 4) aNil)))) (tName 6) fYes (fTup (fCons (fVar 6) (fCons (fCall d_l_behind (aCons (fVar 0) (aCons (fVar 4) (aCons (fVar 5) aNil)))) fNil)))
def l_places_b1 : Ev → RO := (gIf (fTest (fONin 1 (fTup (fCons (fVar 4) (fCons (fVar 5) fNil))))) (gSeq (gApp 1 (fTup (fCons (fVar 4) (fCons (fVar 5) fNil))))
  (gAsgF 3 (fOp opAdd (fVar 3) l_places_c2))) gNext)
def l_places_b2 : Ev → RO := (gSeq (gAsgF 3 (fLst fNil))
  (gSeq (gFor (fSeq (fVar 2)) (tTupl (tsCons (tName 4) (tsCons (tName 5) tsNil))) l_places_b1)
  (gAsgF 2 (fVar 3))))
def l_places_t1 : Ev → Rs Bool := (fTest (fOp opNe (fVar 2) (fLst fNil)))
def g_l_places : Ev → RO := (gSeq (gPar 1 2 true false (fLst fNil) l_places_c1)
  (gSeq (gWhile l_places_t1 l_places_b2)
  (fun ρ => (gRet (fBi biSorted (fCons (fVar 1) fNil))) (frzAt 1 ρ))))
abbrev d_l_places : List R → Rs R := denB 7 g_l_places

def l_badnet_b1 : Ev → RO := (gApp 3 (fTup (fCons (fC (.int 10)) (fCons (fC (.int 5)) (fCons (fC (.int 1)) (fCons (fTup (fCons (fVar 4) fNil)) fNil))))))
def g_l_badnet : Ev → RO := (gSeq (gAsgF 2 (fTup (fCons (fC (.int 0)) (fCons (fC (.int 1)) (fCons (fC (.int 0)) (fCons (fTup fNil) fNil))))))
  (gSeq (gAsg 3 (fLst (fCons (fC .none) (fCons (fTup fNil) (fCons (fTup (fCons (fC (.int 10)) (fCons (fC (.int 5)) (fCons (fC (.int 1)) (fCons (fTup fNil) fNil))))) (fCons (fTup (fCons (fC (.int 4)) (fCons (fC (.int 3)) (fCons (fC (.int 1)) (fCons (fTup (fCons (fVar 2) fNil)) fNil))))) (fCons (fTup (fCons (fC (.int 10)) (fCons (fC (.int 11)) (fCons (fC (.int 1)) (fCons (fTup (fCons (fVar 2) fNil)) fNil))))) fNil)))))))
  (gSeq (fun ρ => (gAsg 3 (fOp opAdd (fVar 3) (fLst (fCons (fTup (fCons (fC (.int 10)) (fCons (fC (.int 5)) (fCons (fC (.int 2)) (fCons (fTup (fCons (fVar 2) fNil)) fNil))))) (fCons (fTup (fCons (fC (.int 10)) (fCons (fC (.int 5)) (fCons (fC (.int 1)) (fCons (fOp opRepT (fTup (fCons (fVar 2) fNil)) (fC (.int 9))) fNil))))) fNil))))) (frzAt 3 ρ))
  (gSeq (fun ρ => (gAsg 3 (fOp opAdd (fVar 3) (fLst (fCons (fLst (fCons (fC (.int 10)) (fCons (fC (.int 5)) (fCons (fC (.int 1)) (fCons (fTup (fCons (fVar 2) fNil)) fNil))))) (fCons (fTup (fCons (fC (.int 10)) (fCons (fC (.int 5)) (fCons (fC (.int 1)) (fCons (fLst (fCons (fVar 2) fNil)) fNil))))) (fCons (fTup (fCons (fC (.bool true)) (fCons (fC (.int 1)) (fCons (fC (.int 1)) (fCons (fTup (fCons (fVar 2) fNil)) fNil))))) fNil)))))) (frzAt 3 ρ))
  (gSeq (fun ρ => (gAsg 3 (fOp opAdd (fVar 3) (fLst (fCons (fTup (fCons (fC (.int 10)) (fCons (fC (.int 5)) (fCons (fC (.int 1)) (fCons (fTup (fCons (fTup (fCons (fC (.int 0)) (fCons (fC (.int 1)) (fCons (fC (.int 0)) fNil)))) fNil)) fNil))))) fNil)))) (frzAt 3 ρ))
  (gSeq (gFor (fSeq (fTup (fCons (fTup (fCons (fC (.int 6)) (fCons (fC (.int 1)) (fCons (fC (.int 0)) (fCons (fTup fNil) fNil))))) (fCons (fTup (fCons (fC (.int 0)) (fCons (fC (.int 1)) (fCons (fC (.int 2)) (fCons (fTup fNil) fNil))))) (fCons (fTup (fCons (fC (.int 0)) (fCons (fC (.int 1)) (fCons (fC (.int 0)) (fCons (fTup (fCons (fC (.int 14)) fNil)) fNil))))) (fCons (fTup (fCons (fC (.int 0)) (fCons (fC (.int 1)) (fCons (fC (.int 0)) (fCons (fTup (fCons (fC (.int 1)) (fCons (fC (.int 2)) (fCons (fC (.int 3)) (fCons (fC (.int 4)) fNil))))) fNil))))) (fCons (fTup (fCons (fC (.int 0)) (fCons (fC (.int 1)) (fCons (fC (.int 0)) (fCons (fLst (fCons (fC (.int 1)) fNil)) fNil))))) fNil))))))) (tName 4) l_badnet_b1)
  (gRet (fOix 3 (fCall d_l_drawn (aCons (fVar 0) (aCons (fVar 1) (aCons (fC (.int 16)) aNil))))))))))))
abbrev d_l_badnet : List R → Rs R := denB 5 g_l_badnet

def l_text_c1 : Ev → Rs R := fLc [6] (fSeq (fVar 5)) (tName 6) fYes (fOp opAdd (fC (.str ":")) (fBi biStr (fCons (fVar 6) fNil)))
def l_text_b1 : Ev → RO := (gApp 1 (fOp opAdd (fOp opAdd (fOp opAdd (fOp opAdd (fBi biStr (fCons (fVar 2) fNil)) (fC (.str "-"))) (fBi biStr (fCons (fVar 3) fNil))) (fOp opIx (fLst (fCons (fC (.str "")) (fCons (fC (.str "t")) fNil))) (fVar 4))) (fM1 opJoin (fC (.str "")) l_text_c1)))
def g_l_text : Ev → RO := (gSeq (gAsg 1 (fLst (fCons (fBi biStr (fCons (fOp opIx (fVar 0) (fC (.int 0))) fNil)) (fCons (fBi biStr (fCons (fOp opIx (fVar 0) (fC (.int 1))) fNil)) (fCons (fBi biStr (fCons (fOp opIx (fVar 0) (fC (.int 2))) fNil)) fNil)))))
  (gSeq (gFor (fSeq (fOp opIx (fVar 0) (fC (.int 3)))) (tTupl (tsCons (tName 2) (tsCons (tName 3) (tsCons (tName 4) (tsCons (tName 5) tsNil))))) l_text_b1)
  (fun ρ => (gRet (fM1 opJoin (fC (.str " ")) (fVar 1))) (frzAt 1 ρ))))
abbrev d_l_text : List R → Rs R := denB 7 g_l_text

def l_again_b1 : Ev → RO := (gRet (fCall d_l_text (aCons (fCall d_parse_net (aCons (fVar 0) aNil)) aNil)))
def l_again_h1 : Str → Addr → Ev → RO := fun c a => (gRet (fIf (fTest (fIsE a 1 (decide (c = ("ParseError" : Str))))) (fC .none) (fC (.str "another exception"))))
def g_l_again : Ev → RO := (gTry knownX 1 l_again_b1 l_again_h1)
abbrev d_l_again : List R → Rs R := denB 2 g_l_again

def l_bad_c1 : Ev → Rs R := fLc [1] (fSeq (fVar 0)) (tName 1) (fTest (fOp opIsNot (fCall d_l_again (aCons (fVar 1) aNil)) (fC .none))) (fVar 1)
def g_l_bad : Ev → RO := (gSeq (gAsgF 0 (fLst (fCons (fC .none) (fCons (fC (.int 7)) (fCons (fC (.str "")) (fCons (fC (.str "10 5 1")) (fCons (fC (.str "10 5 1 ")) (fCons (fC (.str "10 5 1 0-1 ")) (fCons (fC (.str " 10 5 1 0-1")) (fCons (fC (.str "10  5 1 0-1")) fNil))))))))))
  (gSeq (gAsgF 0 (fOp opAdd (fVar 0) (fLst (fCons (fC (.str "4 3 1 0-1")) (fCons (fC (.str "10 11 1 0-1")) (fCons (fC (.str "10 5 2 0-1")) (fCons (fC (.str "10 5 1 6-1")) fNil)))))))
  (gSeq (gAsgF 0 (fOp opAdd (fVar 0) (fLst (fCons (fC (.str "10 5 1 0-1:14")) (fCons (fC (.str "10 5 1 0-1:")) (fCons (fC (.str "10 5 1 0-1:01")) (fCons (fC (.str "10 5 1 0-1tt")) (fCons (fC (.str "10 5 1 0-1:7t")) fNil))))))))
  (gSeq (gAsgF 0 (fOp opAdd (fVar 0) (fLst (fCons (fC (.str "10 5 1 01")) (fCons (fC (.str "10 5 1 0_1")) (fCons (fC (.str "010 5 1 0-1")) fNil))))))
  (gSeq (gAsgF 0 (fOp opAdd (fVar 0) (fLst (fCons (fTup (fCons (fC (.str "10 5 1 0-1")) fNil)) (fCons (fC (.str "10 5 1 0-1:1:2:3:4")) (fCons (fC (.str "10 5 1 0-1,1-2")) (fCons (fC (.str "10 5 1 00-1")) fNil)))))))
  (gSeq (gAsgF 0 (fOp opAdd (fVar 0) (fLst (fCons (fC (.str "10 5 1 -1")) (fCons (fC (.str "10 5 1 0-")) (fCons (fC (.str "x 5 1 0-1")) (fCons (fC (.str "10 5 1 0-1\n")) fNil)))))))
  (gSeq (gIf (fNot (fTest (fOp opEq l_bad_c1 (fLst fNil)))) (gRet (fC (.bool false))) gNext)
  (gRet (fOp opIs (fCall d_l_again (aCons (fOp opAdd (fC (.str "10 5 1")) (fOp opRepS (fC (.str " 0-1")) (fC (.int 9)))) aNil)) (fC .none))))))))))
abbrev d_l_bad : List R → Rs R := denB 2 g_l_bad

def l_refused_b1 : Ev → RO := (gIf (fTest (fOp opEq (fVar 0) (fC (.int 0)))) (gDrop (fCall d_format_net (aCons (fVar 1) aNil))) (gDrop (fCall d_board (aCons (fVar 1) (aCons (fVar 2) aNil)))))
def l_refused_h1 : Str → Addr → Ev → RO := fun c a => (gRet (fUn idxT (fLst (fCons (fIsE a 3 (decide (c = ("InvalidNet" : Str)))) (fCons (fIsE a 3 (decide (c = ("InvalidRoad" : Str)))) fNil)))))
def g_l_refused : Ev → RO := (gSeq (gTry knownX 3 l_refused_b1 l_refused_h1)
  (gRet (fC .none)))
abbrev d_l_refused : List R → Rs R := denB 4 g_l_refused

def law_c1 : Ev → Rs R := fLc [17, 18] (fSeq (fVar 3)) (tTupl (tsCons (tName 17) (tsCons (tName 18) tsNil))) (fTest (fOp opEq (fVar 17) (fVar 4))) (fCall d_l_pieces (aCons (fVar 1) (aCons (fVar 4) (aCons (fVar 18) aNil))))
def law_c2 : Ev → Rs R := fLc [20] (fSeq (fVar 5)) (tName 20) fYes (fOp opIx (fVar 20) (fVar 7))
def law_c3 : Ev → Rs R := fLc [19] (fSeq (fUn setSortedD law_c2)) (tName 19) fYes (fOp opAdd (fBi biStr (fCons (fVar 19) fNil)) (fC (.str "0 km/h")))
def law_b1 : Ev → RO := (gApp 6 (fM1 opJoin (fC (.str " or ")) law_c3))
def law_b2 : Ev → RO := (gSeq (gPar 5 6 false true law_c1 (fLst fNil))
  (gSeq (gFor (fRg1 (fBi biLen (fCons (fOp opIx (fVar 5) (fC (.int 0))) fNil))) (tName 7) law_b1)
  (fun ρ => (gIf (fTest (fOp opNe (fCall d_board (aCons (fVar 1) (aCons (fVar 4) aNil))) (fVar 6))) (gRet (fC (.bool false))) gNext) (frzAt 6 ρ))))
def law_b3 : Ev → RO := (gSeq (gAsgF 9 (fOp opAdd (fC (.int 60)) (fOp opMulI (fC (.int 4)) (fVar 8))))
  (gSeq (gPar 10 11 false false (fCall d_l_drawn (aCons (fVar 0) (aCons (fVar 9) (aCons (fOp opAdd (fBi biLen (fCons (fVar 2) fNil)) (fC (.int 1))) aNil)))) (fOp opIx (fC (.str "01:t -35")) (fCall d_l_drawn (aCons (fVar 0) (aCons (fOp opAdd (fVar 9) (fC (.int 1))) (aCons (fC (.int 8)) aNil))))))
  (gSeq (gAsgF 12 (fIf (fTest (fOp opEq (fCall d_l_drawn (aCons (fVar 0) (aCons (fOp opAdd (fVar 9) (fC (.int 2))) (aCons (fC (.int 3)) aNil)))) (fC (.int 0)))) (fC (.str "")) (fVar 11)))
  (gSeq (gAsgF 13 (fOp opAdd (fOp opAdd (fSl (fVar 2) fNo (fPart (fVar 10))) (fVar 12)) (fSl (fVar 2) (fPart (fOp opAdd (fVar 10) (fCall d_l_drawn (aCons (fVar 0) (aCons (fOp opAdd (fVar 9) (fC (.int 3))) (aCons (fC (.int 2)) aNil)))))) fNo)))
  (gIf (fTest (fOp opNotIn (fCall d_l_again (aCons (fVar 13) aNil)) (fTup (fCons (fC .none) (fCons (fVar 13) fNil))))) (gRet (fC (.bool false))) gNext)))))
def g_law : Ev → RO := (gSeq (gAsgF 1 (fCall d_l_net (aCons (fVar 0) (aCons (fC (.int 10)) (aCons (fC (.int 6)) aNil)))))
  (gSeq (gPar 2 3 false false (fCall d_l_text (aCons (fVar 1) aNil)) (fCall d_l_places (aCons (fVar 1) aNil)))
  (gSeq (gIf (fOr (fTest (fOp opNe (fCall d_format_net (aCons (fVar 1) aNil)) (fVar 2))) (fOr (fTest (fOp opNe (fCall d_parse_net (aCons (fVar 2) aNil)) (fVar 1))) (fNot (fTest (fun _ => d_l_bad []))))) (gRet (fC (.bool false))) gNext)
  (gSeq (gFor (fRg1 (fBi biLen (fCons (fOp opIx (fVar 1) (fC (.int 3))) fNil))) (tName 4) law_b2)
  (gSeq (gFor (fRg1 (fC (.int 10))) (tName 8) law_b3)
  (gSeq (gPar 14 15 false false (fCall d_l_badnet (aCons (fVar 0) (aCons (fC (.int 1)) aNil))) (fOp opIx (fLst (fCons (fC .none) (fCons (fUn opNeg (fC (.int 1))) (fCons (fBi biLen (fCons (fOp opIx (fVar 1) (fC (.int 3))) fNil)) (fCons (fC (.bool true)) (fCons (fC (.str "0")) fNil)))))) (fCall d_l_drawn (aCons (fVar 0) (aCons (fC (.int 2)) (aCons (fC (.int 5)) aNil))))))
  (gSeq (gAsgF 16 (fLst (fCons (fCall d_l_refused (aCons (fC (.int 0)) (aCons (fVar 14) (aCons (fC (.int 0)) aNil)))) (fCons (fCall d_l_refused (aCons (fC (.int 1)) (aCons (fVar 14) (aCons (fVar 15) aNil)))) fNil))))
  (gSeq (gAsgF 16 (fOp opAdd (fVar 16) (fLst (fCons (fCall d_l_refused (aCons (fC (.int 1)) (aCons (fVar 1) (aCons (fVar 15) aNil)))) fNil))))
  (gRet (fOp opEq (fVar 16) (fLst (fCons (fC (.int 0)) (fCons (fC (.int 0)) (fCons (fC (.int 1)) fNil))))))))))))))
abbrev d_law : List R → Rs R := denB 21 g_law

section
variable {P : Program} {w : World} {K : PySem.W.Frag} {mg : Str → Option Value} {base : Heap}

theorem ok_is_int (T : Fx K mg) : FnOk P w K mg base (L2.CX P w) 1 T.f_is_int T.fd_is_int ["value", "least", "most"] (spD K mg 3 d_is_int) :=
  fn_den (N := ["value", "least", "most"]) (k := 0) T.F_is_int sc_is_int rfl fun cdv A outer s H E hr tk po => ⟨_, (eb_one (es_ret (ee_and (ek_isi K (ee_var 0) T.m_isinstance T.m_int (by decide +kernel)) (ee_and (ee_not (ek_isi K (ee_var 0) T.m_isinstance T.m_bool (by decide +kernel))) (ee_one (ee_chain op_le op_le od_le od_le (ee_var 1) (ee_var 0) (ee_var 2)))))))⟩

theorem ok_are_signs (T : Fx K mg) : FnOk P w K mg base (L2.CX P w) 2 T.f_are_signs T.fd_are_signs ["value"] (spD K mg 1 d_are_signs) :=
  fn_den (N := ["value", "sign"]) (k := 1) T.F_are_signs sc_are_signs rfl fun cdv A outer s H E hr tk po => ⟨_, (eb_cons (es_if (EW.et (ew_or (et_not (et_val (ek_isi K (ee_var 0) T.m_isinstance T.m_tuple (by decide +kernel)))) (ew_or1 (et_cmp op_gt od_gt (ek_len K T.m_len (ed_cons (ee_var 0) ed_nil)) (ee_globI (by rfl) T.c_MAX_SIGNS.choose_spec) (nomark _))))) (eb_one (es_ret ee_bl)) eb_nil)
      (eb_one (es_ret (ek_all K T.m_all (ed_cons (ee_lc (own := [("sign", 1)]) sc_are_signs.nd (ik_seq K (ee_var 0)) (blkOk_by (N := ["value", "sign"]) (sc := defScope s_are_signs) (by decide +kernel)) (fun _ _ _ _ _ => (eg_name 1 sc_are_signs.nd)) (fun _ _ _ _ _ => ets_nil) (fun _ _ _ _ _ => (ek_call K (ok_is_int T) (hr.mono (by decide)) T.g_is_int T.F_is_int.kp T.b_is_int takes0 (ea_cons (ee_var 1) (ea_cons ee_int (ea_cons (ee_globI (by rfl) T.c_MAX_LIMIT.choose_spec) ea_nil)))))) ed_nil)))))⟩

theorem ok_is_road (T : Fx K mg) : FnOk P w K mg base (L2.CX P w) 3 T.f_is_road T.fd_is_road ["value"] (spD K mg 1 d_is_road) :=
  fn_den (N := ["value"]) (k := 2) T.F_is_road sc_is_road rfl fun cdv A outer s H E hr tk po => ⟨_, (eb_cons (es_if (EW.et (ew_or (et_not (et_val (ek_isi K (ee_var 0) T.m_isinstance T.m_tuple (by decide +kernel)))) (ew_or (tk_ne K hr.units (ek_len K T.m_len (ed_cons (ee_var 0) ed_nil)) ee_int) (ew_or1 (et_not (et_val (ek_call K (ok_are_signs T) (hr.mono (by decide)) T.g_are_signs T.F_are_signs.kp T.b_are_signs tk (ea_cons (ek_ix K (ee_var 0) ee_int) ea_nil)))))))) (eb_one (es_ret ee_bl)) eb_nil)
      (eb_one (es_ret (ee_and (ek_call K (ok_is_int T) (hr.mono (by decide)) T.g_is_int T.F_is_int.kp T.b_is_int tk (ea_cons (ek_ix K (ee_var 0) ee_int) (ea_cons ee_int (ea_cons (ee_globI (by rfl) T.c_MAX_JUNCTION.choose_spec) ea_nil)))) (ee_and (ek_call K (ok_is_int T) (hr.mono (by decide)) T.g_is_int T.F_is_int.kp T.b_is_int tk (ea_cons (ek_ix K (ee_var 0) ee_int) (ea_cons ee_int (ea_cons (ee_globI (by rfl) T.c_MAX_JUNCTION.choose_spec) ea_nil)))) (ee_one (ek_call K (ok_is_int T) (hr.mono (by decide)) T.g_is_int T.F_is_int.kp T.b_is_int tk (ea_cons (ek_ix K (ee_var 0) ee_int) (ea_cons ee_int (ea_cons ee_int ea_nil))))))))))⟩

theorem ok_is_net (T : Fx K mg) : FnOk P w K mg base (L2.CX P w) 4 T.f_is_net T.fd_is_net ["candidate"] (spD K mg 1 d_is_net) :=
  fn_den (N := ["candidate", "fast", "slow", "keeps", "roads", "road"]) (k := 3) T.F_is_net sc_is_net rfl fun cdv A outer s H E hr tk po => ⟨_, (eb_cons (es_if (EW.et (ew_or (et_not (et_val (ek_isi K (ee_var 0) T.m_isinstance T.m_tuple (by decide +kernel)))) (ew_or (tk_ne K hr.units (ek_len K T.m_len (ed_cons (ee_var 0) ed_nil)) ee_int) (ew_or1 (et_not (et_val (ek_call K (ok_is_int T) (hr.mono (by decide)) T.g_is_int T.F_is_int.kp T.b_is_int tk (ea_cons (ek_ix K (ee_var 0) ee_int) (ea_cons (ee_globI (by rfl) T.c_MIN_FAST.choose_spec) (ea_cons (ee_globI (by rfl) T.c_MAX_LIMIT.choose_spec) ea_nil)))))))))) (eb_one (es_ret ee_bl)) eb_nil)
      (eb_cons (es_asgT (ee_var 0) (gk_tup K (egs_cons (eg_name 1 sc_is_net.nd) (egs_cons (eg_name 2 sc_is_net.nd) (egs_cons (eg_name 3 sc_is_net.nd) (egs_cons (eg_name 4 sc_is_net.nd) egs_nil))))))
      (eb_cons (es_if (EW.et (ew_or (et_not (et_val (ek_call K (ok_is_int T) (hr.mono (by decide)) T.g_is_int T.F_is_int.kp T.b_is_int tk (ea_cons (ee_var 2) (ea_cons ee_int (ea_cons (ee_var 1) ea_nil)))))) (ew_or1 (et_not (et_val (ek_call K (ok_is_int T) (hr.mono (by decide)) T.g_is_int T.F_is_int.kp T.b_is_int tk (ea_cons (ee_var 3) (ea_cons ee_int (ea_cons ee_int ea_nil))))))))) (eb_one (es_ret ee_bl)) eb_nil)
      (eb_one (es_ret (ee_and (ek_isi K (ee_var 4) T.m_isinstance T.m_tuple (by decide +kernel)) (ee_and (ee_chain op_le op_le od_le od_le ee_int (ek_len K T.m_len (ed_cons (ee_var 4) ed_nil)) (ee_globI (by rfl) T.c_MAX_ROADS.choose_spec)) (ee_one (ek_all K T.m_all (ed_cons (ee_lc (own := [("road", 5)]) sc_is_net.nd (ik_seq K (ee_var 4)) (blkOk_by (N := ["candidate", "fast", "slow", "keeps", "roads", "road"]) (sc := defScope s_is_net) (by decide +kernel)) (fun _ _ _ _ _ => (eg_name 5 sc_is_net.nd)) (fun _ _ _ _ _ => ets_nil) (fun _ _ _ _ _ => (ek_call K (ok_is_road T) (hr.mono (by decide)) T.g_is_road T.F_is_road.kp T.b_is_road takes0 (ea_cons (ee_var 5) ea_nil)))) ed_nil))))))))))⟩

theorem ok_check_net (T : Fx K mg) : FnOk P w K mg base (L2.CX P w) 5 T.f_check_net T.fd_check_net ["value"] (spD K mg 1 d_check_net) :=
  fn_den (N := ["value"]) (k := 4) T.F_check_net sc_check_net rfl fun cdv A outer s H E hr tk po => ⟨_, (eb_one (es_if (et_not (et_val (ek_call K (ok_is_net T) (hr.mono (by decide)) T.g_is_net T.F_is_net.kp T.b_is_net tk (ea_cons (ee_var 0) ea_nil)))) (eb_one (es_raise tk PySem.F.excBase_ValueError T.x_InvalidNet T.gc_InvalidNet T.k_InvalidNet (raises_own T.sb_InvalidNet T.ty_InvalidNet))) eb_nil))⟩

theorem ok_check_road (T : Fx K mg) : FnOk P w K mg base (L2.CX P w) 6 T.f_check_road T.fd_check_road ["net", "value"] (spD K mg 2 d_check_road) :=
  fn_den (N := ["net", "value"]) (k := 5) T.F_check_road sc_check_road rfl fun cdv A outer s H E hr tk po => ⟨_, (eb_cons (es_expr (ek_call K (ok_check_net T) (hr.mono (by decide)) T.g_check_net T.F_check_net.kp T.b_check_net tk (ea_cons (ee_var 0) ea_nil)))
      (eb_one (es_if (et_not (et_val (ek_call K (ok_is_int T) (hr.mono (by decide)) T.g_is_int T.F_is_int.kp T.b_is_int tk (ea_cons (ee_var 1) (ea_cons ee_int (ea_cons (ee_op op_sub od_sub (ek_len K T.m_len (ed_cons (ek_ix K (ee_var 0) ee_int) ed_nil)) ee_int) ea_nil)))))) (eb_one (es_raise tk PySem.F.excBase_ValueError T.x_InvalidRoad T.gc_InvalidRoad T.k_InvalidRoad (raises_own T.sb_InvalidRoad T.ty_InvalidRoad))) eb_nil)))⟩

theorem ok_find_followers (T : Fx K mg) : FnOk P w K mg base (L2.CX P w) 1 T.f_find_followers T.fd_find_followers ["net", "road"] (spD K mg 2 d_find_followers) :=
  fn_den (N := ["net", "road", "number", "other"]) (k := 0) T.F_find_followers sc_find_followers rfl fun cdv A outer s H E hr tk po => ⟨_, (eb_one (es_ret (ee_lc (own := [("number", 2), ("other", 3)]) sc_find_followers.nd (ik_enum K (ek_ix K (ee_var 0) ee_int) T.m_enumerate) (blkOk_by (N := ["net", "road", "number", "other"]) (sc := defScope s_find_followers) (by decide +kernel)) (fun _ _ _ _ _ => (gk_tup K (egs_cons (eg_name 2 sc_find_followers.nd) (egs_cons (eg_name 3 sc_find_followers.nd) egs_nil)))) (fun _ _ _ _ _ => (ets_one (tk_eq K hr.units (ek_ix K (ee_var 3) ee_int) (ek_ix K (ek_ix K (ek_ix K (ee_var 0) ee_int) (ee_var 1)) ee_int)))) (fun _ _ _ _ _ => (ee_var 2)))))⟩

theorem ok_find_standing (T : Fx K mg) : FnOk P w K mg base (L2.CX P w) 1 T.f_find_standing T.fd_find_standing ["net", "road"] (spD K mg 2 d_find_standing) :=
  fn_den (N := ["net", "road"]) (k := 0) T.F_find_standing sc_find_standing rfl fun cdv A outer s H E hr tk po => ⟨_, (eb_one (es_ret (ee_if (tk_eq K hr.units (ek_ix K (ek_ix K (ek_ix K (ee_var 0) ee_int) (ee_var 1)) ee_int) ee_int) (ek_ix K (ee_var 0) ee_int) (ek_ix K (ee_var 0) ee_int))))⟩

theorem ok_pieces (T : Fx K mg) : FnOk P w K mg base (L2.CX P w) 2 T.f_pieces T.fd_pieces ["net", "road", "state"] (spD K mg 3 d_pieces) :=
  fn_den (N := ["net", "road", "state", "rest", "one"]) (k := 1) T.F_pieces sc_pieces rfl fun cdv A outer s H E hr tk po => ⟨_, (eb_cons (es_asgF 3 sc_pieces.nd (ek_call K (ok_find_standing T) (hr.mono (by decide)) T.g_find_standing T.F_find_standing.kp T.b_find_standing tk (ea_cons (ee_var 0) (ea_cons (ee_var 1) ea_nil))))
      (eb_one (es_ret (ee_lc (own := [("one", 4)]) sc_pieces.nd (ik_seq K (ek_add K (ee_tup (ed_cons (ee_var 2) ed_nil)) (ek_ix K (ek_ix K (ek_ix K (ee_var 0) ee_int) (ee_var 1)) ee_int))) (blkOk_by (N := ["net", "road", "state", "rest", "one"]) (sc := defScope s_pieces) (by decide +kernel)) (fun _ _ _ _ _ => (eg_name 4 sc_pieces.nd)) (fun _ _ _ _ _ => ets_nil) (fun _ _ _ _ _ => (ee_if (et_cmp op_gt od_gt (ee_var 4) ee_int (nomark _)) (ee_var 4) (ee_var 3)))))))⟩

theorem ok_leave (T : Fx K mg) : FnOk P w K mg base (L2.CX P w) 1 T.f_leave T.fd_leave ["net", "road", "state"] (spD K mg 3 d_leave) :=
  fn_den (N := ["net", "road", "state", "signs"]) (k := 0) T.F_leave sc_leave rfl fun cdv A outer s H E hr tk po => ⟨_, (eb_cons (es_asgF 3 sc_leave.nd (ek_ix K (ek_ix K (ek_ix K (ee_var 0) ee_int) (ee_var 1)) ee_int))
      (eb_one (es_ret (ee_if (tk_ne K hr.units (ee_var 3) (ee_tup ed_nil)) (ek_ix K (ee_var 3) (ee_un un_neg ud_neg ee_int)) (ee_var 2)))))⟩

theorem ok_go_over (T : Fx K mg) : FnOk P w K mg base (L2.CX P w) 1 T.f_go_over T.fd_go_over ["net", "state"] (spD K mg 2 d_go_over) :=
  fn_den (N := ["net", "state"]) (k := 0) T.F_go_over sc_go_over rfl fun cdv A outer s H E hr tk po => ⟨_, (eb_one (es_ret (ee_if (tk_eq K hr.units (ek_ix K (ee_var 0) ee_int) ee_int) (ee_var 1) ee_int)))⟩

theorem ok_find_places (T : Fx K mg) : FnOk P w K mg base (L2.CX P w) 2 T.f_find_places T.fd_find_places ["net"] (spD K mg 1 d_find_places) :=
  fn_den (N := ["net", "level", "found", "later", "road", "state", "behind", "other"]) (k := 1) T.F_find_places sc_find_places rfl fun cdv A outer s H E hr tk po => ⟨_, (eb_cons (es_setLcF 1 (own := [("road", 4)]) sc_find_places.nd (ei_range1 (ek_len K T.m_len (ed_cons (ek_ix K (ee_var 0) ee_int) ed_nil)) T.m_range) (blkOk_by (N := ["net", "level", "found", "later", "road", "state", "behind", "other"]) (sc := defScope s_find_places) (by decide +kernel)) (fun _ _ _ _ _ => (eg_name 4 sc_find_places.nd)) (fun _ _ _ _ _ => ets_nil) (fun _ _ _ _ _ => (ee_tup (ed_cons (ee_var 4) (ed_cons ee_int ed_nil)))))
      (eb_cons (es_asg 2 sc_find_places.nd ee_dnewT)
      (eb_cons (es_while po (tk_ne K hr.units (ee_var 1) (ee_lst ed_nil)) (eb_cons (es_asg 3 sc_find_places.nd (ee_lst ed_nil))
      (eb_cons (es_for po (ik_seq K (ee_var 1)) (gk_tup K (egs_cons (eg_name 4 sc_find_places.nd) (egs_cons (eg_name 5 sc_find_places.nd) egs_nil))) (eb_one (es_if (et_dNinT 2 (hu_of hr) (ee_tup (ed_cons (ee_var 4) (ed_cons (ee_var 5) ed_nil)))) (eb_cons (es_dputT 2 (hu_of hr) (ee_tup (ed_cons (ee_var 4) (ed_cons (ee_var 5) ed_nil))) (he := ee_bl))
      (eb_cons (es_asgF 6 sc_find_places.nd (ek_call K (ok_go_over T) (hr.mono (by decide)) T.g_go_over T.F_go_over.kp T.b_go_over tk (ea_cons (ee_var 0) (ea_cons (ek_call K (ok_leave T) (hr.mono (by decide)) T.g_leave T.F_leave.kp T.b_leave tk (ea_cons (ee_var 0) (ea_cons (ee_var 4) (ea_cons (ee_var 5) ea_nil)))) ea_nil))))
      (eb_one (es_ext 3 (ee_lc (own := [("other", 7)]) sc_find_places.nd (ik_seq K (ek_call K (ok_find_followers T) (hr.mono (by decide)) T.g_find_followers T.F_find_followers.kp T.b_find_followers tk (ea_cons (ee_var 0) (ea_cons (ee_var 4) ea_nil)))) (blkOk_by (N := ["net", "level", "found", "later", "road", "state", "behind", "other"]) (sc := defScope s_find_places) (by decide +kernel)) (fun _ _ _ _ _ => (eg_name 7 sc_find_places.nd)) (fun _ _ _ _ _ => ets_nil) (fun _ _ _ _ _ => (ee_tup (ed_cons (ee_var 7) (ed_cons (ee_var 6) ed_nil))))))))) eb_nil)))
      (eb_one (es_frz 3 (es_asgF 1 sc_find_places.nd (ee_var 3)))))))
      (eb_one (es_ret (ee_sortedDT 2 hr.units T.m_sorted))))))⟩

theorem ok_find_states (T : Fx K mg) : FnOk P w K mg base (L2.CX P w) 3 T.f_find_states T.fd_find_states ["net", "road"] (spD K mg 2 d_find_states) :=
  fn_den (N := ["net", "road", "other", "state"]) (k := 2) T.F_find_states sc_find_states rfl fun cdv A outer s H E hr tk po => ⟨_, (eb_one (es_ret (ee_lc (own := [("other", 2), ("state", 3)]) sc_find_states.nd (ik_seq K (ek_call K (ok_find_places T) (hr.mono (by decide)) T.g_find_places T.F_find_places.kp T.b_find_places tk (ea_cons (ee_var 0) ea_nil))) (blkOk_by (N := ["net", "road", "other", "state"]) (sc := defScope s_find_states) (by decide +kernel)) (fun _ _ _ _ _ => (gk_tup K (egs_cons (eg_name 2 sc_find_states.nd) (egs_cons (eg_name 3 sc_find_states.nd) egs_nil)))) (fun _ _ _ _ _ => (ets_one (tk_eq K hr.units (ee_var 2) (ee_var 1)))) (fun _ _ _ _ _ => (ee_var 3)))))⟩

theorem ok_find_possible (T : Fx K mg) : FnOk P w K mg base (L2.CX P w) 4 T.f_find_possible T.fd_find_possible ["net", "road", "piece"] (spD K mg 3 d_find_possible) :=
  fn_den (N := ["net", "road", "piece", "state"]) (k := 3) T.F_find_possible sc_find_possible rfl fun cdv A outer s H E hr tk po => ⟨_, (eb_one (es_ret (ek_setSorted K w T.m_sorted T.m_set (ee_lc (own := [("state", 3)]) sc_find_possible.nd (ik_seq K (ek_call K (ok_find_states T) (hr.mono (by decide)) T.g_find_states T.F_find_states.kp T.b_find_states tk (ea_cons (ee_var 0) (ea_cons (ee_var 1) ea_nil)))) (blkOk_by (N := ["net", "road", "piece", "state"]) (sc := defScope s_find_possible) (by decide +kernel)) (fun _ _ _ _ _ => (eg_name 3 sc_find_possible.nd)) (fun _ _ _ _ _ => ets_nil) (fun _ _ _ _ _ => (ek_ix K (ek_call K (ok_pieces T) (hr.mono (by decide)) T.g_pieces T.F_pieces.kp T.b_pieces takes0 (ea_cons (ee_var 0) (ea_cons (ee_var 1) (ea_cons (ee_var 3) ea_nil)))) (ee_var 2)))))))⟩

theorem ok_join_road (T : Fx K mg) : FnOk P w K mg base (L2.CX P w) 1 T.f_join_road T.fd_join_road ["road"] (spD K mg 1 d_join_road) :=
  fn_den (N := ["road", "start", "end", "town", "signs", "text", "sign"]) (k := 0) T.F_join_road sc_join_road rfl fun cdv A outer s H E hr tk po => ⟨_, (eb_cons (es_asgT (ee_var 0) (gk_tup K (egs_cons (eg_name 1 sc_join_road.nd) (egs_cons (eg_name 2 sc_join_road.nd) (egs_cons (eg_name 3 sc_join_road.nd) (egs_cons (eg_name 4 sc_join_road.nd) egs_nil))))))
      (eb_cons (es_asgF 5 sc_join_road.nd (ek_add K (ek_add K (ek_add K (ee_callTy call_str_int bd_strI T.m_str (by decide +kernel) (ed_cons (ee_var 1) ed_nil)) (ee_globS (by rfl) T.c_DASH.choose_spec)) (ee_callTy call_str_int bd_strI T.m_str (by decide +kernel) (ed_cons (ee_var 2) ed_nil))) (ee_if (tk_eq K hr.units (ee_var 3) ee_int) (ee_globS (by rfl) T.c_TOWN.choose_spec) ee_str)))
      (eb_one (es_ret (ek_add K (ee_var 5) (ek_join K ee_str (ee_lc (own := [("sign", 6)]) sc_join_road.nd (ik_seq K (ee_var 4)) (blkOk_by (N := ["road", "start", "end", "town", "signs", "text", "sign"]) (sc := defScope s_join_road) (by decide +kernel)) (fun _ _ _ _ _ => (eg_name 6 sc_join_road.nd)) (fun _ _ _ _ _ => ets_nil) (fun _ _ _ _ _ => (ek_add K (ee_globS (by rfl) T.c_COLON.choose_spec) (ee_callTy call_str_int bd_strI T.m_str (by decide +kernel) (ed_cons (ee_var 6) ed_nil)))))))))))⟩

theorem ok_join_net (T : Fx K mg) : FnOk P w K mg base (L2.CX P w) 2 T.f_join_net T.fd_join_net ["net"] (spD K mg 1 d_join_net) :=
  fn_den (N := ["net", "head", "number", "road"]) (k := 1) T.F_join_net sc_join_net rfl fun cdv A outer s H E hr tk po => ⟨_, (eb_cons (es_setLcF 1 (own := [("number", 2)]) sc_join_net.nd (ik_seq K (ek_sl K (ee_var 0) eo_none (eo_some (ee_globI (by rfl) T.c_HEAD.choose_spec)))) (blkOk_by (N := ["net", "head", "number", "road"]) (sc := defScope s_join_net) (by decide +kernel)) (fun _ _ _ _ _ => (eg_name 2 sc_join_net.nd)) (fun _ _ _ _ _ => ets_nil) (fun _ _ _ _ _ => (ee_callTy call_str_int bd_strI T.m_str (by decide +kernel) (ed_cons (ee_var 2) ed_nil))))
      (eb_one (es_ret (ek_join K (ee_globS (by rfl) T.c_SPACE.choose_spec) (ek_add K (ee_var 1) (ee_lc (own := [("road", 3)]) sc_join_net.nd (ik_seq K (ek_ix K (ee_var 0) (ee_globI (by rfl) T.c_HEAD.choose_spec))) (blkOk_by (N := ["net", "head", "number", "road"]) (sc := defScope s_join_net) (by decide +kernel)) (fun _ _ _ _ _ => (eg_name 3 sc_join_net.nd)) (fun _ _ _ _ _ => ets_nil) (fun _ _ _ _ _ => (ek_call K (ok_join_road T) (hr.mono (by decide)) T.g_join_road T.F_join_road.kp T.b_join_road takes0 (ea_cons (ee_var 3) ea_nil)))))))))⟩

theorem ok_format_net (T : Fx K mg) : FnOk P w K mg base (L2.CX P w) 6 T.f_format_net T.fd_format_net ["net"] (spD K mg 1 d_format_net) :=
  fn_den (N := ["net"]) (k := 5) T.F_format_net sc_format_net rfl fun cdv A outer s H E hr tk po => ⟨_, (eb_cons (es_expr (ek_call K (ok_check_net T) (hr.mono (by decide)) T.g_check_net T.F_check_net.kp T.b_check_net tk (ea_cons (ee_var 0) ea_nil)))
      (eb_one (es_ret (ek_call K (ok_join_net T) (hr.mono (by decide)) T.g_join_net T.F_join_net.kp T.b_join_net tk (ea_cons (ee_var 0) ea_nil)))))⟩

theorem ok_read_int (T : Fx K mg) : FnOk P w K mg base (L2.CX P w) 1 T.f_read_int T.fd_read_int ["text"] (spD K mg 1 d_read_int) :=
  fn_den (N := ["text", "sign"]) (k := 0) T.F_read_int sc_read_int rfl fun cdv A outer s H E hr tk po => ⟨_, (eb_cons (es_if (EW.et (ew_or (et_not (et_chain op_le op_le od_le od_le ee_int (ek_len K T.m_len (ed_cons (ee_var 0) ed_nil)) (ee_globI (by rfl) T.c_MAX_DIGITS.choose_spec))) (ew_or1 (et_not (et_val (ek_all K T.m_all (ed_cons (ee_lc (own := [("sign", 1)]) sc_read_int.nd (ei_str (ee_var 0)) (blkOk_by (N := ["text", "sign"]) (sc := defScope s_read_int) (by decide +kernel)) (fun _ _ _ _ _ => (eg_name 1 sc_read_int.nd)) (fun _ _ _ _ _ => ets_nil) (fun _ _ _ _ _ => (ek_in K (hu65_of hr) (ee_var 1) (ee_globS (by rfl) T.c_DIGITS.choose_spec)))) ed_nil))))))) (eb_one (es_ret ee_non)) eb_nil)
      (eb_one (es_ret (ee_callTy call_int_str bd_intS T.m_int (by decide +kernel) (ed_cons (ee_var 0) ed_nil)))))⟩

theorem ok_read_road (T : Fx K mg) : FnOk P w K mg base (L2.CX P w) 2 T.f_read_road T.fd_read_road ["text"] (spD K mg 1 d_read_road) :=
  fn_den (N := ["text", "places", "signs", "start", "dash", "end", "town", "sign"]) (k := 1) T.F_read_road sc_read_road rfl fun cdv A outer s H E hr tk po => ⟨_, (eb_cons (es_par 1 2 false false sc_read_road.nd (ek_ix K (ek_split (ee_var 0) (ee_globS (by rfl) T.c_COLON.choose_spec)) ee_int) (ek_sl K (ek_split (ee_var 0) (ee_globS (by rfl) T.c_COLON.choose_spec)) (eo_some ee_int) eo_none))
      (eb_cons (es_asgT (ek_partition (ee_var 1) (ee_globS (by rfl) T.c_DASH.choose_spec)) (gk_tup K (egs_cons (eg_name 3 sc_read_road.nd) (egs_cons (eg_name 4 sc_read_road.nd) (egs_cons (eg_name 5 sc_read_road.nd) egs_nil)))))
      (eb_cons (es_asgF 6 sc_read_road.nd (ee_if (et_val (ek_endswith (ee_var 5) (ee_globS (by rfl) T.c_TOWN.choose_spec))) ee_int ee_int))
      (eb_cons (es_asgF 5 sc_read_road.nd (ee_if (tk_eq K hr.units (ee_var 6) ee_int) (ek_sl K (ee_var 5) eo_none (eo_some (ee_un un_neg ud_neg ee_int))) (ee_var 5)))
      (eb_one (es_ret (ee_tup (ed_cons (ek_call K (ok_read_int T) (hr.mono (by decide)) T.g_read_int T.F_read_int.kp T.b_read_int tk (ea_cons (ee_var 3) ea_nil)) (ed_cons (ek_call K (ok_read_int T) (hr.mono (by decide)) T.g_read_int T.F_read_int.kp T.b_read_int tk (ea_cons (ee_var 5) ea_nil)) (ed_cons (ee_var 6) (ed_cons (ek_tuple K T.m_tuple (ed_cons (ee_lc (own := [("sign", 7)]) sc_read_road.nd (ik_seq K (ee_var 2)) (blkOk_by (N := ["text", "places", "signs", "start", "dash", "end", "town", "sign"]) (sc := defScope s_read_road) (by decide +kernel)) (fun _ _ _ _ _ => (eg_name 7 sc_read_road.nd)) (fun _ _ _ _ _ => ets_nil) (fun _ _ _ _ _ => (ek_call K (ok_read_int T) (hr.mono (by decide)) T.g_read_int T.F_read_int.kp T.b_read_int takes0 (ea_cons (ee_var 7) ea_nil)))) ed_nil)) ed_nil)))))))))))⟩

theorem ok_parse_net (T : Fx K mg) : FnOk P w K mg base (L2.CX P w) 5 T.f_parse_net T.fd_parse_net ["text"] (spD K mg 1 d_parse_net) :=
  fn_den (N := ["text", "parts", "net", "part"]) (k := 4) T.F_parse_net sc_parse_net rfl fun cdv A outer s H E hr tk po => ⟨_, (eb_cons (es_if (et_not (et_val (ek_isi K (ee_var 0) T.m_isinstance T.m_str (by decide +kernel)))) (eb_one (es_raise tk PySem.F.excBase_ValueError T.x_ParseError T.gc_ParseError T.k_ParseError (raises_own T.sb_ParseError T.ty_ParseError))) eb_nil)
      (eb_cons (es_asgF 1 sc_parse_net.nd (ek_split (ee_var 0) (ee_globS (by rfl) T.c_SPACE.choose_spec)))
      (eb_cons (es_asgF 2 sc_parse_net.nd (ek_add K (ek_tuple K T.m_tuple (ed_cons (ee_lc (own := [("part", 3)]) sc_parse_net.nd (ik_seq K (ek_sl K (ee_var 1) eo_none (eo_some (ee_globI (by rfl) T.c_HEAD.choose_spec)))) (blkOk_by (N := ["text", "parts", "net", "part"]) (sc := defScope s_parse_net) (by decide +kernel)) (fun _ _ _ _ _ => (eg_name 3 sc_parse_net.nd)) (fun _ _ _ _ _ => ets_nil) (fun _ _ _ _ _ => (ek_call K (ok_read_int T) (hr.mono (by decide)) T.g_read_int T.F_read_int.kp T.b_read_int takes0 (ea_cons (ee_var 3) ea_nil)))) ed_nil)) (ee_tup (ed_cons (ek_tuple K T.m_tuple (ed_cons (ee_lc (own := [("part", 3)]) sc_parse_net.nd (ik_seq K (ek_sl K (ee_var 1) (eo_some (ee_globI (by rfl) T.c_HEAD.choose_spec)) eo_none)) (blkOk_by (N := ["text", "parts", "net", "part"]) (sc := defScope s_parse_net) (by decide +kernel)) (fun _ _ _ _ _ => (eg_name 3 sc_parse_net.nd)) (fun _ _ _ _ _ => ets_nil) (fun _ _ _ _ _ => (ek_call K (ok_read_road T) (hr.mono (by decide)) T.g_read_road T.F_read_road.kp T.b_read_road takes0 (ea_cons (ee_var 3) ea_nil)))) ed_nil)) ed_nil))))
      (eb_cons (es_if (EW.et (ew_or (et_not (et_val (ek_call K (ok_is_net T) (hr.mono (by decide)) T.g_is_net T.F_is_net.kp T.b_is_net tk (ea_cons (ee_var 2) ea_nil)))) (ew_or1 (tk_ne K hr.units (ek_call K (ok_join_net T) (hr.mono (by decide)) T.g_join_net T.F_join_net.kp T.b_join_net tk (ea_cons (ee_var 2) ea_nil)) (ee_var 0))))) (eb_one (es_raise tk PySem.F.excBase_ValueError T.x_ParseError T.gc_ParseError T.k_ParseError (raises_own T.sb_ParseError T.ty_ParseError))) eb_nil)
      (eb_one (es_retV 2))))))⟩

theorem ok_board (T : Fx K mg) : FnOk P w K mg base (L2.CX P w) 7 T.f_board T.fd_board ["net", "road"] (spD K mg 2 d_board) :=
  fn_den (N := ["net", "road", "found", "piece", "limit"]) (k := 6) T.F_board sc_board rfl fun cdv A outer s H E hr tk po => ⟨_, (eb_cons (es_expr (ek_call K (ok_check_road T) (hr.mono (by decide)) T.g_check_road T.F_check_road.kp T.b_check_road tk (ea_cons (ee_var 0) (ea_cons (ee_var 1) ea_nil))))
      (eb_cons (es_asg 2 sc_board.nd (ee_lst ed_nil))
      (eb_cons (es_for po (ei_range1 (ek_add K (ek_len K T.m_len (ed_cons (ek_ix K (ek_ix K (ek_ix K (ee_var 0) ee_int) (ee_var 1)) ee_int) ed_nil)) ee_int) T.m_range) (eg_name 3 sc_board.nd) (eb_one (es_app 2 (ek_join K (ee_globS (by rfl) T.c_OR.choose_spec) (ee_lc (own := [("limit", 4)]) sc_board.nd (ik_seq K (ek_call K (ok_find_possible T) (hr.mono (by decide)) T.g_find_possible T.F_find_possible.kp T.b_find_possible tk (ea_cons (ee_var 0) (ea_cons (ee_var 1) (ea_cons (ee_var 3) ea_nil))))) (blkOk_by (N := ["net", "road", "found", "piece", "limit"]) (sc := defScope s_board) (by decide +kernel)) (fun _ _ _ _ _ => (eg_name 4 sc_board.nd)) (fun _ _ _ _ _ => ets_nil) (fun _ _ _ _ _ => (ek_add K (ee_callTy call_str_int bd_strI T.m_str (by decide +kernel) (ed_cons (ee_var 4) ed_nil)) (ee_globS (by rfl) T.c_UNIT.choose_spec))))))))
      (eb_one (es_retV 2)))))⟩

theorem ok_l_drawn (T : Fx K mg) : FnOk P w K mg base (L2.CX P w) 1 T.f_l_drawn T.fd_l_drawn ["script", "k", "many"] (spD K mg 3 d_l_drawn) :=
  fn_den (N := ["script", "k", "many", "cell", "turn", "rest"]) (k := 0) T.F_l_drawn sc_l_drawn rfl fun cdv A outer s H E hr tk po => ⟨_, (eb_cons (es_asgF 3 sc_l_drawn.nd (ee_op op_mul od_mul ee_int (ee_var 1)))
      (eb_cons (es_if (tk_sne K 0 hr.units) (eb_cons (es_asgF 3 sc_l_drawn.nd (ek_six K 0 (ee_op op_mod od_mod (ee_var 1) (ek_slen K 0 T.m_len))))
      (eb_cons (es_asgF 4 sc_l_drawn.nd (ee_op op_fdivW od_div (ee_var 1) (ek_slen K 0 T.m_len)))
      (eb_cons (es_if (EW.et (ew_and (et_cmp op_ge od_ge (ee_var 3) (ee_op op_pow od_pow ee_int ee_int) (nomark _)) (ew_and1 (et_cmp op_lt od_lt (ee_var 4) ee_int (nomark _))))) (eb_cons (es_asgF 5 sc_l_drawn.nd (ee_op op_fdivW od_div (ee_var 3) (ee_op op_pow od_pow ee_int ee_int)))
      (eb_cons (es_while po (EW.et (ew_and (et_cmp op_gt od_gt (ee_var 5) ee_int (nomark _)) (ew_and1 (et_cmp op_gt od_gt (ee_var 4) ee_int (nomark _))))) (eb_cons (es_asgF 5 sc_l_drawn.nd (ee_op op_fdivW od_div (ee_var 5) ee_int))
      (eb_one (es_asgF 4 sc_l_drawn.nd (ee_op op_sub od_sub (ee_var 4) ee_int)))))
      (eb_one (es_if (et_cmp op_gt od_gt (ee_var 5) ee_int (nomark _)) (eb_one (es_ret (ee_op op_mod od_mod (ee_op op_mod od_mod (ee_var 5) ee_int) (ee_var 2)))) eb_nil)))) eb_nil)
      (eb_one (es_asgF 3 sc_l_drawn.nd (ek_add K (ee_var 3) (ee_op op_mul od_mul ee_int (ee_op op_fdivW od_div (ee_var 1) (ek_slen K 0 T.m_len))))))))) eb_nil)
      (eb_cons (es_asgF 3 sc_l_drawn.nd (ee_op op_mod od_mod (ek_add K (ee_op op_mul od_mul (ee_op op_mod od_mod (ee_var 3) ee_int) ee_int) (ee_op op_mul od_mul ee_int (ek_add K (ee_var 1) ee_int))) ee_int))
      (eb_cons (es_asgF 3 sc_l_drawn.nd (ee_op op_mod od_mod (ek_add K (ee_op op_mul od_mul (ee_var 3) (ee_var 3)) (ee_op op_fdivW od_div (ee_var 3) ee_int)) ee_int))
      (eb_one (es_ret (ee_op op_mod od_mod (ee_op op_fdivW od_div (ee_op op_mod od_mod (ek_add K (ee_op op_mul od_mul (ee_var 3) (ee_var 3)) (ee_op op_fdivW od_div (ee_var 3) ee_int)) ee_int) ee_int) (ee_var 2))))))))⟩

theorem ok_l_net (T : Fx K mg) : FnOk P w K mg base (L2.CX P w) 2 T.f_l_net T.fd_l_net ["script", "at", "most"] (spD K mg 3 d_l_net) :=
  fn_den (N := ["script", "at", "most", "fast", "slow", "keeps", "roads", "k", "spot", "some", "many", "signs", "town", "n"]) (k := 1) T.F_l_net sc_l_net rfl fun cdv A outer s H E hr tk po => ⟨_, (eb_cons (es_asgF 3 sc_l_net.nd (ek_add K ee_int (ek_call K (ok_l_drawn T) (hr.mono (by decide)) T.g_l_drawn T.F_l_drawn.kp T.b_l_drawn tk (ea_cons (ee_var 0) (ea_cons (ee_var 1) (ea_cons ee_int ea_nil))))))
      (eb_cons (es_unp3 K 4 5 6 false false true sc_l_net.nd (ek_add K ee_int (ek_call K (ok_l_drawn T) (hr.mono (by decide)) T.g_l_drawn T.F_l_drawn.kp T.b_l_drawn tk (ea_cons (ee_var 0) (ea_cons (ek_add K (ee_var 1) ee_int) (ea_cons (ee_var 3) ea_nil))))) (ek_ix K (ee_lst (ed_cons ee_int (ed_cons ee_int (ed_cons ee_int ed_nil)))) (ek_call K (ok_l_drawn T) (hr.mono (by decide)) T.g_l_drawn T.F_l_drawn.kp T.b_l_drawn tk (ea_cons (ee_var 0) (ea_cons (ek_add K (ee_var 1) ee_int) (ea_cons ee_int ea_nil))))) (ee_lst ed_nil))
      (eb_cons (es_for po (ei_range1 (ek_add K ee_int (ek_call K (ok_l_drawn T) (hr.mono (by decide)) T.g_l_drawn T.F_l_drawn.kp T.b_l_drawn tk (ea_cons (ee_var 0) (ea_cons (ek_add K (ee_var 1) ee_int) (ea_cons (ee_var 2) ea_nil))))) T.m_range) (eg_name 7 sc_l_net.nd) (eb_cons (es_asgF 8 sc_l_net.nd (ek_add K (ek_add K (ee_var 1) ee_int) (ee_op op_mul od_mul ee_int (ee_var 7))))
      (eb_cons (es_asgF 9 sc_l_net.nd (ee_lc (own := [("n", 13)]) sc_l_net.nd (ei_range1 ee_int T.m_range) (blkOk_by (N := ["script", "at", "most", "fast", "slow", "keeps", "roads", "k", "spot", "some", "many", "signs", "town", "n"]) (sc := defScope s_l_net) (by decide +kernel)) (fun _ _ _ _ _ => (eg_name 13 sc_l_net.nd)) (fun _ _ _ _ _ => ets_nil) (fun _ _ _ _ _ => (ee_lst (ed_cons ee_int (ed_cons ee_int (ed_cons (ee_var 3) (ed_cons (ee_var 4) (ed_cons ee_int (ed_cons (ek_call K (ok_l_drawn T) (hr.mono (by decide)) T.g_l_drawn T.F_l_drawn.kp T.b_l_drawn takes0 (ea_cons (ee_var 0) (ea_cons (ek_add K (ek_add K (ee_var 8) ee_int) (ee_var 13)) (ea_cons ee_int ea_nil)))) ed_nil))))))))))
      (eb_cons (es_asgF 10 sc_l_net.nd (ek_ix K (ee_lst (ed_cons ee_int (ed_cons ee_int (ed_cons ee_int (ed_cons ee_int (ed_cons ee_int ed_nil)))))) (ek_call K (ok_l_drawn T) (hr.mono (by decide)) T.g_l_drawn T.F_l_drawn.kp T.b_l_drawn tk (ea_cons (ee_var 0) (ea_cons (ek_add K (ee_var 8) ee_int) (ea_cons ee_int ea_nil))))))
      (eb_cons (es_asgF 11 sc_l_net.nd (ek_tuple K T.m_tuple (ed_cons (ee_lc (own := [("n", 13)]) sc_l_net.nd (ei_range1 (ee_var 10) T.m_range) (blkOk_by (N := ["script", "at", "most", "fast", "slow", "keeps", "roads", "k", "spot", "some", "many", "signs", "town", "n"]) (sc := defScope s_l_net) (by decide +kernel)) (fun _ _ _ _ _ => (eg_name 13 sc_l_net.nd)) (fun _ _ _ _ _ => ets_nil) (fun _ _ _ _ _ => (ek_ix K (ek_ix K (ee_var 9) (ee_var 13)) (ek_call K (ok_l_drawn T) (hr.mono (by decide)) T.g_l_drawn T.F_l_drawn.kp T.b_l_drawn takes0 (ea_cons (ee_var 0) (ea_cons (ek_add K (ek_add K (ee_var 8) ee_int) (ee_var 13)) (ea_cons ee_int ea_nil))))))) ed_nil)))
      (eb_cons (es_asgF 12 sc_l_net.nd (ek_ix K (ee_lst (ed_cons ee_int (ed_cons ee_int (ed_cons ee_int ed_nil)))) (ek_call K (ok_l_drawn T) (hr.mono (by decide)) T.g_l_drawn T.F_l_drawn.kp T.b_l_drawn tk (ea_cons (ee_var 0) (ea_cons (ek_add K (ee_var 8) ee_int) (ea_cons ee_int ea_nil))))))
      (eb_one (es_app 6 (ee_tup (ed_cons (ek_call K (ok_l_drawn T) (hr.mono (by decide)) T.g_l_drawn T.F_l_drawn.kp T.b_l_drawn tk (ea_cons (ee_var 0) (ea_cons (ee_var 8) (ea_cons ee_int ea_nil)))) (ed_cons (ek_call K (ok_l_drawn T) (hr.mono (by decide)) T.g_l_drawn T.F_l_drawn.kp T.b_l_drawn tk (ea_cons (ee_var 0) (ea_cons (ek_add K (ee_var 8) ee_int) (ea_cons ee_int ea_nil)))) (ed_cons (ee_var 12) (ed_cons (ee_var 11) ed_nil)))))))))))))
      (eb_one (es_frz 6 (es_ret (ee_tup (ed_cons (ee_var 3) (ed_cons (ee_var 4) (ed_cons (ee_var 5) (ed_cons (ek_tuple K T.m_tuple (ed_cons (ee_var 6) ed_nil)) ed_nil)))))))))))⟩

theorem ok_l_pieces (T : Fx K mg) : FnOk P w K mg base (L2.CX P w) 1 T.f_l_pieces T.fd_l_pieces ["net", "road", "state"] (spD K mg 3 d_l_pieces) :=
  fn_den (N := ["net", "road", "state", "start", "end", "town", "signs", "one"]) (k := 0) T.F_l_pieces sc_l_pieces rfl fun cdv A outer s H E hr tk po => ⟨_, (eb_cons (es_asgT (ek_ix K (ek_ix K (ee_var 0) ee_int) (ee_var 1)) (gk_tup K (egs_cons (eg_name 3 sc_l_pieces.nd) (egs_cons (eg_name 4 sc_l_pieces.nd) (egs_cons (eg_name 5 sc_l_pieces.nd) (egs_cons (eg_name 6 sc_l_pieces.nd) egs_nil))))))
      (eb_one (es_ret (ee_lc (own := [("one", 7)]) sc_l_pieces.nd (ik_seq K (ek_add K (ee_tup (ed_cons (ee_var 2) ed_nil)) (ee_var 6))) (blkOk_by (N := ["net", "road", "state", "start", "end", "town", "signs", "one"]) (sc := defScope s_l_pieces) (by decide +kernel)) (fun _ _ _ _ _ => (eg_name 7 sc_l_pieces.nd)) (fun _ _ _ _ _ => ets_nil) (fun _ _ _ _ _ => (ee_if (et_cmp op_gt od_gt (ee_var 7) ee_int (nomark _)) (ee_var 7) (ee_if (tk_eq K hr.units (ee_var 5) ee_int) (ek_ix K (ee_var 0) ee_int) (ek_ix K (ee_var 0) ee_int))))))))⟩

theorem ok_l_behind (T : Fx K mg) : FnOk P w K mg base (L2.CX P w) 1 T.f_l_behind T.fd_l_behind ["net", "road", "state"] (spD K mg 3 d_l_behind) :=
  fn_den (N := ["net", "road", "state", "signs"]) (k := 0) T.F_l_behind sc_l_behind rfl fun cdv A outer s H E hr tk po => ⟨_, (eb_cons (es_asgF 3 sc_l_behind.nd (ek_ix K (ek_ix K (ek_ix K (ee_var 0) ee_int) (ee_var 1)) ee_int))
      (eb_one (es_ret (ee_op op_mul od_mul (ee_if (tk_ne K hr.units (ee_var 3) (ee_tup ed_nil)) (ek_ix K (ee_var 3) (ee_un un_neg ud_neg ee_int)) (ee_var 2)) (ek_ix K (ee_var 0) ee_int)))))⟩

theorem ok_l_next (T : Fx K mg) : FnOk P w K mg base (L2.CX P w) 1 T.f_l_next T.fd_l_next ["net", "road"] (spD K mg 2 d_l_next) :=
  fn_den (N := ["net", "road", "k"]) (k := 0) T.F_l_next sc_l_next rfl fun cdv A outer s H E hr tk po => ⟨_, (eb_one (es_ret (ee_lc (own := [("k", 2)]) sc_l_next.nd (ei_range1 (ek_len K T.m_len (ed_cons (ek_ix K (ee_var 0) ee_int) ed_nil)) T.m_range) (blkOk_by (N := ["net", "road", "k"]) (sc := defScope s_l_next) (by decide +kernel)) (fun _ _ _ _ _ => (eg_name 2 sc_l_next.nd)) (fun _ _ _ _ _ => (ets_one (tk_eq K hr.units (ek_ix K (ek_ix K (ek_ix K (ee_var 0) ee_int) (ee_var 2)) ee_int) (ek_ix K (ek_ix K (ek_ix K (ee_var 0) ee_int) (ee_var 1)) ee_int)))) (fun _ _ _ _ _ => (ee_var 2)))))⟩

theorem ok_l_places (T : Fx K mg) : FnOk P w K mg base (L2.CX P w) 2 T.f_l_places T.fd_l_places ["net"] (spD K mg 1 d_l_places) :=
  fn_den (N := ["net", "found", "last", "later", "road", "state", "other"]) (k := 1) T.F_l_places sc_l_places rfl fun cdv A outer s H E hr tk po => ⟨_, (eb_cons (es_par 1 2 true false sc_l_places.nd (ee_lst ed_nil) (ee_lc (own := [("road", 4)]) sc_l_places.nd (ei_range1 (ek_len K T.m_len (ed_cons (ek_ix K (ee_var 0) ee_int) ed_nil)) T.m_range) (blkOk_by (N := ["net", "found", "last", "later", "road", "state", "other"]) (sc := defScope s_l_places) (by decide +kernel)) (fun _ _ _ _ _ => (eg_name 4 sc_l_places.nd)) (fun _ _ _ _ _ => ets_nil) (fun _ _ _ _ _ => (ee_tup (ed_cons (ee_var 4) (ed_cons ee_int ed_nil))))))
      (eb_cons (es_while po (tk_ne K hr.units (ee_var 2) (ee_lst ed_nil)) (eb_cons (es_asgF 3 sc_l_places.nd (ee_lst ed_nil))
      (eb_cons (es_for po (ik_seq K (ee_var 2)) (gk_tup K (egs_cons (eg_name 4 sc_l_places.nd) (egs_cons (eg_name 5 sc_l_places.nd) egs_nil))) (eb_one (es_if (tk_oNin K 1 (hu65_of hr) (ee_tup (ed_cons (ee_var 4) (ed_cons (ee_var 5) ed_nil)))) (eb_cons (es_app 1 (ee_tup (ed_cons (ee_var 4) (ed_cons (ee_var 5) ed_nil))))
      (eb_one (es_asgF 3 sc_l_places.nd (ek_add K (ee_var 3) (ee_lc (own := [("other", 6)]) sc_l_places.nd (ik_seq K (ek_call K (ok_l_next T) (hr.mono (by decide)) T.g_l_next T.F_l_next.kp T.b_l_next tk (ea_cons (ee_var 0) (ea_cons (ee_var 4) ea_nil)))) (blkOk_by (N := ["net", "found", "last", "later", "road", "state", "other"]) (sc := defScope s_l_places) (by decide +kernel)) (fun _ _ _ _ _ => (eg_name 6 sc_l_places.nd)) (fun _ _ _ _ _ => ets_nil) (fun _ _ _ _ _ => (ee_tup (ed_cons (ee_var 6) (ed_cons (ek_call K (ok_l_behind T) (hr.mono (by decide)) T.g_l_behind T.F_l_behind.kp T.b_l_behind takes0 (ea_cons (ee_var 0) (ea_cons (ee_var 4) (ea_cons (ee_var 5) ea_nil)))) ed_nil))))))))) eb_nil)))
      (eb_one (es_asgF 2 sc_l_places.nd (ee_var 3))))))
      (eb_one (es_frz 1 (es_ret (ek_sorted K hr.units T.m_sorted (ed_cons (ee_var 1) ed_nil)))))))⟩

theorem ok_l_badnet (T : Fx K mg) : FnOk P w K mg base (L2.CX P w) 2 T.f_l_badnet T.fd_l_badnet ["script", "at"] (spD K mg 2 d_l_badnet) :=
  fn_den (N := ["script", "at", "road", "bad", "odd"]) (k := 1) T.F_l_badnet sc_l_badnet rfl fun cdv A outer s H E hr tk po => ⟨_, (eb_cons (es_asgF 2 sc_l_badnet.nd (ee_tup (ed_cons ee_int (ed_cons ee_int (ed_cons ee_int (ed_cons (ee_tup ed_nil) ed_nil))))))
      (eb_cons (es_asg 3 sc_l_badnet.nd (ee_lst (ed_cons ee_non (ed_cons (ee_tup ed_nil) (ed_cons (ee_tup (ed_cons ee_int (ed_cons ee_int (ed_cons ee_int (ed_cons (ee_tup ed_nil) ed_nil))))) (ed_cons (ee_tup (ed_cons ee_int (ed_cons ee_int (ed_cons ee_int (ed_cons (ee_tup (ed_cons (ee_var 2) ed_nil)) ed_nil))))) (ed_cons (ee_tup (ed_cons ee_int (ed_cons ee_int (ed_cons ee_int (ed_cons (ee_tup (ed_cons (ee_var 2) ed_nil)) ed_nil))))) ed_nil)))))))
      (eb_cons (es_frz 3 (es_asg 3 sc_l_badnet.nd (ek_add K (ee_var 3) (ee_lst (ed_cons (ee_tup (ed_cons ee_int (ed_cons ee_int (ed_cons ee_int (ed_cons (ee_tup (ed_cons (ee_var 2) ed_nil)) ed_nil))))) (ed_cons (ee_tup (ed_cons ee_int (ed_cons ee_int (ed_cons ee_int (ed_cons (ek_repT K (ee_tup (ed_cons (ee_var 2) ed_nil)) ee_int) ed_nil))))) ed_nil))))))
      (eb_cons (es_frz 3 (es_asg 3 sc_l_badnet.nd (ek_add K (ee_var 3) (ee_lst (ed_cons (ee_lst (ed_cons ee_int (ed_cons ee_int (ed_cons ee_int (ed_cons (ee_tup (ed_cons (ee_var 2) ed_nil)) ed_nil))))) (ed_cons (ee_tup (ed_cons ee_int (ed_cons ee_int (ed_cons ee_int (ed_cons (ee_lst (ed_cons (ee_var 2) ed_nil)) ed_nil))))) (ed_cons (ee_tup (ed_cons ee_bl (ed_cons ee_int (ed_cons ee_int (ed_cons (ee_tup (ed_cons (ee_var 2) ed_nil)) ed_nil))))) ed_nil)))))))
      (eb_cons (es_frz 3 (es_asg 3 sc_l_badnet.nd (ek_add K (ee_var 3) (ee_lst (ed_cons (ee_tup (ed_cons ee_int (ed_cons ee_int (ed_cons ee_int (ed_cons (ee_tup (ed_cons (ee_tup (ed_cons ee_int (ed_cons ee_int (ed_cons ee_int ed_nil)))) ed_nil)) ed_nil))))) ed_nil)))))
      (eb_cons (es_for po (ik_seq K (ee_tup (ed_cons (ee_tup (ed_cons ee_int (ed_cons ee_int (ed_cons ee_int (ed_cons (ee_tup ed_nil) ed_nil))))) (ed_cons (ee_tup (ed_cons ee_int (ed_cons ee_int (ed_cons ee_int (ed_cons (ee_tup ed_nil) ed_nil))))) (ed_cons (ee_tup (ed_cons ee_int (ed_cons ee_int (ed_cons ee_int (ed_cons (ee_tup (ed_cons ee_int ed_nil)) ed_nil))))) (ed_cons (ee_tup (ed_cons ee_int (ed_cons ee_int (ed_cons ee_int (ed_cons (ee_tup (ed_cons ee_int (ed_cons ee_int (ed_cons ee_int (ed_cons ee_int ed_nil))))) ed_nil))))) (ed_cons (ee_tup (ed_cons ee_int (ed_cons ee_int (ed_cons ee_int (ed_cons (ee_lst (ed_cons ee_int ed_nil)) ed_nil))))) ed_nil))))))) (eg_name 4 sc_l_badnet.nd) (eb_one (es_app 3 (ee_tup (ed_cons ee_int (ed_cons ee_int (ed_cons ee_int (ed_cons (ee_tup (ed_cons (ee_var 4) ed_nil)) ed_nil))))))))
      (eb_one (es_ret (ek_oix K 3 (ek_call K (ok_l_drawn T) (hr.mono (by decide)) T.g_l_drawn T.F_l_drawn.kp T.b_l_drawn tk (ea_cons (ee_var 0) (ea_cons (ee_var 1) (ea_cons ee_int ea_nil)))))))))))))⟩

theorem ok_l_text (T : Fx K mg) : FnOk P w K mg base (L2.CX P w) 1 T.f_l_text T.fd_l_text ["net"] (spD K mg 1 d_l_text) :=
  fn_den (N := ["net", "found", "start", "end", "town", "signs", "sign"]) (k := 0) T.F_l_text sc_l_text rfl fun cdv A outer s H E hr tk po => ⟨_, (eb_cons (es_asg 1 sc_l_text.nd (ee_lst (ed_cons (ee_callTy call_str_int bd_strI T.m_str (by decide +kernel) (ed_cons (ek_ix K (ee_var 0) ee_int) ed_nil)) (ed_cons (ee_callTy call_str_int bd_strI T.m_str (by decide +kernel) (ed_cons (ek_ix K (ee_var 0) ee_int) ed_nil)) (ed_cons (ee_callTy call_str_int bd_strI T.m_str (by decide +kernel) (ed_cons (ek_ix K (ee_var 0) ee_int) ed_nil)) ed_nil)))))
      (eb_cons (es_for po (ik_seq K (ek_ix K (ee_var 0) ee_int)) (gk_tup K (egs_cons (eg_name 2 sc_l_text.nd) (egs_cons (eg_name 3 sc_l_text.nd) (egs_cons (eg_name 4 sc_l_text.nd) (egs_cons (eg_name 5 sc_l_text.nd) egs_nil))))) (eb_one (es_app 1 (ek_add K (ek_add K (ek_add K (ek_add K (ee_callTy call_str_int bd_strI T.m_str (by decide +kernel) (ed_cons (ee_var 2) ed_nil)) ee_str) (ee_callTy call_str_int bd_strI T.m_str (by decide +kernel) (ed_cons (ee_var 3) ed_nil))) (ek_ix K (ee_lst (ed_cons ee_str (ed_cons ee_str ed_nil))) (ee_var 4))) (ek_join K ee_str (ee_lc (own := [("sign", 6)]) sc_l_text.nd (ik_seq K (ee_var 5)) (blkOk_by (N := ["net", "found", "start", "end", "town", "signs", "sign"]) (sc := defScope s_l_text) (by decide +kernel)) (fun _ _ _ _ _ => (eg_name 6 sc_l_text.nd)) (fun _ _ _ _ _ => ets_nil) (fun _ _ _ _ _ => (ek_add K ee_str (ee_callTy call_str_int bd_strI T.m_str (by decide +kernel) (ed_cons (ee_var 6) ed_nil))))))))))
      (eb_one (es_frz 1 (es_ret (ek_join K ee_str (ee_var 1)))))))⟩

theorem ok_l_again (T : Fx K mg) : FnOk P w K mg base (L2.CX P w) 6 T.f_l_again T.fd_l_again ["text"] (spD K mg 1 d_l_again) :=
  fn_den (N := ["text", "e"]) (k := 5) T.F_l_again sc_l_again rfl fun cdv A outer s H E hr tk po => ⟨_, (eb_one (es_try (known := knownX) (i := 1) rfl rfl sc_l_again.nd T.gc_LimitError tk T.ex_LimitError (fun W pn xe tk po => (eb_one (es_ret (ek_call K (ok_l_text T) (hr.mono (by decide)) T.g_l_text T.F_l_text.kp T.b_l_text tk (ea_cons (ek_call K (ok_parse_net T) (hr.mono (by decide)) T.g_parse_net T.F_parse_net.kp T.b_parse_net tk (ea_cons (ee_var 0) ea_nil)) ea_nil))))) (fun a oe C c pn hc hm hz hf => (eb_one (es_ret (ee_if (et_val (ek_isE K 1 (T.ec c C hc hm) hz hf T.m_isinstance T.gc_ParseError (T.kt_ParseError c C hc hm))) ee_non ee_str))))))⟩

theorem ok_l_bad (T : Fx K mg) : FnOk P w K mg base (L2.CX P w) 7 T.f_l_bad T.fd_l_bad [] (spD K mg 0 d_l_bad) :=
  fn_den (N := ["bad", "one"]) (k := 6) T.F_l_bad sc_l_bad rfl fun cdv A outer s H E hr tk po => ⟨_, (eb_cons (es_asgF 0 sc_l_bad.nd (ee_lst (ed_cons ee_non (ed_cons ee_int (ed_cons ee_str (ed_cons ee_str (ed_cons ee_str (ed_cons ee_str (ed_cons ee_str (ed_cons ee_str ed_nil))))))))))
      (eb_cons (es_asgF 0 sc_l_bad.nd (ek_add K (ee_var 0) (ee_lst (ed_cons ee_str (ed_cons ee_str (ed_cons ee_str (ed_cons ee_str ed_nil)))))))
      (eb_cons (es_asgF 0 sc_l_bad.nd (ek_add K (ee_var 0) (ee_lst (ed_cons ee_str (ed_cons ee_str (ed_cons ee_str (ed_cons ee_str (ed_cons ee_str ed_nil))))))))
      (eb_cons (es_asgF 0 sc_l_bad.nd (ek_add K (ee_var 0) (ee_lst (ed_cons ee_str (ed_cons ee_str (ed_cons ee_str ed_nil))))))
      (eb_cons (es_asgF 0 sc_l_bad.nd (ek_add K (ee_var 0) (ee_lst (ed_cons (ee_tup (ed_cons ee_str ed_nil)) (ed_cons ee_str (ed_cons ee_str (ed_cons ee_str ed_nil)))))))
      (eb_cons (es_asgF 0 sc_l_bad.nd (ek_add K (ee_var 0) (ee_lst (ed_cons ee_str (ed_cons ee_str (ed_cons ee_str (ed_cons ee_str ed_nil)))))))
      (eb_cons (es_if (et_not (tk_eq K hr.units (ee_lc (own := [("one", 1)]) sc_l_bad.nd (ik_seq K (ee_var 0)) (blkOk_by (N := ["bad", "one"]) (sc := defScope s_l_bad) (by decide +kernel)) (fun _ _ _ _ _ => (eg_name 1 sc_l_bad.nd)) (fun _ _ _ _ _ => (ets_one (et_cmp op_isNotA od_isNot (ek_call K (ok_l_again T) (hr.mono (by decide)) T.g_l_again T.F_l_again.kp T.b_l_again takes0 (ea_cons (ee_var 1) ea_nil)) ee_non (nomark _)))) (fun _ _ _ _ _ => (ee_var 1))) (ee_lst ed_nil))) (eb_one (es_ret ee_bl)) eb_nil)
      (eb_one (es_ret (ee_cmp op_isA od_is (ek_call K (ok_l_again T) (hr.mono (by decide)) T.g_l_again T.F_l_again.kp T.b_l_again tk (ea_cons (ek_add K ee_str (ek_repS ee_str ee_int)) ea_nil)) ee_non (nomark _)))))))))))⟩

theorem ok_l_refused (T : Fx K mg) : FnOk P w K mg base (L2.CX P w) 8 T.f_l_refused T.fd_l_refused ["way", "one", "two"] (spD K mg 3 d_l_refused) :=
  fn_den (N := ["way", "one", "two", "e"]) (k := 7) T.F_l_refused sc_l_refused rfl fun cdv A outer s H E hr tk po => ⟨_, (eb_cons (es_try (known := knownX) (i := 3) rfl rfl sc_l_refused.nd T.gc_LimitError tk T.ex_LimitError (fun W pn xe tk po => (eb_one (es_if (tk_eq K hr.units (ee_var 0) ee_int) (eb_one (es_expr (ek_call K (ok_format_net T) (hr.mono (by decide)) T.g_format_net T.F_format_net.kp T.b_format_net tk (ea_cons (ee_var 1) ea_nil)))) (eb_one (es_expr (ek_call K (ok_board T) (hr.mono (by decide)) T.g_board T.F_board.kp T.b_board tk (ea_cons (ee_var 1) (ea_cons (ee_var 2) ea_nil)))))))) (fun a oe C c pn hc hm hz hf => (eb_one (es_ret (ek_idxT K (ee_lst (ed_cons (ek_isE K 3 (T.ec c C hc hm) hz hf T.m_isinstance T.gc_InvalidNet (T.kt_InvalidNet c C hc hm)) (ed_cons (ek_isE K 3 (T.ec c C hc hm) hz hf T.m_isinstance T.gc_InvalidRoad (T.kt_InvalidRoad c C hc hm)) ed_nil))))))))
      (eb_one (es_ret ee_non)))⟩

theorem ok_law (T : Fx K mg) : FnOk P w K mg base (L2.CX P w) 9 T.f_law T.fd_law ["script"] (spD K mg 1 d_law) :=
  fn_den (N := ["script", "net", "text", "places", "road", "rows", "due", "piece", "k", "at", "cut", "sign", "new", "bent", "odd", "bad", "told", "one", "state", "limit", "row"]) (k := 8) T.F_law sc_law rfl fun cdv A outer s H E hr tk po => ⟨_, (eb_cons (es_asgF 1 sc_law.nd (ek_call K (ok_l_net T) (hr.mono (by decide)) T.g_l_net T.F_l_net.kp T.b_l_net tk (ea_cons (ee_var 0) (ea_cons ee_int (ea_cons ee_int ea_nil)))))
      (eb_cons (es_par 2 3 false false sc_law.nd (ek_call K (ok_l_text T) (hr.mono (by decide)) T.g_l_text T.F_l_text.kp T.b_l_text tk (ea_cons (ee_var 1) ea_nil)) (ek_call K (ok_l_places T) (hr.mono (by decide)) T.g_l_places T.F_l_places.kp T.b_l_places tk (ea_cons (ee_var 1) ea_nil)))
      (eb_cons (es_if (EW.et (ew_or (tk_ne K hr.units (ek_call K (ok_format_net T) (hr.mono (by decide)) T.g_format_net T.F_format_net.kp T.b_format_net tk (ea_cons (ee_var 1) ea_nil)) (ee_var 2)) (ew_or (tk_ne K hr.units (ek_call K (ok_parse_net T) (hr.mono (by decide)) T.g_parse_net T.F_parse_net.kp T.b_parse_net tk (ea_cons (ee_var 2) ea_nil)) (ee_var 1)) (ew_or1 (et_not (et_val (ek_call0 K (ok_l_bad T) (hr.mono (by decide)) T.g_l_bad T.F_l_bad.kp T.b_l_bad tk))))))) (eb_one (es_ret ee_bl)) eb_nil)
      (eb_cons (es_for po (ei_range1 (ek_len K T.m_len (ed_cons (ek_ix K (ee_var 1) ee_int) ed_nil)) T.m_range) (eg_name 4 sc_law.nd) (eb_cons (es_par 5 6 false true sc_law.nd (ee_lc (own := [("one", 17), ("state", 18)]) sc_law.nd (ik_seq K (ee_var 3)) (blkOk_by (N := ["script", "net", "text", "places", "road", "rows", "due", "piece", "k", "at", "cut", "sign", "new", "bent", "odd", "bad", "told", "one", "state", "limit", "row"]) (sc := defScope s_law) (by decide +kernel)) (fun _ _ _ _ _ => (gk_tup K (egs_cons (eg_name 17 sc_law.nd) (egs_cons (eg_name 18 sc_law.nd) egs_nil)))) (fun _ _ _ _ _ => (ets_one (tk_eq K hr.units (ee_var 17) (ee_var 4)))) (fun _ _ _ _ _ => (ek_call K (ok_l_pieces T) (hr.mono (by decide)) T.g_l_pieces T.F_l_pieces.kp T.b_l_pieces takes0 (ea_cons (ee_var 1) (ea_cons (ee_var 4) (ea_cons (ee_var 18) ea_nil)))))) (ee_lst ed_nil))
      (eb_cons (es_for po (ei_range1 (ek_len K T.m_len (ed_cons (ek_ix K (ee_var 5) ee_int) ed_nil)) T.m_range) (eg_name 7 sc_law.nd) (eb_one (es_app 6 (ek_join K ee_str (ee_lc (own := [("limit", 19)]) sc_law.nd (ik_seq K (ek_setSorted K w T.m_sorted T.m_set (ee_lc (own := [("row", 20)]) sc_law.nd (ik_seq K (ee_var 5)) (blkOk_by (N := ["script", "net", "text", "places", "road", "rows", "due", "piece", "k", "at", "cut", "sign", "new", "bent", "odd", "bad", "told", "one", "state", "limit", "row"]) (sc := defScope s_law) (by decide +kernel)) (fun _ _ _ _ _ => (eg_name 20 sc_law.nd)) (fun _ _ _ _ _ => ets_nil) (fun _ _ _ _ _ => (ek_ix K (ee_var 20) (ee_var 7)))))) (blkOk_by (N := ["script", "net", "text", "places", "road", "rows", "due", "piece", "k", "at", "cut", "sign", "new", "bent", "odd", "bad", "told", "one", "state", "limit", "row"]) (sc := defScope s_law) (by decide +kernel)) (fun _ _ _ _ _ => (eg_name 19 sc_law.nd)) (fun _ _ _ _ _ => ets_nil) (fun _ _ _ _ _ => (ek_add K (ee_callTy call_str_int bd_strI T.m_str (by decide +kernel) (ed_cons (ee_var 19) ed_nil)) ee_str)))))))
      (eb_one (es_frz 6 (es_if (tk_ne K hr.units (ek_call K (ok_board T) (hr.mono (by decide)) T.g_board T.F_board.kp T.b_board tk (ea_cons (ee_var 1) (ea_cons (ee_var 4) ea_nil))) (ee_var 6)) (eb_one (es_ret ee_bl)) eb_nil))))))
      (eb_cons (es_for po (ei_range1 ee_int T.m_range) (eg_name 8 sc_law.nd) (eb_cons (es_asgF 9 sc_law.nd (ek_add K ee_int (ee_op op_mul od_mul ee_int (ee_var 8))))
      (eb_cons (es_par 10 11 false false sc_law.nd (ek_call K (ok_l_drawn T) (hr.mono (by decide)) T.g_l_drawn T.F_l_drawn.kp T.b_l_drawn tk (ea_cons (ee_var 0) (ea_cons (ee_var 9) (ea_cons (ek_add K (ek_len K T.m_len (ed_cons (ee_var 2) ed_nil)) ee_int) ea_nil)))) (ek_ix K ee_str (ek_call K (ok_l_drawn T) (hr.mono (by decide)) T.g_l_drawn T.F_l_drawn.kp T.b_l_drawn tk (ea_cons (ee_var 0) (ea_cons (ek_add K (ee_var 9) ee_int) (ea_cons ee_int ea_nil))))))
      (eb_cons (es_asgF 12 sc_law.nd (ee_if (tk_eq K hr.units (ek_call K (ok_l_drawn T) (hr.mono (by decide)) T.g_l_drawn T.F_l_drawn.kp T.b_l_drawn tk (ea_cons (ee_var 0) (ea_cons (ek_add K (ee_var 9) ee_int) (ea_cons ee_int ea_nil)))) ee_int) ee_str (ee_var 11)))
      (eb_cons (es_asgF 13 sc_law.nd (ek_add K (ek_add K (ek_sl K (ee_var 2) eo_none (eo_some (ee_var 10))) (ee_var 12)) (ek_sl K (ee_var 2) (eo_some (ek_add K (ee_var 10) (ek_call K (ok_l_drawn T) (hr.mono (by decide)) T.g_l_drawn T.F_l_drawn.kp T.b_l_drawn tk (ea_cons (ee_var 0) (ea_cons (ek_add K (ee_var 9) ee_int) (ea_cons ee_int ea_nil)))))) eo_none)))
      (eb_one (es_if (tk_notIn K (hu65_of hr) (ek_call K (ok_l_again T) (hr.mono (by decide)) T.g_l_again T.F_l_again.kp T.b_l_again tk (ea_cons (ee_var 13) ea_nil)) (ee_tup (ed_cons ee_non (ed_cons (ee_var 13) ed_nil)))) (eb_one (es_ret ee_bl)) eb_nil)))))))
      (eb_cons (es_par 14 15 false false sc_law.nd (ek_call K (ok_l_badnet T) (hr.mono (by decide)) T.g_l_badnet T.F_l_badnet.kp T.b_l_badnet tk (ea_cons (ee_var 0) (ea_cons ee_int ea_nil))) (ek_ix K (ee_lst (ed_cons ee_non (ed_cons (ee_un un_neg ud_neg ee_int) (ed_cons (ek_len K T.m_len (ed_cons (ek_ix K (ee_var 1) ee_int) ed_nil)) (ed_cons ee_bl (ed_cons ee_str ed_nil)))))) (ek_call K (ok_l_drawn T) (hr.mono (by decide)) T.g_l_drawn T.F_l_drawn.kp T.b_l_drawn tk (ea_cons (ee_var 0) (ea_cons ee_int (ea_cons ee_int ea_nil))))))
      (eb_cons (es_asgF 16 sc_law.nd (ee_lst (ed_cons (ek_call K (ok_l_refused T) (hr.mono (by decide)) T.g_l_refused T.F_l_refused.kp T.b_l_refused tk (ea_cons ee_int (ea_cons (ee_var 14) (ea_cons ee_int ea_nil)))) (ed_cons (ek_call K (ok_l_refused T) (hr.mono (by decide)) T.g_l_refused T.F_l_refused.kp T.b_l_refused tk (ea_cons ee_int (ea_cons (ee_var 14) (ea_cons (ee_var 15) ea_nil)))) ed_nil))))
      (eb_cons (es_asgF 16 sc_law.nd (ek_add K (ee_var 16) (ee_lst (ed_cons (ek_call K (ok_l_refused T) (hr.mono (by decide)) T.g_l_refused T.F_l_refused.kp T.b_l_refused tk (ea_cons ee_int (ea_cons (ee_var 1) (ea_cons (ee_var 15) ea_nil)))) ed_nil))))
      (eb_one (es_ret (ek_eq K hr.units (ee_var 16) (ee_lst (ed_cons ee_int (ed_cons ee_int (ed_cons ee_int ed_nil)))))))))))))))⟩

end
end
end LW
namespace LW
open PySem PySem.Spec PyProof.Rows L2 DN

/-! ### nets -/
structure Road where
  s : Int
  e : Int
  t : Int
  g : List Int
structure Net where
  fast : Int
  slow : Int
  keeps : Int
  roads : List Road
def tI (xs : List Int) : PyData := .tuple (xs.map .int)
def Road.d (r : Road) : PyData := .tuple [.int r.s, .int r.e, .int r.t, tI r.g]
def Net.d (n : Net) : PyData := .tuple [.int n.fast, .int n.slow, .int n.keeps, .tuple (n.roads.map Road.d)]
@[simp] theorem nx0 (n : Net) : opIx n.d (.int 0) = .ok (.val (.int n.fast)) := rfl
@[simp] theorem nx1 (n : Net) : opIx n.d (.int 1) = .ok (.val (.int n.slow)) := rfl
@[simp] theorem nx2 (n : Net) : opIx n.d (.int 2) = .ok (.val (.int n.keeps)) := rfl
@[simp] theorem nx3 (n : Net) : opIx n.d (.int 3) = .ok (.val (.tuple (n.roads.map Road.d))) := rfl
@[simp] theorem rx0 (n : Road) : opIx n.d (.int 0) = .ok (.val (.int n.s)) := rfl
@[simp] theorem rx1 (n : Road) : opIx n.d (.int 1) = .ok (.val (.int n.e)) := rfl
@[simp] theorem rx2 (n : Road) : opIx n.d (.int 2) = .ok (.val (.int n.t)) := rfl
@[simp] theorem rx3 (n : Road) : opIx n.d (.int 3) = .ok (.val (tI n.g)) := rfl
@[simp] theorem n_tupl (n : Net) (ts : List PyData → Ev → Rs Ev) (ρ : Ev) : tTupl ts n.d ρ = ts [.int n.fast, .int n.slow, .int n.keeps, .tuple (n.roads.map Road.d)] ρ := rfl
@[simp] theorem r_tupl (n : Road) (ts : List PyData → Ev → Rs Ev) (ρ : Ev) : tTupl ts n.d ρ = ts [.int n.s, .int n.e, .int n.t, tI n.g] ρ := rfl
@[simp] theorem tI_len (xs : List Int) : biLen [tI xs] = .ok (.val (.int xs.length)) := by simp [tI]
@[simp] theorem tI_seq (xs : List Int) : seqD (tI xs) = .ok (xs.map .int) := rfl
structure Road.Ok (r : Road) : Prop where
  s0 : 0 ≤ r.s
  s5 : r.s ≤ 5
  e0 : 0 ≤ r.e
  e5 : r.e ≤ 5
  t : r.t = 0 ∨ r.t = 1
  gl : r.g.length ≤ 3
  g : ∀ x ∈ r.g, 0 ≤ x ∧ x ≤ 13
structure Net.Ok (n : Net) : Prop where
  f5 : 5 ≤ n.fast
  f13 : n.fast ≤ 13
  s1 : 1 ≤ n.slow
  sf : n.slow ≤ n.fast
  k : n.keeps = 0 ∨ n.keeps = 1
  r1 : 1 ≤ n.roads.length
  r8 : n.roads.length ≤ 8
  r : ∀ r ∈ n.roads, r.Ok

/-! ### the judging functions, at any data -/
def isIntB (d : PyData) (a b : Int) : Bool := match d with
  | .int i => decide (a ≤ i) && decide (i ≤ b)
  | _ => false
@[simp] theorem is_int_den (d : PyData) (a b : Int) : d_is_int [.val d, .val (.int a), .val (.int b)] = .ok (.val (.bool (isIntB d a b))) := by
  unfold d_is_int denB g_is_int
  cases d <;> simp [startE, isI, isB, isIntB]
  rename_i i
  by_cases h : a ≤ i <;> simp [h]
def areSignsB (d : PyData) : Bool := match d with
  | .tuple ds => decide (ds.length ≤ 3) && ds.all fun x => isIntB x 0 13
  | _ => false
theorem asBs_of (ds : List PyData) (f : PyData → Bool) : asBs (ds.map fun x => PyData.bool (f x)) = some (ds.map f) := by
  rw [show (ds.map fun x => PyData.bool (f x)) = (ds.map f).map PyData.bool by simp]
  exact asBs_map _
theorem lim_of {n : Nat} (h : n ≤ 1000) : n ≤ lim := Nat.le_trans h (by decide)
/-- a comprehension of truth values over the items of a tuple -/
theorem all_lc {i : Nat} {fe : Ev → Rs R} {ρ : Ev} {ds : List PyData} (f : PyData → Bool) (h : ∀ x ∈ ds, fe ((wipeE ρ [i]).set i (some (.val x))) = .ok (.val (.bool (f x)))) :
    lcGo (tName i) fYes fe (wipeE ρ [i]) ds = .ok (ds.map fun x => .bool (f x)) := by
  have := lcGo_map (ft := tName i) (fe := fe) (ρ := wipeE ρ [i]) id (fun x => (wipeE ρ [i]).set i (some (.val x))) (fun x => .bool (f x)) ds (fun _ _ => rfl) (fun x hx => by rw [h x hx]; rfl)
  simpa using this
@[simp] theorem are_signs_den (d : PyData) : d_are_signs [.val d] = .ok (.val (.bool (areSignsB d))) := by
  unfold d_are_signs denB g_are_signs
  cases d <;> simp [startE, isT, areSignsB]
  rename_i ds
  by_cases h : 3 < (ds.length : Int)
  · have h3 : ¬ ds.length ≤ 3 := by omega
    simp [h, h3]
  · have h3 : ds.length ≤ 3 := by omega
    have e : are_signs_c1 [some (.val (.tuple ds)), none] = .ok (.own (ds.map fun x => .bool (isIntB x 0 13))) :=
      fLc_of (ds := ds) (by simp) (lim_of (by omega)) (all_lc _ fun x hx => by simp)
    simp [h, h3, e, asBs_of]
def isRoadB (d : PyData) : Bool := match d with
  | .tuple [a, b, c, s] => areSignsB s && isIntB a 0 5 && isIntB b 0 5 && isIntB c 0 1
  | _ => false
theorem four {ds : List PyData} (h : ds.length = 4) : ∃ a b c d, ds = [a, b, c, d] := by
  match ds, h with
  | [a, b, c, d], _ => exact ⟨a, b, c, d, rfl⟩
@[simp] theorem is_road_den (d : PyData) : d_is_road [.val d] = .ok (.val (.bool (isRoadB d))) := by
  unfold d_is_road denB g_is_road
  cases d <;> simp [startE, isT, isRoadB]
  rename_i ds
  by_cases h : (ds.length : Int) = 4
  · obtain ⟨a, b, c, e, rfl⟩ := four (ds := ds) (by omega)
    simp
    cases h1 : areSignsB e <;> cases h2 : isIntB a 0 5 <;> cases h3 : isIntB b 0 5 <;> cases h4 : isIntB c 0 1 <;> simp [h1, h2, h3, h4]
  · simp [h]
    split
    · rename_i heq
      cases heq
      simp at h
    · rfl
theorem isIntB_true {d : PyData} {a b : Int} (h : isIntB d a b = true) : ∃ i, d = .int i ∧ a ≤ i ∧ i ≤ b := by
  cases d <;> simp [isIntB] at h
  exact ⟨_, rfl, h⟩
def intOf : PyData → Int
  | .int i => i
  | _ => 0
def roadsB : PyData → Bool
  | .tuple ds => decide (1 ≤ ds.length) && decide (ds.length ≤ 8) && ds.all isRoadB
  | _ => false
def isNetB (d : PyData) : Bool := match d with
  | .tuple [f, s, k, r] => isIntB f 5 13 && isIntB s 1 (intOf f) && isIntB k 0 1 && roadsB r
  | _ => false
@[simp] theorem is_net_den (d : PyData) : d_is_net [.val d] = .ok (.val (.bool (isNetB d))) := by
  unfold d_is_net denB g_is_net
  cases d <;> simp [startE, isT, isNetB]
  rename_i ds
  by_cases h : (ds.length : Int) = 4
  · obtain ⟨a, b, c, e, rfl⟩ := four (ds := ds) (by omega)
    simp
    cases h1 : isIntB a 5 13 with
    | false => simp
    | true =>
      obtain ⟨i, rfl, _, _⟩ := isIntB_true h1
      simp [intOf]
      cases h2 : isIntB b 1 i with
      | false => simp
      | true =>
        cases h3 : isIntB c 0 1 with
        | false => simp
        | true =>
          simp
          cases e with
          | tuple rs =>
            simp [isT, roadsB]
            by_cases h4 : 1 ≤ (rs.length : Int)
            · have h4' : 1 ≤ rs.length := by omega
              by_cases h5 : (rs.length : Int) ≤ 8
              · have h5' : rs.length ≤ 8 := by omega
                have e : is_net_c1 [some (.val (.tuple [.int i, b, c, .tuple rs])), some (.val (.int i)), some (.val b), some (.val c), some (.val (.tuple rs)), none] = .ok (.own (rs.map fun x => .bool (isRoadB x))) :=
                  fLc_of (ds := rs) (by simp) (lim_of (by omega)) (all_lc _ fun x hx => by simp)
                simp [h4, h5, h4', h5', e, asBs_of]
              · have h5' : ¬ rs.length ≤ 8 := by omega
                simp [h4, h5, h4', h5']
            · have h4' : ¬ 1 ≤ rs.length := by omega
              simp [h4, h4']
          | none => simp [isT, roadsB]
          | bool _ => simp [isT, roadsB]
          | int _ => simp [isT, roadsB]
          | str _ => simp [isT, roadsB]
          | list _ => simp [isT, roadsB]
          | dict _ => simp [isT, roadsB]
  · simp [h]
    split
    · rename_i heq
      cases heq
      simp at h
    · rfl
@[simp] theorem check_net_den (d : PyData) : d_check_net [.val d] = if isNetB d = true then .ok (.val .none) else .err "InvalidNet" := by
  unfold d_check_net denB g_check_net
  simp [startE]
  cases h : isNetB d <;> simp
@[simp] theorem isIntB_int (i a b : Int) : isIntB (.int i) a b = (decide (a ≤ i) && decide (i ≤ b)) := rfl
theorem Road.Ok.b {r : Road} (h : r.Ok) : isRoadB r.d = true := by
  unfold Road.d isRoadB areSignsB tI
  have h1 := h.t
  have h2 := h.g
  simp [h.s0, h.s5, h.e0, h.e5, h.gl]
  refine ⟨fun x hx => ?_, by omega, by omega⟩
  exact h2 x hx
@[simp] theorem Net.Ok.b {n : Net} (h : n.Ok) : isNetB n.d = true := by
  unfold Net.d isNetB roadsB
  have h1 := h.k
  simp [intOf, h.f5, h.f13, h.s1, h.sf, h.r1, h.r8]
  exact ⟨⟨by omega, by omega⟩, fun r hr => (h.r r hr).b⟩
end LW
namespace LW
open PySem PySem.Spec PyProof.Rows L2 DN

def Net.rd (n : Net) (k : Nat) : Road := n.roads.getD k ⟨0, 0, 0, []⟩
theorem rd_get {n : Net} {k : Nat} (hk : k < n.roads.length) : (n.roads.map Road.d)[k]? = some (n.rd k).d := by
  simp [Net.rd, hk]
theorem rd_mem {n : Net} {k : Nat} (hk : k < n.roads.length) : n.rd k ∈ n.roads := by
  simp [Net.rd, hk]
theorem Net.Ok.rd {n : Net} (h : n.Ok) {k : Nat} (hk : k < n.roads.length) : (n.rd k).Ok := h.r _ (rd_mem hk)
theorem roads_range (n : Net) : n.roads = (List.range n.roads.length).map n.rd := by
  apply List.ext_getElem?
  intro i
  by_cases h : i < n.roads.length
  · simp [Net.rd, h]
  · simp [h]
def nI (ks : List Nat) : List PyData := ks.map fun k => .int (k : Nat)
/-- the roads that can follow -/
def Net.aft (n : Net) (k : Nat) : List Nat := (List.range n.roads.length).filter fun i => decide ((n.rd i).s = (n.rd k).e)
theorem aft_lt {n : Net} {k i : Nat} (h : i ∈ n.aft k) : i < n.roads.length := by
  have := (List.mem_filter.mp h).1
  simpa using this
theorem aft_len (n : Net) (k : Nat) : (n.aft k).length ≤ n.roads.length := by
  have := List.length_filter_le (fun i => decide ((n.rd i).s = (n.rd k).e)) (List.range n.roads.length)
  simpa [Net.aft] using this
def Net.st (n : Net) (k : Nat) : Int := if (n.rd k).t = 1 then n.slow else n.fast
theorem enumD_map {α : Type} (f : α → PyData) (xs : List α) (dflt : α) : enumD (xs.map f) = (List.range xs.length).map fun i => PyData.tuple [.int (i : Nat), f (xs.getD i dflt)] := by
  unfold enumD
  apply List.ext_getElem?
  intro i
  by_cases h : i < xs.length
  · simp [h]
  · simp [h]
@[simp] theorem check_road_den {n : Net} (h : n.Ok) (v : PyData) : d_check_road [.val n.d, .val v] = if isIntB v 0 (n.roads.length - 1) = true then .ok (.val .none) else .err "InvalidRoad" := by
  unfold d_check_road denB g_check_road
  simp [startE, h.b]
  cases isIntB v 0 (n.roads.length - 1) <;> simp
theorem road_in {n : Net} {k : Nat} (hk : k < n.roads.length) : isIntB (.int (k : Nat)) 0 (n.roads.length - 1) = true := by
  simp
  omega
@[simp] theorem find_followers_den {n : Net} {k : Nat} (hk : k < n.roads.length) (h8 : n.roads.length ≤ 1000) : d_find_followers [.val n.d, .val (.int (k : Nat))] = .ok (.own (nI (n.aft k))) := by
  unfold d_find_followers denB g_find_followers
  have e : find_followers_c1 [some (.val n.d), some (.val (.int (k : Nat))), none, none] = .ok (.own (nI (n.aft k))) := by
    refine fLc_of (ds := enumD (n.roads.map Road.d)) (by simp) (lim_of (by simp [enumD]; omega)) ?_
    rw [enumD_map Road.d n.roads ⟨0, 0, 0, []⟩]
    refine lcGo_typed (fun i => PyData.tuple [.int (i : Nat), (n.rd i).d]) (fun i => [some (.val n.d), some (.val (.int k)), some (.val (.int (i : Nat))), some (.val (n.rd i).d)]) (fun i => decide ((n.rd i).s = (n.rd k).e)) (fun i => .int (i : Nat)) (List.range n.roads.length)
      (fun i hi => by simp) (fun i hi => ?_) (fun i hi _ => by simp)
    simp [rd_get hk]
  simp [startE, e]
@[simp] theorem find_standing_den {n : Net} {k : Nat} (hk : k < n.roads.length) : d_find_standing [.val n.d, .val (.int (k : Nat))] = .ok (.val (.int (n.st k))) := by
  unfold d_find_standing denB g_find_standing
  simp [startE, rd_get hk, Net.st]
  by_cases h : (n.rd k).t = 1 <;> simp [h]
/-! ### ways -/
def linkB (n : Net) : List Int → Bool
  | a :: b :: r => decide ((n.rd a.toNat).e = (n.rd b.toNat).s) && linkB n (b :: r)
  | _ => true
def hasWayB (n : Net) : PyData → Bool
  | .tuple ds => decide (1 ≤ ds.length) && decide (ds.length ≤ 20) && ds.all (fun x => isIntB x 0 (n.roads.length - 1)) && linkB n (ds.map intOf)
  | _ => false
theorem allInts {a b : Int} : ∀ {ds : List PyData}, (ds.all fun x => isIntB x a b) = true → ∃ ks : List Int, ds = ks.map .int ∧ ∀ k ∈ ks, a ≤ k ∧ k ≤ b
  | [], _ => ⟨[], rfl, by simp⟩
  | d :: ds, h => by
    rw [List.all_cons, Bool.and_eq_true_iff] at h
    obtain ⟨i, rfl, h1, h2⟩ := isIntB_true h.1
    obtain ⟨ks, rfl, hk⟩ := allInts h.2
    exact ⟨i :: ks, rfl, fun k hk' => by
      rcases List.mem_cons.mp hk' with rfl | h'
      · exact ⟨h1, h2⟩
      · exact hk k h'⟩
theorem linkB_zip (n : Net) : ∀ ks : List Int, linkB n ks = (ks.zip (ks.drop 1)).all fun p => decide ((n.rd p.1.toNat).e = (n.rd p.2.toNat).s)
  | [] => rfl
  | [_] => rfl
  | a :: b :: r => by
    have ih := linkB_zip n (b :: r)
    show (decide _ && linkB n (b :: r)) = _
    rw [ih]
    rfl
theorem zipD_ints (xs ys : List Int) : zipD (xs.map .int) (ys.map .int) = (xs.zip ys).map fun p => PyData.tuple [.int p.1, .int p.2] := by
  unfold zipD
  rw [List.zip_map, List.map_map]
  rfl
end LW
namespace LW
open PySem PySem.Spec PyProof.Rows L2 DN

end LW
namespace LW
open PySem PySem.Spec PyProof.Rows L2 DN

/-! ### ways, by length -/
def Net.ext (n : Net) (r : List Nat) : List (List Nat) := (n.aft (r.getLastD 0)).map fun k => r ++ [k]
def Net.lev (n : Net) : Nat → List (List Nat)
  | 0 => (List.range n.roads.length).map fun k => [k]
  | t + 1 => (n.lev t).flatMap n.ext
def Net.routes (n : Net) (m : Nat) : List (List Nat) := (List.range m).flatMap n.lev
def wD (r : List Nat) : PyData := .tuple (nI r)
structure Net.Way (n : Net) (r : List Nat) : Prop where
  ne : r ≠ []
  lt : ∀ k ∈ r, k < n.roads.length
  link : ∀ (i a b : Nat), r[i]? = some a → r[i + 1]? = some b → (n.rd a).e = (n.rd b).s
theorem last_lt {n : Net} {r : List Nat} (h : n.Way r) : r.getLastD 0 < n.roads.length := by
  apply h.lt
  rw [List.getLastD_eq_getLast?, List.getLast?_eq_some_getLast h.ne]
  exact List.getLast_mem h.ne
theorem ext_way {n : Net} {r r' : List Nat} (h : n.Way r) (hr : r' ∈ n.ext r) : n.Way r' := by
  unfold Net.ext at hr
  obtain ⟨k, hk, rfl⟩ := List.mem_map.mp hr
  have hk2 := List.mem_filter.mp hk
  have hk3 : (n.rd k).s = (n.rd (r.getLastD 0)).e := by simpa using hk2.2
  refine ⟨by simp, fun x hx => ?_, fun i a b ha hb => ?_⟩
  · rcases List.mem_append.mp hx with hx | hx
    · exact h.lt x hx
    · simp at hx
      subst hx
      exact aft_lt hk
  · by_cases h1 : i + 1 < r.length
    · rw [List.getElem?_append_left (by omega)] at ha hb
      exact h.link i a b ha hb
    · by_cases h2 : i + 1 = r.length
      · rw [List.getElem?_append_right (by omega)] at hb
        rw [List.getElem?_append_left (by omega)] at ha
        simp [h2] at hb
        subst hb
        have : r.getLastD 0 = a := by
          rw [List.getLastD_eq_getLast?, List.getLast?_eq_getElem?, show r.length - 1 = i by omega, ha]
          rfl
        rw [hk3, this]
      · rw [List.getElem?_append_right (by omega)] at hb
        have : ([k] : List Nat).length ≤ i + 1 - r.length := by simp; omega
        rw [List.getElem?_eq_none this] at hb
        cases hb
theorem lev_way {n : Net} : ∀ {t : Nat} {r : List Nat}, r ∈ n.lev t → n.Way r ∧ r.length = t + 1
  | 0, r, h => by
    obtain ⟨k, hk, rfl⟩ := List.mem_map.mp h
    have hk' : k < n.roads.length := by simpa using hk
    refine ⟨⟨by simp, fun x hx => by simp at hx; omega, fun i a b ha hb => ?_⟩, rfl⟩
    simp at hb
  | t + 1, r, h => by
    obtain ⟨r0, h0, h1⟩ := List.mem_flatMap.mp h
    have ih := lev_way h0
    refine ⟨ext_way ih.1 h1, ?_⟩
    obtain ⟨k, _, rfl⟩ := List.mem_map.mp h1
    simp [ih.2]
theorem flat_len {α β : Type} {f : α → List β} {c : Nat} : ∀ {xs : List α}, (∀ x ∈ xs, (f x).length ≤ c) → (xs.flatMap f).length ≤ xs.length * c
  | [], _ => by simp
  | x :: xs, h => by
    have ih := flat_len (xs := xs) fun y hy => h y (List.mem_cons_of_mem _ hy)
    have := h x List.mem_cons_self
    simp only [List.flatMap_cons, List.length_append, List.length_cons, Nat.succ_mul]
    omega
theorem ext_len (n : Net) (r : List Nat) : (n.ext r).length ≤ n.roads.length := by
  unfold Net.ext
  rw [List.length_map]
  exact aft_len n _
theorem lev_len (n : Net) : ∀ t : Nat, (n.lev t).length ≤ n.roads.length ^ (t + 1)
  | 0 => by simp [Net.lev]
  | t + 1 => by
    have := flat_len (f := n.ext) (xs := n.lev t) (fun r _ => ext_len n r)
    have ih := lev_len n t
    unfold Net.lev
    refine Nat.le_trans this ?_
    rw [Nat.pow_succ]
    exact Nat.mul_le_mul_right _ ih
theorem lev_len8 {n : Net} (h : n.roads.length ≤ 8) {t : Nat} (ht : t ≤ 5) : (n.lev t).length ≤ 262144 := by
  refine Nat.le_trans (lev_len n t) (Nat.le_trans (Nat.pow_le_pow_left h _) ?_)
  exact Nat.le_trans (Nat.pow_le_pow_right (by decide) (show t + 1 ≤ 6 by omega)) (by decide)
theorem routes_succ (n : Net) (m : Nat) : n.routes (m + 1) = n.routes m ++ n.lev m := by
  unfold Net.routes
  rw [List.range_succ]
  simp
theorem routes_len8 {n : Net} (h : n.roads.length ≤ 8) : ∀ {m : Nat}, m ≤ 6 → (n.routes m).length ≤ (8 ^ (m + 1) - 1) / 7
  | 0, _ => by simp [Net.routes]
  | m + 1, hm => by
    have ih := routes_len8 h (m := m) (by omega)
    have hl : (n.lev m).length ≤ 8 ^ (m + 1) := Nat.le_trans (lev_len n m) (Nat.pow_le_pow_left h _)
    rw [routes_succ, List.length_append]
    have e : 8 ^ (m + 1 + 1) = 8 ^ (m + 1) * 8 := Nat.pow_succ ..
    generalize 8 ^ (m + 1) = p at *
    omega
theorem routes_lim {n : Net} (h : n.roads.length ≤ 8) {m : Nat} (hm : m ≤ 6) : (n.routes m).length ≤ 299593 := by
  refine Nat.le_trans (routes_len8 h hm) ?_
  have : 8 ^ (m + 1) ≤ 8 ^ 7 := Nat.pow_le_pow_right (by decide) (by omega)
  have : (8 : Nat) ^ 7 = 2097152 := by decide
  omega
theorem nI_last {r : List Nat} (h : r ≠ []) : (nI r).getLast? = some (.int ((r.getLastD 0 : Nat) : Int)) := by
  unfold nI
  rw [List.getLast?_map, List.getLastD_eq_getLast?, List.getLast?_eq_some_getLast h]
  rfl
theorem dOks_nI (n : Nat) (ks : List Nat) : dOks n (nI ks) = true := dOks_map fun k _ => dOk_int n _
theorem eq_nI (ks : List Nat) : eqD (.list (nI ks)) (.list (nI ks)) = .ok true := eqD_same (n := 1) (dOk_list (dOks_nI 0 ks)) (by decide)
theorem eq_ints {α : Type} (f : α → Int) (xs : List α) : eqD (.list (xs.map fun x => .int (f x))) (.list (xs.map fun x => .int (f x))) = .ok true := eqD_same (n := 1) (dOk_list (dOks_map fun x _ => dOk_int 0 _)) (by decide)
theorem in_nI (k : Nat) (ks : List Nat) : inD (.int (k : Nat)) (.list (nI ks)) = .ok (decide (k ∈ ks)) := by
  have e : nI ks = (ks.map fun k => ((k : Nat) : Int)).map PyData.int := by simp [nI]
  rw [e, inD_ints]
  congr 1
  by_cases h : k ∈ ks
  · simp [h]
    exact ⟨k, h, rfl⟩
  · simp [h]
    intro x hx e
    have : x = k := by omega
    exact h (this ▸ hx)
theorem link_way {n : Net} : ∀ {r : List Nat}, (∀ (i a b : Nat), r[i]? = some a → r[i + 1]? = some b → (n.rd a).e = (n.rd b).s) → linkB n (r.map fun k => ((k : Nat) : Int)) = true
  | [], _ => rfl
  | [_], _ => rfl
  | a :: b :: r, h => by
    have h0 := h 0 a b rfl rfl
    have ih := link_way (n := n) (r := b :: r) (fun i x y hx hy => h (i + 1) x y (by simpa using hx) (by simpa using hy))
    show (decide _ && linkB n ((b :: r).map _)) = true
    rw [ih]
    simp [h0]
theorem nI_intOf (r : List Nat) : (nI r).map intOf = r.map fun k => ((k : Nat) : Int) := by simp [nI, intOf]
theorem hasWay_way {n : Net} {r : List Nat} (h : n.Way r) (hl : r.length ≤ 20) : hasWayB n (wD r) = true := by
  unfold wD hasWayB
  dsimp only
  rw [nI_intOf, link_way h.link]
  have h1 : 0 < r.length := List.length_pos_iff.mpr h.ne
  have : (nI r).length = r.length := by simp [nI]
  rw [this]
  have h2 : ((nI r).all fun x => isIntB x 0 (n.roads.length - 1)) = true := by
    rw [List.all_eq_true]
    intro x hx
    obtain ⟨k, hk, rfl⟩ := List.mem_map.mp hx
    have := h.lt k hk
    simp
    omega
  rw [h2]
  simp
  omega
theorem hasWay_two {n : Net} {a b : Nat} (ha : a < n.roads.length) (hb : b < n.roads.length) : hasWayB n (.tuple [.int (a : Nat), .int (b : Nat)]) = decide (b ∈ n.aft a) := by
  simp [hasWayB, linkB, intOf, Net.aft, hb]
  have h1 : (a : Int) ≤ n.roads.length - 1 := by omega
  have h2 : (b : Int) ≤ n.roads.length - 1 := by omega
  simp [h1, h2]
  by_cases h : (n.rd a).e = (n.rd b).s
  · simp [h]
  · have : ¬ (n.rd b).s = (n.rd a).e := fun z => h z.symm
    simp [h, this]

end LW
namespace LW
open PySem PySem.Spec PyProof.Rows L2 DN

/-! ### limits along ways -/
/-- the i-th road of a way -/
def wk (r : List Nat) (i : Nat) : Nat := r.getD i 0
def iL (xs : List Int) : PyData := .list (xs.map .int)
def lmt (rest one : Int) : Int := if one > 0 then one else rest
def Net.pcs (n : Net) (k : Nat) (s : Int) : List Int := (s :: (n.rd k).g).map (lmt (n.st k))
def Net.lv (n : Net) (k : Nat) (s : Int) : Int := (n.rd k).g.getLastD s
def Net.ov (n : Net) (s : Int) : Int := if n.keeps = 1 then s else 0
/-- the state onto the i-th road of a way; at its end -/
def Net.sB (n : Net) (r : List Nat) : Nat → Int
  | 0 => 0
  | i + 1 => n.ov (n.lv (wk r i) (n.sB r i))
def Net.sA (n : Net) (r : List Nat) : Nat → Int
  | 0 => 0
  | i + 1 => n.lv (wk r i) (n.sB r i)
theorem sB_succ (n : Net) (r : List Nat) {i : Nat} : n.sB r (i + 1) = n.ov (n.sA r (i + 1)) := rfl
def Net.rows (n : Net) (r : List Nat) : List (List Int) := (List.range r.length).map fun i => n.pcs (wk r i) (n.sB r i)
def Net.fin (n : Net) (r : List Nat) : Int := n.sA r r.length
theorem pcs_len (n : Net) (k : Nat) (s : Int) : (n.pcs k s).length = (n.rd k).g.length + 1 := by simp [Net.pcs]
theorem nI_get {r : List Nat} {i : Nat} (h : i < r.length) : (nI r)[i]? = some (.int ((wk r i : Nat) : Int)) := by
  simp [nI, h, wk]
theorem getD_mem {r : List Nat} {i : Nat} (h : i < r.length) : wk r i ∈ r := by
  simp [h, wk]
theorem enum_nI (r : List Nat) : enumD (nI r) = (List.range r.length).map fun i => PyData.tuple [.int (i : Nat), .int ((wk r i : Nat) : Int)] := enumD_map (fun k : Nat => PyData.int (k : Nat)) r 0
theorem r_ix {n : Net} {k : Nat} (hk : k < n.roads.length) : opIx (.tuple (n.roads.map Road.d)) (.int (k : Nat)) = .ok (.val (n.rd k).d) := by
  simp [rd_get hk]
theorem pieces_den {n : Net} (h : n.Ok) {k : Nat} (hk : k < n.roads.length) (s : Int) : d_pieces [.val n.d, .val (.int (k : Nat)), .val (.int s)] = .ok (.own ((n.pcs k s).map .int)) := by
  have h3 := (h.rd hk).gl
  have c1 : pieces_c1 [some (.val n.d), some (.val (.int (k : Nat))), some (.val (.int s)), some (.val (.int (n.st k))), none] = .ok (.own ((n.pcs k s).map .int)) := by
    refine fLc_of (ds := (s :: (n.rd k).g).map .int) ?_ (lim_of (by simp; omega)) ?_
    · have : (1 : Nat) + ((n.rd k).g.map PyData.int).length ≤ lim := lim_of (by simp; omega)
      simp [rd_get hk, tI]
      rw [if_pos (by simpa using this)]
      rfl
    · rw [show (n.pcs k s).map PyData.int = (s :: (n.rd k).g).map (fun x => PyData.int (lmt (n.st k) x)) by simp [Net.pcs]]
      refine lcGo_map (fun x : Int => PyData.int x) (fun x => [some (.val n.d), some (.val (.int (k : Nat))), some (.val (.int s)), some (.val (.int (n.st k))), some (.val (.int x))]) _ _ (fun x _ => by simp) (fun x _ => ?_)
      by_cases hx : 0 < x <;> simp [hx, lmt]
  unfold d_pieces denB g_pieces
  simp only [gSeq, startE]
  simp [find_standing_den hk, c1]
theorem leave_den {n : Net} (h : n.Ok) {k : Nat} (hk : k < n.roads.length) (s : Int) : d_leave [.val n.d, .val (.int (k : Nat)), .val (.int s)] = .ok (.val (.int (n.lv k s))) := by
  have h3 := (h.rd hk).gl
  unfold d_leave denB g_leave
  simp only [gSeq, startE]
  simp [rd_get hk, Net.lv]
  have e : eqD (tI (n.rd k).g) (.tuple []) = .ok (decide ((n.rd k).g = [])) := by
    rw [eqD_of (n := 1) (m := 1) (by unfold tI; exact dOk_tuple (dOks_map fun x _ => dOk_int 0 x)) (by simp [dOk, dOks]) (by decide) (by decide)]
    unfold tI
    cases (n.rd k).g <;> simp [PyData.eqv, PyData.eqvAll]
  rw [e]
  by_cases hg : (n.rd k).g = []
  · simp [hg]
  · obtain ⟨x, hx⟩ : ∃ x, (n.rd k).g.getLast? = some x := ⟨_, List.getLast?_eq_some_getLast hg⟩
    simp [hg, tI, atI_m1, hx]
theorem go_over_den (n : Net) (s : Int) : d_go_over [.val n.d, .val (.int s)] = .ok (.val (.int (n.ov s))) := by
  unfold d_go_over denB g_go_over
  simp only [startE]
  by_cases h : n.keeps = 1 <;> simp [h, Net.ov]
def Net.flt (n : Net) (r : List Nat) : List Int := (n.rows r).flatten
theorem rows_mem_len {n : Net} (h : n.Ok) {r : List Nat} (hr : n.Way r) {x : List Int} (hx : x ∈ n.rows r) : 1 ≤ x.length ∧ x.length ≤ 4 := by
  obtain ⟨i, hi, rfl⟩ := List.mem_map.mp hx
  have hi' : i < r.length := by simpa using hi
  have := (h.rd (hr.lt _ (getD_mem hi'))).gl
  rw [pcs_len]
  omega
theorem flt_len {n : Net} (h : n.Ok) {r : List Nat} (hr : n.Way r) : (n.flt r).length ≤ r.length * 4 := by
  have := flat_len (f := id) (xs := n.rows r) (c := 4) (fun x hx => (rows_mem_len h hr hx).2)
  unfold Net.flt
  rw [List.flatMap_id] at this
  have e : (n.rows r).length = r.length := by simp [Net.rows]
  omega
theorem flt_pos {n : Net} (h : n.Ok) {r : List Nat} (hr : n.Way r) : n.flt r ≠ [] := by
  intro e
  unfold Net.flt at e
  rw [List.flatten_eq_nil_iff] at e
  have hp : 0 < r.length := List.length_pos_iff.mpr hr.ne
  have hm : n.pcs (wk r 0) (n.sB r 0) ∈ n.rows r := List.mem_map.mpr ⟨0, by simpa using hp, rfl⟩
  have := (rows_mem_len h hr hm).1
  rw [e _ hm] at this
  simp at this
def chg (row : List Int) : Nat := ((row.zip row.tail).filter fun p => decide (p.1 ≠ p.2)).length
end LW
namespace LW
open PySem PySem.Spec PyProof.Rows L2 DN

/-! ### places: a road with a state onto it -/
/-- drivers can come onto the road k with the state s -/
inductive Net.Reach (n : Net) : Nat → Int → Prop
  | start {k : Nat} : k < n.roads.length → Net.Reach n k 0
  | go {k j : Nat} {s : Int} : Net.Reach n k s → j ∈ n.aft k → Net.Reach n j (n.ov (n.lv k s))
def Net.nxt (n : Net) (p : Nat × Int) : Int := n.ov (n.lv p.1 p.2)
def plD (p : Nat × Int) : PyData := .tuple [.int (p.1 : Nat), .int p.2]
theorem lv_bd {n : Net} (h : n.Ok) {k : Nat} (hk : k < n.roads.length) {s : Int} (h0 : 0 ≤ s) (h13 : s ≤ 13) : 0 ≤ n.lv k s ∧ n.lv k s ≤ 13 := by
  unfold Net.lv
  rw [List.getLastD_eq_getLast?]
  cases hg : (n.rd k).g.getLast? with
  | none => exact ⟨h0, h13⟩
  | some x => exact (h.rd hk).g x (List.mem_of_getLast? hg)
theorem ov_bd (n : Net) {s : Int} (h0 : 0 ≤ s) (h13 : s ≤ 13) : 0 ≤ n.ov s ∧ n.ov s ≤ 13 := by
  unfold Net.ov
  split
  · exact ⟨h0, h13⟩
  · omega
theorem reach_bd {n : Net} (h : n.Ok) {k : Nat} {s : Int} (r : n.Reach k s) : k < n.roads.length ∧ 0 ≤ s ∧ s ≤ 13 := by
  induction r with
  | start hk => exact ⟨hk, by omega, by omega⟩
  | go r hj ih =>
    have a := lv_bd h ih.1 ih.2.1 ih.2.2
    exact ⟨aft_lt hj, ov_bd n a.1 a.2⟩
/-- all places that there may be, in order -/
def Net.grid (n : Net) : List (Nat × Int) := (List.range n.roads.length).flatMap fun k => (List.range 14).map fun s => (k, ((s : Nat) : Int))
theorem mem_grid {n : Net} {p : Nat × Int} : p ∈ n.grid ↔ p.1 < n.roads.length ∧ 0 ≤ p.2 ∧ p.2 ≤ 13 := by
  unfold Net.grid
  simp only [List.mem_flatMap, List.mem_range, List.mem_map]
  constructor
  · rintro ⟨k, hk, s, hs, rfl⟩
    exact ⟨hk, by simp, by simp; omega⟩
  · rintro ⟨h1, h2, h3⟩
    exact ⟨p.1, h1, p.2.toNat, by omega, by ext <;> simp; omega⟩
theorem grid_len (n : Net) : n.grid.length = n.roads.length * 14 := by
  unfold Net.grid
  rw [List.length_flatMap]
  simp [List.map_const', List.sum_replicate_nat]
/-- the order of places -/
def ltP (p q : Nat × Int) : Prop := p.1 < q.1 ∨ (p.1 = q.1 ∧ p.2 < q.2)
theorem pairs_lt : ∀ (xs : List Nat), xs.Pairwise (· < ·) → (xs.flatMap fun k => (List.range 14).map fun s => (k, ((s : Nat) : Int))).Pairwise ltP
  | [], _ => .nil
  | x :: xs, h => by
    rw [List.pairwise_cons] at h
    rw [List.flatMap_cons, List.pairwise_append]
    refine ⟨?_, pairs_lt xs h.2, fun a ha b hb => ?_⟩
    · rw [List.pairwise_map]
      have : (List.range 14).Pairwise (· < ·) := List.pairwise_lt_range
      exact this.imp fun {a b} hab => .inr ⟨rfl, by omega⟩
    · obtain ⟨s, _, rfl⟩ := List.mem_map.mp ha
      obtain ⟨k, hk, hb⟩ := List.mem_flatMap.mp hb
      obtain ⟨t, _, rfl⟩ := List.mem_map.mp hb
      exact .inl (h.1 k hk)
theorem grid_lt (n : Net) : n.grid.Pairwise ltP := pairs_lt _ List.pairwise_lt_range
open Classical in
/-- the places, in order -/
noncomputable def Net.plc (n : Net) : List (Nat × Int) := n.grid.filter fun p => decide (n.Reach p.1 p.2)
theorem mem_plc {n : Net} (h : n.Ok) {p : Nat × Int} : p ∈ n.plc ↔ n.Reach p.1 p.2 := by
  unfold Net.plc
  rw [List.mem_filter, mem_grid]
  constructor
  · intro q
    simpa using q.2
  · intro q
    exact ⟨reach_bd h q, by simpa using q⟩
theorem plc_lt (n : Net) : n.plc.Pairwise ltP := (grid_lt n).filter _
theorem plc_len {n : Net} (h : n.Ok) : n.plc.length ≤ 112 := by
  have a := List.length_filter_le (p := fun p => @decide (n.Reach p.1 p.2) (Classical.propDecidable _)) (l := n.grid)
  have b := grid_len n
  have c := h.r8
  have : n.plc.length ≤ n.grid.length := a
  omega
theorem ltP_unique : ∀ {xs ys : List (Nat × Int)}, xs.Pairwise ltP → ys.Pairwise ltP → (∀ k, k ∈ xs ↔ k ∈ ys) → xs = ys
  | [], [], _, _, _ => rfl
  | [], y :: ys, _, _, h => by have := (h y).mpr List.mem_cons_self; cases this
  | x :: xs, [], _, _, h => by have := (h x).mp List.mem_cons_self; cases this
  | x :: xs, y :: ys, h1, h2, h => by
    rw [List.pairwise_cons] at h1 h2
    have asym : ∀ {a b : Nat × Int}, ltP a b → ltP b a → False := fun {a b} p q => by
      unfold ltP at p q
      omega
    have e : x = y := by
      rcases List.mem_cons.mp ((h x).mp List.mem_cons_self) with e | e
      · exact e
      · rcases List.mem_cons.mp ((h y).mpr List.mem_cons_self) with e2 | e2
        · exact e2.symm
        · exact (asym (h2.1 x e) (h1.1 y e2)).elim
    subst e
    congr 1
    refine ltP_unique h1.2 h2.2 fun k => ⟨fun hk => ?_, fun hk => ?_⟩
    · rcases List.mem_cons.mp ((h k).mp (List.mem_cons_of_mem _ hk)) with e | e
      · subst e
        exact (asym (h1.1 k hk) (h1.1 k hk)).elim
      · exact e
    · rcases List.mem_cons.mp ((h k).mpr (List.mem_cons_of_mem _ hk)) with e | e
      · subst e
        exact (asym (h2.1 k hk) (h2.1 k hk)).elim
      · exact e
/-! sorting places -/
def leP (p q : Nat × Int) : Bool := decide (((p.1 : Nat) : Int) < (q.1 : Nat) ∨ (((p.1 : Nat) : Int) = (q.1 : Nat) ∧ p.2 ≤ q.2))
theorem sortD_places (ps : List (Nat × Int)) : sortD (ps.map plD) = (ps.mergeSort leP).map plD := by
  unfold sortD
  rw [List.map_mergeSort (r := leP) (s := fun a b => PySem.W.dataLe false (fun d : PyData => d) a b)]
  intro a _ b _
  have := congrFun (congrFun (PySem.W.dataLe_ii (fun p : Nat × Int => ((p.1 : Nat) : Int)) (fun p => p.2)) a) b
  exact this.symm
theorem sort_places {ps : List (Nat × Int)} (hn : ps.Nodup) : (ps.mergeSort leP).Pairwise ltP ∧ ∀ p, p ∈ ps.mergeSort leP ↔ p ∈ ps := by
  refine ⟨?_, fun p => List.mem_mergeSort⟩
  have h1 := List.pairwise_mergeSort (le := leP) (fun a b c h1 h2 => by unfold leP at *; simp at *; omega) (fun a b => by unfold leP; simp; omega) ps
  have h2 : (ps.mergeSort leP).Nodup := (List.mergeSort_perm ps leP).nodup_iff.mpr hn
  refine (List.Pairwise.and h1 h2).imp fun {a b} h => ?_
  have h3 : leP a b = true := h.1
  have h4 : a ≠ b := h.2
  unfold leP at h3
  simp at h3
  unfold ltP
  by_cases e : a.1 = b.1
  · have : a.2 ≠ b.2 := fun z => h4 (Prod.ext e z)
    omega
  · omega
theorem sortable_places (ps : List (Nat × Int)) : sortable (ps.map plD) = true := by
  unfold sortable
  simp only [Bool.and_eq_true, Bool.or_eq_true]
  refine ⟨⟨?_, .inl ?_⟩, ?_⟩
  · simp [List.all_map, plD, PySem.W.alike, PySem.W.alikeAll]
  · simp [List.all_map, plD]
  · simp [List.all_map, plD, PyData.depth, PyData.depthAll]
/-! the dict of what was found -/
def plK (p : Nat × Int) : List Key × PyData := ([.inl (p.1 : Nat), .inl p.2], .bool true)
theorem plK_keys (ps : List (Nat × Int)) : ((ps.map plK).map fun kv => DN.kTup kv.1) = ps.map plD := by
  rw [List.map_map]
  rfl
theorem key_eq (p q : Nat × Int) : (plK p).1 = [Sum.inl ((q.1 : Nat) : Int), Sum.inl q.2] ↔ p = q := by
  constructor
  · intro h
    have h : [Sum.inl ((p.1 : Nat) : Int), Sum.inl p.2] = ([Sum.inl ((q.1 : Nat) : Int), Sum.inl q.2] : List Key) := h
    simp at h
    exact Prod.ext (by omega) h.2
  · rintro rfl
    rfl
theorem plK_val (ps : List (Nat × Int)) (p : Nat × Int) : (valP (ps.map plK) [.inl ((p.1 : Nat) : Int), .inl p.2]).isSome = decide (p ∈ ps) := by
  unfold valP
  rw [Option.isSome_map, List.find?_map, Option.isSome_map]
  by_cases h : p ∈ ps
  · rw [List.find?_isSome.mpr ⟨p, h, by simp [Function.comp, key_eq]⟩]
    simp [h]
  · have : ps.find? ((fun kv => decide (kv.1 = [Sum.inl ((p.1 : Nat) : Int), Sum.inl p.2])) ∘ plK) = none := by
      rw [List.find?_eq_none]
      intro q hq
      simp only [Function.comp, decide_eq_true_eq, key_eq]
      rintro rfl
      exact h hq
    rw [this]
    simp [h]
theorem plK_put (ps : List (Nat × Int)) (p : Nat × Int) (h : p ∉ ps) : putP (ps.map plK) [.inl ((p.1 : Nat) : Int), .inl p.2] (.bool true) = (ps ++ [p]).map plK := by
  unfold putP
  have : ((ps.map plK).any fun kv => decide (kv.1 = [Sum.inl ((p.1 : Nat) : Int), Sum.inl p.2])) = false := by
    rw [List.any_eq_false]
    intro kv hkv
    obtain ⟨q, hq, rfl⟩ := List.mem_map.mp hkv
    simp only [decide_eq_true_eq, key_eq]
    rintro rfl
    exact h hq
  rw [this, if_neg (by decide), List.map_append]
  rfl
theorem asTup_pl (k : Nat) (s : Int) : asTup (.tuple [.int (k : Nat), .int s]) = some [.inl ((k : Nat) : Int), .inl s] := rfl
/-- what one turn over the level gives -/
structure Net.Lv (n : Net) (done : List (Nat × Int)) (ys done' later : List (Nat × Int)) : Prop where
  nd : done'.Nodup
  old : ∀ p ∈ done, p ∈ done'
  seen : ∀ p ∈ ys, p ∈ done'
  from_ : ∀ p ∈ done', p ∈ done ∨ p ∈ ys
  next : ∀ p ∈ done', p ∉ done → ∀ j ∈ n.aft p.1, (j, n.nxt p) ∈ later
  late : ∀ q ∈ later, ∃ p ∈ ys, ∃ j ∈ n.aft p.1, q = (j, n.nxt p)
  grow : done.length ≤ done'.length
  few : later.length ≤ 8 * (done'.length - done.length)
/-- what holds between the levels -/
structure Net.WI (n : Net) (L done : List (Nat × Int)) : Prop where
  nd : done.Nodup
  ok : ∀ p ∈ done, n.Reach p.1 p.2
  okL : ∀ p ∈ L, n.Reach p.1 p.2
  start : ∀ k, k < n.roads.length → (k, (0 : Int)) ∈ done ∨ (k, (0 : Int)) ∈ L
  step : ∀ p ∈ done, ∀ j ∈ n.aft p.1, (j, n.nxt p) ∈ done ∨ (j, n.nxt p) ∈ L
theorem Net.WI.turn {n : Net} {L done done' later : List (Nat × Int)} (w : n.WI L done) (lv : n.Lv done L done' later) : n.WI later done' where
  nd := lv.nd
  ok := fun p hp => (lv.from_ p hp).elim (w.ok p) (w.okL p)
  okL := fun q hq => by
    obtain ⟨p, hp, j, hj, rfl⟩ := lv.late q hq
    exact .go (w.okL p hp) hj
  start := fun k hk => .inl ((w.start k hk).elim (lv.old _) (lv.seen _))
  step := fun p hp j hj => by
    by_cases hd : p ∈ done
    · exact .inl ((w.step p hd j hj).elim (lv.old _) (lv.seen _))
    · exact .inr (lv.next p hp hd j hj)
theorem Net.WI.done {n : Net} {done : List (Nat × Int)} (w : n.WI [] done) (p : Nat × Int) : p ∈ done ↔ n.Reach p.1 p.2 := by
  have key : ∀ {k : Nat} {s : Int}, n.Reach k s → (k, s) ∈ done := fun {k s} r => by
    induction r with
    | start hk => exact (w.start _ hk).elim id (fun z => by cases z)
    | @go k j s r hj ih => exact (w.step (k, s) ih j hj).elim id (fun z => by cases z)
  exact ⟨w.ok p, fun r => key r⟩
def muP (ρ : Ev) : Nat := match ρ[1]?, ρ[2]? with
  | some (some (R.val (PyData.list l))), some (some (R.dct d)) => 2 * (200 - d.length) + (if l.isEmpty then 0 else 1)
  | _, _ => 0
theorem nodup_grid {n : Net} {ps : List (Nat × Int)} (hn : ps.Nodup) (hb : ∀ p ∈ ps, p.1 < n.roads.length ∧ 0 ≤ p.2 ∧ p.2 ≤ 13) : ps.length ≤ n.roads.length * 14 := by
  have := List.Nodup.length_le_of_subset hn (l₂ := n.grid) (fun p hp => mem_grid.mpr (hb p hp))
  rw [grid_len] at this
  exact this
theorem places_c2_den {n : Net} (h : n.Ok) {k : Nat} (hk : k < n.roads.length) (b : Int) (a1 a2 a3 a5 a7 : Option R) :
    find_places_c2 [some (.val n.d), a1, a2, a3, some (.val (.int (k : Nat))), a5, some (.val (.int b)), a7] = .ok (.own ((n.aft k).map fun j => plD (j, b))) := by
  have h8 := h.r8
  have hal := aft_len n k
  refine fLc_of (ds := nI (n.aft k)) ?_ (lim_of (by rw [nI, List.length_map]; omega)) ?_
  · simp [find_followers_den hk (by omega)]
  · unfold nI
    exact lcGo_map (fun i : Nat => PyData.int (i : Nat)) (fun i => [some (.val n.d), a1, a2, a3, some (.val (.int (k : Nat))), a5, some (.val (.int b)), some (.val (.int (i : Nat)))]) _ _ (fun i _ => by simp) (fun i hi => by simp [plD])
theorem find_places_den {n : Net} (h : n.Ok) : d_find_places [.val n.d] = .ok (.own (n.plc.map plD)) := by
  have h8 := h.r8
  have c1 : find_places_c1 [some (.val n.d), none, none, none, none, none, none, none] = .ok (.own (((List.range n.roads.length).map fun k => (k, (0 : Int))).map plD)) := by
    refine fLc_of (ds := (List.range n.roads.length).map fun i => PyData.int (i : Nat)) (by simp [rg1_nat (show n.roads.length ≤ 1000000 by omega), -rg1_i]) (lim_of (by simp; omega)) ?_
    rw [List.map_map]
    exact lcGo_map (fun i : Nat => PyData.int (i : Nat)) (fun i => [some (.val n.d), none, none, none, some (.val (.int (i : Nat))), none, none, none]) _ _ (fun i _ => by simp) (fun i hi => by simp [plD])
  -- the loop over a level
  have inner : ∀ (L done : List (Nat × Int)), done.Nodup → (∀ p ∈ done, n.Reach p.1 p.2) → (∀ p ∈ L, n.Reach p.1 p.2) → ∀ o4 o5 o6,
      Nx (gFor (fSeq (fVar 1)) (tTupl (tsCons (tName 4) (tsCons (tName 5) tsNil))) find_places_b1 [some (.val n.d), some (.val (.list (L.map plD))), some (.dct (done.map plK)), some (.own []), o4, o5, o6, none])
        fun ρ => ∃ done' later o4 o5 o6, n.Lv done L done' later ∧ ρ = [some (.val n.d), some (.val (.list (L.map plD))), some (.dct (done'.map plK)), some (.own (later.map plD)), o4, o5, o6, none] := by
    intro L done hnd hdone hL o4 o5 o6
    refine gFor_list (enc := plD) (xs := L) (fun ys ρ => ∃ done' later o4 o5 o6, n.Lv done ys done' later ∧ ρ = [some (.val n.d), some (.val (.list (L.map plD))), some (.dct (done'.map plK)), some (.own (later.map plD)), o4, o5, o6, none])
      (by simp) ⟨done, [], o4, o5, o6, ⟨hnd, fun _ q => q, fun _ q => (by cases q), fun _ q => .inl q, fun _ q z => absurd q z, fun _ q => (by cases q), Nat.le_refl _, (by simp)⟩, rfl⟩ (fun ys p zs ρ hx hI => ?_)
    obtain ⟨done', later, o4, o5, o6, lv, rfl⟩ := hI
    have hp : n.Reach p.1 p.2 := hL p (by rw [hx]; simp)
    have hbd := reach_bd h hp
    have hv := plK_val done' p
    have hys : ∀ q ∈ ys, n.Reach q.1 q.2 := fun q hq => hL q (by rw [hx]; simp [hq])
    have hlen : done'.length ≤ n.roads.length * 14 := nodup_grid lv.nd fun q hq => by
      rcases lv.from_ q hq with z | z
      · exact reach_bd h (hdone q z)
      · exact reach_bd h (hys q z)
    obtain ⟨k, s⟩ := p
    rw [show plD (k, s) = .tuple [.int (k : Nat), .int s] from rfl, bdy_tup]
    simp only [tsCons_c, tName, bind_ok, tsNil_n]
    unfold find_places_b1
    by_cases hin : (k, s) ∈ done'
    · simp only [hin, decide_true] at hv
      have hv : ¬ valP (done'.map plK) [.inl ((k : Nat) : Int), .inl s] = none := fun z => by rw [z] at hv; cases hv
      simp [asTup_pl, hv]
      refine ⟨done', later, ⟨lv.nd, lv.old, fun q hq => ?_, fun q hq => ?_, lv.next, fun q hq => ?_, lv.grow, lv.few⟩, rfl, rfl⟩
      · rcases List.mem_append.mp hq with z | z
        · exact lv.seen q z
        · rw [List.mem_singleton.mp z]; exact hin
      · rcases lv.from_ q hq with z | z
        · exact .inl z
        · exact .inr (List.mem_append_left _ z)
      · obtain ⟨r, hr, z⟩ := lv.late q hq
        exact ⟨r, List.mem_append_left _ hr, z⟩
    · simp only [hin, decide_false] at hv
      have hv : valP (done'.map plK) [.inl ((k : Nat) : Int), .inl s] = none := by simpa using hv
      have hpn : (k, s) ∉ done := fun z => hin (lv.old _ z)
      have hput := plK_put done' (k, s) hin
      have hcap : (done'.map plK).length < lim := Nat.lt_of_lt_of_le (show _ < 1000 by rw [List.length_map]; omega) (by decide)
      have hal := aft_len n k
      have hfew := lv.few
      have hcap2 : (later.map plD).length + ((n.aft k).map fun j => plD (j, n.nxt (k, s))).length ≤ lim := by
        refine Nat.le_trans (m := 1000) ?_ (by decide)
        rw [List.length_map, List.length_map]
        have := lv.grow
        omega
      have e1 : d_leave [.val n.d, .val (.int (k : Nat)), .val (.int s)] = .ok (.val (.int (n.lv k s))) := leave_den h hbd.1 s
      have e2 := go_over_den n (n.lv k s)
      have e3 := places_c2_den h hbd.1 (n.nxt (k, s))
      simp only [List.length_map] at hcap hcap2
      simp only [Net.nxt] at e3 hcap2
      simp only at hput
      simp [asTup_pl, hv, hput, e1, e2, e3, hcap, hcap2]
      refine ⟨done' ++ [(k, s)], later ++ (n.aft k).map fun j => (j, n.nxt (k, s)), ?_, ?_, ?_⟩
      · refine ⟨?_, fun q hq => List.mem_append_left _ (lv.old q hq), fun q hq => ?_, fun q hq => ?_, fun q hq hn j hj => ?_, fun q hq => ?_, ?_, ?_⟩
        · rw [List.nodup_append]
          refine ⟨lv.nd, by simp, fun a ha b hb => ?_⟩
          rw [List.mem_singleton.mp hb]
          rintro rfl
          exact hin ha
        · rcases List.mem_append.mp hq with z | z
          · exact List.mem_append_left _ (lv.seen q z)
          · exact List.mem_append_right _ z
        · rcases List.mem_append.mp hq with z | z
          · rcases lv.from_ q z with z | z
            · exact .inl z
            · exact .inr (List.mem_append_left _ z)
          · exact .inr (List.mem_append_right _ z)
        · rcases List.mem_append.mp hq with z | z
          · exact List.mem_append_left _ (lv.next q z hn j hj)
          · have := List.mem_singleton.mp z
            subst this
            exact List.mem_append_right _ (List.mem_map.mpr ⟨j, hj, rfl⟩)
        · rcases List.mem_append.mp hq with z | z
          · obtain ⟨r, hr, z⟩ := lv.late q z
            exact ⟨r, List.mem_append_left _ hr, z⟩
          · obtain ⟨j, hj, rfl⟩ := List.mem_map.mp z
            exact ⟨(k, s), List.mem_append_right _ List.mem_cons_self, j, hj, rfl⟩
        · have := lv.grow
          simp
          omega
        · have := lv.grow
          simp
          omega
      · simp
      · simp [Net.nxt]
  unfold d_find_places denB g_find_places
  simp only [gSeq, startE]
  simp [c1]
  obtain ⟨ρ1, e1, ⟨L, done, o3, o4, o5, o6, w, rfl⟩, ht⟩ := gWhile_rel (fc := find_places_t1) (gb := find_places_b2)
    (fun ρ => ∃ L done o3 o4 o5 o6, n.WI L done ∧ ρ = [some (.val n.d), some (.val (.list (L.map plD))), some (.dct (done.map plK)), o3, o4, o5, o6, none]) muP
    (ρ := [some (.val n.d), some (.val (.list (((List.range n.roads.length).map fun k => (k, (0 : Int))).map plD))), some (.dct []), none, none, none, none, none])
    ⟨(List.range n.roads.length).map fun k => (k, (0 : Int)), [], none, none, none, none, ⟨.nil, fun _ z => (by cases z), fun p hp => by
      obtain ⟨k, hk, rfl⟩ := List.mem_map.mp hp
      exact .start (by simpa using hk), fun k hk => .inr (List.mem_map.mpr ⟨k, by simpa using hk, rfl⟩), fun _ z => (by cases z)⟩, rfl⟩
    (by simp [muP]; split <;> omega) (fun ρ hI => by
      obtain ⟨L, done, o3, o4, o5, o6, w, rfl⟩ := hI
      have hdo : dOks 1 (L.map plD) = true := dOks_map fun x _ => dOk_tuple (by simp [dOks])
      refine ⟨!(L.map plD).isEmpty, by unfold find_places_t1; simp [eqD_nil hdo], fun hne => ?_⟩
      obtain ⟨ρ', e, done', later, q4, q5, q6, lv, rfl⟩ := inner L done w.nd w.ok w.okL o4 o5 o6
      refine ⟨[some (.val n.d), some (.val (.list (later.map plD))), some (.dct (done'.map plK)), some (.val (.list (later.map plD))), q4, q5, q6, none], by unfold find_places_b2; simp only [gSeq]; simp [e], ⟨later, done', _, _, _, _, w.turn lv, rfl⟩, ?_⟩
      have hl : done'.length ≤ n.roads.length * 14 := nodup_grid lv.nd fun q hq => (lv.from_ q hq).elim (fun z => reach_bd h (w.ok q z)) (fun z => reach_bd h (w.okL q z))
      have g := lv.grow
      have f := lv.few
      have hne' : L.isEmpty = false := by simpa using hne
      simp [muP, hne']
      by_cases hlt : later = []
      · subst hlt
        simp
        omega
      · have : 0 < later.length := List.length_pos_iff.mpr hlt
        rw [if_neg hlt]
        omega)
  rw [List.map_map] at e1
  rw [e1]
  have hdo : dOks 1 (L.map plD) = true := dOks_map fun x _ => dOk_tuple (by simp [dOks])
  have hL : L = [] := by
    unfold find_places_t1 at ht
    simp [eqD_nil hdo] at ht
    exact ht
  subst hL
  have hs := sort_places w.nd
  have hu : done.mergeSort leP = n.plc := ltP_unique hs.1 (plc_lt n) fun p => by rw [hs.2, w.done, mem_plc h]
  have ek : done.map ((fun kv => DN.kTup kv.1) ∘ plK) = done.map plD := rfl
  simp [ek, sortable_places, sortD_places, hu]
end LW
namespace LW
open PySem PySem.Spec PyProof.Rows L2 DN

/-! ### sorted sets of small numbers -/
theorem sortU_of {ns ms : List Int} (h : ms.Pairwise (· < ·)) (hm : ∀ k, k ∈ ms ↔ k ∈ ns) : sortU ns = ms := lt_unique (sortU_lt ns) h fun k => by rw [mem_sortU, hm k]
theorem sortU_nat_len {ns : List Int} {b : Nat} (h : ∀ x ∈ ns, 0 ≤ x ∧ x < (b : Nat)) : (sortU ns).length ≤ b := by
  have nd : (sortU ns).Nodup := (sortU_lt ns).imp fun {a b} h => by omega
  have := List.Nodup.length_le_of_subset nd (l₂ := (List.range b).map fun i => ((i : Nat) : Int)) fun k hk => by
    have := h k ((mem_sortU ns k).mp hk)
    exact List.mem_map.mpr ⟨k.toNat, by simp; omega, by omega⟩
  simpa using this
open Classical in
/-- the roads that some driver leaves with a limit that is set -/
noncomputable def Net.lvg (n : Net) : List Nat := (List.range n.roads.length).filter fun k => decide (∃ s, n.Reach k s ∧ 0 < n.lv k s)
theorem mem_lvg {n : Net} (h : n.Ok) {k : Nat} : k ∈ n.lvg ↔ ∃ s, n.Reach k s ∧ 0 < n.lv k s := by
  unfold Net.lvg
  rw [List.mem_filter]
  constructor
  · intro q
    simpa using q.2
  · rintro ⟨s, r, hs⟩
    exact ⟨by simpa using (reach_bd h r).1, by simpa using ⟨s, r, hs⟩⟩
theorem filter_range_lt (n : Nat) (f : Nat → Bool) : (((List.range n).filter f).map fun i => ((i : Nat) : Int)).Pairwise (· < ·) := by
  rw [List.pairwise_map]
  have : ((List.range n).filter f).Pairwise (· < ·) := List.pairwise_lt_range.filter _
  exact this.imp fun {a b} h => by omega
theorem lvg_set {n : Net} (h : n.Ok) : setSortedD (.list (((n.plc.filter fun p => decide (0 < n.lv p.1 p.2)).map fun p => ((p.1 : Nat) : Int)).map .int)) = .ok (.own (nI n.lvg)) := by
  have hpl := plc_len h
  have hmem : ∀ x ∈ (n.plc.filter fun p => decide (0 < n.lv p.1 p.2)).map fun p => ((p.1 : Nat) : Int), 0 ≤ x ∧ x < ((8 : Nat) : Int) := fun x hx => by
    obtain ⟨p, hp, rfl⟩ := List.mem_map.mp hx
    have hb := reach_bd h ((mem_plc h).mp (List.mem_filter.mp hp).1)
    have := h.r8
    omega
  have hl := sortU_nat_len hmem
  have hlen : ((n.plc.filter fun p => decide (0 < n.lv p.1 p.2)).map fun p => ((p.1 : Nat) : Int)).length ≤ 1000 := by
    rw [List.length_map]
    have := List.length_filter_le (fun p => decide (0 < n.lv p.1 p.2)) n.plc
    omega
  have hs : sortU ((n.plc.filter fun p => decide (0 < n.lv p.1 p.2)).map fun p => ((p.1 : Nat) : Int)) = n.lvg.map fun i => ((i : Nat) : Int) := by
    refine sortU_of (filter_range_lt _ _) fun k => ?_
    constructor
    · intro hk
      obtain ⟨i, hi, rfl⟩ := List.mem_map.mp hk
      obtain ⟨s, r, hp⟩ := (mem_lvg h).mp hi
      exact List.mem_map.mpr ⟨(i, s), List.mem_filter.mpr ⟨(mem_plc h).mpr r, by simpa using hp⟩, rfl⟩
    · intro hk
      obtain ⟨p, hp, rfl⟩ := List.mem_map.mp hk
      have hp' := List.mem_filter.mp hp
      exact List.mem_map.mpr ⟨p.1, (mem_lvg h).mpr ⟨p.2, (mem_plc h).mp hp'.1, by simpa using hp'.2⟩, rfl⟩
  generalize ((n.plc.filter fun p => decide (0 < n.lv p.1 p.2)).map fun p => ((p.1 : Nat) : Int)) = ns at *
  unfold setSortedD
  simp only [asIs_map]
  rw [if_pos ⟨hlen, by omega⟩, hs]
  simp [nI]
/-! ### other signs -/
def Net.put (n : Net) (k : Nat) (g : List Int) : Net := { n with roads := n.roads.set k { n.rd k with g := g } }
@[simp] theorem put_len (n : Net) (k : Nat) (g : List Int) : (n.put k g).roads.length = n.roads.length := by simp [Net.put]
theorem put_rd (n : Net) (k : Nat) (g : List Int) (i : Nat) (hk : k < n.roads.length) : (n.put k g).rd i = if i = k then { n.rd k with g := g } else n.rd i := by
  unfold Net.put Net.rd
  by_cases h : i = k
  · subst h
    simp [hk]
  · simp [h, List.getElem?_set_ne (Ne.symm h)]
theorem put_ok {n : Net} (h : n.Ok) {k : Nat} (hk : k < n.roads.length) {g : List Int} (hl : g.length ≤ 3) (hg : ∀ x ∈ g, 0 ≤ x ∧ x ≤ 13) : (n.put k g).Ok where
  f5 := h.f5
  f13 := h.f13
  s1 := h.s1
  sf := h.sf
  k := h.k
  r1 := by rw [put_len]; exact h.r1
  r8 := by rw [put_len]; exact h.r8
  r := fun r hr => by
    have hr : r ∈ n.roads.set k { n.rd k with g := g } := hr
    rcases List.mem_or_eq_of_mem_set hr with z | z
    · exact h.r r z
    · subst z
      have o := h.rd hk
      exact ⟨o.s0, o.s5, o.e0, o.e5, o.t, hl, hg⟩
theorem set_split {α : Type} (xs : List α) (k : Nat) (x : α) (h : k < xs.length) : xs.set k x = xs.take k ++ [x] ++ xs.drop (k + 1) := by
  rw [List.set_eq_take_append_cons_drop, if_pos h]
  simp
end LW
namespace LW
open PySem PySem.Spec PyProof.Rows L2 DN

/-! ### states onto a road, limits on a piece -/
open Classical in
noncomputable def Net.sts (n : Net) (k : Nat) : List Int := ((List.range 14).map fun s => ((s : Nat) : Int)).filter fun s => decide (n.Reach k s)
theorem mem_sts {n : Net} (h : n.Ok) {k : Nat} {s : Int} : s ∈ n.sts k ↔ n.Reach k s := by
  unfold Net.sts
  rw [List.mem_filter]
  constructor
  · intro q
    simpa using q.2
  · intro q
    have b := reach_bd h q
    exact ⟨List.mem_map.mpr ⟨s.toNat, by simp; omega, by omega⟩, by simpa using q⟩
theorem sts_lt (n : Net) (k : Nat) : (n.sts k).Pairwise (· < ·) := by
  refine List.Pairwise.filter _ ?_
  rw [List.pairwise_map]
  have : (List.range 14).Pairwise (· < ·) := List.pairwise_lt_range
  exact this.imp fun {a b} h => by omega
theorem sts_zero {n : Net} (h : n.Ok) {k : Nat} (hk : k < n.roads.length) : (0 : Int) ∈ n.sts k := (mem_sts h).mpr (.start hk)
theorem sts_ne {n : Net} (h : n.Ok) {k : Nat} (hk : k < n.roads.length) : n.sts k ≠ [] := fun e => by
  have := sts_zero h hk
  rw [e] at this
  cases this
theorem sts_len (n : Net) (k : Nat) : (n.sts k).length ≤ 14 := by
  have := List.length_filter_le (p := fun s => @decide (n.Reach k s) (Classical.propDecidable _)) (l := (List.range 14).map fun s => ((s : Nat) : Int))
  unfold Net.sts
  simpa using this
/-- the places with a road, in order, are the states onto it -/
theorem plc_sts {n : Net} (h : n.Ok) (k : Nat) : ((n.plc.filter fun p => decide (p.1 = k)).map fun p => p.2) = n.sts k := by
  refine lt_unique ?_ (sts_lt n k) fun s => ?_
  · rw [List.pairwise_map]
    refine ((plc_lt n).filter _).imp_of_mem fun {p q} hp hq hlt => ?_
    have h1 : p.1 = k := by simpa using (List.mem_filter.mp hp).2
    have h2 : q.1 = k := by simpa using (List.mem_filter.mp hq).2
    unfold ltP at hlt
    omega
  · rw [mem_sts h, List.mem_map]
    constructor
    · rintro ⟨p, hp, rfl⟩
      have hp := List.mem_filter.mp hp
      have h1 : p.1 = k := by simpa using hp.2
      rw [← h1]
      exact (mem_plc h).mp hp.1
    · intro r
      exact ⟨(k, s), List.mem_filter.mpr ⟨(mem_plc h).mpr r, by simp⟩, rfl⟩
theorem find_states_den {n : Net} (h : n.Ok) (k : Nat) : d_find_states [.val n.d, .val (.int (k : Nat))] = .ok (.own ((n.sts k).map .int)) := by
  have hpl := plc_len h
  have c1 : find_states_c1 [some (.val n.d), some (.val (.int (k : Nat))), none, none] = .ok (.own ((n.sts k).map .int)) := by
    refine fLc_of (ds := n.plc.map plD) (by simp [find_places_den h]) (lim_of (by simp; omega)) ?_
    rw [← plc_sts h, List.map_map]
    refine lcGo_typed plD (fun p => [some (.val n.d), some (.val (.int (k : Nat))), some (.val (.int (p.1 : Nat))), some (.val (.int p.2))]) _ _ _ (fun p _ => by simp [plD]) (fun p hp => ?_) (fun p _ _ => by simp)
    simp
    exact Int.ofNat_inj
  unfold d_find_states denB g_find_states
  simp only [startE]
  simp [c1]
/-- the limit on a piece of a road, coming with a state -/
def Net.lim_ (n : Net) (k p : Nat) (s : Int) : Int := (n.pcs k s).getD p 0
theorem pcs_get {n : Net} {k p : Nat} (hp : p ≤ (n.rd k).g.length) (s : Int) : (n.pcs k s)[p]? = some (n.lim_ k p s) := by
  unfold Net.lim_
  rw [List.getD_eq_getElem?_getD, List.getElem?_eq_getElem (by rw [pcs_len]; omega)]
  rfl
theorem lim_zero (n : Net) (k : Nat) (s : Int) : n.lim_ k 0 s = lmt (n.st k) s := rfl
theorem lim_succ {n : Net} {k p : Nat} (hp : p < (n.rd k).g.length) (s : Int) : n.lim_ k (p + 1) s = lmt (n.st k) ((n.rd k).g.getD p 0) := by
  simp [Net.lim_, Net.pcs, hp]
theorem st_bd {n : Net} (h : n.Ok) (k : Nat) : 1 ≤ n.st k ∧ n.st k ≤ 13 := by
  have := h.f5; have := h.f13; have := h.s1; have := h.sf
  unfold Net.st
  split <;> omega
theorem lmt_bd {n : Net} (h : n.Ok) (k : Nat) {s : Int} (h0 : 0 ≤ s) (h13 : s ≤ 13) : 1 ≤ lmt (n.st k) s ∧ lmt (n.st k) s ≤ 13 := by
  have := st_bd h k
  unfold lmt
  split <;> omega
theorem lim_bd {n : Net} (h : n.Ok) {k p : Nat} (hk : k < n.roads.length) (hp : p ≤ (n.rd k).g.length) {s : Int} (h0 : 0 ≤ s) (h13 : s ≤ 13) : 1 ≤ n.lim_ k p s ∧ n.lim_ k p s ≤ 13 := by
  cases p with
  | zero => exact lmt_bd h k h0 h13
  | succ p =>
    rw [lim_succ (by omega)]
    have hg := (h.rd hk).g ((n.rd k).g.getD p 0) (by
      rw [List.getD_eq_getElem?_getD, List.getElem?_eq_getElem (by omega)]
      exact List.getElem_mem _)
    exact lmt_bd h k hg.1 hg.2
/-- the limits that drivers can have on a piece -/
noncomputable def Net.pos (n : Net) (k p : Nat) : List Int := sortU ((n.sts k).map (n.lim_ k p))
theorem pos_lt (n : Net) (k p : Nat) : (n.pos k p).Pairwise (· < ·) := sortU_lt _
theorem mem_pos {n : Net} (h : n.Ok) {k p : Nat} {l : Int} : l ∈ n.pos k p ↔ ∃ s, n.Reach k s ∧ n.lim_ k p s = l := by
  unfold Net.pos
  rw [mem_sortU, List.mem_map]
  constructor
  · rintro ⟨s, hs, e⟩
    exact ⟨s, (mem_sts h).mp hs, e⟩
  · rintro ⟨s, hs, e⟩
    exact ⟨s, (mem_sts h).mpr hs, e⟩
theorem pos_len {n : Net} (h : n.Ok) {k p : Nat} (hk : k < n.roads.length) (hp : p ≤ (n.rd k).g.length) : (n.pos k p).length ≤ 14 := by
  refine sortU_nat_len (b := 14) fun x hx => ?_
  obtain ⟨s, hs, rfl⟩ := List.mem_map.mp hx
  have b := reach_bd h ((mem_sts h).mp hs)
  have := lim_bd h hk hp b.2.1 b.2.2
  omega
theorem pos_ne {n : Net} (h : n.Ok) {k p : Nat} (hk : k < n.roads.length) : n.pos k p ≠ [] := fun e => by
  have := (mem_pos h (k := k) (p := p)).mpr ⟨0, .start hk, rfl⟩
  rw [e] at this
  cases this
/-- behind a sign there is one limit -/
theorem pos_succ {n : Net} (h : n.Ok) {k p : Nat} (hk : k < n.roads.length) (hp : p < (n.rd k).g.length) : n.pos k (p + 1) = [lmt (n.st k) ((n.rd k).g.getD p 0)] := by
  refine sortU_of (by simp) fun l => ?_
  rw [List.mem_singleton, List.mem_map]
  constructor
  · rintro rfl
    exact ⟨0, sts_zero h hk, lim_succ hp 0⟩
  · rintro ⟨s, _, rfl⟩
    exact lim_succ hp s
theorem find_possible_den {n : Net} (h : n.Ok) {k p : Nat} (hk : k < n.roads.length) (hp : p ≤ (n.rd k).g.length) : d_find_possible [.val n.d, .val (.int (k : Nat)), .val (.int (p : Nat))] = .ok (.own ((n.pos k p).map .int)) := by
  have hsl := sts_len n k
  have c1 : find_possible_c1 [some (.val n.d), some (.val (.int (k : Nat))), some (.val (.int (p : Nat))), none] = .ok (.own (((n.sts k).map (n.lim_ k p)).map .int)) := by
    refine fLc_of (ds := (n.sts k).map .int) (by simp [find_states_den h]) (lim_of (by simp; omega)) ?_
    rw [List.map_map]
    refine lcGo_map PyData.int (fun s => [some (.val n.d), some (.val (.int (k : Nat))), some (.val (.int (p : Nat))), some (.val (.int s))]) _ _ (fun s _ => by simp) (fun s _ => ?_)
    simp [pieces_den h hk, pcs_get hp]
  have hl := pos_len h hk hp
  unfold d_find_possible denB g_find_possible
  simp only [startE]
  have e : setSortedD (.list (((n.sts k).map (n.lim_ k p)).map .int)) = .ok (.own ((n.pos k p).map .int)) := by
    unfold setSortedD
    simp only [asIs_map]
    rw [if_pos ⟨by simp; omega, by show (n.pos k p).length < 64; omega⟩]
    rfl
  generalize (n.sts k).map (n.lim_ k p) = ns at *
  simp [c1, e]
/-- the unclear roads -/
noncomputable def Net.unc (n : Net) : List Nat := (List.range n.roads.length).filter fun k => decide (1 < (n.pos k 0).length)
/-! ### reached within so many roads -/
def Net.RN (n : Net) : Nat → Nat → Int → Prop
  | 0, k, s => k < n.roads.length ∧ s = 0
  | t + 1, k, s => n.RN t k s ∨ ∃ j s', n.RN t j s' ∧ k ∈ n.aft j ∧ s = n.ov (n.lv j s')
theorem RN_mono {n : Net} {k : Nat} {s : Int} {t : Nat} : ∀ {u : Nat}, t ≤ u → n.RN t k s → n.RN u k s
  | 0, h, q => by
    have : t = 0 := by omega
    subst this
    exact q
  | u + 1, h, q => by
    by_cases e : t = u + 1
    · subst e
      exact q
    · exact .inl (RN_mono (u := u) (by omega) q)
theorem RN_reach {n : Net} : ∀ {t k : Nat} {s : Int}, n.RN t k s → n.Reach k s
  | 0, k, s, ⟨h, e⟩ => by
    subst e
    exact .start h
  | t + 1, k, s, h => by
    rcases h with h | ⟨j, s', h, hj, rfl⟩
    · exact RN_reach h
    · exact .go (RN_reach h) hj
theorem ov_ne {n : Net} {s : Int} (h : n.ov s ≠ 0) : n.ov s = s := by
  unfold Net.ov at *
  split
  · rfl
  · rename_i z
    rw [if_neg z] at h
    exact absurd rfl h
/-- if nothing new comes with a state, nothing new comes later -/
theorem RN_stable {n : Net} {t : Nat} {s0 : Int} (h0 : s0 ≠ 0) (hs : ∀ j, n.RN (t + 1) j s0 → n.RN t j s0) {k : Nat} {s : Int} (r : n.Reach k s) : s = s0 → n.RN t k s0 := by
  induction r with
  | start hk => intro e; exact absurd e.symm h0
  | @go j k s r hj ih =>
    intro e
    have hne : n.ov (n.lv j s) ≠ 0 := by rw [e]; exact h0
    have e2 := ov_ne hne
    refine hs k ?_
    by_cases hg : (n.rd j).g = []
    · have e3 : n.lv j s = s := by simp [Net.lv, hg]
      have := ih (by rw [← e, e2, e3])
      exact .inr ⟨j, s0, this, hj, by
        have e4 : n.lv j s0 = s0 := by simp [Net.lv, hg]
        rw [e4]
        rw [e2, e3] at e
        subst e
        rw [e3] at e2
        exact e2.symm⟩
    · have e3 : n.lv j s = n.lv j 0 := by
        unfold Net.lv
        rw [List.getLastD_eq_getLast?, List.getLastD_eq_getLast?, List.getLast?_eq_some_getLast hg]
        rfl
      rw [← e, e3]
      have hj0 : n.RN 0 j 0 := ⟨by
        have := RN_reach_lt r
        exact this, rfl⟩
      exact .inr ⟨j, 0, RN_mono (Nat.zero_le t) hj0, hj, rfl⟩
where
  RN_reach_lt {j : Nat} {s : Int} (r : n.Reach j s) : j < n.roads.length := by
    cases r with
    | start h => exact h
    | go r h => exact aft_lt h
open Classical in
noncomputable def Net.cnt (n : Net) (s : Int) (t : Nat) : List Nat := (List.range n.roads.length).filter fun k => decide (n.RN t k s)
theorem mem_cnt {n : Net} {s : Int} {t k : Nat} : k ∈ n.cnt s t ↔ k < n.roads.length ∧ n.RN t k s := by
  unfold Net.cnt
  rw [List.mem_filter]
  simp
theorem reach_lt {n : Net} {j : Nat} {s : Int} (r : n.Reach j s) : j < n.roads.length := by
  cases r with
  | start h => exact h
  | go r h => exact aft_lt h
theorem cnt_grow {n : Net} {s : Int} (hs : s ≠ 0) : ∀ t : Nat, (∃ u, u < t ∧ ∀ j, n.RN (u + 1) j s → n.RN u j s) ∨ t ≤ (n.cnt s t).length
  | 0 => .inr (Nat.zero_le _)
  | t + 1 => by
    rcases cnt_grow hs t with ⟨u, hu, q⟩ | h
    · exact .inl ⟨u, by omega, q⟩
    · by_cases st : ∀ j, n.RN (t + 1) j s → n.RN t j s
      · exact .inl ⟨t, by omega, st⟩
      · refine .inr ?_
        obtain ⟨j, hj⟩ := Classical.not_forall.mp st
        have hj1 : n.RN (t + 1) j s := Classical.byContradiction fun z => hj fun q => absurd q z
        have hj2 : ¬ n.RN t j s := fun z => hj fun _ => z
        have nd : (j :: n.cnt s t).Nodup := List.nodup_cons.mpr ⟨fun z => hj2 (mem_cnt.mp z).2, List.nodup_range.filter _⟩
        have := List.Nodup.length_le_of_subset nd (l₂ := n.cnt s (t + 1)) fun k hk => by
          rcases List.mem_cons.mp hk with z | z
          · subst z
            exact mem_cnt.mpr ⟨reach_lt (RN_reach hj1), hj1⟩
          · exact mem_cnt.mpr ⟨(mem_cnt.mp z).1, .inl (mem_cnt.mp z).2⟩
        simp at this
        omega
/-- as many turns as there are roads are enough -/
theorem reach_RN {n : Net} {k : Nat} {s : Int} (r : n.Reach k s) : n.RN n.roads.length k s := by
  by_cases hs : s = 0
  · subst hs
    exact RN_mono (Nat.zero_le _) ⟨reach_lt r, rfl⟩
  · rcases cnt_grow (n := n) hs n.roads.length with ⟨u, hu, q⟩ | h
    · exact RN_mono (by omega) (RN_stable hs q r rfl)
    · have hl : (n.cnt s n.roads.length).length ≤ n.roads.length := by
        have := List.length_filter_le (p := fun k => @decide (n.RN n.roads.length k s) (Classical.propDecidable _)) (l := List.range n.roads.length)
        unfold Net.cnt
        simpa using this
      have : n.cnt s n.roads.length = List.range n.roads.length := by
        unfold Net.cnt at h ⊢
        exact List.Sublist.eq_of_length_le List.filter_sublist (by simpa using h)
      exact (mem_cnt.mp (by rw [this]; simpa using reach_lt r)).2
theorem RN_iff {n : Net} {t k : Nat} {s : Int} (ht : n.roads.length ≤ t) : n.RN t k s ↔ n.Reach k s := ⟨RN_reach, fun r => RN_mono ht (reach_RN r)⟩
open Classical in
noncomputable def Net.plN (n : Net) (t : Nat) : List (Nat × Int) := n.grid.filter fun p => decide (n.RN t p.1 p.2)
theorem mem_plN {n : Net} (h : n.Ok) {t : Nat} {p : Nat × Int} : p ∈ n.plN t ↔ n.RN t p.1 p.2 := by
  unfold Net.plN
  rw [List.mem_filter, mem_grid]
  constructor
  · intro q
    simpa using q.2
  · intro q
    exact ⟨reach_bd h (RN_reach q), by simpa using q⟩
theorem plN_lt (n : Net) (t : Nat) : (n.plN t).Pairwise ltP := (grid_lt n).filter _
theorem plN_all {n : Net} (h : n.Ok) {t : Nat} (ht : n.roads.length ≤ t) : n.plN t = n.plc := ltP_unique (plN_lt n t) (plc_lt n) fun p => by rw [mem_plN h, mem_plc h, RN_iff ht]
/-! few states there are: none, or a road's last sign -/
def Net.few (n : Net) : List Int := 0 :: (List.range n.roads.length).map fun k => n.lv k 0
theorem reach_few {n : Net} {k : Nat} {s : Int} (r : n.Reach k s) : s ∈ n.few := by
  induction r with
  | start hk => exact List.mem_cons_self
  | @go j k s r hj ih =>
    by_cases hz : n.ov (n.lv j s) = 0
    · rw [hz]; exact List.mem_cons_self
    · rw [ov_ne hz]
      by_cases hg : (n.rd j).g = []
      · have e3 : n.lv j s = s := by simp [Net.lv, hg]
        rw [e3]
        exact ih
      · have e3 : n.lv j s = n.lv j 0 := by
          unfold Net.lv
          rw [List.getLastD_eq_getLast?, List.getLastD_eq_getLast?, List.getLast?_eq_some_getLast hg]
          rfl
        rw [e3]
        exact List.mem_cons_of_mem _ (List.mem_map.mpr ⟨j, by simpa using reach_lt r, rfl⟩)
theorem places_few {n : Net} {ps : List (Nat × Int)} (hn : ps.Nodup) (hr : ∀ p ∈ ps, n.Reach p.1 p.2) : ps.length ≤ n.roads.length * (n.roads.length + 1) := by
  have := List.Nodup.length_le_of_subset hn (l₂ := (List.range n.roads.length).flatMap fun k => n.few.map fun s => (k, s)) fun p hp => by
    have r := hr p hp
    exact List.mem_flatMap.mpr ⟨p.1, by simpa using reach_lt r, List.mem_map.mpr ⟨p.2, reach_few r, rfl⟩⟩
  refine Nat.le_trans this ?_
  rw [List.length_flatMap]
  simp [Net.few, List.map_const', List.sum_replicate_nat]
theorem ltP_nodup {ps : List (Nat × Int)} (h : ps.Pairwise ltP) : ps.Nodup := h.imp fun {a b} h e => by
  subst e
  unfold ltP at h
  omega
def toP (p : Nat × Int) : Int × Int := (((p.1 : Nat) : Int), p.2)
theorem plD_pr (p : Nat × Int) : plD p = DN.prD (toP p) := rfl
/-- sorted(set(..)) of places -/
theorem sorted_places {n : Net} (h : n.Ok) (h5 : n.roads.length ≤ 6) {ps qs : List (Nat × Int)} (hq : qs.Pairwise ltP) (hm : ∀ p, p ∈ qs ↔ p ∈ ps) (hr : ∀ p ∈ ps, n.Reach p.1 p.2) : setSortedP (.list (ps.map plD)) = .ok (.own (qs.map plD)) := by
  have e1 : asPairs (ps.map plD) = some (ps.map toP) := by
    rw [show ps.map plD = (ps.map toP).map DN.prD by rw [List.map_map]; rfl]
    exact asPairs_map _
  have hb : ∀ p ∈ ps, p.1 < 8 ∧ 0 ≤ p.2 ∧ p.2 ≤ 13 := fun p hp => by
    have := reach_bd h (hr p hp)
    have := h.r8
    omega
  have e2 : sortU ((ps.map toP).map cdP) = qs.map fun p => cdP (toP p) := by
    refine sortU_of ?_ fun c => ?_
    · rw [List.pairwise_map]
      refine hq.imp_of_mem fun {a b} ha hb' hlt => ?_
      have b1 := hb a ((hm a).mp ha)
      have b2 := hb b ((hm b).mp hb')
      unfold ltP at hlt
      unfold cdP toP
      simp only
      omega
    · rw [List.map_map, List.mem_map, List.mem_map]
      constructor
      · rintro ⟨p, hp, rfl⟩
        exact ⟨p, (hm p).mp hp, rfl⟩
      · rintro ⟨p, hp, rfl⟩
        exact ⟨p, (hm p).mpr hp, rfl⟩
  have hlen : qs.length ≤ 42 := by
    refine Nat.le_trans (places_few (n := n) (ltP_nodup hq) fun p hp => hr p ((hm p).mp hp)) ?_
    exact Nat.le_trans (Nat.mul_le_mul h5 (show n.roads.length + 1 ≤ 7 by omega)) (by decide)
  unfold setSortedP
  simp only [e1]
  rw [if_pos, e2, List.map_map]
  · congr 2
    apply List.map_congr_left
    intro p hp
    have b1 := hb p ((hm p).mp hp)
    show DN.prD (unP (cdP (toP p))) = _
    rw [un_cd (p := toP p) ⟨b1.2.1, by show p.2 < 64; omega⟩]
    rfl
  · refine ⟨?_, by rw [e2]; simp; omega⟩
    rw [List.all_eq_true]
    intro q hq'
    obtain ⟨p, hp, rfl⟩ := List.mem_map.mp hq'
    have b1 := hb p hp
    simp [inB, toP]
    omega
end LW
namespace DN
open PySem PySem.Spec PyProof.Rows L2
/-! ### goes on, or returns -/
def NR (o : RO) (P : Ev → Prop) (Q : R → Prop) : Prop := match o with
  | .nx ρ => P ρ
  | .ret r => Q r
  | _ => False
@[simp] theorem NR_nx (ρ : Ev) (P : Ev → Prop) (Q : R → Prop) : NR (.nx ρ) P Q ↔ P ρ := Iff.rfl
@[simp] theorem NR_ret (r : R) (P : Ev → Prop) (Q : R → Prop) : NR (.ret r) P Q ↔ Q r := Iff.rfl
theorem NR.seq {o : RO} {g : Ev → RO} {P P' : Ev → Prop} {Q : R → Prop} (h : NR o P Q) (k : ∀ ρ, P ρ → NR (g ρ) P' Q) : NR (o.seq g) P' Q := by
  cases o with
  | nx ρ => exact k ρ h
  | ret r => exact h
  | exc _ _ => exact h.elim
  | bad => exact h.elim
theorem NR.imp {o : RO} {P P' : Ev → Prop} {Q Q' : R → Prop} (h : NR o P Q) (k : ∀ ρ, P ρ → P' ρ) (k' : ∀ r, Q r → Q' r) : NR o P' Q' := by
  cases o with
  | nx ρ => exact k ρ h
  | ret r => exact k' r h
  | exc _ _ => exact h.elim
  | bad => exact h.elim
theorem Nx.nr {o : RO} {P : Ev → Prop} {Q : R → Prop} (h : Nx o P) : NR o P Q := by
  obtain ⟨ρ, rfl, p⟩ := h
  exact p
theorem gFor_listR {α : Type} {fi : Ev → Rs (List PyData)} {ft : PyData → Ev → Rs Ev} {gb : Ev → RO} {enc : α → PyData} {xs : List α} (I : List α → Ev → Prop) {Q : R → Prop} {ρ : Ev} (hf : fi ρ = .ok (xs.map enc)) (h0 : I [] ρ)
    (hs : ∀ (ys : List α) (x : α) (zs : List α) (ρ : Ev), xs = ys ++ x :: zs → I ys ρ → NR (bdy ft gb (enc x) ρ) (I (ys ++ [x])) Q) : NR (gFor fi ft gb ρ) (I xs) Q := by
  unfold gFor
  rw [hf, onR_ok]
  have key : ∀ (zs ys : List α) (ρ : Ev), xs = ys ++ zs → I ys ρ → NR (loop ft gb (zs.map enc) ρ) (I xs) Q := by
    intro zs
    induction zs with
    | nil =>
      intro ys ρ e h
      rw [List.append_nil] at e
      subst e
      exact h
    | cons z zs ih =>
      intro ys ρ e h
      have h1 := hs ys z zs ρ e h
      rw [List.map_cons]
      unfold loop
      unfold bdy at h1
      cases ef : ft (enc z) ρ with
      | ok ρ1 =>
        rw [ef] at h1
        exact NR.seq h1 fun ρ2 h2 => ih (ys ++ [z]) ρ2 (by rw [e]; simp) h2
      | err c => rw [ef] at h1; exact h1.elim
      | bad => rw [ef] at h1; exact h1.elim
  exact key xs [] ρ rfl h0
theorem gWhile_R {fc : Ev → Rs Bool} {gb : Ev → RO} (I : Ev → Prop) (μ : Ev → Nat) {Q : R → Prop} {ρ : Ev} (h0 : I ρ) (hμ : μ ρ < 1000000)
    (hs : ∀ ρ, I ρ → ∃ b, fc ρ = .ok b ∧ (b = true → NR (gb ρ) (fun ρ' => I ρ' ∧ μ ρ' < μ ρ) Q)) : NR (gWhile fc gb ρ) (fun ρ' => I ρ' ∧ fc ρ' = .ok false) Q := by
  have key : ∀ (n : Nat) (ρ : Ev), I ρ → μ ρ < n → NR (whileN fc gb n ρ) (fun ρ' => I ρ' ∧ fc ρ' = .ok false) Q := by
    intro n
    induction n with
    | zero => intro ρ _ h; omega
    | succ n ih =>
      intro ρ hI h
      obtain ⟨b, e, hb⟩ := hs ρ hI
      unfold whileN
      rw [e, onR_ok]
      cases b with
      | true =>
        rw [if_pos rfl]
        exact NR.seq (hb rfl) fun ρ1 h1 => ih ρ1 h1.1 (by omega)
      | false =>
        rw [if_neg (by decide)]
        exact ⟨hI, e⟩
  exact key _ ρ h0 hμ
end DN
namespace LW
open PySem PySem.Spec PyProof.Rows L2 DN
/-! ### a search by levels that goes on from each key once -/
section
variable {α κ : Type} [DecidableEq κ] (key : α → κ) (ext : α → List α)
/-- those whose keys are new -/
def frs (seen : List κ) : List α → List α
  | [] => []
  | x :: xs => if key x ∈ seen then frs seen xs else x :: frs (seen ++ [key x]) xs
theorem frs_pos {x : α} {xs : List α} {seen : List κ} (h : key x ∈ seen) : frs key seen (x :: xs) = frs key seen xs := by
  show (if key x ∈ seen then _ else _) = _
  rw [if_pos h]
theorem frs_neg {x : α} {xs : List α} {seen : List κ} (h : key x ∉ seen) : frs key seen (x :: xs) = x :: frs key (seen ++ [key x]) xs := by
  show (if key x ∈ seen then _ else _) = _
  rw [if_neg h]
theorem frs_old {x : α} : ∀ {xs : List α} {seen : List κ}, key x ∈ seen ++ (frs key seen xs).map key → frs key seen (xs ++ [x]) = frs key seen xs
  | [], seen, h => by
    rw [List.nil_append, frs_pos key (by simpa [frs] using h)]
  | y :: ys, seen, h => by
    rw [List.cons_append]
    by_cases hy : key y ∈ seen
    · rw [frs_pos key hy] at h ⊢
      rw [frs_pos key hy]
      exact frs_old h
    · rw [frs_neg key hy] at h ⊢
      rw [frs_neg key hy, frs_old (by simpa [List.append_assoc] using h)]
theorem frs_new {x : α} : ∀ {xs : List α} {seen : List κ}, key x ∉ seen ++ (frs key seen xs).map key → frs key seen (xs ++ [x]) = frs key seen xs ++ [x]
  | [], seen, h => by
    rw [List.nil_append, frs_neg key (by simpa [frs] using h)]
    rfl
  | y :: ys, seen, h => by
    rw [List.cons_append]
    by_cases hy : key y ∈ seen
    · rw [frs_pos key hy] at h ⊢
      rw [frs_pos key hy]
      exact frs_new h
    · rw [frs_neg key hy] at h ⊢
      rw [frs_neg key hy, frs_new (by simpa [List.append_assoc] using h)]
      rfl
theorem frs_sub : ∀ (xs : List α) (seen : List κ) (x : α), x ∈ frs key seen xs → x ∈ xs
  | [], _, _, h => by cases h
  | y :: ys, seen, x, h => by
    unfold frs at h
    split at h
    · exact List.mem_cons_of_mem _ (frs_sub ys _ x h)
    · rcases List.mem_cons.mp h with e | e
      · rw [e]; exact List.mem_cons_self
      · exact List.mem_cons_of_mem _ (frs_sub ys _ x e)
theorem frs_nodup : ∀ (xs : List α) (seen : List κ), seen.Nodup → (seen ++ (frs key seen xs).map key).Nodup
  | [], seen, h => by simpa [frs] using h
  | y :: ys, seen, h => by
    unfold frs
    split
    · exact frs_nodup ys seen h
    · rename_i hn
      have := frs_nodup ys (seen ++ [key y]) (by
        rw [List.nodup_append]
        exact ⟨h, by simp, fun a ha b hb e => by
          rw [List.mem_singleton.mp hb] at e
          exact hn (e ▸ ha)⟩)
      simpa [List.append_assoc] using this
theorem frs_keys : ∀ (xs : List α) (seen : List κ) (k : κ), k ∈ seen ++ (frs key seen xs).map key ↔ k ∈ seen ∨ k ∈ xs.map key
  | [], seen, k => by simp [frs]
  | y :: ys, seen, k => by
    unfold frs
    split
    · rename_i hy
      rw [frs_keys ys seen k]
      simp only [List.map_cons, List.mem_cons]
      constructor
      · rintro (h | h)
        · exact .inl h
        · exact .inr (.inr h)
      · rintro (h | h | h)
        · exact .inl h
        · exact .inl (h ▸ hy)
        · exact .inr h
    · have := frs_keys ys (seen ++ [key y]) k
      simp only [List.append_assoc, List.singleton_append, List.map_cons] at this ⊢
      rw [this]
      simp only [List.mem_append, List.mem_cons, List.not_mem_nil, or_false]
      constructor
      · rintro ((h | h) | h)
        · exact .inl h
        · exact .inr (.inl h)
        · exact .inr (.inr h)
      · rintro (h | h | h)
        · exact .inl (.inl h)
        · exact .inl (.inr h)
        · exact .inr h
/-- a list with some left out, whose keys were met before -/
inductive Pr : (κ → Prop) → List α → List α → Prop
  | nil {S : κ → Prop} : Pr S [] []
  | keep {S : κ → Prop} {x : α} {P U : List α} : Pr (fun k => S k ∨ k = key x) P U → Pr S (x :: P) (x :: U)
  | drop {S : κ → Prop} {x : α} {P U : List α} : S (key x) → Pr S P U → Pr S P (x :: U)
theorem Pr.more {S S' : κ → Prop} {P U : List α} (h : Pr key S P U) (hs : ∀ k, S k → S' k) : Pr key S' P U := by
  induction h generalizing S' with
  | nil => exact .nil
  | keep h ih => exact .keep (ih fun k hk => hk.elim (fun q => .inl (hs k q)) .inr)
  | drop hx h ih => exact .drop (hs _ hx) (ih hs)
theorem Pr.refl : ∀ (U : List α) (S : κ → Prop), Pr key S U U
  | [], _ => .nil
  | _ :: U, _ => .keep (Pr.refl U _)
theorem Pr.keeps {P U : List α} : ∀ (l : List α) {S : κ → Prop}, Pr key (fun k => S k ∨ k ∈ l.map key) P U → Pr key S (l ++ P) (l ++ U)
  | [], S, h => h.more key fun k q => q.elim id fun z => by cases z
  | x :: l, S, h => .keep (Pr.keeps l (h.more key fun k q => by
    rcases q with q | q
    · exact .inl (.inl q)
    · rcases List.mem_cons.mp (show k ∈ key x :: l.map key from q) with e | e
      · exact .inl (.inr e)
      · exact .inr e))
theorem Pr.drops {P U : List α} : ∀ (l : List α) {S : κ → Prop}, (∀ x ∈ l, S (key x)) → Pr key S P U → Pr key S P (l ++ U)
  | [], S, _, h => h
  | x :: l, S, hl, h => .drop (hl x List.mem_cons_self) (Pr.drops l (fun y hy => hl y (List.mem_cons_of_mem _ hy)) h)
variable {key ext}
/-- what is kept has all the keys -/
theorem Pr.keys {S : κ → Prop} {P U : List α} (h : Pr key S P U) (k : κ) : (S k ∨ k ∈ P.map key) ↔ (S k ∨ k ∈ U.map key) := by
  induction h with
  | nil => rfl
  | keep h ih =>
    simp only [List.map_cons, List.mem_cons]
    constructor
    · rintro (q | q | q)
      · exact .inl q
      · exact .inr (.inl q)
      · rcases ih.mp (.inr q) with (z | z) | z
        · exact .inl z
        · exact .inr (.inl z)
        · exact .inr (.inr z)
    · rintro (q | q | q)
      · exact .inl q
      · exact .inr (.inl q)
      · rcases ih.mpr (.inr q) with (z | z) | z
        · exact .inl z
        · exact .inr (.inl z)
        · exact .inr (.inr z)
  | drop hx h ih =>
    simp only [List.map_cons, List.mem_cons]
    constructor
    · intro q
      rcases ih.mp q with z | z
      · exact .inl z
      · exact .inr (.inr z)
    · rintro (q | q | q)
      · exact .inl q
      · exact .inl (q ▸ hx)
      · exact ih.mpr (.inr q)
theorem Pr.find {hit : α → Bool} (hk : ∀ x y, key x = key y → hit x = hit y) {S : κ → Prop} {P U : List α} (h : Pr key S P U) : (∀ x, S (key x) → hit x = false) → P.find? hit = U.find? hit := by
  induction h with
  | nil => intro _; rfl
  | @keep S x P U h ih =>
    intro hS
    by_cases hx : hit x = true
    · rw [List.find?_cons_of_pos hx, List.find?_cons_of_pos hx]
    · rw [List.find?_cons_of_neg hx, List.find?_cons_of_neg hx]
      refine ih fun y hy => ?_
      rcases hy with q | q
      · exact hS y q
      · rw [hk y x q]; simpa using hx
  | drop hx h ih =>
    intro hS
    rw [List.find?_cons_of_neg (by rw [hS _ hx]; decide)]
    exact ih hS
/-- one level on -/
theorem Pr.step {G : α → Prop} (hx : ∀ x y, G x → G y → key x = key y → (ext x).map key = (ext y).map key) {S T : κ → Prop} {P U : List α} (h : Pr key S P U) : (∀ x ∈ U, G x) → (∀ v, G v → S (key v) → ∀ y ∈ ext v, T (key y)) → ∀ seen : List κ, (∀ k, k ∈ seen ↔ S k) →
    Pr key T ((frs key seen P).flatMap ext) (U.flatMap ext) := by
  induction h generalizing T with
  | nil => intro _ _ _ _; exact .nil
  | @keep S x P U h ih =>
    intro hG hS seen hs
    have hGx := hG x List.mem_cons_self
    have hG' : ∀ x ∈ U, G x := fun y hy => hG y (List.mem_cons_of_mem _ hy)
    by_cases hi : key x ∈ seen
    · rw [frs_pos key hi, List.flatMap_cons]
      have hSx := (hs _).mp hi
      refine Pr.drops key _ (hS x hGx hSx) (ih hG' (fun v hv hvs y hy => ?_) seen fun k => ?_)
      · rcases hvs with q | q
        · exact hS v hv q y hy
        · exact hS v hv (by rw [q]; exact hSx) y hy
      · rw [hs k]
        exact ⟨.inl, fun q => q.elim id fun e => e ▸ hSx⟩
    · rw [frs_neg key hi, List.flatMap_cons, List.flatMap_cons]
      refine Pr.keeps key _ (ih hG' (fun v hv hvs y hy => ?_) (seen ++ [key x]) fun k => ?_)
      · rcases hvs with q | q
        · exact .inl (hS v hv q y hy)
        · refine .inr ?_
          rw [← hx v x hv hGx q]
          exact List.mem_map.mpr ⟨y, hy, rfl⟩
      · simp [hs k]
  | @drop S x P U hSx h ih =>
    intro hG hS seen hs
    rw [List.flatMap_cons]
    exact Pr.drops key _ (hS x (hG x List.mem_cons_self) hSx) (ih (fun y hy => hG y (List.mem_cons_of_mem _ hy)) hS seen hs)
/-- the levels as they are searched, and the keys met -/
def prn (L0 : List α) : Nat → List α × List κ
  | 0 => (L0, [])
  | t + 1 => ((frs key (prn L0 t).2 (prn L0 t).1).flatMap ext, (prn L0 t).2 ++ (frs key (prn L0 t).2 (prn L0 t).1).map key)
/-- all levels -/
def alv (L0 : List α) : Nat → List α
  | 0 => L0
  | t + 1 => (alv L0 t).flatMap ext
theorem prn_ok {G : α → Prop} {L0 : List α} (hx : ∀ x y, G x → G y → key x = key y → (ext x).map key = (ext y).map key) (hG : ∀ t, ∀ x ∈ alv (ext := ext) L0 t, G x) : ∀ t : Nat,
    Pr key (fun k => ∃ u, u < t ∧ k ∈ (alv (ext := ext) L0 u).map key) (prn (key := key) (ext := ext) L0 t).1 (alv (ext := ext) L0 t) ∧ ∀ k, k ∈ (prn (key := key) (ext := ext) L0 t).2 ↔ ∃ u, u < t ∧ k ∈ (alv (ext := ext) L0 u).map key
  | 0 => ⟨Pr.refl key _ _, fun k => ⟨fun h => (by cases h), fun ⟨u, hu, _⟩ => absurd hu (Nat.not_lt_zero _)⟩⟩
  | t + 1 => by
    obtain ⟨h1, h2⟩ := prn_ok hx hG t
    have hcl : ∀ v, G v → (∃ u, u < t ∧ key v ∈ (alv (ext := ext) L0 u).map key) → ∀ y ∈ ext v, ∃ u, u < t + 1 ∧ key y ∈ (alv (ext := ext) L0 u).map key := by
      intro v hv hu y hy
      obtain ⟨u, hu, hk⟩ := hu
      obtain ⟨z, hz, e⟩ := List.mem_map.mp hk
      have e2 := hx v z hv (hG u z hz) e.symm
      have : key y ∈ (ext z).map key := by rw [← e2]; exact List.mem_map.mpr ⟨y, hy, rfl⟩
      obtain ⟨y', hy', e3⟩ := List.mem_map.mp this
      exact ⟨u + 1, by omega, List.mem_map.mpr ⟨y', List.mem_flatMap.mpr ⟨z, hz, hy'⟩, e3⟩⟩
    refine ⟨Pr.step hx h1 (hG t) hcl _ h2, fun k => ?_⟩
    · show k ∈ _ ++ List.map key _ ↔ _
      rw [frs_keys, h2 k]
      have := h1.keys k
      rw [this]
      constructor
      · rintro (⟨u, hu, h⟩ | h)
        · exact ⟨u, by omega, h⟩
        · exact ⟨t, by omega, h⟩
      · rintro ⟨u, hu, h⟩
        by_cases e : u = t
        · subst e; exact .inr h
        · exact .inl ⟨u, by omega, h⟩
/-- the first that is hit, level by level -/
theorem prn_find {G : α → Prop} {L0 : List α} (hx : ∀ x y, G x → G y → key x = key y → (ext x).map key = (ext y).map key) (hG : ∀ t, ∀ x ∈ alv (ext := ext) L0 t, G x) {hit : α → Bool} (hk : ∀ x y, key x = key y → hit x = hit y) {t : Nat} (hn : ∀ u, u < t → ∀ x ∈ alv (ext := ext) L0 u, hit x = false) :
    (prn (key := key) (ext := ext) L0 t).1.find? hit = (alv (ext := ext) L0 t).find? hit :=
  Pr.find hk (prn_ok hx hG t).1 fun x ⟨u, hu, h⟩ => by
    obtain ⟨y, hy, e⟩ := List.mem_map.mp h
    rw [hk x y e.symm]
    exact hn u hu y hy
theorem prn_nil {L0 : List α} {t : Nat} (h : (prn (key := key) (ext := ext) L0 t).1 = []) : ∀ d, (prn (key := key) (ext := ext) L0 (t + d)).1 = []
  | 0 => h
  | d + 1 => by
    have := prn_nil h d
    show (frs key _ (prn (key := key) (ext := ext) L0 (t + d)).1).flatMap ext = []
    rw [this]
    rfl
/-- if the search ends there is nothing to be hit -/
theorem prn_end {G : α → Prop} {L0 : List α} (hx : ∀ x y, G x → G y → key x = key y → (ext x).map key = (ext y).map key) (hG : ∀ t, ∀ x ∈ alv (ext := ext) L0 t, G x) {hit : α → Bool} (hk : ∀ x y, key x = key y → hit x = hit y) {t : Nat} (hn : ∀ u, u < t → ∀ x ∈ alv (ext := ext) L0 u, hit x = false)
    (he : (prn (key := key) (ext := ext) L0 t).1 = []) : ∀ d, ∀ u, u < t + d → ∀ x ∈ alv (ext := ext) L0 u, hit x = false
  | 0, u, hu, x, hx' => hn u hu x hx'
  | d + 1, u, hu, x, hx' => by
    have ih := prn_end hx hG hk hn he d
    by_cases e : u = t + d
    · subst e
      have := prn_find hx hG hk ih
      rw [prn_nil he d] at this
      have := List.find?_eq_none.mp this.symm x hx'
      simpa using this
    · exact ih u (by omega) x hx'
theorem prn_nodup {L0 : List α} : ∀ t, (prn (key := key) (ext := ext) L0 t).2.Nodup
  | 0 => List.nodup_nil
  | t + 1 => frs_nodup key _ _ (prn_nodup t)
theorem prn_sub {L0 : List α} : ∀ t x, x ∈ (prn (key := key) (ext := ext) L0 t).1 → x ∈ alv (ext := ext) L0 t
  | 0, x, h => h
  | t + 1, x, h => by
    obtain ⟨y, hy, hx⟩ := List.mem_flatMap.mp (show x ∈ (frs key _ _).flatMap ext from h)
    exact List.mem_flatMap.mpr ⟨y, prn_sub t y (frs_sub key _ _ _ hy), hx⟩
end
/-! ### levels of ways -/
/-- the state onto the last road of a way -/
def Net.onto (n : Net) (w : List Nat) : Int := n.sB w (w.length - 1)
def Net.key (n : Net) (w : List Nat) : Nat × Int := (w.getLastD 0, n.onto w)
theorem wk_app {w : List Nat} {k i : Nat} (h : i < w.length) : wk (w ++ [k]) i = wk w i := by
  unfold wk
  rw [List.getD_eq_getElem?_getD, List.getD_eq_getElem?_getD, List.getElem?_append_left h]
theorem sB_app (n : Net) {w : List Nat} {k : Nat} : ∀ {i : Nat}, i ≤ w.length → n.sB (w ++ [k]) i = n.sB w i
  | 0, _ => rfl
  | i + 1, h => by
    show n.ov (n.lv (wk (w ++ [k]) i) (n.sB (w ++ [k]) i)) = n.ov (n.lv (wk w i) (n.sB w i))
    rw [wk_app (by omega), sB_app n (by omega)]
theorem wk_last {w : List Nat} (h : w ≠ []) : wk w (w.length - 1) = w.getLastD 0 := by
  unfold wk
  rw [List.getLastD_eq_getLast?, List.getLast?_eq_getElem?, List.getD_eq_getElem?_getD]
theorem onto_app (n : Net) {w : List Nat} (h : w ≠ []) (k : Nat) : n.onto (w ++ [k]) = n.nxt (n.key w) := by
  have hp : 0 < w.length := List.length_pos_iff.mpr h
  unfold Net.onto
  rw [show (w ++ [k]).length - 1 = (w.length - 1) + 1 by simp; omega]
  show n.ov (n.lv (wk (w ++ [k]) (w.length - 1)) (n.sB (w ++ [k]) (w.length - 1))) = _
  rw [wk_app (by omega), sB_app n (by omega), wk_last h]
  rfl
theorem last_app (w : List Nat) (k : Nat) : (w ++ [k]).getLastD 0 = k := by
  rw [List.getLastD_eq_getLast?, List.getLast?_append]
  rfl
theorem key_app (n : Net) {w : List Nat} (h : w ≠ []) (k : Nat) : n.key (w ++ [k]) = (k, n.nxt (n.key w)) := by
  unfold Net.key
  rw [last_app, onto_app n h]
  rfl
theorem key_reach {n : Net} {w : List Nat} (h : n.Way w) : n.Reach (n.key w).1 (n.key w).2 := by
  have hp : 0 < w.length := List.length_pos_iff.mpr h.ne
  have := way_reach' h (i := w.length - 1) (by omega)
  rw [wk_last h.ne] at this
  exact this
where
  way_reach' {n : Net} {r : List Nat} (hr : n.Way r) : ∀ {i : Nat}, i < r.length → n.Reach (wk r i) (n.sB r i)
  | 0, hi => .start (hr.lt _ (getD_mem hi))
  | i + 1, hi => by
    refine .go (way_reach' hr (i := i) (by omega)) ?_
    have hl := hr.link i (wk r i) (wk r (i + 1)) (by simp [wk, show i < r.length by omega]) (by simp [wk, hi])
    exact List.mem_filter.mpr ⟨by simpa using hr.lt _ (getD_mem hi), by simpa using hl.symm⟩
theorem ext_keys {n : Net} {v w : List Nat} (hv : v ≠ []) (hw : w ≠ []) (h : n.key v = n.key w) : (n.ext v).map n.key = (n.ext w).map n.key := by
  have hl : v.getLastD 0 = w.getLastD 0 := congrArg Prod.fst h
  unfold Net.ext
  rw [List.map_map, List.map_map, hl]
  apply List.map_congr_left
  intro k _
  show n.key (v ++ [k]) = n.key (w ++ [k])
  rw [key_app n hv, key_app n hw, h]
/-- every place has a way to it -/
theorem reach_lev {n : Net} {k : Nat} {s : Int} (r : n.Reach k s) : ∃ t, ∃ w ∈ n.lev t, n.key w = (k, s) := by
  induction r with
  | @start k hk => exact ⟨0, [k], List.mem_map.mpr ⟨k, by simpa using hk, rfl⟩, rfl⟩
  | @go k j s r hj ih =>
    obtain ⟨t, w, hw, e⟩ := ih
    have hne := (lev_way hw).1.ne
    refine ⟨t + 1, w ++ [j], List.mem_flatMap.mpr ⟨w, hw, List.mem_map.mpr ⟨j, ?_, rfl⟩⟩, ?_⟩
    · have : w.getLastD 0 = k := congrArg Prod.fst e
      rw [this]
      exact hj
    · rw [key_app n hne, e]
      rfl
theorem alv_lev (n : Net) : ∀ t, alv (ext := n.ext) (n.lev 0) t = n.lev t
  | 0 => rfl
  | t + 1 => by
    show (alv (ext := n.ext) (n.lev 0) t).flatMap n.ext = (n.lev t).flatMap n.ext
    rw [alv_lev n t]
end LW
namespace DN
open PySem PySem.Spec PyProof.Rows L2
theorem gWhile_RI {β : Type} {fc : Ev → Rs Bool} {gb : Ev → RO} (I : β → Ev → Prop) (μ : β → Nat) {Q : R → Prop} {ρ : Ev} {b0 : β} (h0 : I b0 ρ) (hμ : μ b0 < 1000000)
    (hs : ∀ b ρ, I b ρ → ∃ c, fc ρ = .ok c ∧ (c = true → NR (gb ρ) (fun ρ' => ∃ b', I b' ρ' ∧ μ b' < μ b) Q)) : NR (gWhile fc gb ρ) (fun ρ' => (∃ b, I b ρ') ∧ fc ρ' = .ok false) Q := by
  have key : ∀ (n : Nat) (b : β) (ρ : Ev), I b ρ → μ b < n → NR (whileN fc gb n ρ) (fun ρ' => (∃ b, I b ρ') ∧ fc ρ' = .ok false) Q := by
    intro n
    induction n with
    | zero => intro b ρ _ h; omega
    | succ n ih =>
      intro b ρ hI h
      obtain ⟨c, e, hb⟩ := hs b ρ hI
      unfold whileN
      rw [e, onR_ok]
      cases c with
      | true =>
        rw [if_pos rfl]
        exact NR.seq (hb rfl) fun ρ1 ⟨b1, h1, h2⟩ => ih b1 ρ1 h1 (by omega)
      | false =>
        rw [if_neg (by decide)]
        exact ⟨⟨b, hI⟩, e⟩
  exact key _ b0 ρ h0 hμ
end DN
namespace LW
open PySem PySem.Spec PyProof.Rows L2 DN
/-! ### what a search by levels finds -/
section
variable {κ : Type} [DecidableEq κ] {ext : κ → List κ} {L0 : List κ}
def Lvd (ext : κ → List κ) (L0 : List κ) (x : κ) : Prop := ∃ t, x ∈ alv (ext := ext) L0 t
theorem lvd_start {x : κ} (h : x ∈ L0) : Lvd ext L0 x := ⟨0, h⟩
theorem lvd_step {x y : κ} (h : Lvd ext L0 x) (hy : y ∈ ext x) : Lvd ext L0 y := by
  obtain ⟨t, ht⟩ := h
  exact ⟨t + 1, List.mem_flatMap.mpr ⟨x, ht, hy⟩⟩
theorem lvd_ind {P : κ → Prop} (h0 : ∀ x ∈ L0, P x) (hs : ∀ x, Lvd ext L0 x → P x → ∀ y ∈ ext x, P y) {x : κ} (h : Lvd ext L0 x) : P x := by
  obtain ⟨t, ht⟩ := h
  induction t generalizing x with
  | zero => exact h0 x ht
  | succ t ih =>
    obtain ⟨y, hy, hx⟩ := List.mem_flatMap.mp ht
    exact hs y ⟨t, hy⟩ (ih hy) x hx
theorem bfsL {X : Type} (lt : List PyData → R) (enc : κ → PyData) (U : List κ) (hU : ∀ x, Lvd ext L0 x → x ∈ U) (hB : U.length ≤ 1600) (hx8 : ∀ x, (ext x).length ≤ 8) (hit : κ → Bool) (mk : List κ → List κ → Option R → X → Ev)
    {fc : Ev → Rs Bool} {s1 s3 : Ev → RO} {fi : Ev → Rs (List PyData)} {ft : PyData → Ev → Rs Ev} {gb : Ev → RO}
    (hfc : ∀ L D o x, fc (mk L D o x) = .ok (!L.isEmpty)) (h1 : ∀ L D o x, s1 (mk L D o x) = .nx (mk L D (some (lt [])) x)) (hfi : ∀ L D o x, fi (mk L D o x) = .ok (L.map enc))
    (h3 : ∀ L D later x, s3 (mk L D (some (lt (later.map enc))) x) = .nx (mk later D (some (.val (.list (later.map enc)))) x))
    (hb : ∀ L D later x p, Lvd ext L0 p → D.length ≤ 1600 → later.length ≤ 12800 → (∀ q ∈ D, Lvd ext L0 q) →
      (p ∈ D → NR (bdy ft gb (enc p) (mk L D (some (lt (later.map enc))) x)) (fun ρ => ∃ x', ρ = mk L D (some (lt (later.map enc))) x') (fun _ => False)) ∧
      (p ∉ D → NR (bdy ft gb (enc p) (mk L D (some (lt (later.map enc))) x)) (fun ρ => hit p = false ∧ ∃ x', ρ = mk L (D ++ [p]) (some (lt ((later ++ ext p).map enc))) x') (fun r => hit p = true ∧ r = .val (.bool false))))
    (o0 : Option R) (x0 : X) :
    NR (gWhile fc (gSeq s1 (gSeq (gFor fi ft gb) s3)) (mk L0 [] o0 x0)) (fun ρ => (∃ D o x, ρ = mk [] D o x ∧ D.Nodup ∧ ∀ p, p ∈ D ↔ Lvd ext L0 p) ∧ ∀ p, Lvd ext L0 p → hit p = false) (fun r => r = .val (.bool false) ∧ ∃ p, Lvd ext L0 p ∧ hit p = true) := by
  have hx : ∀ x y : κ, True → True → id x = id y → (ext x).map id = (ext y).map id := fun x y _ _ e => by rw [show x = y from e]
  have hG : ∀ t, ∀ x ∈ alv (ext := ext) L0 t, True := fun _ _ _ => trivial
  let pl : Nat → List κ := fun t => (prn (key := id) (ext := ext) L0 t).1
  let sn : Nat → List κ := fun t => (prn (key := id) (ext := ext) L0 t).2
  have plv : ∀ t x, x ∈ pl t → Lvd ext L0 x := fun t x h => ⟨t, prn_sub t x h⟩
  have snv : ∀ t x, x ∈ sn t → Lvd ext L0 x := fun t x h => by
    obtain ⟨u, _, hu⟩ := ((prn_ok hx hG t).2 x).mp h
    rw [List.map_id] at hu
    exact ⟨u, hu⟩
  have few : ∀ D : List κ, D.Nodup → (∀ q ∈ D, Lvd ext L0 q) → D.length ≤ 1600 := fun D hn hq => Nat.le_trans (List.Nodup.length_le_of_subset hn fun q h => hU q (hq q h)) hB
  have main := gWhile_RI (fc := fc) (gb := gSeq s1 (gSeq (gFor fi ft gb) s3)) (Q := fun r => r = .val (.bool false) ∧ ∃ p, Lvd ext L0 p ∧ hit p = true)
    (fun (t : Nat) ρ => (∀ q ∈ sn t, hit q = false) ∧ ∃ o x, ρ = mk (pl t) (sn t) o x) (fun t => 2 * (1600 - (sn t).length) + if (pl t).isEmpty then 0 else 1) (ρ := mk L0 [] o0 x0) (b0 := 0)
    ⟨fun q hq => (by cases hq), o0, x0, rfl⟩ (by show 2 * (1600 - 0) + _ < _; split <;> omega) (fun t ρ hI => by
      obtain ⟨hno, o, x, rfl⟩ := hI
      refine ⟨_, hfc _ _ _ _, fun hne => ?_⟩
      have hne : (pl t).isEmpty = false := by simpa using hne
      show NR ((s1 _).seq _) _ _
      rw [h1, seq_nx]
      show NR ((gFor fi ft gb _).seq _) _ _
      have hfr : ∀ ys : List κ, (∀ y ∈ ys, y ∈ pl t) → (sn t ++ (frs id (sn t) ys).map id).Nodup ∧ ∀ q ∈ sn t ++ (frs id (sn t) ys).map id, Lvd ext L0 q := fun ys hy => by
        refine ⟨frs_nodup id ys (sn t) (prn_nodup t), fun q hq => ?_⟩
        rcases List.mem_append.mp hq with z | z
        · exact snv t q z
        · rw [List.map_id] at z
          exact plv t q (hy q (frs_sub id _ _ _ z))
      refine NR.seq (P := fun ρ => (∀ q ∈ frs id (sn t) (pl t), hit q = false) ∧ ∃ x', ρ = mk (pl t) (sn t ++ (frs id (sn t) (pl t)).map id) (some (lt (((frs id (sn t) (pl t)).flatMap ext).map enc))) x') ?_ ?_
      · refine gFor_listR (enc := enc) (xs := pl t) (fun ys ρ => (∀ q ∈ frs id (sn t) ys, hit q = false) ∧ ∃ x', ρ = mk (pl t) (sn t ++ (frs id (sn t) ys).map id) (some (lt (((frs id (sn t) ys).flatMap ext).map enc))) x') (hfi _ _ _ _)
          ⟨fun q hq => (by cases hq), x, by simp [frs]⟩ (fun ys p zs ρ hxs hI => ?_)
        obtain ⟨hnh, x', rfl⟩ := hI
        have hyp : ∀ y ∈ ys, y ∈ pl t := fun y hy => by
          show y ∈ pl t
          rw [hxs]; simp [hy]
        have hp : p ∈ pl t := by
          show p ∈ pl t
          rw [hxs]; simp
        have hD := hfr ys hyp
        have hDl := few _ hD.1 hD.2
        have hfl : ((frs id (sn t) ys).flatMap ext).length ≤ (frs id (sn t) ys).length * 8 := flat_len fun v _ => hx8 v
        have hfl2 : (frs id (sn t) ys).length ≤ 1600 := by
          have : (sn t ++ (frs id (sn t) ys).map id).length = (sn t).length + (frs id (sn t) ys).length := by simp
          omega
        have hbb := hb (pl t) (sn t ++ (frs id (sn t) ys).map id) ((frs id (sn t) ys).flatMap ext) x' p (plv t p hp) hDl (by omega) hD.2
        by_cases hin : id p ∈ sn t ++ (frs id (sn t) ys).map id
        · rw [frs_old id hin]
          refine (hbb.1 hin).imp (fun ρ q => ⟨hnh, q⟩) (fun _ z => z.elim)
        · rw [frs_new id hin]
          refine (hbb.2 hin).imp (fun ρ q => ?_) (fun r q => ⟨q.2, p, plv t p hp, q.1⟩)
          obtain ⟨hhp, x'', rfl⟩ := q
          refine ⟨fun q hq => ?_, x'', by simp⟩
          rcases List.mem_append.mp hq with z | z
          · exact hnh q z
          · rw [List.mem_singleton.mp z]; exact hhp
      · rintro _ ⟨hnh, x', rfl⟩
        rw [h3]
        have hsn : sn (t + 1) = sn t ++ (frs id (sn t) (pl t)).map id := rfl
        have hpl : pl (t + 1) = (frs id (sn t) (pl t)).flatMap ext := rfl
        refine (NR_nx _ _ _).mpr ⟨t + 1, ⟨fun q hq => ?_, _, x', rfl⟩, ?_⟩
        · rw [hsn] at hq
          rcases List.mem_append.mp hq with z | z
          · exact hno q z
          · rw [List.map_id] at z
            exact hnh q z
        · have hD := hfr (pl t) fun y hy => hy
          have hDl := few _ hD.1 hD.2
          have hl : (sn (t + 1)).length = (sn t).length + (frs id (sn t) (pl t)).length := by rw [hsn]; simp
          rw [← hsn] at hDl
          rw [hne]
          by_cases z : frs id (sn t) (pl t) = []
          · have e1 : pl (t + 1) = [] := by rw [hpl, z]; rfl
            rw [e1, hl, z]
            simp
          · have : 0 < (frs id (sn t) (pl t)).length := List.length_pos_iff.mpr z
            have e2 : (if (pl (t + 1)).isEmpty = true then 0 else 1) ≤ 1 := by split <;> omega
            simp only [Bool.false_eq_true, if_false]
            omega)
  refine main.imp (fun ρ q => ?_) (fun r q => q)
  obtain ⟨⟨t, hno, o, x, rfl⟩, ht⟩ := q
  rw [hfc] at ht
  have hpl : pl t = [] := by
    cases e : pl t with
    | nil => rfl
    | cons a b => rw [e] at ht; cases ht
  -- all that can be come to was met
  have hall : ∀ p, Lvd ext L0 p → p ∈ sn t := fun p ⟨u, hu⟩ => by
    have := prn_end hx hG (hit := fun q => decide (q ∉ sn t)) (fun a b e => by rw [show a = b from e]) (t := t) (fun u hu q hq => by
      have : q ∈ sn t := ((prn_ok hx hG t).2 q).mpr ⟨u, hu, by rw [List.map_id]; exact hq⟩
      simp [this]) hpl (u + 1) u (by omega) p hu
    simpa using this
  refine ⟨⟨sn t, o, x, by rw [hpl], prn_nodup t, fun p => ⟨snv t p, hall p⟩⟩, fun p hp => hno p (hall p hp)⟩
theorem bfs {X : Type} (enc : κ → PyData) (U : List κ) (hU : ∀ x, Lvd ext L0 x → x ∈ U) (hB : U.length ≤ 1600) (hx8 : ∀ x, (ext x).length ≤ 8) (hit : κ → Bool) (mk : List κ → List κ → Option R → X → Ev)
    {fc : Ev → Rs Bool} {s1 s3 : Ev → RO} {fi : Ev → Rs (List PyData)} {ft : PyData → Ev → Rs Ev} {gb : Ev → RO}
    (hfc : ∀ L D o x, fc (mk L D o x) = .ok (!L.isEmpty)) (h1 : ∀ L D o x, s1 (mk L D o x) = .nx (mk L D (some (.own [])) x)) (hfi : ∀ L D o x, fi (mk L D o x) = .ok (L.map enc))
    (h3 : ∀ L D later x, s3 (mk L D (some (.own (later.map enc))) x) = .nx (mk later D (some (.val (.list (later.map enc)))) x))
    (hb : ∀ L D later x p, Lvd ext L0 p → D.length ≤ 1600 → later.length ≤ 12800 → (∀ q ∈ D, Lvd ext L0 q) →
      (p ∈ D → NR (bdy ft gb (enc p) (mk L D (some (.own (later.map enc))) x)) (fun ρ => ∃ x', ρ = mk L D (some (.own (later.map enc))) x') (fun _ => False)) ∧
      (p ∉ D → NR (bdy ft gb (enc p) (mk L D (some (.own (later.map enc))) x)) (fun ρ => hit p = false ∧ ∃ x', ρ = mk L (D ++ [p]) (some (.own ((later ++ ext p).map enc))) x') (fun r => hit p = true ∧ r = .val (.bool false))))
    (o0 : Option R) (x0 : X) :
    NR (gWhile fc (gSeq s1 (gSeq (gFor fi ft gb) s3)) (mk L0 [] o0 x0)) (fun ρ => (∃ D o x, ρ = mk [] D o x ∧ D.Nodup ∧ ∀ p, p ∈ D ↔ Lvd ext L0 p) ∧ ∀ p, Lvd ext L0 p → hit p = false) (fun r => r = .val (.bool false) ∧ ∃ p, Lvd ext L0 p ∧ hit p = true) :=
  bfsL R.own enc U hU hB hx8 hit mk hfc h1 hfi h3 hb o0 x0
end
/-! ### pairs of states in two nets -/
abbrev Tr := Nat × Int × Int
def Net.ex2 (n m : Net) (p : Tr) : List Tr := (n.aft p.1).map fun j => (j, n.ov (n.lv p.1 p.2.1), m.ov (m.lv p.1 p.2.2))
def Net.l2 (n : Net) : List Tr := (List.range n.roads.length).map fun k => (k, 0, 0)
/-- drivers in two nets can come onto a road with a pair of states -/
abbrev Net.R2 (n m : Net) (p : Tr) : Prop := Lvd (n.ex2 m) n.l2 p
theorem R2_bd {n m : Net} (hn : n.Ok) (hm : m.Ok) (hl : m.roads.length = n.roads.length) {p : Tr} (h : n.R2 m p) : p.1 < n.roads.length ∧ (0 ≤ p.2.1 ∧ p.2.1 ≤ 13) ∧ (0 ≤ p.2.2 ∧ p.2.2 ≤ 13) := by
  refine lvd_ind (P := fun p => p.1 < n.roads.length ∧ (0 ≤ p.2.1 ∧ p.2.1 ≤ 13) ∧ (0 ≤ p.2.2 ∧ p.2.2 ≤ 13)) (fun x hx => ?_) (fun x _ hx y hy => ?_) h
  · obtain ⟨k, hk, rfl⟩ := List.mem_map.mp hx
    exact ⟨by simpa using hk, ⟨Int.le_refl 0, show (0 : Int) ≤ 13 by decide⟩, Int.le_refl 0, show (0 : Int) ≤ 13 by decide⟩
  · obtain ⟨j, hj, rfl⟩ := List.mem_map.mp hy
    have a := lv_bd hn hx.1 hx.2.1.1 hx.2.1.2
    have b := lv_bd hm (by rw [hl]; exact hx.1) hx.2.2.1 hx.2.2.2
    exact ⟨aft_lt hj, ov_bd n a.1 a.2, ov_bd m b.1 b.2⟩
def Net.all2 (n : Net) : List Tr := n.grid.flatMap fun p => (List.range 14).map fun s => (p.1, p.2, ((s : Nat) : Int))
theorem all2_len {n : Net} (h : n.Ok) : n.all2.length ≤ 1600 := by
  have h8 := h.r8
  have h1 := grid_len n
  have : n.all2.length ≤ n.grid.length * 14 := flat_len fun p _ => by simp
  omega
theorem R2_all {n m : Net} (hn : n.Ok) (hm : m.Ok) (hl : m.roads.length = n.roads.length) {p : Tr} (h : n.R2 m p) : p ∈ n.all2 := by
  obtain ⟨h1, h2, h3⟩ := R2_bd hn hm hl h
  exact List.mem_flatMap.mpr ⟨(p.1, p.2.1), mem_grid.mpr ⟨h1, h2.1, h2.2⟩, List.mem_map.mpr ⟨p.2.2.toNat, by simp; omega, by
    refine Prod.ext rfl (Prod.ext rfl ?_)
    show ((p.2.2.toNat : Nat) : Int) = p.2.2
    omega⟩⟩
theorem ex2_len {n : Net} (h : n.Ok) (m : Net) (p : Tr) : (n.ex2 m p).length ≤ 8 := by
  unfold Net.ex2
  rw [List.length_map]
  exact Nat.le_trans (aft_len n _) h.r8
def tpD (p : Tr) : PyData := .tuple [.int (p.1 : Nat), .int p.2.1, .int p.2.2]
def tpK (p : Tr) : List Key × PyData := ([.inl (p.1 : Nat), .inl p.2.1, .inl p.2.2], .bool true)
theorem asTup_tp (k : Nat) (a b : Int) : asTup (.tuple [.int (k : Nat), .int a, .int b]) = some [.inl ((k : Nat) : Int), .inl a, .inl b] := rfl
theorem key_tp (p q : Tr) : (tpK p).1 = [Sum.inl ((q.1 : Nat) : Int), Sum.inl q.2.1, Sum.inl q.2.2] ↔ p = q := by
  constructor
  · intro h
    have h : [Sum.inl ((p.1 : Nat) : Int), Sum.inl p.2.1, Sum.inl p.2.2] = ([Sum.inl ((q.1 : Nat) : Int), Sum.inl q.2.1, Sum.inl q.2.2] : List Key) := h
    simp at h
    exact Prod.ext (by omega) (Prod.ext h.2.1 h.2.2)
  · rintro rfl
    rfl
theorem tpK_val (ps : List Tr) (p : Tr) : (valP (ps.map tpK) [.inl ((p.1 : Nat) : Int), .inl p.2.1, .inl p.2.2]).isSome = decide (p ∈ ps) := by
  unfold valP
  rw [Option.isSome_map, List.find?_map, Option.isSome_map]
  by_cases h : p ∈ ps
  · rw [List.find?_isSome.mpr ⟨p, h, by simp [Function.comp, key_tp]⟩]
    simp [h]
  · have : ps.find? ((fun kv => decide (kv.1 = [Sum.inl ((p.1 : Nat) : Int), Sum.inl p.2.1, Sum.inl p.2.2])) ∘ tpK) = none := by
      rw [List.find?_eq_none]
      intro q hq
      simp only [Function.comp, decide_eq_true_eq, key_tp]
      rintro rfl
      exact h hq
    rw [this]
    simp [h]
theorem tpK_put (ps : List Tr) (p : Tr) (h : p ∉ ps) : putP (ps.map tpK) [.inl ((p.1 : Nat) : Int), .inl p.2.1, .inl p.2.2] (.bool true) = (ps ++ [p]).map tpK := by
  unfold putP
  have : ((ps.map tpK).any fun kv => decide (kv.1 = [Sum.inl ((p.1 : Nat) : Int), Sum.inl p.2.1, Sum.inl p.2.2])) = false := by
    rw [List.any_eq_false]
    intro kv hkv
    obtain ⟨q, hq, rfl⟩ := List.mem_map.mp hkv
    simp only [decide_eq_true_eq, key_tp]
    rintro rfl
    exact h hq
  rw [this, if_neg (by decide), List.map_append]
  rfl
theorem sortD_tp (ps : List Tr) : ∃ qs : List Tr, sortD (ps.map tpD) = qs.map tpD ∧ ∀ p, p ∈ qs ↔ p ∈ ps := by
  refine ⟨ps.mergeSort (fun a b => PySem.W.dataLe false (fun d : PyData => d) (tpD a) (tpD b)), ?_, fun p => List.mem_mergeSort⟩
  unfold sortD
  rw [List.map_mergeSort (r := fun a b => PySem.W.dataLe false (fun d : PyData => d) (tpD a) (tpD b)) (s := fun a b => PySem.W.dataLe false (fun d : PyData => d) a b)]
  intro a _ b _
  rfl
theorem sortable_tp (ps : List Tr) : sortable (ps.map tpD) = true := by
  unfold sortable
  simp only [Bool.and_eq_true, Bool.or_eq_true]
  refine ⟨⟨?_, .inl ?_⟩, ?_⟩
  · simp [List.all_map, tpD, PySem.W.alike, PySem.W.alikeAll]
  · simp [List.all_map, tpD]
  · simp [List.all_map, tpD, PyData.depth, PyData.depthAll]
theorem dOks_tp (ps : List Tr) : dOks 1 (ps.map tpD) = true := dOks_map fun x _ => dOk_tuple (by simp [dOks])
theorem capDK {ps : List Tr} (h : ps.length ≤ 1600) : (ps.map tpK).length < lim := Nat.lt_of_lt_of_le (show _ < 2000 by rw [List.length_map]; omega) (by decide)
theorem capLT {ps qs : List Tr} (h : ps.length ≤ 12800) (h2 : qs.length ≤ 8) : (ps.map tpD).length + (qs.map tpD).length ≤ lim := Nat.le_trans (show _ ≤ 20000 by rw [List.length_map, List.length_map]; omega) (by decide)
end LW
namespace LW
open PySem PySem.Spec PyProof.Rows L2 DN
/-! ### a sign left out -/
def Net.drp (n : Net) (k i : Nat) : Net := n.put k ((n.rd k).g.eraseIdx i)
theorem drp_len (n : Net) (k i : Nat) : (n.drp k i).roads.length = n.roads.length := put_len n k _
theorem drp_ok {n : Net} (h : n.Ok) {k : Nat} (hk : k < n.roads.length) (i : Nat) : (n.drp k i).Ok :=
  put_ok h hk (Nat.le_trans (List.length_eraseIdx_le _ _) (h.rd hk).gl) fun x hx => (h.rd hk).g x (List.mem_of_mem_eraseIdx hx)
theorem erase_cut (g : List Int) (i : Nat) : g.eraseIdx i = g.take i ++ g.drop (i + 1) := List.eraseIdx_eq_take_drop_succ g i
/-! ### signs that change nothing -/
/-- a limit changes for a pair of drivers, if the sign i of the road k is left out -/
def Net.bad2 (n m : Net) (k i : Nat) (p : Tr) : Bool :=
  (decide (p.1 = k) && !decide (n.lim_ p.1 i p.2.1 = n.lim_ p.1 (i + 1) p.2.1)) || !decide ((if p.1 = k then (n.pcs p.1 p.2.1).eraseIdx i else n.pcs p.1 p.2.1) = m.pcs p.1 p.2.2)
open Classical in
noncomputable def Net.idl (n : Net) (k i : Nat) : Bool := decide (∀ p, n.R2 (n.drp k i) p → n.bad2 (n.drp k i) k i p = false)
theorem eqI (xs ys : List Int) : eqD (.list (xs.map .int)) (.list (ys.map .int)) = .ok (decide (xs = ys)) := by
  rw [eqD_of (n := 1) (m := 1) (dOk_list (dOks_map fun x _ => dOk_int 0 _)) (dOk_list (dOks_map fun x _ => dOk_int 0 _)) (by decide) (by decide)]
  congr 1
  have key : ∀ xs ys : List Int, PyData.eqvAll (xs.map .int) (ys.map .int) = decide (xs = ys) := by
    intro xs
    induction xs with
    | nil => intro ys; cases ys <;> simp [PyData.eqvAll]
    | cons x xs ih =>
      intro ys
      cases ys with
      | nil => simp [PyData.eqvAll]
      | cons y ys =>
        simp only [List.map_cons, PyData.eqvAll, ih]
        by_cases h : x = y
        · subst h; simp [PyData.eqv]
        · simp [PyData.eqv, h]
  show PyData.eqvAll _ _ = _
  exact key xs ys
/-- the idle signs -/
noncomputable def Net.idles (n : Net) : List (Nat × Nat) := (List.range n.roads.length).flatMap fun k => ((List.range (n.rd k).g.length).filter fun i => n.idl k i).map fun i => (k, i)
def idD (p : Nat × Nat) : PyData := .tuple [.int (p.1 : Nat), .int (p.2 : Nat)]
end LW
namespace LW
open PySem PySem.Spec PyProof.Rows L2 DN
/-! ### == of data without truth values -/
mutual
def pur : PyData → Bool
  | .none => true
  | .int _ => true
  | .list xs => purs xs
  | .tuple xs => purs xs
  | _ => false
def purs : List PyData → Bool
  | [] => true
  | x :: xs => pur x && purs xs
end
mutual
theorem eqv_pur : ∀ d e : PyData, pur d = true → pur e = true → (PyData.eqv d e = true ↔ d = e)
  | .none, e, _, h => by cases e <;> simp [PyData.eqv, pur] at *
  | .int i, e, _, h => by cases e <;> simp [PyData.eqv, pur] at *
  | .bool _, _, h, _ => by simp [pur] at h
  | .str _, _, h, _ => by simp [pur] at h
  | .dict _, _, h, _ => by simp [pur] at h
  | .list xs, e, h, g => by
    cases e with
    | list ys =>
      have := eqv_purs xs ys (by simpa [pur] using h) (by simpa [pur] using g)
      simpa [PyData.eqv] using this
    | _ => simp [PyData.eqv, pur] at *
  | .tuple xs, e, h, g => by
    cases e with
    | tuple ys =>
      have := eqv_purs xs ys (by simpa [pur] using h) (by simpa [pur] using g)
      simpa [PyData.eqv] using this
    | _ => simp [PyData.eqv, pur] at *
theorem eqv_purs : ∀ ds es : List PyData, purs ds = true → purs es = true → (PyData.eqvAll ds es = true ↔ ds = es)
  | [], [], _, _ => by simp [PyData.eqvAll]
  | [], _ :: _, _, _ => by simp [PyData.eqvAll]
  | _ :: _, [], _, _ => by simp [PyData.eqvAll]
  | d :: ds, e :: es, h, g => by
    have h' := Bool.and_eq_true_iff.mp (show (pur d && purs ds) = true by simpa [purs] using h)
    have g' := Bool.and_eq_true_iff.mp (show (pur e && purs es) = true by simpa [purs] using g)
    have a := eqv_pur d e h'.1 g'.1
    have b := eqv_purs ds es h'.2 g'.2
    simp [PyData.eqvAll, a, b]
end
theorem purs_map {α : Type} {f : α → PyData} {xs : List α} (h : ∀ x ∈ xs, pur (f x) = true) : purs (xs.map f) = true := by
  induction xs with
  | nil => rfl
  | cons x xs ih =>
    show (pur (f x) && purs (xs.map f)) = true
    rw [h x List.mem_cons_self, ih fun y hy => h y (List.mem_cons_of_mem _ hy)]
    rfl
theorem eqD_pur {n m : Nat} {d e : PyData} {b : Bool} (hd : dOk n d = true) (he : dOk m e = true) (hn : n ≤ 64) (hm : m ≤ 64) (pd : pur d = true) (pe : pur e = true) (hb : b = true ↔ d = e) : eqD d e = .ok b := by
  rw [eqD_of hd he hn hm]
  congr 1
  rw [Bool.eq_iff_iff, eqv_pur d e pd pe, hb]
theorem pur_tI (g : List Int) : pur (tI g) = true := purs_map fun _ _ => rfl
theorem pur_wD (w : List Nat) : pur (wD w) = true := purs_map fun _ _ => rfl
theorem pur_net (n : Net) : pur n.d = true := by
  unfold Net.d
  simp only [pur, purs, Bool.true_and, Bool.and_true]
  refine purs_map fun r _ => ?_
  unfold Road.d
  simp only [pur, purs, Bool.true_and, Bool.and_true]
  exact purs_map fun _ _ => rfl
theorem dOk_net (n : Net) : dOk 4 n.d = true := by
  unfold Net.d
  refine dOk_tuple ?_
  simp only [dOks, dOk_int, Bool.true_and, Bool.and_true]
  refine dOk_tuple (dOks_map fun r _ => ?_)
  unfold Road.d
  refine dOk_tuple ?_
  simp only [dOks, dOk_int, Bool.true_and, Bool.and_true]
  exact dOk_tuple (dOks_map fun x _ => dOk_int 0 _)
theorem map_inj {α β : Type} {f : α → β} (hf : ∀ x y, f x = f y → x = y) : ∀ {xs ys : List α}, xs.map f = ys.map f → xs = ys
  | [], [], _ => rfl
  | [], _ :: _, h => by cases h
  | _ :: _, [], h => by cases h
  | x :: xs, y :: ys, h => by
    rw [List.map_cons, List.map_cons] at h
    injection h with h1 h2
    rw [hf x y h1, map_inj hf h2]
theorem tI_inj {g h : List Int} (e : tI g = tI h) : g = h := by
  unfold tI at e
  injection e with e
  exact map_inj (fun x y z => by injection z) e
theorem road_inj {r q : Road} (e : r.d = q.d) : r = q := by
  unfold Road.d at e
  injection e with e
  injection e with e1 e
  injection e with e2 e
  injection e with e3 e
  injection e with e4 e
  injection e1 with e1
  injection e2 with e2
  injection e3 with e3
  cases r; cases q
  simp only at *
  subst e1 e2 e3
  rw [tI_inj e4]
theorem net_inj {n m : Net} (e : n.d = m.d) : n = m := by
  unfold Net.d at e
  injection e with e
  injection e with e1 e
  injection e with e2 e
  injection e with e3 e
  injection e with e4 e
  injection e1 with e1
  injection e2 with e2
  injection e3 with e3
  injection e4 with e4
  cases n; cases m
  simp only at *
  subst e1 e2 e3
  rw [map_inj (fun x y z => road_inj z) e4]
theorem eqD_net (n m : Net) {b : Bool} (hb : b = true ↔ n = m) : eqD n.d m.d = .ok b :=
  eqD_pur (dOk_net n) (dOk_net m) (by decide) (by decide) (pur_net n) (pur_net m) (by rw [hb]; exact ⟨fun e => by rw [e], net_inj⟩)
theorem wD_inj {v w : List Nat} (e : wD v = wD w) : v = w := by
  unfold wD nI at e
  injection e with e
  exact map_inj (fun x y z => by injection z with z; omega) e
/-! ### a search that tells a way -/
section
variable {α κ X : Type} [DecidableEq κ] {key : α → κ} {ext : α → List α} {L0 : List α}
theorem bfsW {G : α → Prop} (hx : ∀ x y, G x → G y → key x = key y → (ext x).map key = (ext y).map key) (hG : ∀ t, ∀ x ∈ alv (ext := ext) L0 t, G x) (enc encW : α → PyData) (U : List κ) (hU : ∀ t, ∀ x ∈ alv (ext := ext) L0 t, key x ∈ U) (hB : U.length ≤ 1600) (hx8 : ∀ x, (ext x).length ≤ 8)
    (hit : α → Bool) (hk : ∀ x y, key x = key y → hit x = hit y) (mk : List α → List κ → Option R → X → Ev)
    {fc : Ev → Rs Bool} {s1 s3 : Ev → RO} {fi : Ev → Rs (List PyData)} {ft : PyData → Ev → Rs Ev} {gb : Ev → RO}
    (hfc : ∀ L D o x, fc (mk L D o x) = .ok (!L.isEmpty)) (h1 : ∀ L D o x, s1 (mk L D o x) = .nx (mk L D (some (.own [])) x)) (hfi : ∀ L D o x, fi (mk L D o x) = .ok (L.map enc))
    (h3 : ∀ L D later x, s3 (mk L D (some (.own (later.map enc))) x) = .nx (mk later D (some (.val (.list (later.map enc)))) x))
    (hb : ∀ L D later x t p, p ∈ alv (ext := ext) L0 t → t ≤ 1600 → D.length ≤ 1600 → later.length ≤ 12800 →
      (hit p = true → NR (bdy ft gb (enc p) (mk L D (some (.own (later.map enc))) x)) (fun _ => False) (fun r => r = .val (encW p))) ∧
      (hit p = false → key p ∈ D → NR (bdy ft gb (enc p) (mk L D (some (.own (later.map enc))) x)) (fun ρ => ∃ x', ρ = mk L D (some (.own (later.map enc))) x') (fun _ => False)) ∧
      (hit p = false → key p ∉ D → NR (bdy ft gb (enc p) (mk L D (some (.own (later.map enc))) x)) (fun ρ => ∃ x', ρ = mk L (D ++ [key p]) (some (.own ((later ++ ext p).map enc))) x') (fun _ => False)))
    (o0 : Option R) (x0 : X) :
    NR (gWhile fc (gSeq s1 (gSeq (gFor fi ft gb) s3)) (mk L0 [] o0 x0)) (fun _ => ∀ t, ∀ x ∈ alv (ext := ext) L0 t, hit x = false)
      (fun r => ∃ t w, t ≤ 1600 ∧ (∀ u, u < t → ∀ x ∈ alv (ext := ext) L0 u, hit x = false) ∧ (alv (ext := ext) L0 t).find? hit = some w ∧ r = .val (encW w)) := by
  let pl : Nat → List α := fun t => (prn (key := key) (ext := ext) L0 t).1
  let sn : Nat → List κ := fun t => (prn (key := key) (ext := ext) L0 t).2
  have plv : ∀ t x, x ∈ pl t → x ∈ alv (ext := ext) L0 t := fun t x h => prn_sub t x h
  have snU : ∀ t k, k ∈ sn t → k ∈ U := fun t k h => by
    obtain ⟨u, _, hu⟩ := ((prn_ok hx hG t).2 k).mp h
    obtain ⟨y, hy, rfl⟩ := List.mem_map.mp hu
    exact hU u y hy
  have few : ∀ D : List κ, D.Nodup → (∀ q ∈ D, q ∈ U) → D.length ≤ 1600 := fun D hn hq => Nat.le_trans (List.Nodup.length_le_of_subset hn fun q h => hq q h) hB
  have main := gWhile_RI (fc := fc) (gb := gSeq s1 (gSeq (gFor fi ft gb) s3)) (Q := fun r => ∃ t w, t ≤ 1600 ∧ (∀ u, u < t → ∀ x ∈ alv (ext := ext) L0 u, hit x = false) ∧ (alv (ext := ext) L0 t).find? hit = some w ∧ r = .val (encW w))
    (fun (t : Nat) ρ => (∀ u, u < t → ∀ x ∈ alv (ext := ext) L0 u, hit x = false) ∧ (pl t = [] ∨ t ≤ (sn t).length) ∧ ∃ o x, ρ = mk (pl t) (sn t) o x) (fun t => 2 * (1600 - (sn t).length) + if (pl t).isEmpty then 0 else 1) (ρ := mk L0 [] o0 x0) (b0 := 0)
    ⟨fun u hu => absurd hu (Nat.not_lt_zero _), .inr (Nat.zero_le _), o0, x0, rfl⟩ (by show 2 * (1600 - 0) + _ < _; split <;> omega) (fun t ρ hI => by
      obtain ⟨hno, htl, o, x, rfl⟩ := hI
      refine ⟨_, hfc _ _ _ _, fun hne => ?_⟩
      have hne : (pl t).isEmpty = false := by simpa using hne
      have hpne : pl t ≠ [] := fun z => by rw [z] at hne; cases hne
      have htl := htl.resolve_left hpne
      have hsn0 := few (sn t) (prn_nodup t) (snU t)
      have hfind : (pl t).find? hit = (alv (ext := ext) L0 t).find? hit := prn_find hx hG hk hno
      show NR ((s1 _).seq _) _ _
      rw [h1, seq_nx]
      show NR ((gFor fi ft gb _).seq _) _ _
      have hfr : ∀ ys : List α, (∀ y ∈ ys, y ∈ pl t) → (sn t ++ (frs key (sn t) ys).map key).Nodup ∧ ∀ q ∈ sn t ++ (frs key (sn t) ys).map key, q ∈ U := fun ys hy => by
        refine ⟨frs_nodup key ys (sn t) (prn_nodup t), fun q hq => ?_⟩
        rcases List.mem_append.mp hq with z | z
        · exact snU t q z
        · obtain ⟨y, hy', rfl⟩ := List.mem_map.mp z
          exact hU t y (plv t y (hy y (frs_sub key _ _ _ hy')))
      refine NR.seq (P := fun ρ => (∀ q ∈ pl t, hit q = false) ∧ ∃ x', ρ = mk (pl t) (sn t ++ (frs key (sn t) (pl t)).map key) (some (.own (((frs key (sn t) (pl t)).flatMap ext).map enc))) x') ?_ ?_
      · refine gFor_listR (enc := enc) (xs := pl t) (fun ys ρ => (∀ q ∈ ys, hit q = false) ∧ ∃ x', ρ = mk (pl t) (sn t ++ (frs key (sn t) ys).map key) (some (.own (((frs key (sn t) ys).flatMap ext).map enc))) x') (hfi _ _ _ _)
          ⟨fun q hq => (by cases hq), x, by simp [frs]⟩ (fun ys p zs ρ hxs hI => ?_)
        obtain ⟨hnh, x', rfl⟩ := hI
        have hyp : ∀ y ∈ ys, y ∈ pl t := fun y hy => by
          show y ∈ pl t
          rw [hxs]; simp [hy]
        have hp : p ∈ pl t := by
          show p ∈ pl t
          rw [hxs]; simp
        have hD := hfr ys hyp
        have hDl := few _ hD.1 hD.2
        have hfl : ((frs key (sn t) ys).flatMap ext).length ≤ (frs key (sn t) ys).length * 8 := flat_len fun v _ => hx8 v
        have hfl2 : (frs key (sn t) ys).length ≤ 1600 := by
          have : (sn t ++ (frs key (sn t) ys).map key).length = (sn t).length + (frs key (sn t) ys).length := by simp
          omega
        have hbb := hb (pl t) (sn t ++ (frs key (sn t) ys).map key) ((frs key (sn t) ys).flatMap ext) x' t p (plv t p hp) (by omega) hDl (by omega)
        cases hh : hit p with
        | true =>
          refine (hbb.1 hh).imp (fun ρ z => z.elim) (fun r q => ⟨t, p, by omega, hno, ?_, q⟩)
          rw [← hfind, hxs, List.find?_append, List.find?_eq_none.mpr (fun y hy => by rw [hnh y hy]; decide)]
          simp [hh]
        | false =>
          have hyz : ∀ q ∈ ys ++ [p], hit q = false := fun q hq => by
            rcases List.mem_append.mp hq with z | z
            · exact hnh q z
            · rw [List.mem_singleton.mp z]; exact hh
          by_cases hin : key p ∈ sn t ++ (frs key (sn t) ys).map key
          · rw [frs_old key hin]
            exact (hbb.2.1 hh hin).imp (fun ρ q => ⟨hyz, q⟩) (fun _ z => z.elim)
          · rw [frs_new key hin]
            refine (hbb.2.2 hh hin).imp (fun ρ q => ?_) (fun _ z => z.elim)
            obtain ⟨x'', rfl⟩ := q
            exact ⟨hyz, x'', by simp⟩
      · rintro _ ⟨hnh, x', rfl⟩
        rw [h3]
        have hsn : sn (t + 1) = sn t ++ (frs key (sn t) (pl t)).map key := rfl
        have hpl : pl (t + 1) = (frs key (sn t) (pl t)).flatMap ext := rfl
        have hD := hfr (pl t) fun y hy => hy
        have hDl := few _ hD.1 hD.2
        have hl : (sn (t + 1)).length = (sn t).length + (frs key (sn t) (pl t)).length := by rw [hsn]; simp
        rw [← hsn] at hDl
        have hfr2 : pl (t + 1) = [] ∨ 0 < (frs key (sn t) (pl t)).length := by
          by_cases z : frs key (sn t) (pl t) = []
          · exact .inl (by rw [hpl, z]; rfl)
          · exact .inr (List.length_pos_iff.mpr z)
        refine (NR_nx _ _ _).mpr ⟨t + 1, ⟨fun u hu v hv => ?_, ?_, _, x', rfl⟩, ?_⟩
        · by_cases e : u = t
          · subst e
            have : (alv (ext := ext) L0 u).find? hit = none := by
              rw [← hfind, List.find?_eq_none]
              intro y hy
              rw [hnh y hy]
              decide
            have := List.find?_eq_none.mp this v hv
            simpa using this
          · exact hno u (by omega) v hv
        · rcases hfr2 with z | z
          · exact .inl z
          · exact .inr (by omega)
        · rw [hne]
          rcases hfr2 with z | z
          · rw [z, hl]
            simp
            omega
          · have e2 : (if (pl (t + 1)).isEmpty = true then 0 else 1) ≤ 1 := by split <;> omega
            simp only [Bool.false_eq_true, if_false]
            omega)
  refine main.imp (fun ρ q => ?_) (fun r q => q)
  obtain ⟨⟨t, hno, _, o, x, rfl⟩, ht⟩ := q
  rw [hfc] at ht
  have hpl : pl t = [] := by
    cases e : pl t with
    | nil => rfl
    | cons a b => rw [e] at ht; cases ht
  intro u v hv
  exact prn_end hx hG hk hno hpl (u + 1) u (by omega) v hv
end
/-! ### shapes -/
def Net.shp (n : Net) : List (Int × Int × Int) := n.roads.map fun r => (r.s, r.e, ((r.g.length : Nat) : Int))
def shD (t : Int × Int × Int) : PyData := .tuple [.int t.1, .int t.2.1, .int t.2.2]
theorem shp_len (n : Net) : n.shp.length = n.roads.length := by simp [Net.shp]
theorem eqD_shp (n m : Net) : eqD (.list (n.shp.map shD)) (.list (m.shp.map shD)) = .ok (decide (n.shp = m.shp)) := by
  have h1 : ∀ n : Net, dOk 2 (.list (n.shp.map shD)) = true := fun n => dOk_list (dOks_map fun x _ => dOk_tuple (by simp [dOks]))
  have h2 : ∀ n : Net, pur (.list (n.shp.map shD)) = true := fun n => purs_map fun _ _ => rfl
  refine eqD_pur (h1 n) (h1 m) (by decide) (by decide) (h2 n) (h2 m) ?_
  rw [decide_eq_true_iff]
  refine ⟨fun e => by rw [e], fun e => ?_⟩
  injection e with e
  refine map_inj (fun x y z => ?_) e
  unfold shD at z
  injection z with z
  injection z with z1 z
  injection z with z2 z
  injection z with z3 z
  injection z1 with z1
  injection z2 with z2
  injection z3 with z3
  exact Prod.ext z1 (Prod.ext z2 z3)
/-- nets of the same shape -/
structure Net.Twn (n m : Net) : Prop where
  len : m.roads.length = n.roads.length
  s : ∀ j, (m.rd j).s = (n.rd j).s
  e : ∀ j, (m.rd j).e = (n.rd j).e
  g : ∀ j, (m.rd j).g.length = (n.rd j).g.length
theorem twn_of {n m : Net} (h : n.shp = m.shp) : n.Twn m := by
  have hl : m.roads.length = n.roads.length := by rw [← shp_len, ← shp_len, h]
  have key : ∀ j, ((m.rd j).s, (m.rd j).e, (((m.rd j).g.length : Nat) : Int)) = ((n.rd j).s, (n.rd j).e, (((n.rd j).g.length : Nat) : Int)) := fun j => by
    by_cases hj : j < n.roads.length
    · have hj' : j < m.roads.length := by rw [hl]; exact hj
      have e1 : n.shp[j]? = some ((n.rd j).s, (n.rd j).e, (((n.rd j).g.length : Nat) : Int)) := by simp [Net.shp, Net.rd, hj]
      have e2 : m.shp[j]? = some ((m.rd j).s, (m.rd j).e, (((m.rd j).g.length : Nat) : Int)) := by simp [Net.shp, Net.rd, hj']
      rw [h, e2] at e1
      injection e1
    · have hj' : ¬ j < m.roads.length := by rw [hl]; exact hj
      simp [Net.rd, hj, hj']
  refine ⟨hl, fun j => congrArg Prod.fst (key j), fun j => congrArg (fun p => p.2.1) (key j), fun j => ?_⟩
  have := congrArg (fun p => p.2.2) (key j)
  simp only at this
  omega
theorem shp_of {n m : Net} (h : n.Twn m) : n.shp = m.shp := by
  unfold Net.shp
  rw [roads_range n, roads_range m, List.map_map, List.map_map, h.len]
  apply List.map_congr_left
  intro j _
  show ((n.rd j).s, (n.rd j).e, _) = ((m.rd j).s, (m.rd j).e, _)
  rw [h.s, h.e, h.g]
theorem Net.Twn.symm {n m : Net} (h : n.Twn m) : m.Twn n := ⟨h.len.symm, fun j => (h.s j).symm, fun j => (h.e j).symm, fun j => (h.g j).symm⟩
theorem twn_aft {n m : Net} (h : n.Twn m) (k : Nat) : m.aft k = n.aft k := by
  unfold Net.aft
  rw [h.len]
  apply List.filter_congr
  intro j _
  rw [h.s, h.e]
theorem twn_lev {n m : Net} (h : n.Twn m) : ∀ t, m.lev t = n.lev t
  | 0 => by simp [Net.lev, h.len]
  | t + 1 => by
    show (m.lev t).flatMap m.ext = (n.lev t).flatMap n.ext
    rw [twn_lev h t]
    congr 1
    funext w
    unfold Net.ext
    rw [twn_aft h]
theorem twn_way {n m : Net} (h : n.Twn m) {r : List Nat} (hr : n.Way r) : m.Way r := ⟨hr.ne, fun k hk => by rw [h.len]; exact hr.lt k hk, fun i a b ha hb => by rw [h.e, h.s]; exact hr.link i a b ha hb⟩
/-! ### ways on two nets -/
def Net.k2 (n m : Net) (w : List Nat) : Tr := (w.getLastD 0, n.onto w, m.onto w)
theorem k2_app (n m : Net) {w : List Nat} (h : w ≠ []) (k : Nat) : n.k2 m (w ++ [k]) = (k, n.nxt (n.key w), m.nxt (m.key w)) := by
  unfold Net.k2
  rw [last_app, onto_app n h, onto_app m h]
theorem ext_k2 {n m : Net} {v w : List Nat} (hv : v ≠ []) (hw : w ≠ []) (h : n.k2 m v = n.k2 m w) : (n.ext v).map (n.k2 m) = (n.ext w).map (n.k2 m) := by
  have hl : v.getLastD 0 = w.getLastD 0 := congrArg Prod.fst h
  have h1 : n.key v = n.key w := Prod.ext hl (congrArg (fun p => p.2.1) h)
  have h2 : m.key v = m.key w := Prod.ext hl (congrArg (fun p => p.2.2) h)
  unfold Net.ext
  rw [List.map_map, List.map_map, hl]
  apply List.map_congr_left
  intro k _
  show n.k2 m (v ++ [k]) = n.k2 m (w ++ [k])
  rw [k2_app n m hv, k2_app n m hw, h1, h2]
theorem k2_R2 {n m : Net} : ∀ {t : Nat} {w : List Nat}, w ∈ n.lev t → n.R2 m (n.k2 m w)
  | 0, w, h => by
    obtain ⟨k, hk, rfl⟩ := List.mem_map.mp h
    exact lvd_start (List.mem_map.mpr ⟨k, hk, rfl⟩)
  | t + 1, w, h => by
    obtain ⟨v, hv, h⟩ := List.mem_flatMap.mp h
    obtain ⟨k, hk, rfl⟩ := List.mem_map.mp h
    rw [k2_app n m (lev_way hv).1.ne]
    exact lvd_step (k2_R2 hv) (List.mem_map.mpr ⟨k, hk, rfl⟩)
/-- every pair of states has a way to it -/
theorem R2_lev {n m : Net} {p : Tr} (h : n.R2 m p) : ∃ t, ∃ w ∈ n.lev t, n.k2 m w = p := by
  refine lvd_ind (P := fun p => ∃ t, ∃ w ∈ n.lev t, n.k2 m w = p) (fun x hx => ?_) (fun x _ hx y hy => ?_) h
  · obtain ⟨k, hk, rfl⟩ := List.mem_map.mp hx
    exact ⟨0, [k], List.mem_map.mpr ⟨k, hk, rfl⟩, rfl⟩
  · obtain ⟨t, w, hw, e⟩ := hx
    obtain ⟨j, hj, rfl⟩ := List.mem_map.mp hy
    have hne := (lev_way hw).1.ne
    subst e
    exact ⟨t + 1, w ++ [j], List.mem_flatMap.mpr ⟨w, hw, List.mem_map.mpr ⟨j, hj, rfl⟩⟩, k2_app n m hne j⟩
/-- the limits on the last road differ -/
def Net.hit2 (n m : Net) (w : List Nat) : Bool := !decide (n.pcs (w.getLastD 0) (n.onto w) = m.pcs (w.getLastD 0) (m.onto w))
theorem hit2_key {n m : Net} {v w : List Nat} (h : n.k2 m v = n.k2 m w) : n.hit2 m v = n.hit2 m w := by
  have h0 : v.getLastD 0 = w.getLastD 0 := congrArg Prod.fst h
  have h1 : n.onto v = n.onto w := congrArg (fun p => p.2.1) h
  have h2 : m.onto v = m.onto w := congrArg (fun p => p.2.2) h
  unfold Net.hit2
  rw [h0, h1, h2]
theorem hit2_symm (n m : Net) (w : List Nat) : m.hit2 n w = n.hit2 m w := by
  unfold Net.hit2
  congr 1
  exact decide_eq_decide.mpr ⟨Eq.symm, Eq.symm⟩
def Net.ws2 (n m : Net) (w : List Nat) : PyData := .tuple [wD w, .int (n.onto w), .int (m.onto w)]
def ownW : Option (List Nat) → PyData
  | some w => wD w
  | none => .none
theorem eq_rowsD (xs ys : List (List Int)) : eqD (.list (xs.map iL)) (.list (ys.map iL)) = .ok (decide (xs = ys)) := by
  have h1 : ∀ xs : List (List Int), dOk 2 (.list (xs.map iL)) = true := fun xs => dOk_list (dOks_map fun x _ => dOk_list (dOks_map fun x _ => dOk_int 0 _))
  have h2 : ∀ xs : List (List Int), pur (.list (xs.map iL)) = true := fun xs => purs_map fun _ _ => purs_map fun _ _ => rfl
  refine eqD_pur (h1 xs) (h1 ys) (by decide) (by decide) (h2 xs) (h2 ys) ?_
  rw [decide_eq_true_iff]
  refine ⟨fun e => by rw [e], fun e => ?_⟩
  injection e with e
  refine map_inj (fun x y z => ?_) e
  unfold iL at z
  injection z with z
  exact map_inj (fun a b q => by injection q) z
theorem eq_ownW (o : Option (List Nat)) : eqD (ownW o) (ownW o) = .ok true := by
  cases o with
  | none => exact eqD_same (n := 0) rfl (by decide)
  | some w => exact eqD_same (n := 1) (dOk_tuple (dOks_nI 0 w)) (by decide)
theorem is_ownW (o : Option (List Nat)) : opIs (ownW o) .none = .ok (.val (.bool o.isNone)) ∧ opIsNot (ownW o) .none = .ok (.val (.bool o.isSome)) := by
  cases o <;> exact ⟨rfl, rfl⟩
end LW
namespace LW
open PySem PySem.Spec PyProof.Rows L2 DN
/-! ### drawn numbers -/
theorem mulR {i j : Int} (h : -(2 : Int) ^ 64 < j ∧ j < 2 ^ 64) : CMul i j := .inr h
theorem mulL {i j : Int} (h : -(2 : Int) ^ 64 < i ∧ i < 2 ^ 64) : CMul i j := .inl h
theorem divC (i : Int) {c : Int} (h : 0 < c ∧ c < 1073741824) : CDivW i c := by
  unfold CDivW
  refine ⟨by omega, ?_⟩
  have h1 : c.natAbs < 2 ^ 30 := by omega
  have := Nat.log2_lt (n := c.natAbs) (k := 30) (by omega)
  have := this.mpr h1
  omega
theorem div18 (i : Int) : CDivW i 1000000000000000000 := by unfold CDivW; decide
theorem pow18' : CPow 10 18 := by unfold CPow; decide
theorem drawn_den (ns : List Int) (hl : ns.length ≤ 63) (k many : Int) (hk : 0 ≤ k) (hk2 : k < 100000) (hm : 0 < many) : ∃ m, d_l_drawn [.scr ns, .val (.int k), .val (.int many)] = .ok (.val (.int m)) ∧ 0 ≤ m ∧ m < many := by
  have fin : ∀ (cell : Int) (o4 o5 : Option R), ∃ m, retOf ((gSeq (gAsgF 3 (fOp opMod (fOp opAdd (fOp opMulI (fOp opMod (fVar 3) (fC (.int 2147483563))) (fC (.int 69069))) (fOp opMulI (fC (.int 104723)) (fOp opAdd (fVar 1) (fC (.int 1))))) (fC (.int 2147483563))))
  (gSeq (gAsgF 3 (fOp opMod (fOp opAdd (fOp opMulI (fVar 3) (fVar 3)) (fOp opDiv (fVar 3) (fC (.int 3)))) (fC (.int 2147483399))))
  (gRet (fOp opMod (fOp opDiv (fOp opMod (fOp opAdd (fOp opMulI (fVar 3) (fVar 3)) (fOp opDiv (fVar 3) (fC (.int 7)))) (fC (.int 2147483647))) (fC (.int 11))) (fVar 2))))) [some (.scr ns), some (.val (.int k)), some (.val (.int many)), some (.val (.int cell)), o4, o5]) = .ok (.val (.int m)) ∧ 0 ≤ m ∧ m < many := by
    intro cell o4 o5
    have a1 := Int.emod_nonneg (cell % 2147483563 * 69069 + 104723 * (k + 1)) (b := 2147483563) (by decide)
    have a2 := Int.emod_lt_of_pos (cell % 2147483563 * 69069 + 104723 * (k + 1)) (b := 2147483563) (by decide)
    have m1 : CMul (cell % 2147483563) 69069 := mulR (by decide)
    have m2 : CMul 104723 (k + 1) := mulL (by decide)
    have d3 := fun i => divC i (c := 3) (by decide)
    have d7 := fun i => divC i (c := 7) (by decide)
    have d11 := fun i => divC i (c := 11) (by decide)
    generalize hc1 : (cell % 2147483563 * 69069 + 104723 * (k + 1)) % 2147483563 = c1 at a1 a2
    have m3 : CMul c1 c1 := mulL (by omega)
    have b1 := Int.emod_nonneg (c1 * c1 + c1 / 3) (b := 2147483399) (by decide)
    have b2 := Int.emod_lt_of_pos (c1 * c1 + c1 / 3) (b := 2147483399) (by decide)
    generalize hc2 : (c1 * c1 + c1 / 3) % 2147483399 = c2 at b1 b2
    have m4 : CMul c2 c2 := mulL (by omega)
    have hmod : 0 < many := hm
    refine ⟨(c2 * c2 + c2 / 7) % 2147483647 / 11 % many, ?_, Int.emod_nonneg _ (by omega), Int.emod_lt_of_pos _ hm⟩
    simp only [gSeq]
    simp [oIc, m1, m2, hc1, m3, d3, hc2, m4, d7, d11, hmod]
  have loop : ∀ (cell rest turn : Int), turn < 100000 → ∃ rest' turn', gWhile l_drawn_t1 l_drawn_b1
      [some (.scr ns), some (.val (.int k)), some (.val (.int many)), some (.val (.int cell)), some (.val (.int turn)), some (.val (.int rest))] =
      .nx [some (.scr ns), some (.val (.int k)), some (.val (.int many)), some (.val (.int cell)), some (.val (.int turn')), some (.val (.int rest'))] := by
    intro cell rest turn ha
    obtain ⟨ρ', e, ⟨r', a', rfl⟩, _⟩ := gWhile_rel (fc := l_drawn_t1) (gb := l_drawn_b1)
      (fun ρ => ∃ r a : Int, ρ = [some (.scr ns), some (.val (.int k)), some (.val (.int many)), some (.val (.int cell)), some (.val (.int a)), some (.val (.int r))])
      (natAt 4) (ρ := [some (.scr ns), some (.val (.int k)), some (.val (.int many)), some (.val (.int cell)), some (.val (.int turn)), some (.val (.int rest))])
      ⟨rest, turn, rfl⟩ (by simp [natAt]; omega) (fun ρ hI => by
        obtain ⟨r, a, rfl⟩ := hI
        have dm := divC r (c := 1000000) (by decide)
        by_cases h1 : 0 < r
        · by_cases h2 : 0 < a
          · exact ⟨true, by simp [l_drawn_t1, h1, h2], fun _ => ⟨[some (.scr ns), some (.val (.int k)), some (.val (.int many)), some (.val (.int cell)), some (.val (.int (a - 1))), some (.val (.int (r / 1000000)))], by simp [l_drawn_b1, oIc, dm], ⟨_, _, rfl⟩, by simp [natAt]; omega⟩⟩
          · exact ⟨false, by simp [l_drawn_t1, h1, h2], fun z => by cases z⟩
        · exact ⟨false, by simp [l_drawn_t1, h1], fun z => by cases z⟩)
    exact ⟨r', a', e⟩
  unfold d_l_drawn denB g_l_drawn
  have m7 : CMul 7 k := mulL (by decide)
  cases ns with
  | nil =>
    obtain ⟨m, e, h1, h2⟩ := fin (7 * k) none none
    refine ⟨m, ?_, h1, h2⟩
    simp only [gSeq, startE] at e ⊢
    simp [oIc, m7]
    simpa using e
  | cons c cs =>
    have hlenN : 0 < (c :: cs).length := by simp
    have hlen : 0 < ((c :: cs).length : Int) := by omega
    have hk3 := Int.emod_nonneg k (b := ((c :: cs).length : Int)) (by omega)
    have hk4 := Int.emod_lt_of_pos k hlen
    obtain ⟨x, hx⟩ : ∃ x, (c :: cs)[(k % ((c :: cs).length : Int)).toNat]? = some x := by
      rw [List.getElem?_eq_getElem (by omega)]
      exact ⟨_, rfl⟩
    have hq : k / ((c :: cs).length : Int) < 100000 := Int.lt_of_le_of_lt (Int.ediv_le_self _ hk) hk2
    have hq0 : 0 ≤ k / ((c :: cs).length : Int) := Int.ediv_nonneg hk (by omega)
    have hd : CDivW k ((c :: cs).length : Int) := divC k (by omega)
    have hne : (c :: cs).isEmpty = false := rfl
    have hat : atI (c :: cs) (k % ((c :: cs).length : Int)) = some x := by rw [atI_pos _ hk3]; exact hx
    generalize (c :: cs) = ns at *
    have m65 : CMul 6553 (k / (ns.length : Int)) := mulL (by decide)
    have p18 := pow18'
    by_cases hbig : (1000000000000000000 : Int) ≤ x ∧ k / (ns.length : Int) < 60
    · obtain ⟨r', a', e'⟩ := loop x (x / 1000000000000000000) (k / (ns.length : Int)) hq
      by_cases hr : 0 < r'
      · refine ⟨r' % 1000000 % many, ?_, Int.emod_nonneg _ (by omega), Int.emod_lt_of_pos _ hm⟩
        have hmod : 0 < many := hm
        simp only [gSeq, startE]
        simp [oIc, m7, hne, hat, hlenN, hd, p18, hbig.1, hbig.2, div18, e', hr, hmod]
      · obtain ⟨m, e, h1, h2⟩ := fin (x + 6553 * (k / (ns.length : Int))) (some (.val (.int a'))) (some (.val (.int r')))
        refine ⟨m, ?_, h1, h2⟩
        simp only [gSeq, startE] at e ⊢
        simp [oIc, m7, hne, hat, hlenN, hd, p18, hbig.1, hbig.2, div18, e', hr, m65]
        simpa using e
    · obtain ⟨m, e, h1, h2⟩ := fin (x + 6553 * (k / (ns.length : Int))) (some (.val (.int (k / (ns.length : Int))))) none
      refine ⟨m, ?_, h1, h2⟩
      simp only [gSeq, startE] at e ⊢
      by_cases hb1 : (1000000000000000000 : Int) ≤ x
      · have hb2 : ¬ k / (ns.length : Int) < 60 := fun z => hbig ⟨hb1, z⟩
        simp [oIc, m7, hne, hat, hlenN, hd, p18, hb1, hb2, m65]
        simpa using e
      · simp [oIc, m7, hne, hat, hlenN, hd, p18, hb1, m65]
        simpa using e
def drawV (ns : List Int) (k many : Int) : Int := match d_l_drawn [.scr ns, .val (.int k), .val (.int many)] with
  | .ok (.val (.int m)) => m
  | _ => 0
theorem draw_eq (ns : List Int) (hl : ns.length ≤ 63) (k many : Int) (hk : 0 ≤ k) (hk2 : k < 100000) (hm : 0 < many) :
    d_l_drawn [.scr ns, .val (.int k), .val (.int many)] = .ok (.val (.int (drawV ns k many))) ∧ 0 ≤ drawV ns k many ∧ drawV ns k many < many := by
  obtain ⟨m, e, h1, h2⟩ := drawn_den ns hl k many hk hk2 hm
  have : drawV ns k many = m := by unfold drawV; rw [e]
  rw [this]
  exact ⟨e, h1, h2⟩
theorem draw_nat (ns : List Int) (hl : ns.length ≤ 63) {k : Int} {many : Nat} (hk : 0 ≤ k) (hk2 : k < 100000) (hm : 0 < many) :
    ∃ j : Nat, j < many ∧ d_l_drawn [.scr ns, .val (.int k), .val (.int (many : Nat))] = .ok (.val (.int (j : Nat))) := by
  have p := draw_eq ns hl k (many : Nat) hk hk2 (by omega)
  obtain ⟨j, hj⟩ := Int.eq_ofNat_of_zero_le p.2.1
  refine ⟨j, by omega, ?_⟩
  rw [p.1, hj]
theorem pick3 (xs : List Int) {j : Nat} (h : j < xs.length) : opIx (.list (xs.map .int)) (.int (j : Nat)) = .ok (.val (.int (xs.getD j 0))) := by
  rw [opIx_l, atI_nat', List.getElem?_map, List.getElem?_eq_getElem h]
  simp [h]
/-- a net as it is drawn -/
theorem net_den (ns : List Int) (hl : ns.length ≤ 63) {at_ : Int} {most : Nat} (h0 : 0 ≤ at_) (h1 : at_ < 80000) (hm : 1 ≤ most) (hm8 : most ≤ 8) : ∃ n : Net, n.Ok ∧ n.roads.length ≤ most ∧ (∀ r ∈ n.roads, r.s < 4 ∧ r.e < 4) ∧ d_l_net [.scr ns, .val (.int at_), .val (.int (most : Nat))] = .ok (.val n.d) := by
  obtain ⟨f9, hf9, ef⟩ := draw_nat ns hl (k := at_) (many := 9) (by omega) (by omega) (by decide)
  obtain ⟨s9, hs9, es⟩ := draw_nat ns hl (k := at_ + 1) (many := 5 + f9) (by omega) (by omega) (by omega)
  obtain ⟨k3, hk3, ek⟩ := draw_nat ns hl (k := at_ + 2) (many := 3) (by omega) (by omega) (by decide)
  obtain ⟨r9, hr9, er⟩ := draw_nat ns hl (k := at_ + 3) (many := most) (by omega) (by omega) (by omega)
  have e5 : (((5 + f9 : Nat)) : Int) = 5 + (f9 : Nat) := by omega
  rw [e5] at es
  simp only [show (((9 : Nat)) : Int) = 9 from rfl, show (((3 : Nat)) : Int) = 3 from rfl] at ef ek
  have hkp : ∃ kp : Int, (kp = 0 ∨ kp = 1) ∧ opIx (.list [.int 1, .int 1, .int 0]) (.int (k3 : Nat)) = .ok (.val (.int kp)) := by
    have := pick3 [1, 1, 0] (j := k3) (by simpa using hk3)
    have h3 : k3 = 0 ∨ k3 = 1 ∨ k3 = 2 := by omega
    rcases h3 with rfl | rfl | rfl
    · exact ⟨1, .inr rfl, this⟩
    · exact ⟨1, .inr rfl, this⟩
    · exact ⟨0, .inl rfl, this⟩
  obtain ⟨kp, hkp, ekp⟩ := hkp
  have hrg : rg1 [.int (1 + (r9 : Nat))] = .ok ((List.range (1 + r9)).map fun i => PyData.int (i : Nat)) := by
    have := rg1_nat (show 1 + r9 ≤ 1000000 by omega)
    rw [show (((1 + r9 : Nat)) : Int) = 1 + (r9 : Nat) by omega] at this
    exact this
  have body : ∀ (j : Nat), j < 1 + r9 → ∀ (rs : List Road), (∀ r ∈ rs, r.Ok ∧ r.s < 4 ∧ r.e < 4) → rs.length = j → ∀ o8 o9 o10 o11 o12,
      Nx (l_net_b1 [some (.scr ns), some (.val (.int at_)), some (.val (.int (most : Nat))), some (.val (.int (5 + (f9 : Nat)))), some (.val (.int (1 + (s9 : Nat)))), some (.val (.int kp)), some (.own (rs.map Road.d)), some (.val (.int (j : Nat))), o8, o9, o10, o11, o12, none])
        fun ρ => ∃ r o8 o9 o10 o11 o12, (r.Ok ∧ r.s < 4 ∧ r.e < 4) ∧ ρ = [some (.scr ns), some (.val (.int at_)), some (.val (.int (most : Nat))), some (.val (.int (5 + (f9 : Nat)))), some (.val (.int (1 + (s9 : Nat)))), some (.val (.int kp)), some (.own ((rs ++ [r]).map Road.d)), some (.val (.int (j : Nat))), o8, o9, o10, o11, o12, none] := by
    intro j hj rs hrs hlen o8 o9 o10 o11 o12
    have hmu : CMul 7 (j : Nat) := mulL (by decide)
    generalize hspot : at_ + 4 + 7 * (j : Int) = spot
    have hsp : 0 ≤ spot ∧ spot < 90000 := by omega
    unfold l_net_b1
    simp only [gSeq]
    refine Nx.seq (P := fun ρ => ρ = [some (.scr ns), some (.val (.int at_)), some (.val (.int (most : Nat))), some (.val (.int (5 + (f9 : Nat)))), some (.val (.int (1 + (s9 : Nat)))), some (.val (.int kp)), some (.own (rs.map Road.d)), some (.val (.int (j : Nat))), some (.val (.int spot)), o9, o10, o11, o12, none]) (by simp [oIc, hmu, hspot]) ?_
    rintro _ rfl
    let rowI : Nat → List Int := fun q => [0, 0, 5 + (f9 : Nat), 1 + (s9 : Nat), 7, drawV ns (spot + 3 + (q : Nat)) 14]
    have rowB : ∀ q x, q < 3 → x ∈ rowI q → 0 ≤ x ∧ x ≤ 13 := fun q x hq hx => by
      have := draw_eq ns hl (spot + 3 + (q : Nat)) 14 (by omega) (by omega) (by decide)
      simp [rowI] at hx
      omega
    have c1 : l_net_c1 [some (.scr ns), some (.val (.int at_)), some (.val (.int (most : Nat))), some (.val (.int (5 + (f9 : Nat)))), some (.val (.int (1 + (s9 : Nat)))), some (.val (.int kp)), some (.own (rs.map Road.d)), some (.val (.int (j : Nat))), some (.val (.int spot)), o9, o10, o11, o12, none] = .ok (.own ((List.range 3).map fun q => .list ((rowI q).map .int))) := by
      refine fLc_of (ds := (List.range 3).map fun i => PyData.int (i : Nat)) (by simp [rngD_eq]) (lim_of (by simp)) ?_
      refine lcGo_map (fun i : Nat => PyData.int (i : Nat)) (fun q => [some (.scr ns), some (.val (.int at_)), some (.val (.int (most : Nat))), some (.val (.int (5 + (f9 : Nat)))), some (.val (.int (1 + (s9 : Nat)))), some (.val (.int kp)), some (.own (rs.map Road.d)), some (.val (.int (j : Nat))), some (.val (.int spot)), o9, o10, o11, o12, some (.val (.int (q : Nat)))]) _ _ (fun i _ => by simp) (fun q hq => ?_)
      have hq : q < 3 := by simpa using hq
      have dq := (draw_eq ns hl (spot + 3 + (q : Nat)) 14 (by omega) (by omega) (by decide)).1
      simp [dq, rowI]
    refine Nx.seq (P := fun ρ => ρ = [some (.scr ns), some (.val (.int at_)), some (.val (.int (most : Nat))), some (.val (.int (5 + (f9 : Nat)))), some (.val (.int (1 + (s9 : Nat)))), some (.val (.int kp)), some (.own (rs.map Road.d)), some (.val (.int (j : Nat))), some (.val (.int spot)), some (.val (.list ((List.range 3).map fun q => .list ((rowI q).map .int)))), o10, o11, o12, none]) (by
      generalize ((List.range 3).map fun q => PyData.list ((rowI q).map .int)) = RW at *
      simp [c1]) ?_
    rintro _ rfl
    obtain ⟨m5, hm5, em⟩ := draw_nat ns hl (k := spot + 6) (many := 5) (by omega) (by omega) (by decide)
    simp only [show (((5 : Nat)) : Int) = 5 from rfl] at em
    have hmany : ∃ mn : Nat, mn ≤ 3 ∧ opIx (.list [.int 0, .int 1, .int 0, .int 2, .int 3]) (.int (m5 : Nat)) = .ok (.val (.int (mn : Nat))) := by
      have := pick3 [0, 1, 0, 2, 3] (j := m5) (by simpa using hm5)
      have h5 : m5 = 0 ∨ m5 = 1 ∨ m5 = 2 ∨ m5 = 3 ∨ m5 = 4 := by omega
      rcases h5 with rfl | rfl | rfl | rfl | rfl
      · exact ⟨0, by omega, this⟩
      · exact ⟨1, by omega, this⟩
      · exact ⟨0, by omega, this⟩
      · exact ⟨2, by omega, this⟩
      · exact ⟨3, by omega, this⟩
    obtain ⟨mn, hmn, emn⟩ := hmany
    refine Nx.seq (P := fun ρ => ρ = [some (.scr ns), some (.val (.int at_)), some (.val (.int (most : Nat))), some (.val (.int (5 + (f9 : Nat)))), some (.val (.int (1 + (s9 : Nat)))), some (.val (.int kp)), some (.own (rs.map Road.d)), some (.val (.int (j : Nat))), some (.val (.int spot)), some (.val (.list ((List.range 3).map fun q => .list ((rowI q).map .int)))), some (.val (.int (mn : Nat))), o11, o12, none]) (by
      generalize ((List.range 3).map fun q => PyData.list ((rowI q).map .int)) = RW at *
      simp [em, emn, -opIx_l]) ?_
    rintro _ rfl
    let sg : Nat → Int := fun q => (rowI q).getD (drawV ns (spot + 2 + (q : Nat)) 6).toNat 0
    have sgB : ∀ q, q < 3 → 0 ≤ sg q ∧ sg q ≤ 13 := fun q hq => by
      have d := draw_eq ns hl (spot + 2 + (q : Nat)) 6 (by omega) (by omega) (by decide)
      have hlt : (drawV ns (spot + 2 + (q : Nat)) 6).toNat < (rowI q).length := by simp [rowI]; omega
      refine rowB q _ hq ?_
      show (rowI q).getD _ 0 ∈ rowI q
      rw [List.getD_eq_getElem?_getD, List.getElem?_eq_getElem hlt]
      exact List.getElem_mem _
    have c2 : l_net_c2 [some (.scr ns), some (.val (.int at_)), some (.val (.int (most : Nat))), some (.val (.int (5 + (f9 : Nat)))), some (.val (.int (1 + (s9 : Nat)))), some (.val (.int kp)), some (.own (rs.map Road.d)), some (.val (.int (j : Nat))), some (.val (.int spot)), some (.val (.list ((List.range 3).map fun q => .list ((rowI q).map .int)))), some (.val (.int (mn : Nat))), o11, o12, none] = .ok (.own ((List.range mn).map fun q => .int (sg q))) := by
      refine fLc_of (ds := (List.range mn).map fun i => PyData.int (i : Nat)) (by simp [rg1_nat (show mn ≤ 1000000 by omega), -rg1_i]) (lim_of (by simp; omega)) ?_
      refine lcGo_map (fun i : Nat => PyData.int (i : Nat)) (fun q => [some (.scr ns), some (.val (.int at_)), some (.val (.int (most : Nat))), some (.val (.int (5 + (f9 : Nat)))), some (.val (.int (1 + (s9 : Nat)))), some (.val (.int kp)), some (.own (rs.map Road.d)), some (.val (.int (j : Nat))), some (.val (.int spot)), some (.val (.list ((List.range 3).map fun q => .list ((rowI q).map .int)))), some (.val (.int (mn : Nat))), o11, o12, some (.val (.int (q : Nat)))]) _ _ (fun i _ => by simp) (fun q hq => ?_)
      have hq : q < mn := by simpa using hq
      have d := draw_eq ns hl (spot + 2 + (q : Nat)) 6 (by omega) (by omega) (by decide)
      have i1 : opIx (.list ((List.range 3).map fun q => .list ((rowI q).map .int))) (.int (q : Nat)) = .ok (.val (.list ((rowI q).map .int))) := by
        rw [opIx_l, atI_nat', List.getElem?_map, List.getElem?_range (by omega)]
        rfl
      have i2 : opIx (.list ((rowI q).map .int)) (.int (drawV ns (spot + 2 + (q : Nat)) 6)) = .ok (.val (.int (sg q))) := by
        have hlt : (drawV ns (spot + 2 + (q : Nat)) 6).toNat < (rowI q).length := by simp [rowI]; omega
        have := pick3 (rowI q) hlt
        rw [show (((drawV ns (spot + 2 + (q : Nat)) 6).toNat : Nat) : Int) = drawV ns (spot + 2 + (q : Nat)) 6 by omega] at this
        exact this
      generalize ((List.range 3).map fun q => PyData.list ((rowI q).map .int)) = RW at *
      generalize (rowI q).map PyData.int = RQ at *
      simp [i1, d.1, i2, -opIx_l]
    have hsg : ((List.range mn).map fun q => PyData.int (sg q)) = ((List.range mn).map sg).map .int := by rw [List.map_map]; rfl
    rw [hsg] at c2
    refine Nx.seq (P := fun ρ => ∃ o9, ρ = [some (.scr ns), some (.val (.int at_)), some (.val (.int (most : Nat))), some (.val (.int (5 + (f9 : Nat)))), some (.val (.int (1 + (s9 : Nat)))), some (.val (.int kp)), some (.own (rs.map Road.d)), some (.val (.int (j : Nat))), some (.val (.int spot)), o9, some (.val (.int (mn : Nat))), some (.val (tI ((List.range mn).map sg))), o12, none]) (by
      generalize ((List.range 3).map fun q => PyData.list ((rowI q).map .int)) = RW at *
      generalize (List.range mn).map sg = SG at *
      simp [c2, tI]) ?_
    rintro _ ⟨p9, rfl⟩
    obtain ⟨t3, ht3, et⟩ := draw_nat ns hl (k := spot + 5) (many := 3) (by omega) (by omega) (by decide)
    simp only [show (((3 : Nat)) : Int) = 3 from rfl] at et
    have htw : ∃ tw : Int, (tw = 0 ∨ tw = 1) ∧ opIx (.list [.int 0, .int 0, .int 1]) (.int (t3 : Nat)) = .ok (.val (.int tw)) := by
      have := pick3 [0, 0, 1] (j := t3) (by simpa using ht3)
      have h3 : t3 = 0 ∨ t3 = 1 ∨ t3 = 2 := by omega
      rcases h3 with rfl | rfl | rfl
      · exact ⟨0, .inl rfl, this⟩
      · exact ⟨0, .inl rfl, this⟩
      · exact ⟨1, .inr rfl, this⟩
    obtain ⟨tw, htw, etw⟩ := htw
    refine Nx.seq (P := fun ρ => ρ = [some (.scr ns), some (.val (.int at_)), some (.val (.int (most : Nat))), some (.val (.int (5 + (f9 : Nat)))), some (.val (.int (1 + (s9 : Nat)))), some (.val (.int kp)), some (.own (rs.map Road.d)), some (.val (.int (j : Nat))), some (.val (.int spot)), p9, some (.val (.int (mn : Nat))), some (.val (tI ((List.range mn).map sg))), some (.val (.int tw)), none]) (by
      generalize (List.range mn).map sg = SG at *
      simp [et, etw, -opIx_l]) ?_
    rintro _ rfl
    obtain ⟨a4, ha4, ea⟩ := draw_nat ns hl (k := spot) (many := 4) (by omega) (by omega) (by decide)
    obtain ⟨b4, hb4, eb⟩ := draw_nat ns hl (k := spot + 1) (many := 4) (by omega) (by omega) (by decide)
    simp only [show (((4 : Nat)) : Int) = 4 from rfl] at ea eb
    have hcap : (rs.map Road.d).length < lim := Nat.lt_of_lt_of_le (show _ < 1000 by rw [List.length_map]; omega) (by decide)
    refine ⟨_, ?_, ⟨(a4 : Nat), (b4 : Nat), tw, (List.range mn).map sg⟩, some (.val (.int spot)), p9, some (.val (.int (mn : Nat))), some (.val (tI ((List.range mn).map sg))), some (.val (.int tw)), ⟨⟨Int.natCast_nonneg _, ?_, Int.natCast_nonneg _, ?_, htw, ?_, fun x hx => ?_⟩, ?_, ?_⟩, rfl⟩
    · rw [List.map_append]
      generalize (List.range mn).map sg = SG at *
      generalize rs.map Road.d = RS at *
      simp [ea, eb, hcap, Road.d]
    · show ((a4 : Nat) : Int) ≤ 5; omega
    · show ((b4 : Nat) : Int) ≤ 5; omega
    · simp; omega
    · obtain ⟨q, hq, rfl⟩ := List.mem_map.mp hx
      exact sgB q (by simp at hq; omega)
    · show ((a4 : Nat) : Int) < 4; omega
    · show ((b4 : Nat) : Int) < 4; omega
  unfold d_l_net denB g_l_net
  simp only [gSeq, startE]
  obtain ⟨ρ1, e1, rs, p7, p8, p9, p10, p11, p12, hrs, hlen, rfl⟩ := gFor_range (fi := fRg1 (fOp opAdd (fC (.int 1)) (fCall d_l_drawn (aCons (fVar 0) (aCons (fOp opAdd (fVar 1) (fC (.int 3))) (aCons (fVar 2) aNil)))))) (ft := tName 7) (gb := l_net_b1) (n := 1 + r9)
    (fun j ρ => ∃ (rs : List Road) (o7 o8 o9 o10 o11 o12 : Option R), (∀ r ∈ rs, r.Ok ∧ r.s < 4 ∧ r.e < 4) ∧ rs.length = j ∧ ρ = [some (.scr ns), some (.val (.int at_)), some (.val (.int (most : Nat))), some (.val (.int (5 + (f9 : Nat)))), some (.val (.int (1 + (s9 : Nat)))), some (.val (.int kp)), some (.own (rs.map Road.d)), o7, o8, o9, o10, o11, o12, none])
    (ρ := [some (.scr ns), some (.val (.int at_)), some (.val (.int (most : Nat))), some (.val (.int (5 + (f9 : Nat)))), some (.val (.int (1 + (s9 : Nat)))), some (.val (.int kp)), some (.own []), none, none, none, none, none, none, none])
    (by simp [er, hrg, -rg1_i]) ⟨[], _, _, _, _, _, _, fun _ z => (by cases z), rfl, rfl⟩ (fun j ρ hj hI => by
      obtain ⟨rs, o7, o8, o9, o10, o11, o12, hrs, hlen, rfl⟩ := hI
      rw [bdy_name]
      refine (body j hj rs hrs hlen _ _ _ _ _).imp fun ρ hρ => ?_
      obtain ⟨r, o8, o9, o10, o11, o12, hr, rfl⟩ := hρ
      refine ⟨rs ++ [r], some (.val (.int (j : Nat))), o8, o9, o10, o11, o12, fun q hq => ?_, by simp [hlen], rfl⟩
      rcases List.mem_append.mp hq with z | z
      · exact hrs q z
      · rw [List.mem_singleton.mp z]; exact hr)
  refine ⟨⟨5 + (f9 : Nat), 1 + (s9 : Nat), kp, rs⟩, ⟨by show (5 : Int) ≤ 5 + (f9 : Nat); omega, by show 5 + ((f9 : Nat) : Int) ≤ 13; omega, by show (1 : Int) ≤ 1 + (s9 : Nat); omega, by show 1 + ((s9 : Nat) : Int) ≤ 5 + (f9 : Nat); omega, hkp, by show 1 ≤ rs.length; omega, by show rs.length ≤ 8; omega, fun r hr => (hrs r hr).1⟩, by show rs.length ≤ most; omega, fun r hr => (hrs r hr).2, ?_⟩
  have hd : (⟨5 + (f9 : Nat), 1 + (s9 : Nat), kp, rs⟩ : Net).d = .tuple [.int (5 + (f9 : Nat)), .int (1 + (s9 : Nat)), .int kp, .tuple (rs.map Road.d)] := rfl
  rw [hd]
  simp [ef, es, ek, ekp, e1, frzAt, -opIx_l]
@[simp] theorem l_next_den {n : Net} {k : Nat} (hk : k < n.roads.length) (h8 : n.roads.length ≤ 1000) : d_l_next [.val n.d, .val (.int (k : Nat))] = .ok (.own (nI (n.aft k))) := by
  unfold d_l_next denB g_l_next
  have e : l_next_c1 [some (.val n.d), some (.val (.int (k : Nat))), none] = .ok (.own (nI (n.aft k))) := by
    refine fLc_of (ds := (List.range n.roads.length).map fun i => PyData.int (i : Nat)) (by simp [rg1_nat (show n.roads.length ≤ 1000000 by omega), -rg1_i]) (lim_of (by simp; omega)) ?_
    unfold Net.aft nI
    refine lcGo_typed (fun i : Nat => PyData.int (i : Nat)) (fun i => [some (.val n.d), some (.val (.int k)), some (.val (.int (i : Nat)))]) _ _ (List.range n.roads.length)
      (fun i hi => by simp) (fun i hi => ?_) (fun i hi _ => by simp)
    have hi : i < n.roads.length := by simpa using hi
    simp [rd_get hk, rd_get hi]
  simp [startE, e]
end LW
namespace LW
open PySem PySem.Spec PyProof.Rows L2 DN
/-! ### pairs of numbers in lists -/
theorem idD_inj {p q : Nat × Nat} (e : idD p = idD q) : p = q := by
  unfold idD at e
  injection e with e
  injection e with e1 e
  injection e with e2 e
  injection e1 with e1
  injection e2 with e2
  exact Prod.ext (by omega) (by omega)
theorem dOk_idD (p : Nat × Nat) : dOk 1 (idD p) = true := dOk_tuple (by simp [dOks])
theorem pur_idD (p : Nat × Nat) : pur (idD p) = true := rfl
theorem in_idD (p : Nat × Nat) (ps : List (Nat × Nat)) : inD (idD p) (.list (ps.map idD)) = .ok (decide (p ∈ ps)) := by
  have h1 : (flatD (idD p) && (ps.map idD).all flatD) = false := rfl
  have h2 : (SeqAt.shaped (idD p) && SeqAt.shaped (.list (ps.map idD))) = true := by
    rw [shaped_of (dOk_idD p) (by decide), shaped_of (n := 2) (dOk_list (dOks_map fun x _ => dOk_idD x)) (by decide)]
    rfl
  show (if (flatD (idD p) && (ps.map idD).all flatD) = true then Rs.ok ((ps.map idD).any fun y => eqF y (idD p)) else if (SeqAt.shaped (idD p) && SeqAt.shaped (.list (ps.map idD))) = true then Rs.ok ((ps.map idD).any fun z => PyData.eqv z (idD p)) else Rs.bad) = _
  rw [h1, if_neg (by decide), h2, if_pos rfl]
  congr 1
  rw [Bool.eq_iff_iff, List.any_eq_true, decide_eq_true_iff]
  constructor
  · rintro ⟨d, hd, e⟩
    obtain ⟨q, hq, rfl⟩ := List.mem_map.mp hd
    have := (eqv_pur _ _ (pur_idD q) (pur_idD p)).mp e
    rw [← idD_inj this]
    exact hq
  · intro hp
    exact ⟨idD p, List.mem_map.mpr ⟨p, hp, rfl⟩, (eqv_pur _ _ (pur_idD p) (pur_idD p)).mpr rfl⟩
/-! ### caps -/
def lss (cap l : Int) : Int := if cap < l then cap else l
noncomputable def Net.top (n : Net) (k p : Nat) : Int := (n.pos k p).getLastD 0
theorem top_mem {n : Net} (h : n.Ok) {k p : Nat} (hk : k < n.roads.length) : n.top k p ∈ n.pos k p := by
  have hne := pos_ne h (k := k) (p := p) hk
  unfold Net.top
  rw [List.getLastD_eq_getLast?, List.getLast?_eq_some_getLast hne]
  exact List.getLast_mem hne
theorem last_max {xs : List Int} (h : xs.Pairwise (· < ·)) : ∀ x ∈ xs, x ≤ xs.getLastD 0 := by
  intro x hx
  have hne : xs ≠ [] := List.ne_nil_of_mem hx
  rw [List.getLastD_eq_getLast?, List.getLast?_eq_some_getLast hne]
  obtain ⟨i, hi, rfl⟩ := List.getElem_of_mem hx
  show xs[i] ≤ xs.getLast hne
  rw [List.getLast_eq_getElem]
  by_cases e : i = xs.length - 1
  · subst e; exact Int.le_refl _
  · have := List.pairwise_iff_getElem.mp h i (xs.length - 1) hi (by omega) (by omega)
    omega
theorem top_max {n : Net} {k p : Nat} {l : Int} (hl : l ∈ n.pos k p) : l ≤ n.top k p := last_max (pos_lt n k p) l hl
theorem pos_bd {n : Net} (h : n.Ok) {k p : Nat} (hk : k < n.roads.length) (hp : p ≤ (n.rd k).g.length) {l : Int} (hl : l ∈ n.pos k p) : 1 ≤ l ∧ l ≤ 13 := by
  obtain ⟨s, r, e⟩ := (mem_pos h).mp hl
  have b := reach_bd h r
  rw [← e]
  exact lim_bd h hk hp b.2.1 b.2.2
theorem top_bd {n : Net} (h : n.Ok) {k p : Nat} (hk : k < n.roads.length) (hp : p ≤ (n.rd k).g.length) : 1 ≤ n.top k p ∧ n.top k p ≤ 13 := pos_bd h hk hp (top_mem h hk)
theorem pos_last {n : Net} (h : n.Ok) {k p : Nat} (hk : k < n.roads.length) : opIx (.list ((n.pos k p).map .int)) (.int (-1)) = .ok (.val (.int (n.top k p))) := by
  have hne := pos_ne h (k := k) (p := p) hk
  rw [opIx_l, atI_m1, List.getLast?_map, List.getLast?_eq_some_getLast hne]
  unfold Net.top
  rw [List.getLastD_eq_getLast?, List.getLast?_eq_some_getLast hne]
  rfl
/-- all pieces, in order -/
def Net.apc (n : Net) : List (Nat × Nat) := (List.range n.roads.length).flatMap fun k => (List.range ((n.rd k).g.length + 1)).map fun p => (k, p)
theorem mem_apc {n : Net} {q : Nat × Nat} : q ∈ n.apc ↔ q.1 < n.roads.length ∧ q.2 ≤ (n.rd q.1).g.length := by
  unfold Net.apc
  simp only [List.mem_flatMap, List.mem_range, List.mem_map]
  constructor
  · rintro ⟨k, hk, p, hp, rfl⟩
    exact ⟨hk, show p ≤ (n.rd k).g.length by omega⟩
  · rintro ⟨h1, h2⟩
    exact ⟨q.1, h1, q.2, by omega, rfl⟩
theorem apc_len {n : Net} (h : n.Ok) : n.apc.length ≤ n.roads.length * 4 := by
  have := flat_len (f := fun k => (List.range ((n.rd k).g.length + 1)).map fun p => (k, p)) (c := 4) (xs := List.range n.roads.length) fun k hk => by
    have hk : k < n.roads.length := by simpa using hk
    have := (h.rd hk).gl
    simp
    omega
  rw [List.length_range] at this
  exact this
def ltN (p q : Nat × Nat) : Prop := p.1 < q.1 ∨ (p.1 = q.1 ∧ p.2 < q.2)
theorem apc_lt (n : Net) : n.apc.Pairwise ltN := by
  unfold Net.apc
  have key : ∀ ks : List Nat, ks.Pairwise (· < ·) → (ks.flatMap fun k => (List.range ((n.rd k).g.length + 1)).map fun p => (k, p)).Pairwise ltN := by
    intro ks
    induction ks with
    | nil => intro _; exact .nil
    | cons k ks ih =>
      intro h
      rw [List.pairwise_cons] at h
      rw [List.flatMap_cons, List.pairwise_append]
      refine ⟨?_, ih h.2, fun a ha b hb => ?_⟩
      · rw [List.pairwise_map]
        have : (List.range ((n.rd k).g.length + 1)).Pairwise (· < ·) := List.pairwise_lt_range
        exact this.imp fun {a b} hab => .inr ⟨rfl, hab⟩
      · obtain ⟨s, _, rfl⟩ := List.mem_map.mp ha
        obtain ⟨j, hj, hb⟩ := List.mem_flatMap.mp hb
        obtain ⟨t, _, rfl⟩ := List.mem_map.mp hb
        exact .inl (h.1 j hj)
  exact key _ List.pairwise_lt_range
noncomputable def Net.slw (n : Net) (cap : Int) : List (Nat × Nat) := n.apc.filter fun q => decide (cap < n.top q.1 q.2)
noncomputable def Net.lcap (n : Net) : Int := maxOf (n.apc.map fun q => n.top q.1 q.2)
theorem apc_ne {n : Net} (h : n.Ok) : n.apc ≠ [] := fun e => by
  have := (mem_apc (n := n) (q := (0, 0))).mpr ⟨by have := h.r1; omega, Nat.zero_le _⟩
  rw [e] at this
  cases this
theorem lcap_spec {n : Net} (h : n.Ok) : (∃ q ∈ n.apc, n.top q.1 q.2 = n.lcap) ∧ ∀ q ∈ n.apc, n.top q.1 q.2 ≤ n.lcap := by
  have := maxOf_spec (n.apc.map fun q => n.top q.1 q.2) (by simpa using apc_ne h)
  refine ⟨?_, fun q hq => this.2 _ (List.mem_map.mpr ⟨q, hq, rfl⟩)⟩
  obtain ⟨q, hq, e⟩ := List.mem_map.mp this.1
  exact ⟨q, hq, e⟩
/-! ### the same speeds -/
def Net.spb (n m : Net) (cap : Int) (p : Tr) : Bool := !decide ((n.pcs p.1 p.2.1).map (lss cap) = (m.pcs p.1 p.2.2).map (lss cap))
open Classical in
noncomputable def Net.spd (n m : Net) (cap : Int) : Bool := decide (∀ p, n.R2 m p → n.spb m cap p = false)
theorem spd_iff {n m : Net} {cap : Int} : n.spd m cap = true ↔ ∀ p, n.R2 m p → (n.pcs p.1 p.2.1).map (lss cap) = (m.pcs p.1 p.2.2).map (lss cap) := by
  unfold Net.spd Net.spb
  simp
end LW
namespace LW
open PySem PySem.Spec PyProof.Rows L2 DN
theorem retOf_seq' {o : RO} {g : Ev → RO} {P : Ev → Prop} {X : Rs R} (h : Nx o P) (k : ∀ ρ, P ρ → retOf (g ρ) = X) : retOf (o.seq g) = X := by
  obtain ⟨ρ, rfl, p⟩ := h
  exact k ρ p
/-! ### fewer states -/
theorem ov_zero (n : Net) : n.ov 0 = 0 := by unfold Net.ov; split <;> rfl
theorem reach_sub {a b : Net} (hl : a.roads.length = b.roads.length) (ha : ∀ k, a.aft k = b.aft k) (ho : a.keeps = b.keeps) (hv : ∀ k s, b.Reach k s → a.lv k s = b.lv k s ∨ a.lv k s = 0) {k : Nat} {s : Int} (r : a.Reach k s) : b.Reach k s := by
  induction r with
  | start h => exact .start (hl ▸ h)
  | @go k j s r hj ih =>
    have hj' : j ∈ b.aft k := by rw [← ha]; exact hj
    have e : ∀ x, a.ov x = b.ov x := fun x => by unfold Net.ov; rw [ho]
    rcases hv k s ih with z | z
    · rw [z, e]; exact .go ih hj'
    · rw [z, ov_zero]
      exact .start (aft_lt hj')
theorem mem_unc {n : Net} (h : n.Ok) {k : Nat} : k ∈ n.unc ↔ ∃ s, n.Reach k s ∧ 0 < s ∧ s ≠ n.st k := by
  have hz : ∀ {k : Nat}, k < n.roads.length → n.st k ∈ n.pos k 0 := fun {k} hk => (mem_pos h).mpr ⟨0, .start hk, by rw [lim_zero]; unfold lmt; rw [if_neg (by decide)]⟩
  unfold Net.unc
  rw [List.mem_filter, decide_eq_true_iff]
  constructor
  · rintro ⟨hk, hl⟩
    have hk : k < n.roads.length := by simpa using hk
    have key : ∃ l ∈ n.pos k 0, l ≠ n.st k := by
      have hp := pos_lt n k 0
      revert hl hp
      generalize n.pos k 0 = ps
      intro hl hp
      match ps, hl with
      | x :: y :: _, _ =>
        have hxy := (List.pairwise_cons.mp hp).1 y List.mem_cons_self
        by_cases e : x = n.st k
        · exact ⟨y, by simp, by omega⟩
        · exact ⟨x, by simp, e⟩
    obtain ⟨l, hl, hne⟩ := key
    obtain ⟨s, r, e⟩ := (mem_pos h).mp hl
    rw [lim_zero] at e
    unfold lmt at e
    by_cases hs : s > 0
    · rw [if_pos hs] at e
      exact ⟨s, r, hs, by omega⟩
    · rw [if_neg hs] at e
      exact absurd e.symm hne
  · rintro ⟨s, r, hs, hne⟩
    have hk := (reach_bd h r).1
    refine ⟨by simpa using hk, ?_⟩
    have h1 := hz hk
    have h2 : s ∈ n.pos k 0 := (mem_pos h).mpr ⟨s, r, by rw [lim_zero]; unfold lmt; rw [if_pos hs]⟩
    revert h1 h2
    generalize n.pos k 0 = ps
    intro h1 h2
    match ps, h1, h2 with
    | [x], h1, h2 =>
      have := List.mem_singleton.mp h1
      have := List.mem_singleton.mp h2
      omega
    | x :: y :: _, _, _ => simp
theorem unc_sub {a b : Net} (ha : a.Ok) (hb : b.Ok) (hs : ∀ k, a.st k = b.st k) (hr : ∀ k s, a.Reach k s → b.Reach k s) : ∀ k ∈ a.unc, k ∈ b.unc := fun k hk => by
  obtain ⟨s, r, h1, h2⟩ := (mem_unc ha).mp hk
  exact (mem_unc hb).mpr ⟨s, hr _ _ r, h1, by rw [← hs]; exact h2⟩
theorem lvg_lt (n : Net) : n.lvg.Pairwise (· < ·) := List.pairwise_lt_range.filter _
theorem clear_of_lvg {n : Net} (h : n.Ok) (e : n.lvg = []) : n.unc = [] := by
  apply List.eq_nil_iff_forall_not_mem.mpr
  intro k hk
  obtain ⟨s, r, h1, _⟩ := (mem_unc h).mp hk
  cases r with
  | start => omega
  | @go j _ s' r' hj =>
    have h2 : n.ov (n.lv j s') = n.lv j s' := ov_ne (by omega)
    have : j ∈ n.lvg := (mem_lvg h).mpr ⟨s', r', by omega⟩
    rw [e] at this
    exact List.not_mem_nil this
theorem clear_of_keeps {n : Net} (h : n.Ok) (e : n.keeps = 0) : n.unc = [] := by
  apply List.eq_nil_iff_forall_not_mem.mpr
  intro k hk
  obtain ⟨s, r, h1, _⟩ := (mem_unc h).mp hk
  cases r with
  | start => omega
  | @go j _ s' r' hj =>
    unfold Net.ov at h1
    rw [if_neg (by omega)] at h1
    omega
end LW
namespace LW
open PySem PySem.Spec PyProof.Rows L2 DN
/-! ### places in lists -/
theorem plD_inj {p q : Nat × Int} (e : plD p = plD q) : p = q := by
  unfold plD at e
  injection e with e
  injection e with e1 e
  injection e with e2 e
  injection e1 with e1
  injection e2 with e2
  exact Prod.ext (by omega) e2
theorem dOk_plD (p : Nat × Int) : dOk 1 (plD p) = true := dOk_tuple (by simp [dOks])
theorem pur_plD (p : Nat × Int) : pur (plD p) = true := rfl
theorem in_plD (p : Nat × Int) (ps : List (Nat × Int)) : inD (plD p) (.list (ps.map plD)) = .ok (decide (p ∈ ps)) := by
  have h1 : (flatD (plD p) && (ps.map plD).all flatD) = false := rfl
  have h2 : (SeqAt.shaped (plD p) && SeqAt.shaped (.list (ps.map plD))) = true := by
    rw [shaped_of (dOk_plD p) (by decide), shaped_of (n := 2) (dOk_list (dOks_map fun x _ => dOk_plD x)) (by decide)]
    rfl
  show (if (flatD (plD p) && (ps.map plD).all flatD) = true then Rs.ok ((ps.map plD).any fun y => eqF y (plD p)) else if (SeqAt.shaped (plD p) && SeqAt.shaped (.list (ps.map plD))) = true then Rs.ok ((ps.map plD).any fun z => PyData.eqv z (plD p)) else Rs.bad) = _
  rw [h1, if_neg (by decide), h2, if_pos rfl]
  congr 1
  rw [Bool.eq_iff_iff, List.any_eq_true, decide_eq_true_iff]
  constructor
  · rintro ⟨d, hd, e⟩
    obtain ⟨q, hq, rfl⟩ := List.mem_map.mp hd
    have := (eqv_pur _ _ (pur_plD q) (pur_plD p)).mp e
    rw [← plD_inj this]
    exact hq
  · intro hp
    exact ⟨plD p, List.mem_map.mpr ⟨p, hp, rfl⟩, (eqv_pur _ _ (pur_plD p) (pur_plD p)).mpr rfl⟩
theorem signs_nil (g : List Int) : eqD (tI g) (.tuple []) = .ok (decide (g = [])) := by
  unfold tI
  rw [eqD_tnil (n := 0) (dOks_map fun x _ => dOk_int 0 x) (by decide)]
  cases g <;> rfl
theorem signs_last {g : List Int} (hg : g ≠ []) (s : Int) : opIx (tI g) (.int (-1)) = .ok (.val (.int (g.getLastD s))) := by
  obtain ⟨x, hx⟩ : ∃ x, g.getLast? = some x := ⟨_, List.getLast?_eq_some_getLast hg⟩
  unfold tI
  rw [opIx_t, atI_m1, List.getLastD_eq_getLast?, hx, List.getLast?_map, hx]
  rfl
theorem l_behind_den {n : Net} (h : n.Ok) {k : Nat} (hk : k < n.roads.length) (s : Int) : d_l_behind [.val n.d, .val (.int (k : Nat)), .val (.int s)] = .ok (.val (.int (n.nxt (k, s)))) := by
  have e := signs_nil (n.rd k).g
  have hm : ∀ x : Int, opMulI (.int x) (.int n.keeps) = .ok (.val (.int (n.ov x))) := fun x => by
    have c : CMul x n.keeps := .inr (by rcases h.k with z | z <;> rw [z] <;> decide)
    have e : x * n.keeps = n.ov x := by
      unfold Net.ov
      rcases h.k with z | z <;> simp [z]
    simp [c, e]
  have kp : opIx n.d (.int 2) = .ok (.val (.int n.keeps)) := rfl
  unfold d_l_behind denB g_l_behind
  simp only [gSeq, startE]
  by_cases hg : (n.rd k).g = []
  · rw [decide_eq_true hg] at e
    have e2 : n.nxt (k, s) = n.ov s := by unfold Net.nxt Net.lv; rw [hg]; rfl
    simp [rd_get hk, e, kp, hm s, e2]
  · rw [decide_eq_false hg] at e
    have e2 := signs_last hg s
    have e3 : (n.rd k).g.getLastD s = n.lv k s := rfl
    rw [e3] at e2
    have e4 : n.nxt (k, s) = n.ov (n.lv k s) := rfl
    simp [rd_get hk, e, e2, kp, hm, e4]
theorem l_pieces_den {n : Net} (h : n.Ok) {k : Nat} (hk : k < n.roads.length) (s : Int) : d_l_pieces [.val n.d, .val (.int (k : Nat)), .val (.int s)] = .ok (.own ((n.pcs k s).map .int)) := by
  have h3 := (h.rd hk).gl
  have c1 : l_pieces_c1 [some (.val n.d), some (.val (.int (k : Nat))), some (.val (.int s)), some (.val (.int (n.rd k).s)), some (.val (.int (n.rd k).e)), some (.val (.int (n.rd k).t)), some (.val (tI (n.rd k).g)), none] = .ok (.own ((n.pcs k s).map .int)) := by
    refine fLc_of (ds := (s :: (n.rd k).g).map .int) ?_ (lim_of (by simp; omega)) ?_
    · have a : opAdd (.tuple [.int s]) (tI (n.rd k).g) = .ok (.val (.tuple ((s :: (n.rd k).g).map .int))) := by
        unfold tI
        rw [opAdd_tup (by simp; omega)]
        simp
      simp [a, -opAdd_tt, -List.map_cons]
    · unfold Net.pcs
      rw [List.map_map]
      refine lcGo_map PyData.int (fun x => [some (.val n.d), some (.val (.int (k : Nat))), some (.val (.int s)), some (.val (.int (n.rd k).s)), some (.val (.int (n.rd k).e)), some (.val (.int (n.rd k).t)), some (.val (tI (n.rd k).g)), some (.val (.int x))]) _ _ (fun x _ => by simp) (fun x hx => ?_)
      have k1 : opIx n.d (.int 1) = .ok (.val (.int n.slow)) := rfl
      have k0 : opIx n.d (.int 0) = .ok (.val (.int n.fast)) := rfl
      by_cases hp : 0 < x
      · simp [hp, lmt]
      · by_cases ht : (n.rd k).t = 1
        · simp [hp, ht, k1, lmt, Net.st]
        · simp [hp, ht, k0, lmt, Net.st]
  unfold d_l_pieces denB g_l_pieces
  simp only [gSeq, startE]
  have hd : (n.rd k).d = .tuple [.int (n.rd k).s, .int (n.rd k).e, .int (n.rd k).t, tI (n.rd k).g] := rfl
  simp [rd_get hk, hd, c1]
def muL (ρ : Ev) : Nat := match ρ[1]?, ρ[2]? with
  | some (some (R.own d)), some (some (R.val (PyData.list l))) => 2 * (200 - d.length) + (if l.isEmpty then 0 else 1)
  | _, _ => 0
theorem l_places_c2_den {n : Net} (h : n.Ok) {k : Nat} (hk : k < n.roads.length) (s : Int) (a1 a2 a3 a6 : Option R) :
    l_places_c2 [some (.val n.d), a1, a2, a3, some (.val (.int (k : Nat))), some (.val (.int s)), a6] = .ok (.own (((n.aft k).map fun j => (j, n.nxt (k, s))).map plD)) := by
  have h8 := h.r8
  have hal := aft_len n k
  refine fLc_of (ds := nI (n.aft k)) ?_ (lim_of (by rw [nI, List.length_map]; omega)) ?_
  · simp [l_next_den hk (by omega)]
  · unfold nI
    rw [List.map_map]
    exact lcGo_map (fun i : Nat => PyData.int (i : Nat)) (fun i => [some (.val n.d), a1, a2, a3, some (.val (.int (k : Nat))), some (.val (.int s)), some (.val (.int (i : Nat)))]) _ _ (fun i _ => by simp) (fun i hi => by simp [plD, l_behind_den h hk])
theorem l_places_den {n : Net} (h : n.Ok) : d_l_places [.val n.d] = .ok (.own (n.plc.map plD)) := by
  have h8 := h.r8
  have c1 : l_places_c1 [some (.val n.d), none, none, none, none, none, none] = .ok (.own (((List.range n.roads.length).map fun k => (k, (0 : Int))).map plD)) := by
    refine fLc_of (ds := (List.range n.roads.length).map fun i => PyData.int (i : Nat)) (by simp [rg1_nat (show n.roads.length ≤ 1000000 by omega), -rg1_i]) (lim_of (by simp; omega)) ?_
    rw [List.map_map]
    exact lcGo_map (fun i : Nat => PyData.int (i : Nat)) (fun i => [some (.val n.d), none, none, none, some (.val (.int (i : Nat))), none, none]) _ _ (fun i _ => by simp) (fun i hi => by simp [plD])
  have inner : ∀ (L done : List (Nat × Int)), done.Nodup → (∀ p ∈ done, n.Reach p.1 p.2) → (∀ p ∈ L, n.Reach p.1 p.2) → ∀ o4 o5,
      Nx (gFor (fSeq (fVar 2)) (tTupl (tsCons (tName 4) (tsCons (tName 5) tsNil))) l_places_b1 [some (.val n.d), some (.own (done.map plD)), some (.val (.list (L.map plD))), some (.val (.list [])), o4, o5, none])
        fun ρ => ∃ done' later o4 o5, n.Lv done L done' later ∧ ρ = [some (.val n.d), some (.own (done'.map plD)), some (.val (.list (L.map plD))), some (.val (.list (later.map plD))), o4, o5, none] := by
    intro L done hnd hdone hL o4 o5
    refine gFor_list (enc := plD) (xs := L) (fun ys ρ => ∃ done' later o4 o5, n.Lv done ys done' later ∧ ρ = [some (.val n.d), some (.own (done'.map plD)), some (.val (.list (L.map plD))), some (.val (.list (later.map plD))), o4, o5, none])
      (by simp) ⟨done, [], o4, o5, ⟨hnd, fun _ q => q, fun _ q => (by cases q), fun _ q => .inl q, fun _ q z => absurd q z, fun _ q => (by cases q), Nat.le_refl _, (by simp)⟩, rfl⟩ (fun ys p zs ρ hx hI => ?_)
    obtain ⟨done', later, o4, o5, lv, rfl⟩ := hI
    have hp : n.Reach p.1 p.2 := hL p (by rw [hx]; simp)
    have hbd := reach_bd h hp
    have hv := in_plD p done'
    have hys : ∀ q ∈ ys, n.Reach q.1 q.2 := fun q hq => hL q (by rw [hx]; simp [hq])
    have hlen : done'.length ≤ n.roads.length * 14 := nodup_grid lv.nd fun q hq => by
      rcases lv.from_ q hq with z | z
      · exact reach_bd h (hdone q z)
      · exact reach_bd h (hys q z)
    obtain ⟨k, s⟩ := p
    rw [show plD (k, s) = .tuple [.int (k : Nat), .int s] from rfl] at hv ⊢
    rw [bdy_tup]
    simp only [tsCons_c, tName, bind_ok, tsNil_n]
    unfold l_places_b1
    by_cases hin : (k, s) ∈ done'
    · rw [decide_eq_true hin] at hv
      refine ⟨[some (.val n.d), some (.own (done'.map plD)), some (.val (.list (L.map plD))), some (.val (.list (later.map plD))), some (.val (.int (k : Nat))), some (.val (.int s)), none], ?_, ?_⟩
      · generalize done'.map plD = DD' at *
        generalize L.map plD = LL at *
        generalize later.map plD = LT at *
        simp [hv]
      refine ⟨done', later, _, _, ⟨lv.nd, lv.old, fun q hq => ?_, fun q hq => ?_, lv.next, fun q hq => ?_, lv.grow, lv.few⟩, rfl⟩
      · rcases List.mem_append.mp hq with z | z
        · exact lv.seen q z
        · rw [List.mem_singleton.mp z]; exact hin
      · rcases lv.from_ q hq with z | z
        · exact .inl z
        · exact .inr (List.mem_append_left _ z)
      · obtain ⟨r, hr, z⟩ := lv.late q hq
        exact ⟨r, List.mem_append_left _ hr, z⟩
    · rw [decide_eq_false hin] at hv
      have hpn : (k, s) ∉ done := fun z => hin (lv.old _ z)
      have hal := aft_len n k
      have hfew := lv.few
      have hgrow := lv.grow
      have hlx : (done'.map plD).length < 1000 := by rw [List.length_map]; omega
      have c2 := l_places_c2_den h hbd.1 s (some (.own (done'.map plD ++ [.tuple [.int (k : Nat), .int s]]))) (some (.val (.list (L.map plD)))) (some (.val (.list (later.map plD)))) none
      have hadd : opAdd (.list (later.map plD)) (.list (((n.aft k).map fun j => (j, n.nxt (k, s))).map plD)) = .ok (.own ((later ++ (n.aft k).map fun j => (j, n.nxt (k, s))).map plD)) := by
        rw [opAdd_lst (by rw [List.length_map, List.length_map, List.length_map]; omega), List.map_append]
      refine ⟨[some (.val n.d), some (.own ((done' ++ [(k, s)]).map plD)), some (.val (.list (L.map plD))), some (.val (.list ((later ++ (n.aft k).map fun j => (j, n.nxt (k, s))).map plD))), some (.val (.int (k : Nat))), some (.val (.int s)), none], ?_, ?_⟩
      · rw [show (done' ++ [(k, s)]).map plD = done'.map plD ++ [.tuple [.int (k : Nat), .int s]] by simp [plD]]
        have hcap : (done'.map plD).length < lim := Nat.lt_of_lt_of_le hlx (by decide)
        generalize (later ++ (n.aft k).map fun j => (j, n.nxt (k, s))).map plD = LT2 at *
        generalize ((n.aft k).map fun j => (j, n.nxt (k, s))).map plD = AF at *
        generalize done'.map plD = DD' at *
        generalize L.map plD = LL at *
        generalize later.map plD = LT at *
        simp [hv, hcap, c2, hadd]
      refine ⟨done' ++ [(k, s)], later ++ (n.aft k).map fun j => (j, n.nxt (k, s)), _, _, ?_, rfl⟩
      refine ⟨?_, fun q hq => List.mem_append_left _ (lv.old q hq), fun q hq => ?_, fun q hq => ?_, fun q hq hn j hj => ?_, fun q hq => ?_, ?_, ?_⟩
      · rw [List.nodup_append]
        refine ⟨lv.nd, by simp, fun a ha b hb => ?_⟩
        rw [List.mem_singleton.mp hb]
        rintro rfl
        exact hin ha
      · rcases List.mem_append.mp hq with z | z
        · exact List.mem_append_left _ (lv.seen q z)
        · exact List.mem_append_right _ z
      · rcases List.mem_append.mp hq with z | z
        · rcases lv.from_ q z with z | z
          · exact .inl z
          · exact .inr (List.mem_append_left _ z)
        · exact .inr (List.mem_append_right _ z)
      · rcases List.mem_append.mp hq with z | z
        · exact List.mem_append_left _ (lv.next q z hn j hj)
        · have := List.mem_singleton.mp z
          subst this
          exact List.mem_append_right _ (List.mem_map.mpr ⟨j, hj, rfl⟩)
      · rcases List.mem_append.mp hq with z | z
        · obtain ⟨r, hr, z⟩ := lv.late q z
          exact ⟨r, List.mem_append_left _ hr, z⟩
        · obtain ⟨j, hj, rfl⟩ := List.mem_map.mp z
          exact ⟨(k, s), List.mem_append_right _ List.mem_cons_self, j, hj, rfl⟩
      · simp
        omega
      · simp
        omega
  unfold d_l_places denB g_l_places
  simp only [gSeq, startE]
  simp [c1]
  obtain ⟨ρ1, e1, ⟨L, done, o3, o4, o5, w, rfl⟩, ht⟩ := gWhile_rel (fc := l_places_t1) (gb := l_places_b2)
    (fun ρ => ∃ L done o3 o4 o5, n.WI L done ∧ ρ = [some (.val n.d), some (.own (done.map plD)), some (.val (.list (L.map plD))), o3, o4, o5, none]) muL
    (ρ := [some (.val n.d), some (.own []), some (.val (.list (((List.range n.roads.length).map fun k => (k, (0 : Int))).map plD))), none, none, none, none])
    ⟨(List.range n.roads.length).map fun k => (k, (0 : Int)), [], none, none, none, ⟨.nil, fun _ z => (by cases z), fun p hp => by
      obtain ⟨k, hk, rfl⟩ := List.mem_map.mp hp
      exact .start (by simpa using hk), fun k hk => .inr (List.mem_map.mpr ⟨k, by simpa using hk, rfl⟩), fun _ z => (by cases z)⟩, rfl⟩
    (by simp [muL]; split <;> omega) (fun ρ hI => by
      obtain ⟨L, done, o3, o4, o5, w, rfl⟩ := hI
      have hdo : dOks 1 (L.map plD) = true := dOks_map fun x _ => dOk_tuple (by simp [dOks])
      refine ⟨!(L.map plD).isEmpty, by unfold l_places_t1; simp [eqD_nil hdo], fun hne => ?_⟩
      obtain ⟨ρ', e, done', later, q4, q5, lv, rfl⟩ := inner L done w.nd w.ok w.okL o4 o5
      refine ⟨[some (.val n.d), some (.own (done'.map plD)), some (.val (.list (later.map plD))), some (.val (.list (later.map plD))), q4, q5, none], by unfold l_places_b2; simp only [gSeq]; simp [e], ⟨later, done', _, _, _, w.turn lv, rfl⟩, ?_⟩
      have hl : done'.length ≤ n.roads.length * 14 := nodup_grid lv.nd fun q hq => (lv.from_ q hq).elim (fun z => reach_bd h (w.ok q z)) (fun z => reach_bd h (w.okL q z))
      have g := lv.grow
      have f := lv.few
      have hne' : L.isEmpty = false := by simpa using hne
      simp [muL, hne']
      by_cases hlt : later = []
      · subst hlt
        simp
        omega
      · have : 0 < later.length := List.length_pos_iff.mpr hlt
        rw [if_neg hlt]
        omega)
  rw [List.map_map] at e1
  rw [e1]
  have hdo : dOks 1 (L.map plD) = true := dOks_map fun x _ => dOk_tuple (by simp [dOks])
  have hL : L = [] := by
    unfold l_places_t1 at ht
    simp [eqD_nil hdo] at ht
    exact ht
  subst hL
  have hs := sort_places w.nd
  have hu : done.mergeSort leP = n.plc := ltP_unique hs.1 (plc_lt n) fun p => by rw [hs.2, w.done, mem_plc h]
  have hl : done.length ≤ n.roads.length * 14 := nodup_grid w.nd fun q hq => reach_bd h (w.ok q hq)
  have hlim : done.length ≤ lim := lim_of (by omega)
  have bs : biSorted [.list (done.map plD)] = .ok (.own (n.plc.map plD)) := by
    show (if (sortable (done.map plD) && decide ((done.map plD).length ≤ lim)) = true then Rs.ok (R.own (sortD (done.map plD))) else .bad) = _
    rw [sortable_places, List.length_map, decide_eq_true hlim, if_pos (by rfl), sortD_places, hu]
  simp [bs]
end LW
namespace LW
open PySem PySem.Spec PyProof.Rows L2 DN
/-! ### values that are no nets -/
def rdD : PyData := .tuple [.int 0, .int 1, .int 0, .tuple []]
def bads : List PyData := [.none, .tuple [], .tuple [.int 10, .int 5, .int 1, .tuple []], .tuple [.int 4, .int 3, .int 1, .tuple [rdD]], .tuple [.int 10, .int 11, .int 1, .tuple [rdD]],
  .tuple [.int 10, .int 5, .int 2, .tuple [rdD]], .tuple [.int 10, .int 5, .int 1, .tuple [rdD, rdD, rdD, rdD, rdD, rdD, rdD, rdD, rdD]],
  .list [.int 10, .int 5, .int 1, .tuple [rdD]], .tuple [.int 10, .int 5, .int 1, .list [rdD]], .tuple [.bool true, .int 1, .int 1, .tuple [rdD]],
  .tuple [.int 10, .int 5, .int 1, .tuple [.tuple [.int 0, .int 1, .int 0]]],
  .tuple [.int 10, .int 5, .int 1, .tuple [.tuple [.int 6, .int 1, .int 0, .tuple []]]], .tuple [.int 10, .int 5, .int 1, .tuple [.tuple [.int 0, .int 1, .int 2, .tuple []]]],
  .tuple [.int 10, .int 5, .int 1, .tuple [.tuple [.int 0, .int 1, .int 0, .tuple [.int 14]]]], .tuple [.int 10, .int 5, .int 1, .tuple [.tuple [.int 0, .int 1, .int 0, .tuple [.int 1, .int 2, .int 3, .int 4]]]],
  .tuple [.int 10, .int 5, .int 1, .tuple [.tuple [.int 0, .int 1, .int 0, .list [.int 1]]]]]
theorem bads_no : ∀ d ∈ bads, isNetB d = false := by
  have : bads.all (fun d => !isNetB d) = true := by decide
  intro d hd
  simpa using List.all_eq_true.mp this d hd
theorem bads_ix {j : Nat} (hj : j < 16) : ∃ d, bads[j]? = some d ∧ isNetB d = false := by
  have h : j < bads.length := hj
  exact ⟨bads[j], List.getElem?_eq_getElem h, bads_no _ (List.getElem_mem h)⟩
theorem badnet_den (ns : List Int) (hl : ns.length ≤ 63) {at_ : Int} (h0 : 0 ≤ at_) (h1 : at_ < 80000) : ∃ d, d_l_badnet [.scr ns, .val (.int at_)] = .ok (.val d) ∧ isNetB d = false := by
  obtain ⟨j, hj, e⟩ := draw_nat ns hl (k := at_) (many := 16) h0 (by omega) (by decide)
  obtain ⟨d, hd, hb⟩ := bads_ix hj
  refine ⟨d, ?_, hb⟩
  have e' : d_l_drawn [.scr ns, .val (.int at_), .val (.int 16)] = .ok (.val (.int (j : Nat))) := e
  unfold bads rdD at hd
  unfold d_l_badnet denB g_l_badnet l_badnet_b1
  simp only [gSeq, startE]
  simp [gFor, loop, seqD, lim, List.replicate]
  simp [e', hd, -List.getElem?_cons_succ]
theorem in_wD2 (k : Nat) (ks : List Nat) : inD (.int (k : Nat)) (wD ks) = .ok (decide (k ∈ ks)) := by
  have h : (flatD (.int ((k : Nat) : Int)) && (nI ks).all flatD) = true := by simp [nI, flatD]
  have b : inD (.int (k : Nat)) (.list (nI ks)) = .ok ((nI ks).any fun y => eqF y (.int ((k : Nat) : Int))) := if_pos h
  have c : inD (.int (k : Nat)) (wD ks) = .ok ((nI ks).any fun y => eqF y (.int ((k : Nat) : Int))) := if_pos h
  rw [c, ← b, in_nI]
theorem last_ix2 {r : List Nat} (h : r ≠ []) : opIx (wD r) (.int (-1)) = .ok (.val (.int ((r.getLastD 0 : Nat) : Int))) := by
  unfold wD
  rw [opIx_t, atI_m1, nI_last h]
end LW
namespace LW
open PySem PySem.Spec PyProof.Rows L2 DN
/-! ### lengths -/
def rowB (r : Road) : PyData → Bool
  | .tuple xs => decide (xs.length = r.g.length + 1) && xs.all fun x => isIntB x 1 9
  | _ => false
def lenB (n : Net) : PyData → Bool
  | .list ds => decide (ds.length = n.roads.length) && (n.roads.zip ds).all fun p => rowB p.1 p.2
  | _ => false
/-- the lengths on a road's pieces -/
def lrow (L : List (List Int)) (k : Nat) : List Int := L.getD k []
def lD (L : List (List Int)) : PyData := .list (L.map tI)
structure LOk (n : Net) (L : List (List Int)) : Prop where
  len : L.length = n.roads.length
  row : ∀ k, k < n.roads.length → (lrow L k).length = (n.rd k).g.length + 1
  bd : ∀ k, k < n.roads.length → ∀ x ∈ lrow L k, 1 ≤ x ∧ x ≤ 9
theorem lrow_ix {n : Net} {L : List (List Int)} (h : LOk n L) {k : Nat} (hk : k < n.roads.length) : opIx (lD L) (.int (k : Nat)) = .ok (.val (tI (lrow L k))) := by
  have : k < L.length := by rw [h.len]; exact hk
  unfold lD
  rw [opIx_l, atI_nat', List.getElem?_map]
  simp [lrow, this]
theorem lenB_ok {n : Net} {L : List (List Int)} (h : LOk n L) : lenB n (lD L) = true := by
  unfold lenB lD
  simp only [List.length_map, h.len, decide_true, Bool.true_and]
  rw [List.all_eq_true]
  intro p hp
  obtain ⟨k, hk, e⟩ := List.getElem_of_mem hp
  have hk1 : k < n.roads.length := by simp at hk; omega
  have hk2 : k < L.length := by rw [h.len]; exact hk1
  have e1 : p.1 = n.rd k := by rw [← e]; simp [Net.rd, hk1]
  have e2 : p.2 = tI (lrow L k) := by rw [← e]; simp [lrow, hk2]
  rw [e1, e2]
  have h1 := h.row k hk1
  have h2 := h.bd k hk1
  simp only [rowB, tI, List.length_map, h1, decide_true, Bool.true_and]
  rw [List.all_eq_true]
  intro x hx
  obtain ⟨i, hi, rfl⟩ := List.mem_map.mp hx
  have := h2 i hi
  simp [this]
/-! ### times in parts -/
def prts (row lims : List Int) : Int := ((row.zip lims).map fun p => p.1 * (360360 / p.2)).sum
def Net.pt (n : Net) (L : List (List Int)) (k : Nat) (s : Int) : Int := prts (lrow L k) (n.pcs k s)
theorem pcs_bd {n : Net} (h : n.Ok) {k : Nat} (hk : k < n.roads.length) {s : Int} (h0 : 0 ≤ s) (h13 : s ≤ 13) : ∀ x ∈ n.pcs k s, 1 ≤ x ∧ x ≤ 13 := fun x hx => by
  obtain ⟨y, hy, rfl⟩ := List.mem_map.mp hx
  rcases List.mem_cons.mp hy with rfl | hy
  · exact lmt_bd h k h0 h13
  · have := (h.rd hk).g y hy
    exact lmt_bd h k this.1 this.2
/-! ### fractions -/
def frac (p : Int) : PyData := .tuple [.int (p / (Int.gcd p 360360 : Nat)), .int (360360 / (Int.gcd p 360360 : Nat))]
theorem gcd_step (a b : Int) (hb : 0 < b) (ha : 0 ≤ a) : Int.gcd b (a % b) = Int.gcd a b := by
  obtain ⟨m, rfl⟩ := Int.eq_ofNat_of_zero_le ha
  obtain ⟨k, rfl⟩ := Int.eq_ofNat_of_zero_le (Int.le_of_lt hb)
  show Nat.gcd k (m % k) = Nat.gcd m k
  rw [Nat.gcd_comm m k, Nat.gcd_rec k m, Nat.gcd_comm]
theorem gcd_end (a : Int) (ha : 0 ≤ a) : ((Int.gcd a 0 : Nat) : Int) = a := by
  rw [Int.gcd_zero_right]
  omega
def muG (j : Nat) (ρ : Ev) : Nat := match ρ[j]? with
  | some (some (R.val (.int i))) => i.toNat
  | _ => 0
end LW
namespace LW
open PySem PySem.Spec PyProof.Rows L2 DN
/-! ### the best ways by road and state -/
abbrev Ent := (Nat × Int) × (Int × List Nat)
def vlD (v : Int × List Nat) : PyData := .tuple [.int v.1, wD v.2]
def kyE (p : Nat × Int) : List Key := [.inl ((p.1 : Nat) : Int), .inl p.2]
def enE (e : Ent) : List Key × PyData := (kyE e.1, vlD e.2)
theorem kyE_inj {p q : Nat × Int} (e : kyE p = kyE q) : p = q := by
  unfold kyE at e
  injection e with e1 e
  injection e with e2 e
  injection e1 with e1
  injection e2 with e2
  exact Prod.ext (by omega) e2
theorem kyE_asTup (k : Nat) (s : Int) : asTup (.tuple [.int (k : Nat), .int s]) = some (kyE (k, s)) := rfl
theorem kTup_ky (p : Nat × Int) : kTup (kyE p) = plD p := rfl
def mnV (new old : Int × List Nat) : Int × List Nat := if PySem.W.dataLt (vlD old) (vlD new) then old else new
def putM (lv : List Ent) (e : Ent) : List Ent := if (lv.any fun x => decide (x.1 = e.1)) = true then lv.map (fun x => if x.1 = e.1 then (x.1, mnV e.2 x.2) else x) else lv ++ [e]
theorem val_in {lv : List Ent} (hn : (lv.map (·.1)).Nodup) {e : Ent} (h : e ∈ lv) : valP (lv.map enE) (kyE e.1) = some (vlD e.2) := by
  induction lv with
  | nil => cases h
  | cons x xs ih =>
    rw [List.map_cons, List.nodup_cons] at hn
    unfold valP
    rw [List.map_cons]
    rcases List.mem_cons.mp h with rfl | h
    · rw [List.find?_cons_of_pos (by simp [enE])]
      rfl
    · have : x.1 ≠ e.1 := fun z => hn.1 (by rw [z]; exact List.mem_map.mpr ⟨e, h, rfl⟩)
      rw [List.find?_cons_of_neg (by
        exact fun z => this (kyE_inj (of_decide_eq_true z)))]
      exact ih hn.2 h
theorem val_out {lv : List Ent} {p : Nat × Int} (h : p ∉ lv.map (·.1)) : valP (lv.map enE) (kyE p) = none := by
  unfold valP
  rw [List.find?_eq_none.mpr]
  · rfl
  · intro kv hkv
    obtain ⟨e, he, rfl⟩ := List.mem_map.mp hkv
    exact fun z => h (List.mem_map.mpr ⟨e, he, kyE_inj (of_decide_eq_true z)⟩)
theorem any_key (lv : List Ent) (p : Nat × Int) : ((lv.map enE).any fun kv => decide (kv.1 = kyE p)) = lv.any fun x => decide (x.1 = p) := by
  rw [List.any_map]
  congr 1
  funext x
  have : decide (kyE x.1 = kyE p) = decide (x.1 = p) := by
    rw [decide_eq_decide]
    exact ⟨kyE_inj, fun z => by rw [z]⟩
  exact this
theorem any_mem (lv : List Ent) (p : Nat × Int) : (lv.any fun x => decide (x.1 = p)) = true ↔ p ∈ lv.map (·.1) := by
  rw [List.any_eq_true, List.mem_map]
  simp
theorem put_enc {lv : List Ent} (hn : (lv.map (·.1)).Nodup) (e : Ent) : putP (lv.map enE) (kyE e.1) (PySem.W.minD (vlD e.2) [(valP (lv.map enE) (kyE e.1)).getD (vlD e.2)]) = (putM lv e).map enE := by
  unfold putP putM
  rw [any_key]
  by_cases h : (lv.any fun x => decide (x.1 = e.1)) = true
  · rw [if_pos h, if_pos h]
    obtain ⟨y, hy, ey⟩ := List.mem_map.mp ((any_mem lv e.1).mp h)
    have hv := val_in hn hy
    rw [ey] at hv
    rw [hv, List.map_map, List.map_map]
    apply List.map_congr_left
    intro x hx
    show (if (enE x).1 = kyE e.1 then ((enE x).1, _) else enE x) = enE (if x.1 = e.1 then (x.1, mnV e.2 x.2) else x)
    by_cases hk : x.1 = e.1
    · have hxy : x = y := by
        have h1 := val_in hn hx
        rw [hk] at h1
        have : x.1 = y.1 := by rw [hk, ey]
        exact hn_inj hn hx hy this
      rw [if_pos (show (enE x).1 = kyE e.1 from by show kyE x.1 = _; rw [hk]), if_pos hk, hxy]
      unfold mnV
      show (kyE y.1, PySem.W.minD (vlD e.2) [vlD y.2]) = (kyE y.1, vlD _)
      congr 1
      show (if PySem.W.dataLt (vlD y.2) (vlD e.2) then vlD y.2 else vlD e.2) = _
      split <;> rfl
    · rw [if_neg (show ¬ (enE x).1 = kyE e.1 from fun z => hk (kyE_inj z)), if_neg hk]
  · rw [if_neg h, if_neg h]
    have ho := val_out (lv := lv) (p := e.1) fun z => h ((any_mem lv e.1).mpr z)
    rw [ho, List.map_append]
    have : PySem.W.minD (vlD e.2) [vlD e.2] = vlD e.2 := by
      show (if PySem.W.dataLt (vlD e.2) (vlD e.2) then vlD e.2 else vlD e.2) = _
      split <;> rfl
    show _ = lv.map enE ++ [enE e]
    rw [show (Option.getD none (vlD e.2)) = vlD e.2 from rfl, this]
    rfl
where
  hn_inj {lv : List Ent} (hn : (lv.map (·.1)).Nodup) {x y : Ent} (hx : x ∈ lv) (hy : y ∈ lv) (e : x.1 = y.1) : x = y := by
    induction lv with
    | nil => cases hx
    | cons z zs ih =>
      rw [List.map_cons, List.nodup_cons] at hn
      rcases List.mem_cons.mp hx with hx1 | hx1
      · rcases List.mem_cons.mp hy with hy1 | hy1
        · rw [hx1, hy1]
        · exact absurd (List.mem_map.mpr ⟨y, hy1, by rw [← e, hx1]⟩) hn.1
      · rcases List.mem_cons.mp hy with hy1 | hy1
        · exact absurd (List.mem_map.mpr ⟨x, hx1, by rw [e, hy1]⟩) hn.1
        · exact ih hn.2 hx1 hy1
theorem putM_keys (lv : List Ent) (e : Ent) : (putM lv e).map (·.1) = if e.1 ∈ lv.map (·.1) then lv.map (·.1) else lv.map (·.1) ++ [e.1] := by
  unfold putM
  by_cases h : (lv.any fun x => decide (x.1 = e.1)) = true
  · rw [if_pos h, if_pos ((any_mem lv e.1).mp h), List.map_map]
    apply List.map_congr_left
    intro x _
    show (if x.1 = e.1 then (x.1, mnV e.2 x.2) else x).1 = x.1
    split <;> rfl
  · rw [if_neg h, if_neg (fun z => h ((any_mem lv e.1).mpr z)), List.map_append]
    rfl
theorem putM_nodup {lv : List Ent} (hn : (lv.map (·.1)).Nodup) (e : Ent) : ((putM lv e).map (·.1)).Nodup := by
  rw [putM_keys]
  by_cases h : e.1 ∈ lv.map (·.1)
  · rw [if_pos h]; exact hn
  · rw [if_neg h, List.nodup_append]
    refine ⟨hn, by simp, fun a ha b hb => ?_⟩
    rw [List.mem_singleton.mp hb]
    rintro rfl
    exact h ha
theorem putM_mem {lv : List Ent} {e x : Ent} (h : x ∈ putM lv e) : (x ∈ lv ∨ x = e) ∨ (∃ y ∈ lv, x.1 = y.1 ∧ x.1 = e.1 ∧ (x.2 = y.2 ∨ x.2 = e.2)) := by
  unfold putM at h
  by_cases ha : (lv.any fun x => decide (x.1 = e.1)) = true
  · rw [if_pos ha] at h
    obtain ⟨y, hy, rfl⟩ := List.mem_map.mp h
    by_cases hk : y.1 = e.1
    · rw [if_pos hk]
      refine .inr ⟨y, hy, rfl, hk, ?_⟩
      unfold mnV
      split
      · exact .inl rfl
      · exact .inr rfl
    · rw [if_neg hk]
      exact .inl (.inl hy)
  · rw [if_neg ha] at h
    rcases List.mem_append.mp h with z | z
    · exact .inl (.inl z)
    · exact .inl (.inr (List.mem_singleton.mp z))
/-- a level in order -/
structure LvOk (n : Net) (m : Nat) (lv : List Ent) : Prop where
  nd : (lv.map (·.1)).Nodup
  bd : ∀ e ∈ lv, e.1.1 < n.roads.length ∧ 0 ≤ e.1.2 ∧ e.1.2 ≤ 13
  wl : ∀ e ∈ lv, e.2.2.length ≤ m
theorem LvOk.put {n : Net} {m : Nat} {lv : List Ent} (h : LvOk n m lv) {e : Ent} (hb : e.1.1 < n.roads.length ∧ 0 ≤ e.1.2 ∧ e.1.2 ≤ 13) (hw : e.2.2.length ≤ m) : LvOk n m (putM lv e) where
  nd := putM_nodup h.nd e
  bd := fun x hx => by
    rcases putM_mem hx with (z | rfl) | ⟨y, hy, e1, _, _⟩
    · exact h.bd x z
    · exact hb
    · rw [e1]; exact h.bd y hy
  wl := fun x hx => by
    rcases putM_mem hx with (z | rfl) | ⟨y, hy, _, _, z | z⟩
    · exact h.wl x z
    · exact hw
    · rw [z]; exact h.wl y hy
    · rw [z]; exact hw
theorem LvOk.nil (n : Net) (m : Nat) : LvOk n m [] := ⟨List.nodup_nil, fun _ h => (by cases h), fun _ h => (by cases h)⟩
theorem LvOk.len {n : Net} (h : n.Ok) {m : Nat} {lv : List Ent} (hl : LvOk n m lv) : lv.length ≤ 112 := by
  have := nodup_grid hl.nd (fun p hp => by
    obtain ⟨e, he, rfl⟩ := List.mem_map.mp hp
    exact hl.bd e he)
  rw [List.length_map] at this
  have := h.r8
  omega
def Net.stp (n : Net) (L : List (List Int)) (e : Ent) (j : Nat) : Ent := ((j, n.nxt (j, e.1.2)), (e.2.1 + n.pt L j e.1.2, e.2.2 ++ [j]))
def Net.ons (n : Net) (L : List (List Int)) (e : Ent) : List Ent := (n.aft e.1.1).map (n.stp L e)
def Net.go1 (n : Net) (L : List (List Int)) (lv : List Ent) : List Ent := (lv.flatMap (n.ons L)).foldl putM []
theorem nxt_bd {n : Net} (h : n.Ok) {j : Nat} (hj : j < n.roads.length) {s : Int} (h0 : 0 ≤ s) (h13 : s ≤ 13) : 0 ≤ n.nxt (j, s) ∧ n.nxt (j, s) ≤ 13 := by
  have := lv_bd h hj h0 h13
  exact ov_bd n this.1 this.2
theorem fold_ok {n : Net} {m : Nat} : ∀ {es : List Ent} {lv : List Ent}, LvOk n m lv → (∀ e ∈ es, (e.1.1 < n.roads.length ∧ 0 ≤ e.1.2 ∧ e.1.2 ≤ 13) ∧ e.2.2.length ≤ m) → LvOk n m (es.foldl putM lv)
  | [], lv, h, _ => h
  | e :: es, lv, h, he => fold_ok (es := es) (lv := putM lv e) (h.put (he e List.mem_cons_self).1 (he e List.mem_cons_self).2) fun x hx => he x (List.mem_cons_of_mem _ hx)
theorem ons_ok {n : Net} (h : n.Ok) (L : List (List Int)) {m : Nat} {lv : List Ent} (hl : LvOk n m lv) : ∀ e ∈ lv.flatMap (n.ons L), (e.1.1 < n.roads.length ∧ 0 ≤ e.1.2 ∧ e.1.2 ≤ 13) ∧ e.2.2.length ≤ m + 1 := fun x hx => by
  obtain ⟨e, he, hx⟩ := List.mem_flatMap.mp hx
  obtain ⟨j, hj, rfl⟩ := List.mem_map.mp hx
  have hb := hl.bd e he
  have hjl := aft_lt hj
  refine ⟨⟨hjl, nxt_bd h hjl hb.2.1 hb.2.2⟩, ?_⟩
  have := hl.wl e he
  show (e.2.2 ++ [j]).length ≤ m + 1
  simp
  omega
theorem go1_ok {n : Net} (h : n.Ok) (L : List (List Int)) {m : Nat} {lv : List Ent} (hl : LvOk n m lv) : LvOk n (m + 1) (n.go1 L lv) := fold_ok (LvOk.nil n _) (ons_ok h L hl)
theorem vl_ok (v w : Int × List Nat) : minOk [vlD v, vlD w] = true := by
  have key : ∀ v w : List Nat, PySem.W.alikeAll (nI v) (nI w) = true := fun v => by
    induction v with
    | nil => intro w; cases w <;> simp [nI, PySem.W.alikeAll]
    | cons a v ih =>
      intro w
      cases w with
      | nil => simp [nI, PySem.W.alikeAll]
      | cons b w =>
        have := ih w
        simp only [nI, List.map_cons, PySem.W.alikeAll, PySem.W.alike, Bool.true_and] at this ⊢
        exact this
  have al : ∀ v w : Int × List Nat, PySem.W.alike (vlD v) (vlD w) = true := fun v w => by
    have := key v.2 w.2
    simp [vlD, wD, PySem.W.alike, PySem.W.alikeAll, this]
  have de : ∀ v : Int × List Nat, (vlD v).depth ≤ 16 := fun v => by
    have : dOk 2 (vlD v) = true := dOk_tuple (by simp [dOks, wD, dOk, dOks_nI])
    have := (dOk_lay 2 _ this).2
    omega
  unfold minOk
  simp [al, de]
  exact ⟨rfl, rfl⟩
/-! ### the first level -/
def Net.bgE (n : Net) (L : List (List Int)) (k : Nat) : Ent := ((k, n.nxt (k, 0)), (n.pt L k 0, [k]))
def Net.bg (n : Net) (L : List (List Int)) (st : Int) : List Ent := ((List.range n.roads.length).filter fun k => decide ((n.rd k).s = st)).map (n.bgE L)
theorem bg_ok' {n : Net} (h : n.Ok) (L : List (List Int)) {ks : List Nat} (hk : ∀ k ∈ ks, k < n.roads.length) (hn : ks.Nodup) : LvOk n 1 (ks.map (n.bgE L)) where
  nd := by
    rw [List.map_map]
    unfold List.Nodup
    rw [List.pairwise_map]
    exact hn.imp fun {a b} h e => h (congrArg Prod.fst e)
  bd := fun e he => by
    obtain ⟨k, hk', rfl⟩ := List.mem_map.mp he
    exact ⟨hk k hk', nxt_bd h (hk k hk') (by decide) (by decide)⟩
  wl := fun e he => by
    obtain ⟨k, hk', rfl⟩ := List.mem_map.mp he
    exact Nat.le_refl _
theorem bg_ok {n : Net} (h : n.Ok) (L : List (List Int)) (st : Int) : LvOk n 1 (n.bg L st) :=
  bg_ok' h L (fun k hk => by simpa using (List.mem_filter.mp hk).1) (List.nodup_range.filter _)
theorem put_new {lv : List Ent} {e : Ent} (h : e.1 ∉ lv.map (·.1)) : putP (lv.map enE) (kyE e.1) (vlD e.2) = (lv ++ [e]).map enE := by
  unfold putP
  rw [any_key, if_neg (fun z => h ((any_mem lv e.1).mp z)), List.map_append]
  rfl
/-! ### all levels, and what is found -/
def Net.lvl (n : Net) (L : List (List Int)) (st : Int) : Nat → List Ent
  | 0 => n.bg L st
  | m + 1 => n.go1 L (n.lvl L st m)
theorem lvl_ok {n : Net} (h : n.Ok) (L : List (List Int)) (st : Int) : ∀ m, LvOk n (m + 1) (n.lvl L st m)
  | 0 => bg_ok h L st
  | m + 1 => go1_ok h L (lvl_ok h L st m)
abbrev Fnd := Int × Int × List Nat
def ftD (t : Fnd) : PyData := .tuple [.int t.1, .int t.2.1, wD t.2.2]
def Net.fnL (n : Net) (L : List (List Int)) (st en : Int) (i : Nat) : List Fnd := ((n.lvl L st i).filter fun e => decide ((n.rd e.1.1).e = en)).map fun e => (e.2.1, ((i + 1 : Nat) : Int), e.2.2)
def Net.fnd (n : Net) (L : List (List Int)) (st en : Int) (m : Nat) : List Fnd := (List.range m).flatMap (n.fnL L st en)
def minT (x : Fnd) (xs : List Fnd) : Fnd := xs.foldl (fun a y => if PySem.W.dataLt (ftD y) (ftD a) then y else a) x
theorem minT_enc : ∀ (xs : List Fnd) (x : Fnd), PySem.W.minD (ftD x) (xs.map ftD) = ftD (minT x xs)
  | [], x => rfl
  | y :: ys, x => by
    show PySem.W.minD (if PySem.W.dataLt (ftD y) (ftD x) then ftD y else ftD x) (ys.map ftD) = ftD (minT (if PySem.W.dataLt (ftD y) (ftD x) then y else x) ys)
    rw [← minT_enc ys]
    split <;> rfl
def minF : List Fnd → Option Fnd
  | [] => none
  | x :: xs => some (minT x xs)
def Net.qk (n : Net) (L : List (List Int)) (st en : Int) : Option Fnd := minF (n.fnd L st en 20)
def qkD : Option Fnd → PyData
  | none => .none
  | some t => ftD t
theorem ft_ok (ts : List Fnd) : minOk (ts.map ftD) = true := by
  have key : ∀ v w : List Nat, PySem.W.alikeAll (nI v) (nI w) = true := fun v => by
    induction v with
    | nil => intro w; cases w <;> simp [nI, PySem.W.alikeAll]
    | cons a v ih =>
      intro w
      cases w with
      | nil => simp [nI, PySem.W.alikeAll]
      | cons b w =>
        have := ih w
        simp only [nI, List.map_cons, PySem.W.alikeAll, PySem.W.alike, Bool.true_and] at this ⊢
        exact this
  have al : ∀ v w : Fnd, PySem.W.alike (ftD v) (ftD w) = true := fun v w => by
    have := key v.2.2 w.2.2
    simp [ftD, wD, PySem.W.alike, PySem.W.alikeAll, this]
  have de : ∀ v : Fnd, (ftD v).depth ≤ 16 := fun v => by
    have : dOk 2 (ftD v) = true := dOk_tuple (by simp [dOks, wD, dOk, dOks_nI])
    have := (dOk_lay 2 _ this).2
    omega
  unfold minOk
  simp only [List.all_map, Bool.and_eq_true, List.all_eq_true]
  refine ⟨⟨fun x _ => ?_, fun x _ => rfl⟩, fun x _ => ?_⟩
  · show ts.all (fun e => PySem.W.alike (ftD x) (ftD e)) = true
    exact List.all_eq_true.mpr fun y _ => al x y
  · exact decide_eq_true (de x)
theorem fnL_len {n : Net} (h : n.Ok) (L : List (List Int)) (st en : Int) (i : Nat) : (n.fnL L st en i).length ≤ 112 := by
  unfold Net.fnL
  rw [List.length_map]
  exact Nat.le_trans (List.length_filter_le _ _) ((lvl_ok h L st i).len h)
theorem fnd_len {n : Net} (h : n.Ok) (L : List (List Int)) (st en : Int) (m : Nat) : (n.fnd L st en m).length ≤ m * 112 := by
  have := flat_len (f := n.fnL L st en) (xs := List.range m) (c := 112) (fun i _ => fnL_len h L st en i)
  rw [List.length_range] at this
  exact this
theorem dOks_ft (ts : List Fnd) : dOks 2 (ts.map ftD) = true := dOks_map fun t _ => dOk_tuple (by simp [dOks, wD, dOk, dOks_nI])
/-- range(1, 21) -/
theorem rg20 : rg2 [.int 1, .int 21] = .ok ((List.range 20).map fun i => PyData.int (((i + 1 : Nat)) : Int)) := rg2_one (n := 21) (by decide)
end LW
namespace LW
open PySem PySem.Spec PyProof.Rows L2 DN
/-! ### the order of times and ways -/
def ltW : List Nat → List Nat → Bool
  | [], [] => false
  | [], _ :: _ => true
  | _ :: _, [] => false
  | a :: v, b :: w => if a = b then ltW v w else decide (a < b)
theorem ltW_irrefl : ∀ v : List Nat, ltW v v = false
  | [] => rfl
  | a :: v => by simp [ltW, ltW_irrefl v]
theorem ltW_trans : ∀ {u v w : List Nat}, ltW u v = true → ltW v w = true → ltW u w = true
  | [], [], _, h, _ => by cases h
  | [], b :: v, [], _, g => by cases g
  | [], b :: v, c :: w, _, _ => rfl
  | a :: u, [], _, h, _ => by cases h
  | a :: u, b :: v, [], _, g => by cases g
  | a :: u, b :: v, c :: w, h, g => by
    unfold ltW at h g ⊢
    by_cases e1 : a = b
    · subst e1
      rw [if_pos rfl] at h
      by_cases e2 : a = c
      · subst e2
        rw [if_pos rfl] at g ⊢
        exact ltW_trans h g
      · rw [if_neg e2] at g ⊢
        exact g
    · rw [if_neg e1] at h
      have h := of_decide_eq_true h
      by_cases e2 : b = c
      · subst e2
        rw [if_neg e1]
        exact decide_eq_true h
      · rw [if_neg e2] at g
        have g := of_decide_eq_true g
        rw [if_neg (by omega)]
        exact decide_eq_true (by omega)
theorem ltW_tri : ∀ {v w : List Nat}, ltW v w = false → ltW w v = false → v = w
  | [], [], _, _ => rfl
  | [], b :: w, h, _ => by cases h
  | a :: v, [], _, g => by cases g
  | a :: v, b :: w, h, g => by
    unfold ltW at h g
    by_cases e : a = b
    · subst e
      rw [if_pos rfl] at h g
      rw [ltW_tri h g]
    · rw [if_neg e] at h
      rw [if_neg (Ne.symm e)] at g
      have h := of_decide_eq_false h
      have g := of_decide_eq_false g
      omega
theorem lt_wD : ∀ v w : List Nat, PySem.W.dataLt (wD v) (wD w) = ltW v w := by
  have base : PyProof.Rows.lexLt PyProof.Rows.itemOrd (PySem.W.keyToksAll []) (PySem.W.keyToksAll []) = false := PyProof.Rows.lex_irrefl (O := PyProof.Rows.itemOrd) _
  intro v
  induction v with
  | nil =>
    intro w
    cases w with
    | nil =>
      show PySem.W.dataLt (.tuple []) (.tuple []) = false
      rw [PySem.W.dataLt_tuple]
      exact base
    | cons b w =>
      show PySem.W.dataLt (.tuple []) (.tuple (.int (b : Nat) :: nI w)) = true
      rw [PySem.W.dataLt_tuple, PySem.W.toks_all_cons, PySem.W.keyToksAll, PyProof.Rows.lex_diff (O := PyProof.Rows.itemOrd) (by intro z; injection z with z; cases z)]
      rfl
  | cons a v ih =>
    intro w
    cases w with
    | nil =>
      show PySem.W.dataLt (.tuple (.int (a : Nat) :: nI v)) (.tuple []) = false
      rw [PySem.W.dataLt_tuple, PySem.W.toks_all_cons, PySem.W.keyToksAll, PyProof.Rows.lex_diff (O := PyProof.Rows.itemOrd) (by intro z; injection z with z; cases z)]
      rfl
    | cons b w =>
      show PySem.W.dataLt (.tuple (.int (a : Nat) :: nI v)) (.tuple (.int (b : Nat) :: nI w)) = ltW (a :: v) (b :: w)
      have ih := ih w
      unfold wD at ih
      rw [PySem.W.dataLt_tuple] at ih ⊢
      unfold ltW
      by_cases e : a = b
      · subst e
        rw [if_pos rfl, PySem.W.dataLt_all_yes (by simp [PySem.W.alike]) (by simp [PyData.eqv])]
        exact ih
      · rw [if_neg e, PySem.W.dataLt_all_no (by simp [PySem.W.alike]) (by simp [PyData.eqv]; omega), PySem.W.dataLt_int]
        rw [decide_eq_decide]
        omega
theorem wD_alike (v w : List Nat) : PySem.W.alike (wD v) (wD w) = true := by
  have key : ∀ v w : List Nat, PySem.W.alikeAll (nI v) (nI w) = true := fun v => by
    induction v with
    | nil => intro w; cases w <;> simp [nI, PySem.W.alikeAll]
    | cons a v ih =>
      intro w
      cases w with
      | nil => simp [nI, PySem.W.alikeAll]
      | cons b w =>
        have := ih w
        simp only [nI, List.map_cons, PySem.W.alikeAll, PySem.W.alike, Bool.true_and] at this ⊢
        exact this
  have := key v w
  simp [wD, PySem.W.alike, this]
theorem lt_last (v w : List Nat) : PyProof.Rows.lexLt PyProof.Rows.itemOrd (PySem.W.keyToksAll [wD v]) (PySem.W.keyToksAll [wD w]) = ltW v w := by
  by_cases e : v = w
  · subst e
    rw [ltW_irrefl]
    exact PyProof.Rows.lex_irrefl (O := PyProof.Rows.itemOrd) _
  · have : PyData.eqv (wD v) (wD w) = false := by
      cases h : PyData.eqv (wD v) (wD w) with
      | false => rfl
      | true => exact absurd (wD_inj ((eqv_pur _ _ (pur_wD v) (pur_wD w)).mp h)) e
    rw [PySem.W.dataLt_all_no (wD_alike v w) this, lt_wD]
def ltV (a b : Int × List Nat) : Bool := if a.1 = b.1 then ltW a.2 b.2 else decide (a.1 < b.1)
theorem lt_vl (a b : Int × List Nat) : PySem.W.dataLt (vlD a) (vlD b) = ltV a b := by
  unfold vlD ltV
  rw [PySem.W.dataLt_tuple]
  by_cases e : a.1 = b.1
  · rw [if_pos e, e, PySem.W.dataLt_all_yes (by simp [PySem.W.alike]) (by simp [PyData.eqv]), lt_last]
  · rw [if_neg e, PySem.W.dataLt_all_no (by simp [PySem.W.alike]) (by simpa [PyData.eqv] using e), PySem.W.dataLt_int]
def ltF (a b : Fnd) : Bool := if a.1 = b.1 then (if a.2.1 = b.2.1 then ltW a.2.2 b.2.2 else decide (a.2.1 < b.2.1)) else decide (a.1 < b.1)
theorem lt_ft (a b : Fnd) : PySem.W.dataLt (ftD a) (ftD b) = ltF a b := by
  unfold ftD ltF
  rw [PySem.W.dataLt_tuple]
  by_cases e : a.1 = b.1
  · rw [if_pos e, e, PySem.W.dataLt_all_yes (by simp [PySem.W.alike]) (by simp [PyData.eqv])]
    by_cases e2 : a.2.1 = b.2.1
    · rw [if_pos e2, e2, PySem.W.dataLt_all_yes (by simp [PySem.W.alike]) (by simp [PyData.eqv]), lt_last]
    · rw [if_neg e2, PySem.W.dataLt_all_no (by simp [PySem.W.alike]) (by simpa [PyData.eqv] using e2), PySem.W.dataLt_int]
  · rw [if_neg e, PySem.W.dataLt_all_no (by simp [PySem.W.alike]) (by simpa [PyData.eqv] using e), PySem.W.dataLt_int]
/-! ### the same, reckoned -/
def mnV' (new old : Int × List Nat) : Int × List Nat := if ltV old new = true then old else new
theorem mnV_eq : mnV = mnV' := by
  funext a b
  unfold mnV mnV'
  rw [lt_vl]
def putM' (lv : List Ent) (e : Ent) : List Ent := if (lv.any fun x => decide (x.1 = e.1)) = true then lv.map (fun x => if x.1 = e.1 then (x.1, mnV' e.2 x.2) else x) else lv ++ [e]
theorem putM_eq : putM = putM' := by
  funext lv e
  unfold putM putM'
  rw [mnV_eq]
def Net.lvl' (n : Net) (L : List (List Int)) (st : Int) : Nat → List Ent
  | 0 => n.bg L st
  | m + 1 => ((n.lvl' L st m).flatMap (n.ons L)).foldl putM' []
theorem lvl_eq (n : Net) (L : List (List Int)) (st : Int) : ∀ m, n.lvl L st m = n.lvl' L st m
  | 0 => rfl
  | m + 1 => by
    show ((n.lvl L st m).flatMap (n.ons L)).foldl putM [] = _
    rw [lvl_eq n L st m, putM_eq]
    rfl
def minT' (x : Fnd) (xs : List Fnd) : Fnd := xs.foldl (fun a y => if ltF y a = true then y else a) x
theorem minT_eq : minT = minT' := by
  funext x xs
  unfold minT minT'
  congr 1
  funext a y
  rw [lt_ft]
def minF' : List Fnd → Option Fnd
  | [] => none
  | x :: xs => some (minT' x xs)
theorem minF_eq : minF = minF' := by
  funext xs
  cases xs with
  | nil => rfl
  | cons x xs => simp only [minF, minF', minT_eq]
def Net.qk' (n : Net) (L : List (List Int)) (st en : Int) : Option Fnd := minF' ((List.range 20).flatMap fun i => ((n.lvl' L st i).filter fun e => decide ((n.rd e.1.1).e = en)).map fun e => (e.2.1, ((i + 1 : Nat) : Int), e.2.2))
theorem qk_eq (n : Net) (L : List (List Int)) (st en : Int) : n.qk L st en = n.qk' L st en := by
  unfold Net.qk Net.qk' Net.fnd Net.fnL
  rw [minF_eq]
  congr 1
  congr 1
  funext i
  rw [lvl_eq]
/-! ### the time of a way -/
def Net.tm (n : Net) (L : List (List Int)) (r : List Nat) : Int := ((List.range r.length).map fun i => n.pt L (wk r i) (n.sB r i)).sum
theorem sum_nonneg : ∀ {xs : List Int}, (∀ x ∈ xs, 0 ≤ x) → 0 ≤ xs.sum
  | [], _ => Int.le_refl _
  | x :: xs, h => by
    have := h x List.mem_cons_self
    have := sum_nonneg (xs := xs) fun y hy => h y (List.mem_cons_of_mem _ hy)
    rw [List.sum_cons]
    omega
theorem pt_pos {n : Net} (h : n.Ok) {L : List (List Int)} (hL : LOk n L) {k : Nat} (hk : k < n.roads.length) {s : Int} (h0 : 0 ≤ s) (h13 : s ≤ 13) : 0 < n.pt L k s := by
  have hb := pcs_bd h hk h0 h13
  have hr := hL.bd k hk
  have hl := hL.row k hk
  have hp := pcs_len n k s
  unfold Net.pt prts
  have pos : ∀ p ∈ (lrow L k).zip (n.pcs k s), 0 < p.1 * (360360 / p.2) := fun p hp => by
    have hm := List.of_mem_zip hp
    have h1 := hr _ hm.1
    have h2 := hb _ hm.2
    have : (360360 : Int) / 13 ≤ 360360 / p.2 := by
      have hc : p.2 = 1 ∨ p.2 = 2 ∨ p.2 = 3 ∨ p.2 = 4 ∨ p.2 = 5 ∨ p.2 = 6 ∨ p.2 = 7 ∨ p.2 = 8 ∨ p.2 = 9 ∨ p.2 = 10 ∨ p.2 = 11 ∨ p.2 = 12 ∨ p.2 = 13 := by omega
      rcases hc with e | e | e | e | e | e | e | e | e | e | e | e | e <;> rw [e] <;> decide
    exact Int.mul_pos (by omega) (by omega)
  cases hz : (lrow L k).zip (n.pcs k s) with
  | nil =>
    exfalso
    have := congrArg List.length hz
    rw [List.length_zip, hl, hp] at this
    simp at this
  | cons p ps =>
    rw [hz] at pos
    rw [List.map_cons, List.sum_cons]
    have h1 := pos p List.mem_cons_self
    have h2 : 0 ≤ (ps.map fun p => p.1 * (360360 / p.2)).sum := sum_nonneg fun x hx => by
      obtain ⟨q, hq, rfl⟩ := List.mem_map.mp hx
      exact Int.le_of_lt (pos q (List.mem_cons_of_mem _ hq))
    omega
theorem sB_bd {n : Net} (h : n.Ok) {r : List Nat} (hr : n.Way r) : ∀ {i : Nat}, i ≤ r.length → 0 ≤ n.sB r i ∧ n.sB r i ≤ 13
  | 0, _ => ⟨Int.le_refl _, by show (0 : Int) ≤ 13; decide⟩
  | i + 1, hi => by
    have ih := sB_bd h hr (i := i) (by omega)
    exact nxt_bd h (hr.lt _ (getD_mem (by omega))) ih.1 ih.2
theorem tm_nonneg {n : Net} (h : n.Ok) {L : List (List Int)} (hL : LOk n L) {r : List Nat} (hr : n.Way r) : 0 ≤ n.tm L r := sum_nonneg fun x hx => by
  obtain ⟨i, hi, rfl⟩ := List.mem_map.mp hx
  have hi : i < r.length := by simpa using hi
  have hb := sB_bd h hr (i := i) (by omega)
  exact Int.le_of_lt (pt_pos h hL (hr.lt _ (getD_mem hi)) hb.1 hb.2)
theorem fold_val {P : Ent → Prop} (hP : ∀ x y : Ent, x.1 = y.1 → P y → P (x.1, y.2)) : ∀ {es lv : List Ent}, (∀ e ∈ lv, P e) → (∀ e ∈ es, P e) → ∀ e ∈ es.foldl putM lv, P e
  | [], lv, h, _ => h
  | e :: es, lv, h, he => fold_val hP (es := es) (lv := putM lv e) (fun x hx => by
      rcases putM_mem hx with (z | rfl) | ⟨y, hy, e1, e2, z | z⟩
      · exact h x z
      · exact he _ List.mem_cons_self
      · have := hP x y e1 (h y hy)
        rw [← z] at this
        exact this
      · have := hP x e e2 (he _ List.mem_cons_self)
        rw [← z] at this
        exact this) fun x hx => he x (List.mem_cons_of_mem _ hx)
theorem lvl_nonneg {n : Net} (h : n.Ok) {L : List (List Int)} (hL : LOk n L) (st : Int) : ∀ (m : Nat), ∀ e ∈ n.lvl L st m, 0 ≤ e.2.1
  | 0, e, he => by
    obtain ⟨k, hk, rfl⟩ := List.mem_map.mp he
    have hk : k < n.roads.length := by simpa using (List.mem_filter.mp hk).1
    exact Int.le_of_lt (pt_pos h hL hk (by decide) (by decide))
  | m + 1, e, he => by
    refine fold_val (P := fun e => 0 ≤ e.2.1) (fun x y _ q => q) (fun _ z => (by cases z)) (fun x hx => ?_) e he
    obtain ⟨y, hy, hx⟩ := List.mem_flatMap.mp hx
    obtain ⟨j, hj, rfl⟩ := List.mem_map.mp hx
    have hb := (lvl_ok h L st m).bd y hy
    have := lvl_nonneg h hL st m y hy
    have := pt_pos h hL (aft_lt hj) hb.2.1 hb.2.2
    show 0 ≤ y.2.1 + n.pt L j y.1.2
    omega
theorem minT_mem : ∀ (xs : List Fnd) (x : Fnd), minT x xs ∈ x :: xs
  | [], x => List.mem_cons_self
  | y :: ys, x => by
    show minT (if PySem.W.dataLt (ftD y) (ftD x) then y else x) ys ∈ _
    have := minT_mem ys (if PySem.W.dataLt (ftD y) (ftD x) then y else x)
    rcases List.mem_cons.mp this with z | z
    · rw [z]
      split
      · exact List.mem_cons_of_mem _ List.mem_cons_self
      · exact List.mem_cons_self
    · exact List.mem_cons_of_mem _ (List.mem_cons_of_mem _ z)
theorem qk_mem {n : Net} {L : List (List Int)} {st en : Int} {t : Fnd} (h : n.qk L st en = some t) : t ∈ n.fnd L st en 20 := by
  unfold Net.qk at h
  cases hf : n.fnd L st en 20 with
  | nil => rw [hf] at h; cases h
  | cons x xs =>
    rw [hf] at h
    injection h with h
    rw [← h]
    exact minT_mem xs x
theorem qk_nonneg {n : Net} (h : n.Ok) {L : List (List Int)} (hL : LOk n L) {st en : Int} {t : Fnd} (ht : n.qk L st en = some t) : 0 ≤ t.1 := by
  obtain ⟨i, hi, hx⟩ := List.mem_flatMap.mp (qk_mem ht)
  obtain ⟨e, he, rfl⟩ := List.mem_map.mp hx
  exact lvl_nonneg h hL st i e (List.mem_filter.mp he).1
end LW
namespace LW
open PySem PySem.Spec PyProof.Rows L2 DN
/-! ### orders -/
theorem ltV_irrefl (a : Int × List Nat) : ltV a a = false := by
  unfold ltV
  rw [if_pos rfl]
  exact ltW_irrefl _
theorem ltV_trans {a b c : Int × List Nat} (h : ltV a b = true) (g : ltV b c = true) : ltV a c = true := by
  unfold ltV at *
  by_cases e1 : a.1 = b.1
  · rw [if_pos e1] at h
    by_cases e2 : b.1 = c.1
    · rw [if_pos e2] at g
      rw [if_pos (e1.trans e2)]
      exact ltW_trans h g
    · rw [if_neg e2] at g
      rw [if_neg (by omega)]
      have := of_decide_eq_true g
      exact decide_eq_true (by omega)
  · rw [if_neg e1] at h
    have h := of_decide_eq_true h
    by_cases e2 : b.1 = c.1
    · rw [if_neg (by omega)]
      exact decide_eq_true (by omega)
    · rw [if_neg e2] at g
      have g := of_decide_eq_true g
      rw [if_neg (by omega)]
      exact decide_eq_true (by omega)
theorem ltV_tri {a b : Int × List Nat} (h : ltV a b = false) (g : ltV b a = false) : a = b := by
  unfold ltV at *
  by_cases e : a.1 = b.1
  · rw [if_pos e] at h
    rw [if_pos e.symm] at g
    exact Prod.ext e (ltW_tri h g)
  · rw [if_neg e] at h
    rw [if_neg (Ne.symm e)] at g
    have := of_decide_eq_false h
    have := of_decide_eq_false g
    omega
/-- not greater -/
def leV (a b : Int × List Nat) : Prop := ltV b a = false
theorem leV_refl (a : Int × List Nat) : leV a a := ltV_irrefl a
theorem leV_trans {a b c : Int × List Nat} (h : leV a b) (g : leV b c) : leV a c := by
  unfold leV at *
  cases hc : ltV c a with
  | false => rfl
  | true =>
    cases hb : ltV b c with
    | true =>
      have := ltV_trans hb hc
      rw [h] at this
      cases this
    | false =>
      have := ltV_tri hb g
      rw [this, hc] at h
      cases h
theorem mnV_le (new old : Int × List Nat) : leV (mnV new old) new ∧ leV (mnV new old) old := by
  rw [mnV_eq]
  unfold mnV' leV
  cases h : ltV old new with
  | true =>
    rw [if_pos rfl]
    refine ⟨?_, ltV_irrefl _⟩
    cases g : ltV new old with
    | false => rfl
    | true =>
      have := ltV_trans g h
      rw [ltV_irrefl] at this
      cases this
  | false =>
    rw [if_neg (by decide)]
    exact ⟨ltV_irrefl _, h⟩
theorem ltW_app : ∀ {v w : List Nat} (j : Nat), v.length = w.length → ltW v w = false → ltW (v ++ [j]) (w ++ [j]) = false
  | [], [], j, _, _ => by simp [ltW]
  | [], b :: w, j, h, _ => by simp at h
  | a :: v, [], j, h, _ => by simp at h
  | a :: v, b :: w, j, h, g => by
    unfold ltW at g
    show (if a = b then ltW (v ++ [j]) (w ++ [j]) else decide (a < b)) = false
    by_cases e : a = b
    · rw [if_pos e] at g ⊢
      exact ltW_app j (by simpa using h) g
    · rw [if_neg e] at g ⊢
      exact g
theorem leV_app {a b : Int × List Nat} (h : leV a b) (hl : a.2.length = b.2.length) (x : Int) (j : Nat) : leV (a.1 + x, a.2 ++ [j]) (b.1 + x, b.2 ++ [j]) := by
  unfold leV ltV at *
  by_cases e : b.1 = a.1
  · rw [if_pos e] at h
    rw [if_pos (by show b.1 + x = a.1 + x; omega)]
    exact ltW_app j hl.symm h
  · rw [if_neg e] at h
    have := of_decide_eq_false h
    rw [if_neg (by show ¬ b.1 + x = a.1 + x; omega)]
    exact decide_eq_false (by show ¬ b.1 + x < a.1 + x; omega)
/-! ### entries only fall -/
theorem putM_old {lv : List Ent} {x : Ent} (h : x ∈ lv) (e : Ent) : ∃ y ∈ putM lv e, y.1 = x.1 ∧ leV y.2 x.2 := by
  unfold putM
  by_cases ha : (lv.any fun x => decide (x.1 = e.1)) = true
  · rw [if_pos ha]
    refine ⟨_, List.mem_map.mpr ⟨x, h, rfl⟩, ?_⟩
    by_cases hk : x.1 = e.1
    · rw [if_pos hk]
      exact ⟨rfl, (mnV_le e.2 x.2).2⟩
    · rw [if_neg hk]
      exact ⟨rfl, leV_refl _⟩
  · rw [if_neg ha]
    exact ⟨x, List.mem_append_left _ h, rfl, leV_refl _⟩
theorem putM_new (lv : List Ent) (e : Ent) : ∃ y ∈ putM lv e, y.1 = e.1 ∧ leV y.2 e.2 := by
  unfold putM
  by_cases ha : (lv.any fun x => decide (x.1 = e.1)) = true
  · rw [if_pos ha]
    obtain ⟨x, hx, ex⟩ := List.mem_map.mp ((any_mem lv e.1).mp ha)
    refine ⟨_, List.mem_map.mpr ⟨x, hx, rfl⟩, ?_⟩
    rw [if_pos ex]
    exact ⟨ex, (mnV_le e.2 x.2).1⟩
  · rw [if_neg ha]
    exact ⟨e, List.mem_append_right _ List.mem_cons_self, rfl, leV_refl _⟩
theorem fold_old : ∀ {es lv : List Ent} {x : Ent}, x ∈ lv → ∃ y ∈ es.foldl putM lv, y.1 = x.1 ∧ leV y.2 x.2
  | [], lv, x, h => ⟨x, h, rfl, leV_refl _⟩
  | e :: es, lv, x, h => by
    obtain ⟨y, hy, e1, l1⟩ := putM_old h e
    obtain ⟨z, hz, e2, l2⟩ := fold_old (es := es) hy
    exact ⟨z, hz, e2.trans e1, leV_trans l2 l1⟩
theorem fold_new : ∀ {es lv : List Ent} {e : Ent}, e ∈ es → ∃ y ∈ es.foldl putM lv, y.1 = e.1 ∧ leV y.2 e.2
  | d :: es, lv, e, h => by
    rcases List.mem_cons.mp h with rfl | h
    · obtain ⟨y, hy, e1, l1⟩ := putM_new lv e
      obtain ⟨z, hz, e2, l2⟩ := fold_old (es := es) hy
      exact ⟨z, hz, e2.trans e1, leV_trans l2 l1⟩
    · exact fold_new (es := es) h
/-! ### ways and levels -/
theorem tm_app {n : Net} {L : List (List Int)} {w : List Nat} (hw : w ≠ []) (j : Nat) : n.tm L (w ++ [j]) = n.tm L w + n.pt L j (n.nxt (n.key w)) := by
  have hp : 0 < w.length := List.length_pos_iff.mpr hw
  unfold Net.tm
  rw [List.length_append, List.length_singleton, List.range_succ, List.map_append, List.sum_append]
  congr 1
  · congr 1
    apply List.map_congr_left
    intro i hi
    have hi : i < w.length := by simpa using hi
    rw [wk_app hi, sB_app n (by omega)]
  · rw [List.map_cons, List.map_nil, List.sum_cons, List.sum_nil, Int.add_zero]
    have e1 : wk (w ++ [j]) w.length = j := by simp [wk]
    have e2 : n.sB (w ++ [j]) w.length = n.nxt (n.key w) := by
      rw [sB_app n (Nat.le_refl _)]
      obtain ⟨m, hm⟩ : ∃ m, w.length = m + 1 := ⟨w.length - 1, by omega⟩
      have : n.sB w w.length = n.ov (n.lv (wk w (w.length - 1)) (n.sB w (w.length - 1))) := by
        rw [hm]
        rfl
      rw [this, wk_last hw]
      rfl
    rw [e1, e2]
theorem tm_one (n : Net) (L : List (List Int)) (k : Nat) : n.tm L [k] = n.pt L k 0 := by
  unfold Net.tm
  simp [wk, Net.sB]
/-- begins at the junction -/
def Net.Fro (n : Net) (st : Int) (w : List Nat) : Prop := n.Way w ∧ (n.rd (w.headD 0)).s = st
theorem way_app {n : Net} {w : List Nat} (h : n.Way w) {j : Nat} (hj : j ∈ n.aft (w.getLastD 0)) : n.Way (w ++ [j]) := ext_way h (List.mem_map.mpr ⟨j, hj, rfl⟩)
theorem way_one {n : Net} {k : Nat} (hk : k < n.roads.length) : n.Way [k] := (lev_way (t := 0) (List.mem_map.mpr ⟨k, by simpa using hk, rfl⟩)).1
/-- all but the last road of a way -/
theorem way_drop {n : Net} {w : List Nat} {j : Nat} (h : n.Way (w ++ [j])) (hw : w ≠ []) : n.Way w ∧ j ∈ n.aft (w.getLastD 0) := by
  have hp : 0 < w.length := List.length_pos_iff.mpr hw
  refine ⟨⟨hw, fun k hk => h.lt k (List.mem_append_left _ hk), fun i a b ha hb => h.link i a b ?_ ?_⟩, ?_⟩
  · rw [List.getElem?_append_left (List.getElem?_eq_some_iff.mp ha).1]; exact ha
  · rw [List.getElem?_append_left (List.getElem?_eq_some_iff.mp hb).1]; exact hb
  · refine List.mem_filter.mpr ⟨by simpa using h.lt j (by simp), ?_⟩
    have := h.link (w.length - 1) (w.getLastD 0) j (by
      rw [List.getElem?_append_left (by omega), List.getLastD_eq_getLast?, List.getLast?_eq_getElem?]
      rw [List.getElem?_eq_getElem (by omega)]
      rfl) (by
      rw [show w.length - 1 + 1 = w.length by omega]
      simp)
    exact decide_eq_true this.symm
structure LvIs (n : Net) (L : List (List Int)) (st : Int) (m : Nat) (lv : List Ent) : Prop where
  is_ : ∀ e ∈ lv, n.Fro st e.2.2 ∧ e.2.2.length = m + 1 ∧ e.1 = (e.2.2.getLastD 0, n.nxt (n.key e.2.2)) ∧ e.2.1 = n.tm L e.2.2
  all_ : ∀ w, n.Fro st w → w.length = m + 1 → ∃ e ∈ lv, e.1 = (w.getLastD 0, n.nxt (n.key w)) ∧ leV e.2 (n.tm L w, w)
theorem lvl_is {n : Net} (L : List (List Int)) (st : Int) : ∀ m, LvIs n L st m (n.lvl L st m)
  | 0 => by
    refine ⟨fun e he => ?_, fun w hw hl => ?_⟩
    · obtain ⟨k, hk, rfl⟩ := List.mem_map.mp he
      obtain ⟨h1, h2⟩ := List.mem_filter.mp hk
      have h1 : k < n.roads.length := by simpa using h1
      exact ⟨⟨way_one h1, of_decide_eq_true h2⟩, rfl, rfl, (tm_one n L k).symm⟩
    · obtain ⟨k, rfl⟩ : ∃ k, w = [k] := List.length_eq_one_iff.mp hl
      have hk : k < n.roads.length := hw.1.lt k List.mem_cons_self
      refine ⟨n.bgE L k, List.mem_map.mpr ⟨k, List.mem_filter.mpr ⟨by simpa using hk, by simpa using hw.2⟩, rfl⟩, rfl, ?_⟩
      rw [tm_one]
      exact leV_refl _
  | m + 1 => by
    have ih := lvl_is (n := n) L st m
    refine ⟨fun e he => ?_, fun w hw hl => ?_⟩
    · refine fold_val (P := fun e => n.Fro st e.2.2 ∧ e.2.2.length = m + 1 + 1 ∧ e.1 = (e.2.2.getLastD 0, n.nxt (n.key e.2.2)) ∧ e.2.1 = n.tm L e.2.2) (fun x y hxy hy => by
        show n.Fro st y.2.2 ∧ _ ∧ x.1 = _ ∧ _
        rw [hxy]
        exact hy) (fun _ z => (by cases z)) (fun x hx => ?_) e he
      obtain ⟨y, hy, hx⟩ := List.mem_flatMap.mp hx
      obtain ⟨j, hj, rfl⟩ := List.mem_map.mp hx
      obtain ⟨⟨h1, h2⟩, h3, h4, h5⟩ := ih.is_ y hy
      have hne := h1.ne
      have ek : y.1.1 = y.2.2.getLastD 0 := by rw [h4]
      have es : y.1.2 = n.nxt (n.key y.2.2) := by rw [h4]
      rw [ek] at hj
      refine ⟨⟨way_app h1 hj, ?_⟩, by show (y.2.2 ++ [j]).length = _; simp [h3], ?_, ?_⟩
      · show (n.rd ((y.2.2 ++ [j]).headD 0)).s = st
        cases hy2 : y.2.2 with
        | nil => exact absurd hy2 hne
        | cons a b => rw [hy2] at h2; exact h2
      · show (j, n.nxt (j, y.1.2)) = ((y.2.2 ++ [j]).getLastD 0, n.nxt (n.key (y.2.2 ++ [j])))
        rw [last_app, key_app n hne, es]
      · show y.2.1 + n.pt L j y.1.2 = n.tm L (y.2.2 ++ [j])
        rw [tm_app hne, h5, es]
    · have hne : w ≠ [] := hw.1.ne
      obtain ⟨v, j, rfl⟩ : ∃ v j, w = v ++ [j] := ⟨w.dropLast, w.getLast hne, (List.dropLast_concat_getLast hne).symm⟩
      have hvl : v.length = m + 1 := by simpa using hl
      have hvne : v ≠ [] := fun z => by rw [z] at hvl; simp at hvl
      obtain ⟨hv, hj⟩ := way_drop hw.1 hvne
      have hvs : n.Fro st v := ⟨hv, by
        have := hw.2
        cases hv2 : v with
        | nil => exact absurd hv2 hvne
        | cons a b => rw [hv2] at this; exact this⟩
      obtain ⟨e, he, ek, el⟩ := ih.all_ v hvs hvl
      obtain ⟨⟨h1, h2⟩, h3, h4, h5⟩ := ih.is_ e he
      have ek1 : e.1.1 = v.getLastD 0 := by rw [ek]
      have ek2 : e.1.2 = n.nxt (n.key v) := by rw [ek]
      obtain ⟨y, hy, ey, ly⟩ := fold_new (es := (n.lvl L st m).flatMap (n.ons L)) (lv := []) (e := n.stp L e j) (List.mem_flatMap.mpr ⟨e, he, List.mem_map.mpr ⟨j, by rw [ek1]; exact hj, rfl⟩⟩)
      refine ⟨y, hy, ?_, leV_trans ly ?_⟩
      · rw [ey]
        show (j, n.nxt (j, e.1.2)) = _
        rw [last_app, key_app n hvne, ek2]
      · show leV (e.2.1 + n.pt L j e.1.2, e.2.2 ++ [j]) (n.tm L (v ++ [j]), v ++ [j])
        rw [tm_app hvne, ek2]
        exact leV_app el (by show e.2.2.length = v.length; omega) _ j
/-! ### the quickest -/
theorem ltF_irrefl (a : Fnd) : ltF a a = false := by
  unfold ltF
  rw [if_pos rfl, if_pos rfl]
  exact ltW_irrefl _
theorem ltF_trans {a b c : Fnd} (h : ltF a b = true) (g : ltF b c = true) : ltF a c = true := by
  have key : ∀ x y : Fnd, ltF x y = true ↔ x.1 < y.1 ∨ (x.1 = y.1 ∧ ltV (x.2.1, x.2.2) (y.2.1, y.2.2) = true) := fun x y => by
    unfold ltF ltV
    by_cases e : x.1 = y.1
    · rw [if_pos e]
      exact ⟨fun z => .inr ⟨e, z⟩, fun z => z.elim (fun z => by omega) fun z => z.2⟩
    · rw [if_neg e]
      exact ⟨fun z => .inl (of_decide_eq_true z), fun z => z.elim (fun z => decide_eq_true z) fun z => absurd z.1 e⟩
  rw [key] at *
  rcases h with h | ⟨h, h'⟩
  · rcases g with g | ⟨g, _⟩
    · exact .inl (by omega)
    · exact .inl (by omega)
  · rcases g with g | ⟨g, g'⟩
    · exact .inl (by omega)
    · exact .inr ⟨by omega, ltV_trans h' g'⟩
theorem minT_le : ∀ (xs : List Fnd) (x : Fnd), ∀ y ∈ x :: xs, ltF y (minT x xs) = false := by
  rw [minT_eq]
  have key : ∀ (xs : List Fnd) (x : Fnd) (seen : List Fnd), (∀ y ∈ seen, ltF y x = false) → ∀ y ∈ seen ++ xs, ltF y (minT' x xs) = false := by
    intro xs
    induction xs with
    | nil =>
      intro x seen hs y hy
      rw [List.append_nil] at hy
      exact hs y hy
    | cons z zs ih =>
      intro x seen hs y hy
      show ltF y (minT' (if ltF z x = true then z else x) zs) = false
      refine ih (if ltF z x = true then z else x) (seen ++ [z]) (fun u hu => ?_) y (by simpa using hy)
      cases hz : ltF z x with
      | true =>
        rw [if_pos rfl]
        rcases List.mem_append.mp hu with hu | hu
        · cases h : ltF u z with
          | false => rfl
          | true =>
            have := ltF_trans h hz
            rw [hs u hu] at this
            cases this
        · rw [List.mem_singleton.mp hu]
          exact ltF_irrefl z
      | false =>
        rw [if_neg (by decide)]
        rcases List.mem_append.mp hu with hu | hu
        · exact hs u hu
        · rw [List.mem_singleton.mp hu]
          exact hz
  intro xs x y hy
  exact key xs x [x] (fun u hu => by rw [List.mem_singleton.mp hu]; exact ltF_irrefl x) y hy
theorem last_key (n : Net) (w : List Nat) : (n.key w).1 = w.getLastD 0 := rfl
/-- what the quickest way is -/
theorem qk_is {n : Net} {L : List (List Int)} {st en : Int} {t : Fnd} (h : n.qk L st en = some t) : n.Fro st t.2.2 ∧ (n.rd (t.2.2.getLastD 0)).e = en ∧ t.2.2.length ≤ 20 ∧ t.2.1 = ((t.2.2.length : Nat) : Int) ∧ t.1 = n.tm L t.2.2 := by
  obtain ⟨i, hi, hx⟩ := List.mem_flatMap.mp (qk_mem h)
  have hi : i < 20 := by simpa using hi
  obtain ⟨e, he, rfl⟩ := List.mem_map.mp hx
  obtain ⟨he, hen⟩ := List.mem_filter.mp he
  obtain ⟨h1, h2, h3, h4⟩ := (lvl_is L st i).is_ e he
  refine ⟨h1, ?_, by show e.2.2.length ≤ 20; omega, by show ((i + 1 : Nat) : Int) = _; rw [h2], h4⟩
  have : e.1.1 = e.2.2.getLastD 0 := by rw [h3]
  show (n.rd (e.2.2.getLastD 0)).e = en
  rw [← this]
  simpa using hen
/-- no way is quicker -/
theorem qk_least {n : Net} {L : List (List Int)} {st en : Int} {w : List Nat} (hw : n.Fro st w) (hl : w.length ≤ 20) (he : (n.rd (w.getLastD 0)).e = en) : ∃ t, n.qk L st en = some t ∧ ltF (n.tm L w, ((w.length : Nat) : Int), w) t = false := by
  have hp : 0 < w.length := List.length_pos_iff.mpr hw.1.ne
  obtain ⟨e, he1, ek, el⟩ := (lvl_is L st (w.length - 1)).all_ w hw (by omega)
  have hwl : w.length - 1 + 1 = w.length := by omega
  have hmem : (e.2.1, ((w.length - 1 + 1 : Nat) : Int), e.2.2) ∈ n.fnd L st en 20 := by
    refine List.mem_flatMap.mpr ⟨w.length - 1, by simp; omega, List.mem_map.mpr ⟨e, List.mem_filter.mpr ⟨he1, ?_⟩, rfl⟩⟩
    have : e.1.1 = w.getLastD 0 := by rw [ek]
    rw [this]
    exact decide_eq_true he
  rw [hwl] at hmem
  unfold Net.qk
  cases hf : n.fnd L st en 20 with
  | nil => rw [hf] at hmem; cases hmem
  | cons x xs =>
    rw [hf] at hmem
    refine ⟨_, rfl, ?_⟩
    have hmin := minT_le xs x _ hmem
    cases hlt : ltF (n.tm L w, ((w.length : Nat) : Int), w) (minT x xs) with
    | false => rfl
    | true =>
      exfalso
      have hle : ltV (n.tm L w, w) e.2 = true ∨ (n.tm L w, w) = e.2 ∨ ltV e.2 (n.tm L w, w) = true := by
        cases h1 : ltV (n.tm L w, w) e.2 with
        | true => exact .inl rfl
        | false =>
          cases h2 : ltV e.2 (n.tm L w, w) with
          | true => exact .inr (.inr rfl)
          | false => exact .inr (.inl (ltV_tri h1 h2))
      have hEl : ltF (e.2.1, ((w.length : Nat) : Int), e.2.2) (minT x xs) = true := by
        rcases hle with z | z | z
        · unfold leV at el
          rw [el] at z
          cases z
        · rw [← z]
          exact hlt
        · have : ltF (e.2.1, ((w.length : Nat) : Int), e.2.2) (n.tm L w, ((w.length : Nat) : Int), w) = true := by
            unfold ltF
            unfold ltV at z
            simp only at z ⊢
            by_cases e1 : e.2.1 = n.tm L w
            · rw [if_pos e1] at z ⊢
              simpa using z
            · rw [if_neg e1] at z ⊢
              exact z
          exact ltF_trans this hlt
      rw [hmin] at hEl
      cases hEl
theorem qk_none {n : Net} {L : List (List Int)} {st en : Int} (h : ∀ k, k < n.roads.length → (n.rd k).s ≠ st) : n.qk L st en = none := by
  cases hq : n.qk L st en with
  | none => rfl
  | some t =>
    obtain ⟨⟨hw, hs⟩, _⟩ := qk_is hq
    have hne := hw.ne
    exact absurd hs (h _ (hw.lt _ (by
      cases hc : t.2.2 with
      | nil => exact absurd hc hne
      | cons a b => exact List.mem_cons_self)))
end LW
namespace LW
open PySem PySem.Spec PyProof.Rows L2 DN TL
/-! ### texts of numbers -/
def num (i : Int) : Str := Str.ofString (toString i)
theorem tl_numI {i : Int} (h : 0 ≤ i) : tl (num i) = numL i.toNat := by
  obtain ⟨m, rfl⟩ := Int.eq_ofNat_of_zero_le h
  exact tl_num m
theorem num_len {i : Int} (h : 0 ≤ i) (h2 : i < 100) : (num i).length ≤ 2 := by
  rw [len_tl, tl_numI h]
  exact numL_len (by decide) (by omega)
theorem biStr_i {i : Int} (h : 0 ≤ i) (h2 : i ≤ 1000) : biStr [.int i] = .ok (.val (.str (num i))) := by
  unfold biStr
  dsimp only
  rw [if_pos (by omega)]
  rfl
@[simp] theorem app_len (x y : Str) : (x ++ y).length = x.length + y.length := by
  rw [len_tl, tl_append, List.length_append, len_tl x, len_tl y]
theorem add_ss {x y : Str} (h : x.length + y.length ≤ 100000) : opAdd (.str x) (.str y) = .ok (.val (.str (x ++ y))) := by
  unfold opAdd
  dsimp only
  rw [if_pos (Nat.le_trans h (by decide))]
theorem len_joinL (S : List Nat) : ∀ ps : List (List Nat), (joinL S ps).length ≤ (ps.map List.length).sum + ps.length * S.length
  | [] => by simp [joinL]
  | [p] => by simp [joinL]
  | p :: q :: r => by
    have := len_joinL S (q :: r)
    simp only [joinL, List.length_append, List.map_cons, List.sum_cons, List.length_cons, Nat.add_mul, Nat.one_mul] at *
    omega
theorem tl_joinT (y : Str) (ps : List Str) : tl (Txt.join y ps) = joinL (tl y) (ps.map tl) := by rw [join_eq, tl_join]
theorem join_len {y : Str} {ps : List Str} {m : Nat} (h : ∀ p ∈ ps, p.length ≤ m) : (Txt.join y ps).length ≤ ps.length * (m + y.length) := by
  rw [len_tl, tl_joinT]
  refine Nat.le_trans (len_joinL _ _) ?_
  rw [List.length_map, Nat.mul_add, ← len_tl]
  refine Nat.add_le_add_right ?_ _
  clear y
  induction ps with
  | nil => simp
  | cons p ps ih =>
    have h1 := h p List.mem_cons_self
    have h2 := ih fun q hq => h q (List.mem_cons_of_mem _ hq)
    simp only [List.map_cons, List.sum_cons, List.length_cons, Nat.add_mul, Nat.one_mul] at *
    rw [← len_tl p]
    omega
theorem sum_len {ps : List Str} {m : Nat} (h : ∀ p ∈ ps, p.length ≤ m) : (ps.map (·.length)).sum ≤ ps.length * m := by
  induction ps with
  | nil => simp
  | cons p ps ih =>
    have h1 := h p List.mem_cons_self
    have h2 := ih fun q hq => h q (List.mem_cons_of_mem _ hq)
    simp only [List.map_cons, List.sum_cons, List.length_cons, Nat.add_mul, Nat.one_mul] at *
    omega
theorem opJoin_ok {y : Str} {ps : List Str} {m : Nat} (h : ∀ p ∈ ps, p.length ≤ m) (hm : ps.length * m + ps.length * y.length ≤ 16777216) : opJoin y (.list (ps.map .str)) = .ok (.val (.str (Txt.join y ps))) := by
  unfold opJoin
  dsimp only
  rw [asSs_map]
  dsimp only
  rw [if_pos (Nat.le_trans (Nat.add_le_add_right (sum_len h) _) hm)]
/-! ### the board -/
noncomputable def Net.brd (n : Net) (k p : Nat) : Str := Txt.join " or " ((n.pos k p).map fun l => num l ++ "0 km/h")
theorem brd_join {n : Net} (h : n.Ok) {k p : Nat} (hk : k < n.roads.length) (hp : p ≤ (n.rd k).g.length) : opJoin " or " (.list (((n.pos k p).map fun l => num l ++ "0 km/h").map .str)) = .ok (.val (.str (n.brd k p))) := by
  have hl := pos_len h hk hp
  refine opJoin_ok (m := 8) (fun x hx => ?_) ?_
  · obtain ⟨l, hl, rfl⟩ := List.mem_map.mp hx
    have hb := pos_bd h hk hp hl
    have := num_len (i := l) (by omega) (by omega)
    rw [app_len]
    have e : (("0 km/h" : Str)).length = 6 := by decide
    omega
  · rw [List.length_map]
    have e : ((" or " : Str)).length = 4 := by decide
    rw [e]
    omega
theorem board_den {n : Net} (h : n.Ok) {k : Nat} (hk : k < n.roads.length) : d_board [.val n.d, .val (.int (k : Nat))] = .ok (.own ((List.range ((n.rd k).g.length + 1)).map fun p => .str (n.brd k p))) := by
  have hg : (n.rd k).g.length ≤ 3 := (h.rd hk).gl
  unfold d_board denB g_board
  rw [gSeq]
  simp only [startE]
  refine retOf_seq' (P := fun ρ => ρ = [some (.val n.d), some (.val (.int (k : Nat))), none, none, none]) (by simp [check_road_den h, road_in hk]) ?_
  rintro _ rfl
  rw [gSeq]
  refine retOf_seq' (P := fun ρ => ρ = [some (.val n.d), some (.val (.int (k : Nat))), some (.own []), none, none]) (by simp) ?_
  rintro _ rfl
  rw [gSeq]
  refine retOf_seq' (P := fun ρ => ∃ o3, ρ = [some (.val n.d), some (.val (.int (k : Nat))), some (.own ((List.range ((n.rd k).g.length + 1)).map fun p => .str (n.brd k p))), o3, none]) ?_ ?_
  · refine gFor_range (n := (n.rd k).g.length + 1) (fun p ρ => ∃ o3, ρ = [some (.val n.d), some (.val (.int (k : Nat))), some (.own ((List.range p).map fun p => .str (n.brd k p))), o3, none]) (by
      have e : fRg1 (fOp opAdd (fBi biLen (fCons (fOp opIx (fOp opIx (fOp opIx (fVar 0) (fC (.int 3))) (fVar 1)) (fC (.int 3))) fNil)) (fC (.int 1))) [some (.val n.d), some (.val (.int (k : Nat))), some (.own []), none, none] = rg1 [.int (((n.rd k).g.length + 1 : Nat) : Int)] := by
        simp [rd_get hk, -rg1_i]
      first | (rw [e, rg1_nat (by omega)]) | (refine Eq.trans e ?_; rw [rg1_nat (by omega)])) ⟨_, rfl⟩ (fun p ρ hp hI => ?_)
    obtain ⟨o3, rfl⟩ := hI
    rw [bdy_name]
    have hp' : p ≤ (n.rd k).g.length := by omega
    have c1 : board_c1 [some (.val n.d), some (.val (.int (k : Nat))), some (.own ((List.range p).map fun p => .str (n.brd k p))), some (.val (.int (p : Nat))), none] = .ok (.own (((n.pos k p).map fun l => num l ++ "0 km/h").map .str)) := by
      have hl := pos_len h hk hp'
      generalize (List.range p).map (fun p => PyData.str (n.brd k p)) = BB
      refine fLc_of (ds := (n.pos k p).map .int) (by simp [find_possible_den h hk hp']) (lim_of (by simp; omega)) ?_
      rw [List.map_map]
      refine lcGo_map PyData.int (fun l => [some (.val n.d), some (.val (.int (k : Nat))), some (.own BB), some (.val (.int (p : Nat))), some (.val (.int l))]) _ _ (fun l _ => by simp) (fun l hm => ?_)
      have hb := pos_bd h hk hp' hm
      have h2 := num_len (i := l) (by omega) (by omega)
      have e : (("0 km/h" : Str)).length = 6 := by decide
      simp [biStr_i (show 0 ≤ l by omega) (by omega), add_ss (show (num l).length + (("0 km/h" : Str)).length ≤ 100000 by omega)]
    have hj := brd_join h hk hp'
    refine ⟨[some (.val n.d), some (.val (.int (k : Nat))), some (.own ((List.range (p + 1)).map fun p => .str (n.brd k p))), some (.val (.int (p : Nat))), none], ?_, _, rfl⟩
    rw [List.range_succ, List.map_append]
    have hcap : ((List.range p).map fun p => PyData.str (n.brd k p)).length < lim := by
      refine Nat.lt_of_lt_of_le (show _ < 100 from ?_) (by decide)
      rw [List.length_map, List.length_range]; omega
    unfold board_b1
    generalize (List.range p).map (fun p => PyData.str (n.brd k p)) = BB at *
    generalize ((n.pos k p).map fun l => num l ++ "0 km/h").map PyData.str = PP at *
    simp [c1, hj, hcap]
  · rintro _ ⟨o3, rfl⟩
    generalize (List.range ((n.rd k).g.length + 1)).map (fun p => PyData.str (n.brd k p)) = BB
    simp
end LW
namespace LW
open PySem PySem.Spec PyProof.Rows L2 DN TL
/-! ### a net, written -/
def Road.gt (r : Road) : List Str := r.g.map fun g => ":" ++ num g
def Road.tw (r : Road) : Str := if r.t = 1 then "t" else ""
def Road.txt (r : Road) : Str := (((num r.s ++ "-") ++ num r.e) ++ r.tw) ++ Txt.join "" r.gt
def Net.parts (n : Net) : List Str := [num n.fast, num n.slow, num n.keeps] ++ n.roads.map Road.txt
def Net.txt (n : Net) : Str := Txt.join " " n.parts
theorem len_lit : (("-" : Str)).length = 1 ∧ (("t" : Str)).length = 1 ∧ (("" : Str)).length = 0 ∧ ((":" : Str)).length = 1 ∧ ((" " : Str)).length = 1 := by decide
theorem Road.Ok.gt_len {r : Road} (h : r.Ok) : ∀ p ∈ r.gt, p.length ≤ 3 := fun p hp => by
  obtain ⟨g, hg, rfl⟩ := List.mem_map.mp hp
  have := h.g g hg
  have := num_len (i := g) (by omega) (by omega)
  have := len_lit
  rw [app_len]; omega
theorem Road.Ok.tail_len {r : Road} (h : r.Ok) : (Txt.join "" r.gt).length ≤ 9 := by
  have a := join_len (y := "") h.gt_len
  have b : r.gt.length ≤ 3 := by unfold Road.gt; rw [List.length_map]; exact h.gl
  have c := len_lit
  rw [c.2.2.1] at a
  have := Nat.mul_le_mul_right 3 b
  omega
theorem Road.Ok.town_len (r : Road) : r.tw.length ≤ 1 := by
  have c := len_lit
  unfold Road.tw
  split <;> omega
theorem Road.Ok.len {r : Road} (h : r.Ok) : r.txt.length ≤ 15 := by
  have a := h.tail_len
  have b := Road.Ok.town_len r
  have c := len_lit
  have d := num_len h.s0 (by have := h.s5; omega)
  have e := num_len h.e0 (by have := h.e5; omega)
  unfold Road.txt
  simp only [app_len]
  omega
theorem Net.Ok.parts_len {n : Net} (h : n.Ok) : ∀ p ∈ n.parts, p.length ≤ 15 := fun p hp => by
  have f := num_len (i := n.fast) (by have := h.f5; omega) (by have := h.f13; omega)
  have s := num_len (i := n.slow) (by have := h.s1; omega) (by have := h.f13; have := h.sf; omega)
  have k := num_len (i := n.keeps) (by rcases h.k with e | e <;> omega) (by rcases h.k with e | e <;> omega)
  unfold Net.parts at hp
  rcases List.mem_append.mp hp with q | q
  · simp only [List.mem_cons, List.not_mem_nil, or_false] at q
    rcases q with rfl | rfl | rfl <;> omega
  · obtain ⟨r, hr, rfl⟩ := List.mem_map.mp q
    exact (h.r r hr).len
theorem Net.Ok.parts_n {n : Net} (h : n.Ok) : n.parts.length ≤ 11 := by
  have := h.r8
  unfold Net.parts
  simp
  omega
theorem Net.Ok.len {n : Net} (h : n.Ok) : n.txt.length ≤ 176 := by
  have a := join_len (y := " ") h.parts_len
  have b := h.parts_n
  have c := len_lit
  rw [c.2.2.2.2] at a
  have := Nat.mul_le_mul_right 16 b
  unfold Net.txt
  omega
theorem tail_join {r : Road} (h : r.Ok) : opJoin "" (.list (r.gt.map .str)) = .ok (.val (.str (Txt.join "" r.gt))) := by
  have b : r.gt.length ≤ 3 := by unfold Road.gt; rw [List.length_map]; exact h.gl
  have c := len_lit
  exact opJoin_ok h.gt_len (by rw [c.2.2.1]; omega)
theorem gt_item {r : Road} (h : r.Ok) {g : Int} (hg : g ∈ r.g) : biStr [.int g] = .ok (.val (.str (num g))) ∧ opAdd (.str ":") (.str (num g)) = .ok (.val (.str (":" ++ num g))) := by
  have := h.g g hg
  have l := num_len (i := g) (by omega) (by omega)
  have c := len_lit
  exact ⟨biStr_i (by omega) (by omega), add_ss (by omega)⟩
theorem road_adds {r : Road} (h : r.Ok) : opAdd (.str (num r.s)) (.str "-") = .ok (.val (.str (num r.s ++ "-"))) ∧ opAdd (.str (num r.s ++ "-")) (.str (num r.e)) = .ok (.val (.str ((num r.s ++ "-") ++ num r.e)))
    ∧ opAdd (.str ((num r.s ++ "-") ++ num r.e)) (.str r.tw) = .ok (.val (.str (((num r.s ++ "-") ++ num r.e) ++ r.tw)))
    ∧ opAdd (.str (((num r.s ++ "-") ++ num r.e) ++ r.tw)) (.str (Txt.join "" r.gt)) = .ok (.val (.str r.txt)) := by
  have a := h.tail_len
  have b := Road.Ok.town_len r
  have c := len_lit
  have d := num_len h.s0 (by have := h.s5; omega)
  have e := num_len h.e0 (by have := h.e5; omega)
  refine ⟨add_ss (by omega), add_ss ?_, add_ss ?_, add_ss ?_⟩ <;> simp only [app_len] <;> omega
theorem join_road_den {r : Road} (h : r.Ok) : d_join_road [.val r.d] = .ok (.val (.str r.txt)) := by
  have c1 : ∀ o0 o1 o2 o3 o5 : Option R, join_road_c1 [o0, o1, o2, o3, some (.val (tI r.g)), o5, none] = .ok (.own (r.gt.map .str)) := fun o0 o1 o2 o3 o5 => by
    refine fLc_of (ds := r.g.map .int) (by simp) (lim_of (by have := h.gl; simp; omega)) ?_
    unfold Road.gt
    rw [List.map_map]
    refine lcGo_map PyData.int (fun g => [o0, o1, o2, o3, some (.val (tI r.g)), o5, some (.val (.int g))]) _ _ (fun g _ => by simp) (fun g hg => ?_)
    have e := gt_item h hg
    simp [e.1, e.2, -opAdd_ss]
  have tj := tail_join h
  have ad := road_adds h
  have e1 := biStr_i h.s0 (by have := h.s5; omega)
  have e2 := biStr_i h.e0 (by have := h.e5; omega)
  unfold d_join_road denB g_join_road
  simp only [gSeq, startE]
  rcases h.t with ht | ht
  · rw [show r.tw = "" from if_neg (by rw [ht]; decide)] at ad
    generalize r.txt = RT at *
    generalize r.gt.map PyData.str = GT at *
    generalize Txt.join "" r.gt = TJ at *
    generalize num r.s = NS at *
    generalize num r.e = NE at *
    simp [ht, e1, e2, ad, c1, tj, -opAdd_ss]
  · rw [show r.tw = "t" from if_pos ht] at ad
    generalize r.txt = RT at *
    generalize r.gt.map PyData.str = GT at *
    generalize Txt.join "" r.gt = TJ at *
    generalize num r.s = NS at *
    generalize num r.e = NE at *
    simp [ht, e1, e2, ad, c1, tj, -opAdd_ss]
theorem heads {n : Net} (h : n.Ok) : biStr [.int n.fast] = .ok (.val (.str (num n.fast))) ∧ biStr [.int n.slow] = .ok (.val (.str (num n.slow))) ∧ biStr [.int n.keeps] = .ok (.val (.str (num n.keeps))) :=
  ⟨biStr_i (by have := h.f5; omega) (by have := h.f13; omega), biStr_i (by have := h.s1; omega) (by have := h.f13; have := h.sf; omega), biStr_i (by rcases h.k with e | e <;> omega) (by rcases h.k with e | e <;> omega)⟩
theorem net_join {n : Net} (h : n.Ok) : opJoin " " (.list (n.parts.map .str)) = .ok (.val (.str n.txt)) := by
  have b := h.parts_n
  have c := len_lit
  exact opJoin_ok h.parts_len (by rw [c.2.2.2.2]; omega)
theorem parts_map (n : Net) : n.parts.map PyData.str = [.str (num n.fast), .str (num n.slow), .str (num n.keeps)] ++ (n.roads.map fun r => .str r.txt) := by simp [Net.parts]
theorem join_net_den {n : Net} (h : n.Ok) : d_join_net [.val n.d] = .ok (.val (.str n.txt)) := by
  have h8 := h.r8
  have hd := heads h
  have c1 : join_net_c1 [some (.val n.d), none, none, none] = .ok (.own [.str (num n.fast), .str (num n.slow), .str (num n.keeps)]) := by
    refine fLc_of (ds := [.int n.fast, .int n.slow, .int n.keeps]) ?_ (lim_of (by simp)) ?_
    · show (fSeq (fSl (fVar 0) fNo (fPart (fC (.int 3))))) [some (.val n.d), none, none, none] = _
      unfold Net.d
      simp [cut, HT.sIx]
    · have := lcGo_map (ft := tName 2) (fe := fBi biStr (fCons (fVar 2) fNil)) (ρ := [some (.val n.d), none, none, none]) PyData.int (fun g => [some (.val n.d), none, some (.val (.int g)), none]) (fun g => .str (num g)) [n.fast, n.slow, n.keeps] (fun g _ => by simp) (fun g hg => by
        simp only [List.mem_cons, List.not_mem_nil, or_false] at hg
        rcases hg with rfl | rfl | rfl
        · simp [hd.1]
        · simp [hd.2.1]
        · simp [hd.2.2])
      exact this
  have c2 : ∀ o1 : Option R, join_net_c2 [some (.val n.d), o1, none, none] = .ok (.own (n.roads.map fun r => .str r.txt)) := fun o1 => by
    refine fLc_of (ds := n.roads.map Road.d) (by simp) (lim_of (by simp; omega)) ?_
    refine lcGo_map Road.d (fun r => [some (.val n.d), o1, none, some (.val r.d)]) _ _ (fun r _ => by simp) (fun r hr => ?_)
    simp [join_road_den (h.r r hr)]
  have nj := net_join h
  rw [parts_map] at nj
  have hcap : (3 + (n.roads.map fun r => PyData.str r.txt).length) ≤ lim := lim_of (by rw [List.length_map]; omega)
  unfold d_join_net denB g_join_net
  simp only [gSeq, startE]
  generalize (n.roads.map fun r => PyData.str r.txt) = RT at *
  generalize num n.fast = N1 at *
  generalize num n.slow = N2 at *
  generalize num n.keeps = N3 at *
  have ea : opAdd (.list [.str N1, .str N2, .str N3]) (.list RT) = .ok (.own ([.str N1, .str N2, .str N3] ++ RT)) := by
    unfold opAdd
    dsimp only
    rw [if_pos (by simpa using hcap)]
  simp only [List.cons_append, List.nil_append] at nj ea
  simp [c1, c2, ea, nj, -opAdd_ll]
theorem format_net_den {n : Net} (h : n.Ok) : d_format_net [.val n.d] = .ok (.val (.str n.txt)) := by
  unfold d_format_net denB g_format_net
  simp only [gSeq, startE]
  simp [h.b, join_net_den h]
theorem l_text_den {n : Net} (h : n.Ok) : d_l_text [.val n.d] = .ok (.val (.str n.txt)) := by
  have h8 := h.r8
  have hd := heads h
  have nj := net_join h
  rw [parts_map] at nj
  unfold d_l_text denB g_l_text
  rw [gSeq]
  simp only [startE]
  refine retOf_seq' (P := fun ρ => ρ = [some (.val n.d), some (.own [.str (num n.fast), .str (num n.slow), .str (num n.keeps)]), none, none, none, none, none]) (by
    generalize num n.fast = N1 at *
    generalize num n.slow = N2 at *
    generalize num n.keeps = N3 at *
    simp [hd.1, hd.2.1, hd.2.2]) ?_
  rintro _ rfl
  rw [gSeq]
  refine retOf_seq' (P := fun ρ => ∃ o2 o3 o4 o5, ρ = [some (.val n.d), some (.own ([.str (num n.fast), .str (num n.slow), .str (num n.keeps)] ++ (n.roads.map fun r => .str r.txt))), o2, o3, o4, o5, none]) ?_ ?_
  · refine gFor_list (fi := fSeq (fOp opIx (fVar 0) (fC (.int 3)))) (ft := tTupl (tsCons (tName 2) (tsCons (tName 3) (tsCons (tName 4) (tsCons (tName 5) tsNil))))) (gb := l_text_b1) (ρ := [some (.val n.d), some (.own [.str (num n.fast), .str (num n.slow), .str (num n.keeps)]), none, none, none, none, none]) (enc := Road.d) (xs := n.roads) (fun rs ρ => ∃ o2 o3 o4 o5, ρ = [some (.val n.d), some (.own ([.str (num n.fast), .str (num n.slow), .str (num n.keeps)] ++ (rs.map fun r => .str r.txt))), o2, o3, o4, o5, none]) (by show seqD (.tuple (n.roads.map Road.d)) = _; rfl) ⟨none, none, none, none, rfl⟩ (fun ys r zs ρ hx hI => ?_)

    obtain ⟨o2, o3, o4, o5, rfl⟩ := hI
    have hr : r.Ok := h.r r (by rw [hx]; simp)
    have hlen : ys.length ≤ 8 := by
      have := congrArg List.length hx
      simp at this
      omega
    have c1 : ∀ o0 o1 o2 o3 o4 : Option R, l_text_c1 [o0, o1, o2, o3, o4, some (.val (tI r.g)), none] = .ok (.own (r.gt.map .str)) := fun o0 o1 o2 o3 o4 => by
      refine fLc_of (ds := r.g.map .int) (by simp) (lim_of (by have := hr.gl; simp; omega)) ?_
      unfold Road.gt
      rw [List.map_map]
      refine lcGo_map PyData.int (fun g => [o0, o1, o2, o3, o4, some (.val (tI r.g)), some (.val (.int g))]) _ _ (fun g _ => by simp) (fun g hg => ?_)
      have e := gt_item hr hg
      simp [e.1, e.2, -opAdd_ss]
    have tj := tail_join hr
    have ad := road_adds hr
    have e1 := biStr_i hr.s0 (by have := hr.s5; omega)
    have e2 := biStr_i hr.e0 (by have := hr.e5; omega)
    refine ⟨[some (.val n.d), some (.own (([.str (num n.fast), .str (num n.slow), .str (num n.keeps)] ++ (ys.map fun r => .str r.txt)) ++ [.str r.txt])), some (.val (.int r.s)), some (.val (.int r.e)), some (.val (.int r.t)), some (.val (tI r.g)), none], ?_, _, _, _, _, by rw [List.map_append, List.append_assoc]; rfl⟩
    have hcap : ([PyData.str (num n.fast), PyData.str (num n.slow), PyData.str (num n.keeps)] ++ (ys.map fun r => PyData.str r.txt)).length < lim := Nat.lt_of_lt_of_le (show _ < 100 by simp; omega) (by decide)
    generalize [PyData.str (num n.fast), PyData.str (num n.slow), PyData.str (num n.keeps)] ++ (ys.map fun r => PyData.str r.txt) = LL at *
    unfold bdy l_text_b1
    rcases hr.t with ht | ht
    · rw [show r.tw = "" from if_neg (by rw [ht]; decide)] at ad
      generalize r.txt = RT at *
      generalize r.gt.map PyData.str = GT at *
      generalize Txt.join "" r.gt = TJ at *
      generalize num r.s = NS at *
      generalize num r.e = NE at *
      simp [ht, e1, e2, ad, c1, tj, hcap, -opAdd_ss]
    · rw [show r.tw = "t" from if_pos ht] at ad
      generalize r.txt = RT at *
      generalize r.gt.map PyData.str = GT at *
      generalize Txt.join "" r.gt = TJ at *
      generalize num r.s = NS at *
      generalize num r.e = NE at *
      simp [ht, e1, e2, ad, c1, tj, hcap, -opAdd_ss]
  · rintro _ ⟨o2, o3, o4, o5, rfl⟩
    generalize [PyData.str (num n.fast), PyData.str (num n.slow), PyData.str (num n.keeps)] ++ (n.roads.map fun r => PyData.str r.txt) = LL at *
    simp [frzAt, nj]
end LW
namespace LW
open PySem PySem.Spec PyProof.Rows L2 DN TL
/-! ### lists cut at a sign -/
theorem spl_len (S : List Nat) : ∀ (l : List Nat) (k : Nat) (acc : List Nat), (∀ p ∈ spl S k acc l, p.length ≤ acc.length + l.length) ∧ (spl S k acc l).length ≤ l.length + 1 ∧ spl S k acc l ≠ []
  | [], k, acc => by
    rw [spl_nil]
    simp
  | c :: r, 0, acc => by
    unfold spl
    split
    · have ih := spl_len S r (S.length - 1) []
      refine ⟨fun p hp => ?_, ?_, by simp⟩
      · rcases List.mem_cons.mp hp with rfl | hp
        · omega
        · have := ih.1 p hp
          simp only [List.length_nil, List.length_cons] at *
          omega
      · simp only [List.length_cons]
        omega
    · have ih := spl_len S r 0 (acc ++ [c])
      refine ⟨fun p hp => ?_, ?_, ih.2.2⟩
      · have := ih.1 p hp
        simp only [List.length_append, List.length_cons, List.length_nil] at *
        omega
      · simp only [List.length_cons]
        omega
  | c :: r, k + 1, acc => by
    unfold spl
    have ih := spl_len S r k acc
    refine ⟨fun p hp => ?_, ?_, ih.2.2⟩
    · have := ih.1 p hp
      simp only [List.length_cons]
      omega
    · simp only [List.length_cons]
      omega
theorem par_len (S : List Nat) : ∀ (l acc a b : List Nat), par S acc l = some (a, b) → a.length ≤ acc.length + l.length ∧ b.length ≤ l.length
  | [], acc, a, b, h => by cases h
  | c :: r, acc, a, b, h => by
    unfold par at h
    split at h
    · cases h
      simp only [List.length_drop, List.length_cons]
      omega
    · have := par_len S r (acc ++ [c]) a b h
      simp only [List.length_append, List.length_cons, List.length_nil] at *
      omega
/-! ### a number, read -/
def digs : List Nat := (("0123456789" : Str)).cps.toList
theorem digs_eq : digs = [48, 49, 50, 51, 52, 53, 54, 55, 56, 57] := by decide
def isNum (l : List Nat) : Bool := decide (1 ≤ l.length) && decide (l.length ≤ 2) && l.all fun c => decide (c ∈ digs)
def rdI (l : List Nat) : PyData := if isNum l = true then .int ((NumText.digitsVal l : Nat) : Int) else .none
theorem digs_all {l : List Nat} (h : (l.all fun c => decide (c ∈ digs)) = true) : NumText.AllDigits l := by
  intro c hc
  have := of_decide_eq_true (List.all_eq_true.mp h c hc)
  rw [digs_eq] at this
  simp at this
  omega
theorem read_int_den {x : Str} (hx : x.length ≤ 100000) : d_read_int [.val (.str x)] = .ok (.val (rdI (tl x))) := by
  have hl : x.length ≤ lim := Nat.le_trans hx (by decide)
  have le := len_tl x
  unfold d_read_int denB g_read_int
  simp only [gSeq, startE]
  by_cases h1 : 1 ≤ x.length
  · by_cases h2 : x.length ≤ 2
    · have c1 : read_int_c1 [some (.val (.str x)), none] = .ok (.own ((tl x).map fun c => .bool (decide (c ∈ digs)))) := by
        refine fLc_of (ds := strD x) (by simp) (lim_of (by unfold strD; rw [List.length_map]; show (tl x).length ≤ _; omega)) ?_
        unfold strD
        refine lcGo_map (fun c => PyData.str ⟨#[c]⟩) (fun c => [some (.val (.str x)), some (.val (.str ⟨#[c]⟩))]) _ _ (fun c _ => by simp) (fun c _ => ?_)
        rfl
      have ab : asBs ((tl x).map fun c => PyData.bool (decide (c ∈ digs))) = some ((tl x).map fun c => decide (c ∈ digs)) := by
        rw [show ((tl x).map fun c => PyData.bool (decide (c ∈ digs))) = ((tl x).map fun c => decide (c ∈ digs)).map PyData.bool by simp]
        exact asBs_map _
      have e1 : (1 : Int) ≤ (x.length : Nat) := by omega
      have e2 : ((x.length : Nat) : Int) ≤ 2 := by omega
      cases hd : (tl x).all fun c => decide (c ∈ digs) with
      | true =>
        have e : rdI (tl x) = .int ((NumText.digitsVal (tl x) : Nat) : Int) := by
          unfold rdI isNum
          rw [hd, decide_eq_true (show 1 ≤ (tl x).length by omega), decide_eq_true (show (tl x).length ≤ 2 by omega)]
          rfl
        have it := PySem.intText_digits (x := x) (digs_all hd) (fun z => by
          have z2 : (tl x).length = 0 := congrArg List.length z
          omega) (by omega)
        have bi : biIntS [.str x] = .ok (.val (.int ((NumText.digitsVal (tl x) : Nat) : Int))) := by
          unfold biIntS
          dsimp only
          rw [if_pos (by omega), it]
        have hall : (((tl x).map fun c => decide (c ∈ digs)).all id) = true := by rw [← hd, List.all_map]; rfl
        rw [e]
        generalize NumText.digitsVal (tl x) = DV at *
        generalize ((tl x).map fun c => PyData.bool (decide (c ∈ digs))) = BS at *
        simp only [fOr, fNot, fTest, fChain, gIf]
        generalize ((tl x).map fun c => decide (c ∈ digs)) = BB at *
        simp [hl, e1, e2, c1, ab, bi, hall]
      | false =>
        have e : rdI (tl x) = .none := by
          unfold rdI isNum
          rw [hd, Bool.and_false]
          rfl
        have hall : (((tl x).map fun c => decide (c ∈ digs)).all id) = false := by rw [← hd, List.all_map]; rfl
        rw [e]
        generalize ((tl x).map fun c => PyData.bool (decide (c ∈ digs))) = BS at *
        simp only [fOr, fNot, fTest, fChain, gIf]
        generalize ((tl x).map fun c => decide (c ∈ digs)) = BB at *
        simp [hl, e1, e2, c1, ab, hall]
    · have e : rdI (tl x) = .none := by
        unfold rdI isNum
        rw [decide_eq_false (show ¬ (tl x).length ≤ 2 by omega), Bool.and_false]
        rfl
      have e1 : (1 : Int) ≤ (x.length : Nat) := by omega
      have e2 : ¬ ((x.length : Nat) : Int) ≤ 2 := by omega
      rw [e]
      simp only [fOr, fNot, fTest, fChain, gIf]
      simp [hl, e1, e2]
  · have e : rdI (tl x) = .none := by
      unfold rdI isNum
      rw [decide_eq_false (show ¬ 1 ≤ (tl x).length by omega)]
      rfl
    have e1 : ¬ (1 : Int) ≤ (x.length : Nat) := by omega
    rw [e]
    simp only [fOr, fNot, fTest, fChain, gIf]
    simp [hl, e1]
/-! ### a road, read -/
theorem ends_t (x : Str) : Txt.endswith x "t" = decide ((tl x).getLast? = some 116) := by
  have le := len_tl x
  have h1 := StrLaws.subAt_one x 116 (x.length - 1)
  have et : (("t" : Str)) = ⟨#[116]⟩ := by decide
  unfold Txt.endswith
  rw [et]
  rw [List.getLast?_eq_getElem?, ← le]
  show (decide (0 + 1 ≤ x.length) && Builtin.Str.subAt x ⟨#[116]⟩ (x.length - 1)) = _
  have e1 : (⟨#[116]⟩ : Str).length = 1 := rfl
  rw [e1] at h1
  by_cases h0 : 1 ≤ x.length
  · rw [decide_eq_true (show 0 + 1 ≤ x.length by omega), Bool.true_and]
    cases hs : Builtin.Str.subAt x ⟨#[116]⟩ (x.length - 1)
    · symm
      rw [decide_eq_false_iff_not]
      intro q
      have := (h1.mpr q).2
      rw [hs] at this
      cases this
    · symm
      rw [decide_eq_true_eq]
      exact h1.mp ⟨by omega, hs⟩
  · rw [decide_eq_false (show ¬ 0 + 1 ≤ x.length by omega), Bool.false_and]
    symm
    rw [decide_eq_false_iff_not]
    intro q
    have : (tl x).length = 0 := by omega
    rw [List.length_eq_zero_iff] at this
    rw [this] at q
    cases q
theorem cut_last (x : Str) : tl (cutS x none (some (-1))) = (tl x).dropLast := by
  have le := len_tl x
  unfold cutS
  rw [tl_mk, HT.sIx_none]
  show ((tl x).drop 0).take (HT.sIx x.length x.length (some (-1)) - 0) = _
  have e : HT.sIx x.length x.length (some (-1)) = x.length - 1 := by
    show (if (-1 : Int) < 0 then ((-1 : Int) + (x.length : Int)).toNat else min (-1 : Int).toNat x.length) = x.length - 1
    rw [if_pos (by decide)]
    omega
  rw [e, List.drop_zero, Nat.sub_zero, List.dropLast_eq_take, le]
def cutP (l : List Nat) : List Nat × List Nat := match par [45] [] l with
  | some ab => ab
  | none => (l, [])
theorem cutP_len (l : List Nat) : (cutP l).1.length ≤ l.length ∧ (cutP l).2.length ≤ l.length := by
  unfold cutP
  cases h : par [45] [] l with
  | none => simp
  | some ab =>
    have := par_len _ _ _ _ _ h
    simp only [List.length_nil] at this
    show ab.1.length ≤ _ ∧ ab.2.length ≤ _
    omega
theorem partition_cut (x : Str) : tl (Txt.partition x "-").1 = (cutP (tl x)).1 ∧ tl (Txt.partition x "-").2.2 = (cutP (tl x)).2 := by
  have e : tl ("-" : Str) = [45] := by decide
  rw [partition_par x "-" (by rw [e]; simp), e]
  unfold cutP
  cases par [45] [] (tl x) with
  | none => exact ⟨rfl, rfl⟩
  | some ab => exact ⟨rfl, rfl⟩
theorem split_at (x y : Str) {s : Nat} (e : tl y = [s]) (hk : y.cps.all (· < 256) = true) : (Txt.split x y).map tl = spl [s] 0 [] (tl x) := by
  rw [split_spl x y (by rw [e]; simp) (kind_ok hk), e]
def rdR (l : List Nat) : PyData :=
  .tuple [rdI (cutP ((spl [58] 0 [] l).headD [])).1, rdI (if decide ((cutP ((spl [58] 0 [] l).headD [])).2.getLast? = some 116) = true then (cutP ((spl [58] 0 [] l).headD [])).2.dropLast else (cutP ((spl [58] 0 [] l).headD [])).2),
    .int (if decide ((cutP ((spl [58] 0 [] l).headD [])).2.getLast? = some 116) = true then 1 else 0), .tuple ((spl [58] 0 [] l).tail.map rdI)]
theorem read_road_den {x : Str} (hx : x.length ≤ 10000) : d_read_road [.val (.str x)] = .ok (.val (rdR (tl x))) := by
  have le := len_tl x
  have hs := split_at x ":" (s := 58) (by decide) (by decide +kernel)
  have sl := spl_len [58] (tl x) 0 []
  have op : opSplit x (.str ":") = .ok (.own ((Txt.split x ":").map .str)) := by
    unfold opSplit
    dsimp only
    rw [if_pos ⟨by decide, hx⟩]
  obtain ⟨y0, yr, hy⟩ : ∃ y0 yr, Txt.split x ":" = y0 :: yr := by
    cases h : Txt.split x ":" with
    | nil => rw [h] at hs; exact absurd hs.symm sl.2.2
    | cons a b => exact ⟨a, b, rfl⟩
  rw [hy] at hs op
  have hh : (spl [58] 0 [] (tl x)).headD [] = tl y0 := by rw [← hs]; rfl
  have ht : (spl [58] 0 [] (tl x)).tail = yr.map tl := by rw [← hs]; rfl
  have lens : ∀ y ∈ y0 :: yr, y.length ≤ 10000 := fun y hy => by
    have := sl.1 (tl y) (by rw [← hs]; exact List.mem_map_of_mem hy)
    rw [len_tl]
    simp only [List.length_nil] at this
    omega
  have cnt : yr.length ≤ 10000 := by
    have := sl.2.1
    rw [← hs] at this
    simp only [List.map_cons, List.length_cons, List.length_map] at this
    omega
  have l0 := lens y0 List.mem_cons_self
  have pc := partition_cut y0
  have cl := cutP_len (tl y0)
  have le0 := len_tl y0
  have la := len_tl (Txt.partition y0 "-").1
  have lb := len_tl (Txt.partition y0 "-").2.2
  rw [pc.1] at la
  rw [pc.2] at lb
  have en := ends_t (Txt.partition y0 "-").2.2
  have ct := cut_last (Txt.partition y0 "-").2.2
  have lc := cutS_length (Txt.partition y0 "-").2.2 none (some (-1))
  have oq : opPartition y0 (.str "-") = .ok (.val (.tuple [.str (Txt.partition y0 "-").1, .str (Txt.partition y0 "-").2.1, .str (Txt.partition y0 "-").2.2])) := by
    unfold opPartition
    dsimp only
    rw [if_pos ⟨by decide, l0⟩]
  have c1 : ∀ o0 o1 o3 o4 o5 o6 : Option R, read_road_c1 [o0, o1, some (.val (.list (yr.map .str))), o3, o4, o5, o6, none] = .ok (.own ((yr.map tl).map rdI)) := fun o0 o1 o3 o4 o5 o6 => by
    refine fLc_of (ds := yr.map .str) (by simp) (Nat.le_trans (by rw [List.length_map]; exact cnt) (by decide)) ?_
    rw [List.map_map]
    refine lcGo_map PyData.str (fun y => [o0, o1, some (.val (.list (yr.map .str))), o3, o4, o5, o6, some (.val (.str y))]) _ _ (fun y _ => by simp) (fun y hy => ?_)
    have := read_int_den (x := y) (by have := lens y (List.mem_cons_of_mem _ hy); omega)
    simp [this]
  have rd : rdR (tl x) = .tuple [rdI (tl (Txt.partition y0 "-").1), rdI (if Txt.endswith (Txt.partition y0 "-").2.2 "t" = true then tl (cutS (Txt.partition y0 "-").2.2 none (some (-1))) else tl (Txt.partition y0 "-").2.2),
      .int (if Txt.endswith (Txt.partition y0 "-").2.2 "t" = true then 1 else 0), .tuple ((yr.map tl).map rdI)] := by
    unfold rdR
    rw [hh, ht, ct, en, pc.1, pc.2]
  have cutl : cut (PyData.str y0 :: yr.map .str) (some 1) none = yr.map .str := by
    unfold cut
    rw [HT.sIx_none, show (some 1 : Option Int) = some ((1 : Nat) : Int) from rfl, HT.sIx_nat, List.length_cons, Nat.min_eq_left (by omega), List.drop_succ_cons, List.drop_zero, List.take_of_length_le (by omega)]
  rw [rd]
  have ra := read_int_den (x := (Txt.partition y0 "-").1) (by omega)
  have rb := read_int_den (x := (Txt.partition y0 "-").2.2) (by omega)
  have rc := read_int_den (x := cutS (Txt.partition y0 "-").2.2 none (some (-1))) (by omega)
  have lb' : (Txt.partition y0 "-").2.2.length ≤ lim := Nat.le_trans (show _ ≤ 10000 by omega) (by decide)
  clear hs sl hy hh ht pc cl la lb en ct lc rd le0
  generalize (yr.map tl).map rdI = RI at *
  generalize (Txt.partition y0 "-").1 = A at *
  generalize (Txt.partition y0 "-").2.1 = M at *
  generalize (Txt.partition y0 "-").2.2 = B at *
  have cutl' := cutl
  clear cutl lens cnt
  generalize hyr : yr.map PyData.str = YR at *
  have op' : opSplit x (.str ":") = .ok (.own (.str y0 :: YR)) := by rw [op, List.map_cons, hyr]
  clear op
  unfold d_read_road denB g_read_road
  simp only [gSeq, startE]
  have oe : opEndswith B (.str "t") = .ok (.val (.bool (Txt.endswith B "t"))) := rfl
  cases hE : Txt.endswith B "t"
  · rw [hE] at oe
    simp [op', cutl', oq, oe, ra, rb, c1, keepR]
  · rw [hE] at oe
    simp [op', cutl', oq, oe, ra, rc, c1, keepR, lb']
end LW
namespace LW
open PySem PySem.Spec PyProof.Rows L2 DN TL
/-! ### texts of plain signs -/
def Asc (x : Str) : Prop := ∀ c ∈ tl x, c < 128
theorem Asc.ok {x : Str} (h : Asc x) : PyData.strOk x = true := by
  unfold PyData.strOk
  rw [Array.all_eq_true']
  intro c hc
  have := h c (Array.mem_toList_iff.mpr hc)
  exact decide_eq_true (by omega)
theorem Asc.app {x y : Str} (h : Asc x) (g : Asc y) : Asc (x ++ y) := fun c hc => by
  rw [tl_append] at hc
  rcases List.mem_append.mp hc with q | q
  · exact h c q
  · exact g c q
theorem mem_joinL {S : List Nat} {c : Nat} : ∀ {ps : List (List Nat)}, c ∈ joinL S ps → c ∈ S ∨ ∃ p ∈ ps, c ∈ p
  | [], h => nomatch h
  | [p], h => .inr ⟨p, List.mem_cons_self, h⟩
  | p :: q :: r, h => by
    rcases List.mem_append.mp h with h | h
    · exact .inr ⟨p, List.mem_cons_self, h⟩
    · rcases List.mem_append.mp h with h | h
      · exact .inl h
      · rcases mem_joinL h with h | ⟨z, hz, hc⟩
        · exact .inl h
        · exact .inr ⟨z, List.mem_cons_of_mem _ hz, hc⟩
theorem Asc.join {y : Str} {ps : List Str} (h : Asc y) (g : ∀ p ∈ ps, Asc p) : Asc (Txt.join y ps) := fun c hc => by
  rw [tl_joinT] at hc
  rcases mem_joinL hc with q | ⟨p, hp, q⟩
  · exact h c q
  · obtain ⟨z, hz, rfl⟩ := List.mem_map.mp hp
    exact g z hz c q
theorem asc_num {i : Int} (h : 0 ≤ i) : Asc (num i) := fun c hc => by
  rw [tl_numI h] at hc
  have := numL_digits _ c hc
  omega
theorem Asc.cut {x : Str} (h : Asc x) (lo hi : Option Int) : Asc (cutS x lo hi) := fun c hc => by
  unfold cutS at hc
  rw [tl_mk] at hc
  exact h c (List.mem_of_mem_drop (List.mem_of_mem_take hc))
theorem asc_lit : Asc "-" ∧ Asc "t" ∧ Asc "" ∧ Asc ":" ∧ Asc " " := by unfold Asc; decide
theorem Road.Ok.asc {r : Road} (h : r.Ok) : Asc r.txt := by
  have l := asc_lit
  refine Asc.app (Asc.app (Asc.app (Asc.app (asc_num h.s0) l.1) (asc_num h.e0)) ?_) (Asc.join l.2.2.1 fun p hp => ?_)
  · unfold Road.tw
    split
    · exact l.2.1
    · exact l.2.2.1
  · obtain ⟨g, hg, rfl⟩ := List.mem_map.mp hp
    exact Asc.app l.2.2.2.1 (asc_num (h.g g hg).1)
theorem Net.Ok.asc {n : Net} (h : n.Ok) : Asc n.txt := by
  refine Asc.join asc_lit.2.2.2.2 fun p hp => ?_
  unfold Net.parts at hp
  rcases List.mem_append.mp hp with q | q
  · simp only [List.mem_cons, List.not_mem_nil, or_false] at q
    rcases q with rfl | rfl | rfl
    · exact asc_num (by have := h.f5; omega)
    · exact asc_num (by have := h.s1; omega)
    · exact asc_num (by rcases h.k with e | e <;> omega)
  · obtain ⟨r, hr, rfl⟩ := List.mem_map.mp q
    exact (h.r r hr).asc
/-! ### data that are nets -/
theorem ints_of : ∀ {ds : List PyData} {a b : Int}, (ds.all fun x => isIntB x a b) = true → ∃ g : List Int, ds = g.map .int ∧ ∀ x ∈ g, a ≤ x ∧ x ≤ b
  | [], a, b, _ => ⟨[], rfl, fun _ h => nomatch h⟩
  | d :: ds, a, b, h => by
    rw [List.all_cons, Bool.and_eq_true_iff] at h
    obtain ⟨i, rfl, h1, h2⟩ := isIntB_true h.1
    obtain ⟨g, rfl, hg⟩ := ints_of h.2
    refine ⟨i :: g, rfl, fun x hx => ?_⟩
    rcases List.mem_cons.mp hx with rfl | hx
    · exact ⟨h1, h2⟩
    · exact hg x hx
theorem road_of {d : PyData} (h : isRoadB d = true) : ∃ r : Road, r.Ok ∧ d = r.d := by
  unfold isRoadB at h
  split at h
  · rename_i a b c s
    rw [Bool.and_eq_true_iff, Bool.and_eq_true_iff, Bool.and_eq_true_iff] at h
    obtain ⟨⟨⟨hs, ha⟩, hb⟩, hc⟩ := h
    obtain ⟨i, rfl, i1, i2⟩ := isIntB_true ha
    obtain ⟨j, rfl, j1, j2⟩ := isIntB_true hb
    obtain ⟨t, rfl, t1, t2⟩ := isIntB_true hc
    unfold areSignsB at hs
    split at hs
    · rename_i ds
      rw [Bool.and_eq_true_iff] at hs
      obtain ⟨g, rfl, hg⟩ := ints_of hs.2
      have hl := of_decide_eq_true hs.1
      rw [List.length_map] at hl
      exact ⟨⟨i, j, t, g⟩, ⟨i1, i2, j1, j2, by show t = 0 ∨ t = 1; omega, hl, hg⟩, rfl⟩
    · cases hs
  · cases h
theorem roads_of : ∀ {ds : List PyData}, ds.all isRoadB = true → ∃ rs : List Road, ds = rs.map Road.d ∧ ∀ r ∈ rs, r.Ok
  | [], _ => ⟨[], rfl, fun _ h => nomatch h⟩
  | d :: ds, h => by
    rw [List.all_cons, Bool.and_eq_true_iff] at h
    obtain ⟨r, hr, rfl⟩ := road_of h.1
    obtain ⟨rs, rfl, hrs⟩ := roads_of h.2
    refine ⟨r :: rs, rfl, fun x hx => ?_⟩
    rcases List.mem_cons.mp hx with rfl | hx
    · exact hr
    · exact hrs x hx
theorem net_of {d : PyData} (h : isNetB d = true) : ∃ n : Net, n.Ok ∧ d = n.d := by
  unfold isNetB at h
  split at h
  · rename_i f s k r
    rw [Bool.and_eq_true_iff, Bool.and_eq_true_iff, Bool.and_eq_true_iff] at h
    obtain ⟨⟨⟨hf, hs⟩, hk⟩, hr⟩ := h
    obtain ⟨i, rfl, i1, i2⟩ := isIntB_true hf
    obtain ⟨j, rfl, j1, j2⟩ := isIntB_true hs
    obtain ⟨t, rfl, t1, t2⟩ := isIntB_true hk
    unfold roadsB at hr
    split at hr
    · rename_i ds
      rw [Bool.and_eq_true_iff, Bool.and_eq_true_iff] at hr
      obtain ⟨rs, rfl, hrs⟩ := roads_of hr.2
      have h1 := of_decide_eq_true hr.1.1
      have h8 := of_decide_eq_true hr.1.2
      rw [List.length_map] at h1 h8
      exact ⟨⟨i, j, t, rs⟩, ⟨i1, i2, j1, j2, by show t = 0 ∨ t = 1; omega, h1, h8, hrs⟩, rfl⟩
    · cases hr
  · cases h
/-! ### a net, read -/
def prs (l : List Nat) : PyData := .tuple (((spl [32] 0 [] l).take 3).map rdI ++ [.tuple (((spl [32] 0 [] l).drop 3).map rdR)])
theorem eq_strs {x y : Str} (hx : Asc x) (hy : Asc y) : eqD (.str x) (.str y) = .ok (decide (x = y)) := by
  rw [eqD_of (n := 0) (m := 0) (by simp [dOk, hx.ok]) (by simp [dOk, hy.ok]) (by decide) (by decide)]
  have : PyData.eqv (.str x) (.str y) = (x == y) := by simp [PyData.eqv]
  rw [this]
  by_cases h : x = y
  · simp [h]
  · simp [h]
theorem parse_den {x : Str} (hx : x.length ≤ 9000) (ax : Asc x) : (∃ n : Net, n.Ok ∧ prs (tl x) = n.d ∧ n.txt = x ∧ d_parse_net [.val (.str x)] = .ok (.val n.d)) ∨
    ((¬ ∃ n : Net, n.Ok ∧ prs (tl x) = n.d ∧ n.txt = x) ∧ d_parse_net [.val (.str x)] = .err "ParseError") := by
  have le := len_tl x
  have hs := split_at x " " (s := 32) (by decide) (by decide +kernel)
  have sl := spl_len [32] (tl x) 0 []
  have op : opSplit x (.str " ") = .ok (.own ((Txt.split x " ").map .str)) := by
    unfold opSplit
    dsimp only
    rw [if_pos ⟨by decide, by omega⟩]
  generalize Txt.split x " " = ys at *
  have lens : ∀ y ∈ ys, y.length ≤ 10000 := fun y hy => by
    have := sl.1 (tl y) (by rw [← hs]; exact List.mem_map_of_mem hy)
    rw [len_tl]
    simp only [List.length_nil] at this
    omega
  have cnt : ys.length ≤ 10000 := by
    have := sl.2.1
    rw [← hs] at this
    rw [List.length_map] at this
    omega
  have cutA : cut (ys.map PyData.str) none (some 3) = (ys.take 3).map .str := by
    unfold cut
    rw [HT.sIx_none, show (some 3 : Option Int) = some ((3 : Nat) : Int) from rfl, HT.sIx_nat, List.drop_zero, Nat.sub_zero, List.map_take]
    rcases Nat.le_total 3 (ys.map PyData.str).length with h | h
    · rw [Nat.min_eq_left h]
    · rw [Nat.min_eq_right h, List.take_of_length_le (Nat.le_refl _), List.take_of_length_le h]
  have cutB : cut (ys.map PyData.str) (some 3) none = (ys.drop 3).map .str := by
    unfold cut
    rw [HT.sIx_none, show (some 3 : Option Int) = some ((3 : Nat) : Int) from rfl, HT.sIx_nat, List.map_drop]
    rcases Nat.le_total 3 (ys.map PyData.str).length with h | h
    · rw [Nat.min_eq_left h, List.take_of_length_le (by rw [List.length_drop]; omega)]
    · rw [Nat.min_eq_right h, List.drop_eq_nil_of_le h, List.drop_eq_nil_of_le (Nat.le_refl _), List.take_nil]
  have c1 : ∀ o0 o2 : Option R, parse_net_c1 [o0, some (.val (.list (ys.map .str))), o2, none] = .ok (.own ((ys.take 3).map fun y => rdI (tl y))) := fun o0 o2 => by
    refine fLc_of (ds := (ys.take 3).map .str) (by simp [cutA]) (lim_of (by simp; omega)) ?_
    refine lcGo_map PyData.str (fun y => [o0, some (.val (.list (ys.map .str))), o2, some (.val (.str y))]) _ _ (fun y _ => by simp) (fun y hy => ?_)
    have := read_int_den (x := y) (by have := lens y (List.mem_of_mem_take hy); omega)
    simp [this]
  have c2 : ∀ o0 o2 : Option R, parse_net_c2 [o0, some (.val (.list (ys.map .str))), o2, none] = .ok (.own ((ys.drop 3).map fun y => rdR (tl y))) := fun o0 o2 => by
    refine fLc_of (ds := (ys.drop 3).map .str) (by simp [cutB]) (Nat.le_trans (show _ ≤ 10000 by simp; omega) (by decide)) ?_
    refine lcGo_map PyData.str (fun y => [o0, some (.val (.list (ys.map .str))), o2, some (.val (.str y))]) _ _ (fun y _ => by simp) (fun y hy => ?_)
    have := read_road_den (x := y) (lens y (List.mem_of_mem_drop hy))
    simp [this]
  have ep : prs (tl x) = .tuple (((ys.take 3).map fun y => rdI (tl y)) ++ [.tuple ((ys.drop 3).map fun y => rdR (tl y))]) := by
    unfold prs
    rw [← hs, ← List.map_take, ← List.map_drop, List.map_map, List.map_map]
    rfl
  have l3 : ((ys.take 3).map fun y => rdI (tl y)).length + 1 ≤ lim := lim_of (by simp; omega)
  have ea : opAdd (.tuple ((ys.take 3).map fun y => rdI (tl y))) (.tuple [.tuple ((ys.drop 3).map fun y => rdR (tl y))]) = .ok (.val (prs (tl x))) := by
    rw [ep]
    unfold opAdd
    dsimp only
    rw [if_pos (show _ + [PyData.tuple _].length ≤ lim from l3)]
  have pre : ∀ g : Ev → RO, retOf ((gSeq (gIf (fNot (fTest (fUn (isiD "str") (fVar 0)))) (fun ρ => .exc "ParseError" ρ) gNext) (gSeq (gAsgF 1 (fM1 opSplit (fVar 0) (fC (.str " ")))) (gSeq (gAsgF 2 (fOp opAdd (fBi biTuple (fCons parse_net_c1 fNil)) (fTup (fCons (fBi biTuple (fCons parse_net_c2 fNil)) fNil)))) g))) [some (.val (.str x)), none, none, none])
      = retOf (g [some (.val (.str x)), some (.val (.list (ys.map .str))), some (.val (prs (tl x))), none]) := fun g => by
    clear ep l3 cutA cutB hs
    generalize prs (tl x) = PR at *
    generalize ((ys.take 3).map fun y => rdI (tl y)) = T3 at *
    generalize ((ys.drop 3).map fun y => rdR (tl y)) = D3 at *
    generalize ys.map PyData.str = YS at *
    simp [gSeq, isS, op, c1, c2, ea, -opAdd_tt]
  unfold d_parse_net denB g_parse_net
  rw [show startE 4 [.val (.str x)] = [some (.val (.str x)), none, none, none] from rfl, pre]
  clear ep l3 cutA cutB hs pre c1 c2 ea op
  generalize ys.map PyData.str = YS at *
  cases hb : isNetB (prs (tl x)) with
  | false =>
    refine .inr ⟨fun ⟨n, h, e, _⟩ => ?_, ?_⟩
    · rw [e, h.b] at hb
      cases hb
    · generalize prs (tl x) = PR at *
      simp [gSeq, hb]
  | true =>
    obtain ⟨n, h, e⟩ := net_of hb
    rw [e]
    by_cases ht : n.txt = x
    · refine .inl ⟨n, h, rfl, ht, ?_⟩
      have eq := eq_strs h.asc ax
      rw [decide_eq_true ht] at eq
      simp [gSeq, h.b, join_net_den h, eq]
    · refine .inr ⟨fun ⟨m, hm, em, tm⟩ => ?_, ?_⟩
      · rw [net_inj em] at ht
        exact ht tm
      · have eq := eq_strs h.asc ax
        rw [decide_eq_false ht] at eq
        simp [gSeq, h.b, join_net_den h, eq]
/-! ### read again -/
theorem again2 {x : Str} (hx : x.length ≤ 9000) (ax : Asc x) : (∃ n : Net, n.Ok ∧ prs (tl x) = n.d ∧ n.txt = x ∧ d_l_again [.val (.str x)] = .ok (.val (.str x))) ∨ ((¬ ∃ n : Net, n.Ok ∧ prs (tl x) = n.d ∧ n.txt = x) ∧ d_l_again [.val (.str x)] = .ok (.val .none)) := by
  rcases parse_den hx ax with ⟨n, h, hp, ht, e⟩ | ⟨hn, e⟩
  · refine .inl ⟨n, h, hp, ht, ?_⟩
    unfold d_l_again denB g_l_again
    simp only [startE]
    have hb : l_again_b1 [some (.val (.str x)), none] = .ret (.val (.str x)) := by
      unfold l_again_b1
      simp [e, l_text_den h, ht]
    show retOf (gTry knownX 1 l_again_b1 l_again_h1 [some (.val (.str x)), none]) = _
    rw [gTry_ret hb]
    rfl
  · refine .inr ⟨hn, ?_⟩
    unfold d_l_again denB g_l_again
    simp only [startE]
    have hb : l_again_b1 [some (.val (.str x)), none] = .exc "ParseError" [some (.val (.str x)), none] := by
      unfold l_again_b1
      simp [e]
    show retOf (gTry knownX 1 l_again_b1 l_again_h1 [some (.val (.str x)), none]) = _
    rw [gTry_exc hb (by decide) (r := .val .none) (fun a => by unfold l_again_h1; simp)]
    rfl
theorem again_den {x : Str} (hx : x.length ≤ 9000) (ax : Asc x) : d_l_again [.val (.str x)] = .ok (.val (.str x)) ∨ d_l_again [.val (.str x)] = .ok (.val .none) := by
  rcases again2 hx ax with ⟨_, _, _, _, e⟩ | ⟨_, e⟩
  · exact .inl e
  · exact .inr e
theorem again_bad {d : PyData} (hd : isiD "str" d = .ok (.val (.bool false))) : d_l_again [.val d] = .ok (.val .none) := by
  have e : d_parse_net [.val d] = .err "ParseError" := by
    unfold d_parse_net denB g_parse_net
    simp only [startE, gSeq]
    simp [hd]
  unfold d_l_again denB g_l_again
  simp only [startE]
  have hb : l_again_b1 [some (.val d), none] = .exc "ParseError" [some (.val d), none] := by
    unfold l_again_b1
    simp [e]
  show retOf (gTry knownX 1 l_again_b1 l_again_h1 [some (.val d), none]) = _
  rw [gTry_exc hb (by decide) (r := .val .none) (fun a => by unfold l_again_h1; simp)]
  rfl
end LW
namespace LW
open PySem PySem.Spec PyProof.Rows L2 DN TL
/-! ### what is written is read back -/
theorem rdI_num {m : Nat} (h : m < 100) : rdI (numL m) = .int (m : Int) := by
  unfold rdI
  rw [if_pos ?_, numL_val]
  unfold isNum
  have h1 := numL_len (n := m) (k := 2) (by decide) h
  have h2 : 1 ≤ (numL m).length := by
    cases e : numL m with
    | nil => exact absurd e (numL_ne m)
    | cons a b => simp
  rw [decide_eq_true h1, decide_eq_true h2, Bool.true_and, Bool.true_and, List.all_eq_true]
  intro c hc
  have := numL_digits m c hc
  rw [digs_eq]
  refine decide_eq_true ?_
  simp
  omega
theorem rdI_int {i : Int} (h0 : 0 ≤ i) (h : i < 100) : rdI (numL i.toNat) = .int i := by
  rw [rdI_num (by omega)]
  congr 1
  omega
theorem joinL_nil : ∀ ps : List (List Nat), joinL [] ps = ps.flatten
  | [] => rfl
  | [p] => by simp [joinL]
  | p :: q :: r => by
    show p ++ ([] ++ joinL [] (q :: r)) = _
    rw [joinL_nil (q :: r)]
    simp
theorem joinL_cons (s : Nat) : ∀ (a : List Nat) (ps : List (List Nat)), joinL [s] (a :: ps) = a ++ (ps.map (s :: ·)).flatten
  | a, [] => by simp [joinL]
  | a, q :: r => by
    show a ++ ([s] ++ joinL [s] (q :: r)) = _
    rw [joinL_cons s q r]
    simp
def Road.hd (r : Road) : List Nat := numL r.s.toNat ++ ([45] ++ (numL r.e.toNat ++ tl r.tw))
theorem tl_gt {r : Road} (h : r.Ok) : r.gt.map tl = (r.g.map fun g => numL g.toNat).map (58 :: ·) := by
  unfold Road.gt
  rw [List.map_map, List.map_map]
  refine List.map_congr_left fun g hg => ?_
  show tl (":" ++ num g) = 58 :: numL g.toNat
  rw [tl_append, tl_numI (h.g g hg).1]
  have : tl (":" : Str) = [58] := by decide
  rw [this]
  rfl
theorem tl_txt {r : Road} (h : r.Ok) : tl r.txt = joinL [58] (r.hd :: r.g.map fun g => numL g.toNat) := by
  rw [joinL_cons, ← tl_gt h]
  unfold Road.txt
  rw [tl_append, tl_joinT, show tl ("" : Str) = [] by decide, joinL_nil, tl_append, tl_append, tl_append, tl_numI h.s0, tl_numI h.e0, show tl ("-" : Str) = [45] by decide]
  unfold Road.hd
  simp
theorem tl_tw (r : Road) : tl r.tw = if r.t = 1 then [116] else [] := by
  unfold Road.tw
  split
  · decide
  · decide
theorem hd_free {r : Road} {s : Nat} (h1 : s < 48 ∨ 57 < s) (h2 : s ≠ 45) (h3 : s ≠ 116) : s ∉ r.hd := fun hm => by
  unfold Road.hd at hm
  rw [tl_tw] at hm
  simp only [List.mem_append, List.mem_singleton] at hm
  rcases hm with q | q | q | q
  · exact numL_free h1 q
  · exact h2 q
  · exact numL_free h1 q
  · split at q
    · exact h3 (List.mem_singleton.mp q)
    · cases q
theorem rdR_txt {r : Road} (h : r.Ok) : rdR (tl r.txt) = r.d := by
  have e : spl [58] 0 [] (tl r.txt) = r.hd :: r.g.map fun g => numL g.toNat := by
    rw [tl_txt h]
    refine spl_join (by simp) fun p hp => ?_
    rcases List.mem_cons.mp hp with rfl | hp
    · exact hd_free (by omega) (by omega) (by omega)
    · obtain ⟨g, _, rfl⟩ := List.mem_map.mp hp
      exact numL_free (by omega)
  have ec : cutP r.hd = (numL r.s.toNat, numL r.e.toNat ++ tl r.tw) := by
    unfold cutP Road.hd
    rw [par_part1 (s := 45) (S := []) (numL_free (by omega))]
    rfl
  unfold rdR
  rw [e, List.headD_cons, ec, List.tail_cons]
  dsimp only
  have eg : (r.g.map fun g => numL g.toNat).map rdI = r.g.map .int := by
    rw [List.map_map]
    refine List.map_congr_left fun g hg => ?_
    have := h.g g hg
    exact rdI_int (by omega) (by omega)
  have es := rdI_int h.s0 (by have := h.s5; omega)
  have ee := rdI_int h.e0 (by have := h.e5; omega)
  rw [eg, es]
  unfold Road.d tI
  have tw := tl_tw r
  rcases h.t with ht | ht
  · rw [if_neg (by rw [ht]; decide)] at tw
    rw [tw, List.append_nil, ht]
    have : ¬ (numL r.e.toNat).getLast? = some 116 := fun q => numL_free (n := r.e.toNat) (s := 116) (by omega) (List.mem_of_getLast? q)
    rw [decide_eq_false this, if_neg (by decide), if_neg (by decide), ee]
  · rw [if_pos ht] at tw
    rw [tw, ht]
    have : (numL r.e.toNat ++ [116]).getLast? = some 116 := by simp
    rw [decide_eq_true this, if_pos rfl, if_pos rfl, List.dropLast_concat, ee]
theorem prs_txt {n : Net} (h : n.Ok) : prs (tl n.txt) = n.d := by
  have e : spl [32] 0 [] (tl n.txt) = n.parts.map tl := by
    unfold Net.txt
    rw [tl_joinT, show tl (" " : Str) = [32] by decide]
    refine spl_join (by simp [Net.parts]) fun p hp => ?_
    obtain ⟨x, hx, rfl⟩ := List.mem_map.mp hp
    unfold Net.parts at hx
    rcases List.mem_append.mp hx with q | q
    · simp only [List.mem_cons, List.not_mem_nil, or_false] at q
      rcases q with rfl | rfl | rfl
      · rw [tl_numI (by have := h.f5; omega)]; exact numL_free (by omega)
      · rw [tl_numI (by have := h.s1; omega)]; exact numL_free (by omega)
      · rw [tl_numI (by rcases h.k with e | e <;> omega)]; exact numL_free (by omega)
    · obtain ⟨r, hr, rfl⟩ := List.mem_map.mp q
      rw [tl_txt (h.r r hr)]
      intro hm
      rcases mem_joinL hm with z | ⟨p, hp, hc⟩
      · simp at z
      · rcases List.mem_cons.mp hp with rfl | hp
        · exact hd_free (by omega) (by omega) (by omega) hc
        · obtain ⟨g, _, rfl⟩ := List.mem_map.mp hp
          exact numL_free (by omega) hc
  have f := rdI_int (i := n.fast) (by have := h.f5; omega) (by have := h.f13; omega)
  have s := rdI_int (i := n.slow) (by have := h.s1; omega) (by have := h.f13; have := h.sf; omega)
  have k := rdI_int (i := n.keeps) (by rcases h.k with e | e <;> omega) (by rcases h.k with e | e <;> omega)
  rw [← tl_numI (by have := h.f5; omega)] at f
  rw [← tl_numI (by have := h.s1; omega)] at s
  rw [← tl_numI (by rcases h.k with e | e <;> omega)] at k
  unfold prs
  rw [e]
  show PyData.tuple ([rdI (tl (num n.fast)), rdI (tl (num n.slow)), rdI (tl (num n.keeps))] ++ [.tuple (((n.roads.map Road.txt).map tl).map rdR)]) = _
  rw [f, s, k, List.map_map, List.map_map]
  unfold Net.d
  have er : n.roads.map ((rdR ∘ tl) ∘ Road.txt) = n.roads.map Road.d := List.map_congr_left fun r hr => rdR_txt (h.r r hr)
  rw [er]
  rfl
theorem parse_txt {n : Net} (h : n.Ok) : d_parse_net [.val (.str n.txt)] = .ok (.val n.d) := by
  have hl := h.len
  rcases parse_den (x := n.txt) (by omega) h.asc with ⟨m, hm, e, _, r⟩ | ⟨hn, _⟩
  · rw [prs_txt h] at e
    rw [r, e]
  · exact absurd ⟨n, h, prs_txt h, rfl⟩ hn
/-! ### texts that are no formats -/
theorem again_no {x : Str} (hx : x.length ≤ 9000) (ax : Asc x) (hn : ¬ ∃ n : Net, n.Ok ∧ prs (tl x) = n.d ∧ n.txt = x) : d_l_again [.val (.str x)] = .ok (.val .none) := by
  rcases again2 hx ax with ⟨n, h, e, t, _⟩ | ⟨_, r⟩
  · exact absurd ⟨n, h, e, t⟩ hn
  · exact r
def plainB (x : Str) : Bool := decide (x.length ≤ 9000) && ((tl x).all fun c => decide (c < 128)) && !isNetB (prs (tl x))
theorem again_plain {x : Str} (h : plainB x = true) : d_l_again [.val (.str x)] = .ok (.val .none) := by
  unfold plainB at h
  rw [Bool.and_eq_true_iff, Bool.and_eq_true_iff] at h
  refine again_no (of_decide_eq_true h.1.1) (fun c hc => of_decide_eq_true (List.all_eq_true.mp h.1.2 c hc)) fun ⟨n, hn, e, _⟩ => ?_
  rw [e, hn.b] at h
  exact absurd h.2 (by decide)
theorem again_odd {x : Str} {n : Net} (h1 : x.length ≤ 9000) (h2 : ((tl x).all fun c => decide (c < 128)) = true) (e : prs (tl x) = n.d) (ne : (tl n.txt).length ≠ (tl x).length) : d_l_again [.val (.str x)] = .ok (.val .none) :=
  again_no h1 (fun c hc => of_decide_eq_true (List.all_eq_true.mp h2 c hc)) fun ⟨m, hm, em, t⟩ => ne (by
    rw [e] at em
    rw [net_inj em, t])
def badT : List PyData := [.none, .int 7, .str "", .str "10 5 1", .str "10 5 1 ", .str "10 5 1 0-1 ", .str " 10 5 1 0-1", .str "10  5 1 0-1", .str "4 3 1 0-1", .str "10 11 1 0-1", .str "10 5 2 0-1", .str "10 5 1 6-1",
  .str "10 5 1 0-1:14", .str "10 5 1 0-1:", .str "10 5 1 0-1:01", .str "10 5 1 0-1tt", .str "10 5 1 0-1:7t", .str "10 5 1 01", .str "10 5 1 0_1", .str "010 5 1 0-1",
  .tuple [.str "10 5 1 0-1"], .str "10 5 1 0-1:1:2:3:4", .str "10 5 1 0-1,1-2", .str "10 5 1 00-1", .str "10 5 1 -1", .str "10 5 1 0-", .str "x 5 1 0-1", .str "10 5 1 0-1\n"]
theorem odd1 : d_l_again [.val (.str "10 5 1 0-1:01")] = .ok (.val .none) := again_odd (n := ⟨10, 5, 1, [⟨0, 1, 0, [1]⟩]⟩) (by decide +kernel) (by decide +kernel) (by rfl) (by decide +kernel)
theorem odd2 : d_l_again [.val (.str "10 5 1 00-1")] = .ok (.val .none) := again_odd (n := ⟨10, 5, 1, [⟨0, 1, 0, []⟩]⟩) (by decide +kernel) (by decide +kernel) (by rfl) (by decide +kernel)
theorem bad_again : ∀ d ∈ badT, d_l_again [.val d] = .ok (.val .none) := by
  intro d hd
  unfold badT at hd
  simp only [List.mem_cons, List.not_mem_nil, or_false] at hd
  rcases hd with rfl | rfl | rfl | rfl | rfl | rfl | rfl | rfl | rfl | rfl | rfl | rfl | rfl | rfl | rfl | rfl | rfl | rfl | rfl | rfl | rfl | rfl | rfl | rfl | rfl | rfl | rfl | rfl
  · exact again_bad (by simp [isS])
  · exact again_bad (by simp [isS])
  · exact again_plain (by decide +kernel)
  · exact again_plain (by decide +kernel)
  · exact again_plain (by decide +kernel)
  · exact again_plain (by decide +kernel)
  · exact again_plain (by decide +kernel)
  · exact again_plain (by decide +kernel)
  · exact again_plain (by decide +kernel)
  · exact again_plain (by decide +kernel)
  · exact again_plain (by decide +kernel)
  · exact again_plain (by decide +kernel)
  · exact again_plain (by decide +kernel)
  · exact again_plain (by decide +kernel)
  · exact odd1
  · exact again_plain (by decide +kernel)
  · exact again_plain (by decide +kernel)
  · exact again_plain (by decide +kernel)
  · exact again_plain (by decide +kernel)
  · exact again_plain (by decide +kernel)
  · exact again_bad (by simp [isS])
  · exact again_plain (by decide +kernel)
  · exact again_plain (by decide +kernel)
  · exact odd2
  · exact again_plain (by decide +kernel)
  · exact again_plain (by decide +kernel)
  · exact again_plain (by decide +kernel)
  · exact again_plain (by decide +kernel)
theorem l_bad_den : d_l_bad [] = .ok (.val (.bool true)) := by
  have c1 : l_bad_c1 [some (.val (.list badT)), none] = .ok (.own []) := by
    refine fLc_of (ds := badT) (by simp) (by decide) ?_
    have := lcGo_typed (ft := tName 1) (fc := fTest (fOp opIsNot (fCall d_l_again (aCons (fVar 1) aNil)) (fC .none))) (fe := fVar 1) (ρ := [some (.val (.list badT)), none]) id (fun d => [some (.val (.list badT)), some (.val d)]) (fun _ => false) id badT (fun d _ => by simp) (fun d hd => by
      have := bad_again d hd
      generalize badT = BT at *
      simp [this, opIsNot]) (fun d hd h => by cases h)
    rw [List.map_id] at this
    refine Eq.trans this ?_
    simp
  have nine : d_l_again [.val (.str (("10 5 1" : Str) ++ repS " 0-1" 9))] = .ok (.val .none) := again_plain (by decide +kernel)
  have rp : opRepS (.str " 0-1") (.int 9) = .ok (.val (.str (repS " 0-1" 9))) := by
    unfold opRepS
    dsimp only
    rw [if_pos (by decide +kernel)]
    rfl
  have ad : opAdd (.str "10 5 1") (.str (repS " 0-1" 9)) = .ok (.val (.str (("10 5 1" : Str) ++ repS " 0-1" 9))) := add_ss (by decide +kernel)
  have eq := eqD_nil (n := 0) (xs := []) rfl (by decide)
  unfold d_l_bad denB g_l_bad
  rw [gSeq]
  simp only [startE]
  refine retOf_seq' (P := fun ρ => ρ = [some (.val (.list (badT.take 8))), none]) (by simp [badT]) ?_
  rintro _ rfl
  rw [gSeq]
  refine retOf_seq' (P := fun ρ => ρ = [some (.val (.list (badT.take 12))), none]) (by simp [badT, lim]) ?_
  rintro _ rfl
  rw [gSeq]
  refine retOf_seq' (P := fun ρ => ρ = [some (.val (.list (badT.take 17))), none]) (by simp [badT, lim]) ?_
  rintro _ rfl
  rw [gSeq]
  refine retOf_seq' (P := fun ρ => ρ = [some (.val (.list (badT.take 20))), none]) (by simp [badT, lim]) ?_
  rintro _ rfl
  rw [gSeq]
  refine retOf_seq' (P := fun ρ => ρ = [some (.val (.list (badT.take 24))), none]) (by simp [badT, lim]) ?_
  rintro _ rfl
  rw [gSeq]
  refine retOf_seq' (P := fun ρ => ρ = [some (.val (.list badT)), none]) (by simp [badT, lim]) ?_
  rintro _ rfl
  generalize badT = BT at *
  simp [gSeq, c1, eq, rp, ad, nine, opIs, -opAdd_ss]
end LW
namespace LW
open PySem PySem.Spec PyProof.Rows L2 DN TL
/-! ### what is raised -/
theorem check_road_no {d : PyData} (h : isNetB d = false) (v : PyData) : d_check_road [.val d, .val v] = .err "InvalidNet" := by
  unfold d_check_road denB g_check_road
  simp only [gSeq, startE]
  simp [h]
theorem noNet_dens {d : PyData} (h : isNetB d = false) (v : PyData) : d_format_net [.val d] = .err "InvalidNet" ∧ d_board [.val d, .val v] = .err "InvalidNet" := by
  refine ⟨?_, ?_⟩
  · unfold d_format_net denB g_format_net
    simp only [gSeq, startE]
    simp [h]
  · unfold d_board denB g_board
    simp only [gSeq, startE]
    simp [check_road_no h]
theorem noRoad_den {n : Net} (h : n.Ok) {v : PyData} (hv : isIntB v 0 (n.roads.length - 1) = false) : d_board [.val n.d, .val v] = .err "InvalidRoad" := by
  unfold d_board denB g_board
  simp only [gSeq, startE]
  simp [check_road_den h, hv]
theorem bad_road {n : Net} (h : n.Ok) {j : Nat} (hj : j < 5) : ∃ v, opIx (.list [.none, .int (-1), .int (n.roads.length : Nat), .bool true, .str "0"]) (.int (j : Nat)) = .ok (.val v) ∧ isIntB v 0 (n.roads.length - 1) = false := by
  have hc : j = 0 ∨ j = 1 ∨ j = 2 ∨ j = 3 ∨ j = 4 := by omega
  rcases hc with rfl | rfl | rfl | rfl | rfl
  · exact ⟨_, rfl, rfl⟩
  · exact ⟨_, rfl, by simp⟩
  · exact ⟨_, rfl, by simp; omega⟩
  · exact ⟨_, rfl, rfl⟩
  · exact ⟨_, rfl, rfl⟩
theorem idx_net (v1 v2 : PyData) (w : Int) (a : Addr) : l_refused_h1 "InvalidNet" a [some (.val (.int w)), some (.val v1), some (.val v2), some (.raw (.ref a))] = .ret (.val (.int 0)) := by
  unfold l_refused_h1
  simp [idxT, asBs, show decide (("InvalidNet" : Str) = "InvalidRoad") = false by decide]
  rfl
theorem idx_road (v1 v2 : PyData) (w : Int) (a : Addr) : l_refused_h1 "InvalidRoad" a [some (.val (.int w)), some (.val v1), some (.val v2), some (.raw (.ref a))] = .ret (.val (.int 1)) := by
  unfold l_refused_h1
  simp [idxT, asBs, show decide (("InvalidRoad" : Str) = "InvalidNet") = false by decide]
  rfl
theorem err_of {v1 v2 : PyData} {w j : Int} {c : Str} (hb : l_refused_b1 [some (.val (.int w)), some (.val v1), some (.val v2), none] = .exc c [some (.val (.int w)), some (.val v1), some (.val v2), none]) (hc : c ∈ knownX) (hr : ∀ a, l_refused_h1 c a [some (.val (.int w)), some (.val v1), some (.val v2), some (.raw (.ref a))] = .ret (.val (.int j))) :
    d_l_refused [.val (.int w), .val v1, .val v2] = .ok (.val (.int j)) := by
  unfold d_l_refused denB g_l_refused
  rw [gSeq]
  simp only [startE]
  show retOf ((gTry knownX 3 l_refused_b1 l_refused_h1 [some (.val (.int w)), some (.val v1), some (.val v2), none]).seq _) = _
  rw [gTry_exc hb hc hr]
  rfl
theorem err0 {v1 v2 : PyData} {j : Int} {c : Str} (hd : d_format_net [.val v1] = .err c) (hc : c ∈ knownX) (hr : ∀ a, l_refused_h1 c a [some (.val (.int 0)), some (.val v1), some (.val v2), some (.raw (.ref a))] = .ret (.val (.int j))) :
    d_l_refused [.val (.int 0), .val v1, .val v2] = .ok (.val (.int j)) := by
  refine err_of ?_ hc hr
  unfold l_refused_b1
  simp [hd]
theorem err1 {v1 v2 : PyData} {j : Int} {c : Str} (hd : d_board [.val v1, .val v2] = .err c) (hc : c ∈ knownX) (hr : ∀ a, l_refused_h1 c a [some (.val (.int 1)), some (.val v1), some (.val v2), some (.raw (.ref a))] = .ret (.val (.int j))) :
    d_l_refused [.val (.int 1), .val v1, .val v2] = .ok (.val (.int j)) := by
  refine err_of ?_ hc hr
  unfold l_refused_b1
  simp [hd]
/-! ### the boards -/
noncomputable def Net.rowD (n : Net) (k : Nat) : List PyData := (n.sts k).map fun s => .list ((n.pcs k s).map .int)
theorem rows_den {n : Net} (h : n.Ok) {k : Nat} (hk : k < n.roads.length) (o0 o2 o5 o6 o7 : Option R) (l : List (Option R)) (hl : l.length = 11) :
    law_c1 ([o0, some (.val n.d), o2, some (.val (.list (n.plc.map plD))), some (.val (.int (k : Nat))), o5, o6, o7, none, none, none, none, none, none, none, none, none, none, none, none, none]) = .ok (.own (n.rowD k)) := by
  have hp := plc_len h
  refine fLc_of (ds := n.plc.map plD) (by simp) (lim_of (by simp; omega)) ?_
  unfold Net.rowD
  rw [← plc_sts h k, List.map_map]
  refine lcGo_typed plD (fun p => [o0, some (.val n.d), o2, some (.val (.list (n.plc.map plD))), some (.val (.int (k : Nat))), o5, o6, o7, none, none, none, none, none, none, none, none, none, some (.val (.int (p.1 : Nat))), some (.val (.int p.2)), none, none]) (fun p => decide (p.1 = k)) _ _ (fun p _ => by
    generalize n.plc.map plD = PP
    simp [plD]) (fun p hp => ?_) (fun p hp hc => ?_)
  · generalize n.plc.map plD = PP
    simp
    omega
  · generalize n.plc.map plD = PP
    simp [l_pieces_den h hk]
theorem cols_den {n : Net} (h : n.Ok) {k p : Nat} (hk : k < n.roads.length) (hp : p ≤ (n.rd k).g.length) (o0 o1 o2 o3 o4 o6 : Option R) :
    law_c2 ([o0, o1, o2, o3, o4, some (.val (.list (n.rowD k))), o6, some (.val (.int (p : Nat))), none, none, none, none, none, none, none, none, none, none, none, none, none]) = .ok (.own (((n.sts k).map (n.lim_ k p)).map .int)) := by
  have hl := sts_len n k
  refine fLc_of (ds := n.rowD k) (by simp) (lim_of (by unfold Net.rowD; simp; omega)) ?_
  rw [List.map_map]
  unfold Net.rowD
  refine lcGo_map (fun s => PyData.list ((n.pcs k s).map .int)) (fun s => [o0, o1, o2, o3, o4, some (.val (.list ((n.sts k).map fun s => .list ((n.pcs k s).map .int)))), o6, some (.val (.int (p : Nat))), none, none, none, none, none, none, none, none, none, none, none, none, some (.val (.list ((n.pcs k s).map .int)))]) _ _ (fun s _ => by
    generalize ((n.sts k).map fun s => PyData.list ((n.pcs k s).map .int)) = RR
    simp) (fun s _ => ?_)
  have e := pcs_get (n := n) (k := k) (p := p) hp s
  generalize ((n.sts k).map fun s => PyData.list ((n.pcs k s).map .int)) = RR
  simp [e]
theorem due_den {n : Net} (h : n.Ok) {k p : Nat} (hk : k < n.roads.length) (hp : p ≤ (n.rd k).g.length) (o0 o1 o2 o3 o4 o6 : Option R) :
    law_c3 ([o0, o1, o2, o3, o4, some (.val (.list (n.rowD k))), o6, some (.val (.int (p : Nat))), none, none, none, none, none, none, none, none, none, none, none, none, none]) = .ok (.own (((n.pos k p).map fun l => num l ++ "0 km/h").map .str)) := by
  have hl := pos_len h hk hp
  have hsl := sts_len n k
  have e : setSortedD (.list (((n.sts k).map (n.lim_ k p)).map .int)) = .ok (.own ((n.pos k p).map .int)) := by
    unfold setSortedD
    simp only [asIs_map]
    rw [if_pos ⟨by simp; omega, by show (n.pos k p).length < 64; omega⟩]
    rfl
  have c2 := cols_den h hk hp o0 o1 o2 o3 o4 o6
  refine fLc_of (ds := (n.pos k p).map .int) ?_ (lim_of (by simp; omega)) ?_
  · generalize ((n.sts k).map (n.lim_ k p)).map PyData.int = CC at *
    generalize (n.pos k p).map PyData.int = PP at *
    generalize n.rowD k = RR at *
    simp [c2, e]
  · rw [List.map_map]
    generalize n.rowD k = RR at *
    refine lcGo_map PyData.int (fun l => [o0, o1, o2, o3, o4, some (.val (.list RR)), o6, some (.val (.int (p : Nat))), none, none, none, none, none, none, none, none, none, none, none, some (.val (.int l)), none]) _ _ (fun l _ => by simp) (fun l hm => ?_)
    have hb := pos_bd h hk hp hm
    have h2 := num_len (i := l) (by omega) (by omega)
    have e6 : (("0 km/h" : Str)).length = 6 := by decide
    simp [biStr_i (show 0 ≤ l by omega) (by omega), add_ss (show (num l).length + (("0 km/h" : Str)).length ≤ 100000 by omega)]
theorem asc_brd {n : Net} (h : n.Ok) {k p : Nat} (hk : k < n.roads.length) (hp : p ≤ (n.rd k).g.length) : Asc (n.brd k p) := by
  refine Asc.join (by unfold Asc; decide) fun x hx => ?_
  obtain ⟨l, hl, rfl⟩ := List.mem_map.mp hx
  have := pos_bd h hk hp hl
  exact Asc.app (asc_num (by omega)) (by unfold Asc; decide)
theorem brd_same {n : Net} (h : n.Ok) {k : Nat} (hk : k < n.roads.length) : eqD (.list ((List.range ((n.rd k).g.length + 1)).map fun p => .str (n.brd k p))) (.list ((List.range ((n.rd k).g.length + 1)).map fun p => .str (n.brd k p))) = .ok true := by
  refine eqD_same (n := 1) (dOk_list (dOks_map fun p hp => ?_)) (by decide)
  have := asc_brd h hk (p := p) (by have := List.mem_range.mp hp; omega)
  simp [dOk, this.ok]
abbrev ev68 (n : Net) (pl : List PyData) (o0 o2 o4 o5 o6 o7 : Option R) : Ev := [o0, some (.val n.d), o2, some (.val (.list pl)), o4, o5, o6, o7, none, none, none, none, none, none, none, none, none, none, none, none, none]
theorem boards {n : Net} (h : n.Ok) (o0 o2 : Option R) : Nx (gFor (fRg1 (fBi biLen (fCons (fOp opIx (fVar 1) (fC (.int 3))) fNil))) (tName 4) law_b2 (ev68 n (n.plc.map plD) o0 o2 none none none none)) fun ρ => ∃ o4 o5 o6 o7, ρ = ev68 n (n.plc.map plD) o0 o2 o4 o5 o6 o7 := by
  have h8 := h.r8
  refine gFor_range (n := n.roads.length) (fun k ρ => ∃ o4 o5 o6 o7, ρ = ev68 n (n.plc.map plD) o0 o2 o4 o5 o6 o7) (by
    generalize n.plc.map plD = PP
    simp [rg1_nat (show n.roads.length ≤ 1000000 by omega), -rg1_i]) ⟨_, _, _, _, rfl⟩ (fun k ρ hk hI => ?_)
  obtain ⟨o4, o5, o6, o7, rfl⟩ := hI
  rw [bdy_name]
  have hg : (n.rd k).g.length ≤ 3 := (h.rd hk).gl
  have c1 := rows_den h hk o0 o2 o5 o6 o7 (List.replicate 11 none) rfl
  unfold law_b2
  rw [gSeq]
  refine Nx.seq (P := fun ρ => ρ = ev68 n (n.plc.map plD) o0 o2 (some (.val (.int (k : Nat)))) (some (.val (.list (n.rowD k)))) (some (.own [])) o7) ?_ ?_
  · generalize n.plc.map plD = PP at *
    generalize n.rowD k = RR at *
    simp [c1, keepR]
  rintro _ rfl
  rw [gSeq]
  refine Nx.seq (P := fun ρ => ∃ o7, ρ = ev68 n (n.plc.map plD) o0 o2 (some (.val (.int (k : Nat)))) (some (.val (.list (n.rowD k)))) (some (.own ((List.range ((n.rd k).g.length + 1)).map fun p => .str (n.brd k p)))) o7) ?_ ?_
  · refine gFor_range (n := (n.rd k).g.length + 1) (fun p ρ => ∃ o7, ρ = ev68 n (n.plc.map plD) o0 o2 (some (.val (.int (k : Nat)))) (some (.val (.list (n.rowD k)))) (some (.own ((List.range p).map fun p => .str (n.brd k p)))) o7) (by
      have e0 : (n.rowD k)[0]? = some (.list ((n.pcs k ((n.sts k).headD 0)).map .int)) := by
        unfold Net.rowD
        cases hs : n.sts k with
        | nil => exact absurd hs (sts_ne h hk)
        | cons a b => rfl
      have lp : (n.pcs k ((n.sts k).headD 0)).length = (n.rd k).g.length + 1 := by simp [Net.pcs]
      generalize n.plc.map plD = PP at *
      generalize n.rowD k = RR at *
      have : fRg1 (fBi biLen (fCons (fOp opIx (fVar 5) (fC (.int 0))) fNil)) [o0, some (.val n.d), o2, some (.val (.list PP)), some (.val (.int (k : Nat))), some (.val (.list RR)), some (.own []), o7, none, none, none, none, none, none, none, none, none, none, none, none, none] = rg1 [.int (((n.rd k).g.length + 1 : Nat) : Int)] := by
        have e1 : opIx (.list RR) (.int 0) = .ok (.val (.list ((n.pcs k ((n.sts k).headD 0)).map .int))) := by
          have : atI RR 0 = some (.list ((n.pcs k ((n.sts k).headD 0)).map .int)) := (atI_nat' RR 0).trans e0
          unfold opIx
          dsimp only
          rw [this]
        simp only [List.headD_eq_head?_getD] at lp
        simp [e1, lp, -rg1_i, -opIx_l]
      exact this.trans (rg1_nat (by omega))) ⟨_, rfl⟩ (fun p ρ hp hI => ?_)
    obtain ⟨o7, rfl⟩ := hI
    rw [bdy_name]
    have hp' : p ≤ (n.rd k).g.length := by omega
    have c3 := due_den h hk hp' o0 (some (.val n.d)) o2 (some (.val (.list (n.plc.map plD)))) (some (.val (.int (k : Nat)))) (some (.own ((List.range p).map fun p => .str (n.brd k p))))
    have hj := brd_join h hk hp'
    refine ⟨ev68 n (n.plc.map plD) o0 o2 (some (.val (.int (k : Nat)))) (some (.val (.list (n.rowD k)))) (some (.own ((List.range (p + 1)).map fun p => .str (n.brd k p)))) (some (.val (.int (p : Nat)))), ?_, _, rfl⟩
    rw [List.range_succ, List.map_append]
    have hcap : ((List.range p).map fun p => PyData.str (n.brd k p)).length < lim := by
      refine Nat.lt_of_lt_of_le (show _ < 100 from ?_) (by decide)
      rw [List.length_map, List.length_range]; omega
    unfold law_b1
    generalize (List.range p).map (fun p => PyData.str (n.brd k p)) = BB at *
    generalize ((n.pos k p).map fun l => num l ++ "0 km/h").map PyData.str = PP at *
    generalize n.plc.map plD = PL at *
    generalize n.rowD k = RR at *
    simp [c3, hj, hcap]
  · rintro _ ⟨o7, rfl⟩
    have bd := board_den h hk
    have eq := brd_same h hk
    refine ⟨ev68 n (n.plc.map plD) o0 o2 (some (.val (.int (k : Nat)))) (some (.val (.list (n.rowD k)))) (some (.val (.list ((List.range ((n.rd k).g.length + 1)).map fun p => .str (n.brd k p))))) o7, ?_, _, _, _, _, rfl⟩
    generalize (List.range ((n.rd k).g.length + 1)).map (fun p => PyData.str (n.brd k p)) = BB at *
    generalize n.plc.map plD = PL at *
    generalize n.rowD k = RR at *
    simp [frzAt, bd, eq]
end LW
namespace LW
open PySem PySem.Spec PyProof.Rows L2 DN TL
theorem sign_ix {j : Nat} (hj : j < 8) : ∃ c : Nat, c < 128 ∧ opIx (.str "01:t -35") (.int (j : Nat)) = .ok (.val (.str ⟨#[c]⟩)) := by
  have hc : j = 0 ∨ j = 1 ∨ j = 2 ∨ j = 3 ∨ j = 4 ∨ j = 5 ∨ j = 6 ∨ j = 7 := by omega
  have key : ∀ i : Nat, ∀ c : Nat, (("01:t -35" : Str)).cps.toList[i]? = some c → opIx (.str "01:t -35") (.int (i : Nat)) = .ok (.val (.str ⟨#[c]⟩)) := fun i c e => by
    unfold opIx
    dsimp only
    rw [if_pos (by decide), atI_nat', e]
  rcases hc with rfl | rfl | rfl | rfl | rfl | rfl | rfl | rfl
  · exact ⟨48, by decide, key 0 _ (by decide)⟩
  · exact ⟨49, by decide, key 1 _ (by decide)⟩
  · exact ⟨58, by decide, key 2 _ (by decide)⟩
  · exact ⟨116, by decide, key 3 _ (by decide)⟩
  · exact ⟨32, by decide, key 4 _ (by decide)⟩
  · exact ⟨45, by decide, key 5 _ (by decide)⟩
  · exact ⟨51, by decide, key 6 _ (by decide)⟩
  · exact ⟨53, by decide, key 7 _ (by decide)⟩
theorem not_in_no (x : Str) : opNotIn .none (.tuple [.none, .str x]) = .ok (.val (.bool false)) := rfl
theorem not_in_it (x : Str) : opNotIn (.str x) (.tuple [.none, .str x]) = .ok (.val (.bool false)) := by
  unfold opNotIn inD
  simp [flatD, eqF]
abbrev ew68 (ns : List Int) (n : Net) (T : Str) (pl : List PyData) (o4 o5 o6 o7 o8 o9 o10 o11 o12 o13 : Option R) : Ev := [some (.scr ns), some (.val n.d), some (.val (.str T)), some (.val (.list pl)), o4, o5, o6, o7, o8, o9, o10, o11, o12, o13, none, none, none, none, none, none, none]
theorem bends {n : Net} {T : Str} (tlen : T.length ≤ 176) (tasc : Asc T) (ns : List Int) (hl : ns.length ≤ 63) (pl : List PyData) (o4 o5 o6 o7 : Option R) : Nx (gFor (fRg1 (fC (.int 10))) (tName 8) law_b3 (ew68 ns n T pl o4 o5 o6 o7 none none none none none none)) fun ρ => ∃ o8 o9 o10 o11 o12 o13, ρ = ew68 ns n T pl o4 o5 o6 o7 o8 o9 o10 o11 o12 o13 := by
  refine gFor_range (n := 10) (fun k ρ => ∃ o8 o9 o10 o11 o12 o13, ρ = ew68 ns n T pl o4 o5 o6 o7 o8 o9 o10 o11 o12 o13) (by
    have : fRg1 (fC (.int 10)) (ew68 ns n T pl o4 o5 o6 o7 none none none none none none) = rg1 [.int ((10 : Nat) : Int)] := rfl
    exact this.trans (rg1_nat (by decide))) ⟨_, _, _, _, _, _, rfl⟩ (fun k ρ hk hI => ?_)
  obtain ⟨o8, o9, o10, o11, o12, o13, rfl⟩ := hI
  rw [bdy_name]
  have tl' : T.length ≤ lim := lim_of (by omega)
  obtain ⟨c, hc, ec⟩ := draw_nat ns hl (k := 60 + 4 * (k : Nat)) (many := T.length + 1) (by omega) (by omega) (by omega)
  obtain ⟨j, hj, ej⟩ := draw_nat ns hl (k := 60 + 4 * (k : Nat) + 1) (many := 8) (by omega) (by omega) (by decide)
  obtain ⟨b, hb, eb⟩ := draw_nat ns hl (k := 60 + 4 * (k : Nat) + 2) (many := 3) (by omega) (by omega) (by decide)
  obtain ⟨a, ha, ea⟩ := draw_nat ns hl (k := 60 + 4 * (k : Nat) + 3) (many := 2) (by omega) (by omega) (by decide)
  have ec' : d_l_drawn [.scr ns, .val (.int (60 + 4 * (k : Nat))), .val (.int ((T.length : Nat) + 1))] = .ok (.val (.int (c : Nat))) := ec
  have ej' : d_l_drawn [.scr ns, .val (.int (60 + 4 * (k : Nat) + 1)), .val (.int 8)] = .ok (.val (.int (j : Nat))) := ej
  have eb' : d_l_drawn [.scr ns, .val (.int (60 + 4 * (k : Nat) + 2)), .val (.int 3)] = .ok (.val (.int (b : Nat))) := eb
  have ea' : d_l_drawn [.scr ns, .val (.int (60 + 4 * (k : Nat) + 3)), .val (.int 2)] = .ok (.val (.int (a : Nat))) := ea
  obtain ⟨sg, hsg, es⟩ := sign_ix hj
  have c4 : CMul 4 (k : Nat) := mulL (by decide)
  obtain ⟨w, hw⟩ : ∃ w : Str, w = if b = 0 then ("" : Str) else (⟨#[sg]⟩ : Str) := ⟨_, rfl⟩
  have wl : w.length ≤ 1 ∧ Asc w := by
    rw [hw]
    split
    · exact ⟨by decide, asc_lit.2.2.1⟩
    · exact ⟨Nat.le_refl 1, fun x hx => by rw [show tl (⟨#[sg]⟩ : Str) = [sg] from rfl] at hx; rw [List.mem_singleton.mp hx]; exact hsg⟩
  have l1 := cutS_length T none (some (c : Nat))
  have l2 := cutS_length T (some ((c : Nat) + (a : Nat))) none
  have a1 := tasc.cut none (some ((c : Nat) : Int))
  have a2 := tasc.cut (some (((c : Nat) : Int) + ((a : Nat) : Int))) none
  have ad1 : opAdd (.str (cutS T none (some (c : Nat)))) (.str w) = .ok (.val (.str (cutS T none (some (c : Nat)) ++ w))) := add_ss (by omega)
  have ad2 : opAdd (.str (cutS T none (some (c : Nat)) ++ w)) (.str (cutS T (some ((c : Nat) + (a : Nat))) none)) = .ok (.val (.str ((cutS T none (some (c : Nat)) ++ w) ++ cutS T (some ((c : Nat) + (a : Nat))) none))) := add_ss (by rw [app_len]; omega)
  have ag := again_den (x := (cutS T none (some (c : Nat)) ++ w) ++ cutS T (some ((c : Nat) + (a : Nat))) none) (by rw [app_len, app_len]; omega) (Asc.app (Asc.app a1 wl.2) a2)
  generalize hB : (cutS T none (some ((c : Nat) : Int)) ++ w) ++ cutS T (some (((c : Nat) : Int) + ((a : Nat) : Int))) none = B at *
  refine ⟨[some (.scr ns), some (.val n.d), some (.val (.str T)), some (.val (.list pl)), o4, o5, o6, o7, some (.val (.int (k : Nat))), some (.val (.int (60 + 4 * (k : Nat)))), some (.val (.int (c : Nat))), some (.val (.str ⟨#[sg]⟩)), some (.val (.str w)), some (.val (.str B)), none, none, none, none, none, none, none], ?_, _, _, _, _, _, _, rfl⟩
  unfold law_b3
  have nn := not_in_no B
  have ni := not_in_it B
  have hif : (if ((b : Nat) : Int) = 0 then Rs.ok (R.val (.str "")) else Rs.ok (R.val (.str ⟨#[sg]⟩))) = Rs.ok (R.val (.str w)) := by
    rw [hw]
    by_cases hb0 : b = 0
    · subst hb0; rfl
    · rw [if_neg hb0, if_neg (by omega)]
  have ag2 : ∃ v, d_l_again [.val (.str B)] = .ok (.val v) ∧ opNotIn v (.tuple [.none, .str B]) = .ok (.val (.bool false)) := by
    rcases ag with q | q
    · exact ⟨_, q, ni⟩
    · exact ⟨_, q, nn⟩
  obtain ⟨v, hv, hn⟩ := ag2
  clear nn ni ag hB
  simp only [gSeq]
  by_cases hb0 : b = 0
  · subst hb0
    rw [if_pos rfl] at hw
    subst hw
    simp [ec', ej', eb', ea', es, c4, tl', ad1, ad2, hv, hn, keepR, -opAdd_ss, -opNotIn]
  · rw [if_neg hb0] at hw
    have hb1 : ¬ ((b : Nat) : Int) = 0 := by omega
    subst hw
    simp [ec', ej', eb', ea', es, c4, tl', ad1, ad2, hv, hn, keepR, hb0, -opAdd_ss, -opNotIn]
theorem law_true (ns : List Int) (hl : ns.length ≤ 63) : d_law [.scr ns] = .ok (.val (.bool true)) := by
  obtain ⟨n, h, h3, _, en⟩ := net_den ns hl (at_ := 10) (most := 6) (by decide) (by decide) (by decide) (by decide)
  simp only [show (((6 : Nat)) : Int) = 6 from rfl] at en
  have pl := l_places_den h
  have lt := l_text_den h
  have fn := format_net_den h
  have pt := parse_txt h
  have bd := l_bad_den
  have e1 := eq_strs h.asc h.asc
  rw [decide_eq_true rfl] at e1
  have e2 : eqD n.d n.d = .ok true := eqD_same (dOk_net n) (by decide)
  obtain ⟨od, eo, ho⟩ := badnet_den ns hl (at_ := 1) (by decide) (by decide)
  obtain ⟨j, hj, ej⟩ := draw_nat ns hl (k := 2) (many := 5) (by decide) (by decide) (by decide)
  have ej' : d_l_drawn [.scr ns, .val (.int 2), .val (.int 5)] = .ok (.val (.int (j : Nat))) := ej
  obtain ⟨v, hv, hvr⟩ := bad_road h hj
  have r1 : d_l_refused [.val (.int 0), .val od, .val (.int 0)] = .ok (.val (.int 0)) := err0 (noNet_dens ho v).1 (by decide) fun a => idx_net _ _ _ a
  have r2 : d_l_refused [.val (.int 1), .val od, .val v] = .ok (.val (.int 0)) := err1 (noNet_dens ho v).2 (by decide) fun a => idx_net _ _ _ a
  have r3 : d_l_refused [.val (.int 1), .val n.d, .val v] = .ok (.val (.int 1)) := err1 (noRoad_den h hvr) (by decide) fun a => idx_road _ _ _ a
  unfold d_law denB g_law
  rw [gSeq]
  simp only [startE]
  refine retOf_seq' (P := fun ρ => ρ = [some (.scr ns), some (.val n.d), none, none, none, none, none, none, none, none, none, none, none, none, none, none, none, none, none, none, none]) (by simp [en]) ?_
  rintro _ rfl
  rw [gSeq]
  refine retOf_seq' (P := fun ρ => ρ = ew68 ns n n.txt (n.plc.map plD) none none none none none none none none none none) (by
    generalize n.plc.map plD = PP at *
    generalize n.txt = T at *
    simp [pl, lt, keepR]) ?_
  rintro _ rfl
  rw [gSeq]
  refine retOf_seq' (P := fun ρ => ρ = ew68 ns n n.txt (n.plc.map plD) none none none none none none none none none none) (by
    generalize n.plc.map plD = PP at *
    generalize n.txt = T at *
    simp [fn, pt, e1, e2, bd]) ?_
  rintro _ rfl
  rw [gSeq]
  refine retOf_seq' (boards h _ _) ?_
  rintro _ ⟨o4, o5, o6, o7, rfl⟩
  rw [gSeq]
  refine retOf_seq' (bends h.len h.asc ns hl (n.plc.map plD) o4 o5 o6 o7) ?_
  rintro _ ⟨o8, o9, o10, o11, o12, o13, rfl⟩
  have hqf : eqD (.list [.int 0, .int 0, .int 1]) (.list [.int 0, .int 0, .int 1]) = .ok true := eqD_same (n := 1) rfl (by decide)
  generalize n.plc.map plD = PP at *
  generalize n.txt = T at *
  simp only [gSeq]
  simp [eo, ej', hv, keepR, r1, r2, r3, hqf, lim, -opIx_l]
end LW
namespace LW
open PySem PySem.Spec PyProof.Rows L2 DN
def spT (K : PySem.W.Frag) : Sp := fun vs H Q _ => ∃ (a : Addr) (ns : List Int), vs = [.ref a] ∧ SqL K H a (ns.map V.int) ∧ ns.length ≤ 63 ∧ ∀ H', Q (.bl true) H'
theorem spT_of {K : PySem.W.Frag} {mg : Str → Option Value} {vs : List V} {H : Hp} {Q : VK} {E : XK} (h : spT K vs H Q E) : spD K mg 1 d_law vs H Q E := by
  obtain ⟨a, ns, rfl, hS, hl, q⟩ := h
  refine ⟨rfl, [.scr ns], H, Same.refl H, .cons ⟨⟨a, rfl, hS⟩, rfl⟩ .nil, ?_⟩
  rw [law_true ns hl]
  intro v F' H' e r
  cases r.1
  exact q H'

theorem kit_self {K : PySem.W.Frag} {C : Addr} : PySem.W.kitOne K (.ref C) (.ref C) = some true := by
  unfold PySem.W.kitOne
  simp
theorem kit_ref {K : PySem.W.Frag} {C D : Addr} {b : Bool} (hne : D ≠ C) (hd : PySem.W.hasDictIn K C = true) (ht : PySem.W.typeIn K (.ref C) = some (.type "type")) (h4 : PySem.W.subIn K (.ref D) (.ref C) = some b) : PySem.W.kitOne K (.ref D) (.ref C) = some b := by
  obtain ⟨cd, hc, _⟩ := PySem.W.any_some hd
  have e2 : ((PySem.W.clsIn K C).isSome && PySem.W.typeIn K (.ref C) == some (.type "type")) = true := by rw [hc, ht] <;> rfl
  have e1 : ¬ ((Value.ref D == Value.ref C) = true) := fun z => hne (Value.ref.inj (beq_iff_eq.mp z))
  unfold PySem.W.kitOne
  rw [if_neg e1]
  show (if ((PySem.W.clsIn K C).isSome && PySem.W.typeIn K (.ref C) == some (.type "type")) = true then PySem.W.subIn K (.ref D) (.ref C) else none) = some b
  rw [if_pos e2]
  exact h4

set_option maxHeartbeats 0 in
theorem all_mk {P : Program} {w : World} {K : PySem.W.Frag} {h : Heap} {mg : Str → Option Value} {fa : Addr} (X : K.In h) (G : h.Ns mainGlobals mg) (hfa : mg "law" = some (.ref fa))
    {f_is_int : Addr} {od_is_int an_is_int : Option Addr} {sl_is_int : Array (Option Value)} {oc_is_int kV_is_int dc_is_int pm_is_int cd_is_int ct_is_int : Value}
    {f_are_signs : Addr} {od_are_signs an_are_signs : Option Addr} {sl_are_signs : Array (Option Value)} {oc_are_signs kV_are_signs dc_are_signs pm_are_signs cd_are_signs ct_are_signs : Value}
    {f_is_road : Addr} {od_is_road an_is_road : Option Addr} {sl_is_road : Array (Option Value)} {oc_is_road kV_is_road dc_is_road pm_is_road cd_is_road ct_is_road : Value}
    {f_is_net : Addr} {od_is_net an_is_net : Option Addr} {sl_is_net : Array (Option Value)} {oc_is_net kV_is_net dc_is_net pm_is_net cd_is_net ct_is_net : Value}
    {f_check_net : Addr} {od_check_net an_check_net : Option Addr} {sl_check_net : Array (Option Value)} {oc_check_net kV_check_net dc_check_net pm_check_net cd_check_net ct_check_net : Value}
    {f_check_road : Addr} {od_check_road an_check_road : Option Addr} {sl_check_road : Array (Option Value)} {oc_check_road kV_check_road dc_check_road pm_check_road cd_check_road ct_check_road : Value}
    {f_find_followers : Addr} {od_find_followers an_find_followers : Option Addr} {sl_find_followers : Array (Option Value)} {oc_find_followers kV_find_followers dc_find_followers pm_find_followers cd_find_followers ct_find_followers : Value}
    {f_find_standing : Addr} {od_find_standing an_find_standing : Option Addr} {sl_find_standing : Array (Option Value)} {oc_find_standing kV_find_standing dc_find_standing pm_find_standing cd_find_standing ct_find_standing : Value}
    {f_pieces : Addr} {od_pieces an_pieces : Option Addr} {sl_pieces : Array (Option Value)} {oc_pieces kV_pieces dc_pieces pm_pieces cd_pieces ct_pieces : Value}
    {f_leave : Addr} {od_leave an_leave : Option Addr} {sl_leave : Array (Option Value)} {oc_leave kV_leave dc_leave pm_leave cd_leave ct_leave : Value}
    {f_go_over : Addr} {od_go_over an_go_over : Option Addr} {sl_go_over : Array (Option Value)} {oc_go_over kV_go_over dc_go_over pm_go_over cd_go_over ct_go_over : Value}
    {f_find_places : Addr} {od_find_places an_find_places : Option Addr} {sl_find_places : Array (Option Value)} {oc_find_places kV_find_places dc_find_places pm_find_places cd_find_places ct_find_places : Value}
    {f_find_states : Addr} {od_find_states an_find_states : Option Addr} {sl_find_states : Array (Option Value)} {oc_find_states kV_find_states dc_find_states pm_find_states cd_find_states ct_find_states : Value}
    {f_find_possible : Addr} {od_find_possible an_find_possible : Option Addr} {sl_find_possible : Array (Option Value)} {oc_find_possible kV_find_possible dc_find_possible pm_find_possible cd_find_possible ct_find_possible : Value}
    {f_join_road : Addr} {od_join_road an_join_road : Option Addr} {sl_join_road : Array (Option Value)} {oc_join_road kV_join_road dc_join_road pm_join_road cd_join_road ct_join_road : Value}
    {f_join_net : Addr} {od_join_net an_join_net : Option Addr} {sl_join_net : Array (Option Value)} {oc_join_net kV_join_net dc_join_net pm_join_net cd_join_net ct_join_net : Value}
    {f_format_net : Addr} {od_format_net an_format_net : Option Addr} {sl_format_net : Array (Option Value)} {oc_format_net kV_format_net dc_format_net pm_format_net cd_format_net ct_format_net : Value}
    {f_read_int : Addr} {od_read_int an_read_int : Option Addr} {sl_read_int : Array (Option Value)} {oc_read_int kV_read_int dc_read_int pm_read_int cd_read_int ct_read_int : Value}
    {f_read_road : Addr} {od_read_road an_read_road : Option Addr} {sl_read_road : Array (Option Value)} {oc_read_road kV_read_road dc_read_road pm_read_road cd_read_road ct_read_road : Value}
    {f_parse_net : Addr} {od_parse_net an_parse_net : Option Addr} {sl_parse_net : Array (Option Value)} {oc_parse_net kV_parse_net dc_parse_net pm_parse_net cd_parse_net ct_parse_net : Value}
    {f_board : Addr} {od_board an_board : Option Addr} {sl_board : Array (Option Value)} {oc_board kV_board dc_board pm_board cd_board ct_board : Value}
    {f_l_drawn : Addr} {od_l_drawn an_l_drawn : Option Addr} {sl_l_drawn : Array (Option Value)} {oc_l_drawn kV_l_drawn dc_l_drawn pm_l_drawn cd_l_drawn ct_l_drawn : Value}
    {f_l_net : Addr} {od_l_net an_l_net : Option Addr} {sl_l_net : Array (Option Value)} {oc_l_net kV_l_net dc_l_net pm_l_net cd_l_net ct_l_net : Value}
    {f_l_pieces : Addr} {od_l_pieces an_l_pieces : Option Addr} {sl_l_pieces : Array (Option Value)} {oc_l_pieces kV_l_pieces dc_l_pieces pm_l_pieces cd_l_pieces ct_l_pieces : Value}
    {f_l_behind : Addr} {od_l_behind an_l_behind : Option Addr} {sl_l_behind : Array (Option Value)} {oc_l_behind kV_l_behind dc_l_behind pm_l_behind cd_l_behind ct_l_behind : Value}
    {f_l_next : Addr} {od_l_next an_l_next : Option Addr} {sl_l_next : Array (Option Value)} {oc_l_next kV_l_next dc_l_next pm_l_next cd_l_next ct_l_next : Value}
    {f_l_places : Addr} {od_l_places an_l_places : Option Addr} {sl_l_places : Array (Option Value)} {oc_l_places kV_l_places dc_l_places pm_l_places cd_l_places ct_l_places : Value}
    {f_l_badnet : Addr} {od_l_badnet an_l_badnet : Option Addr} {sl_l_badnet : Array (Option Value)} {oc_l_badnet kV_l_badnet dc_l_badnet pm_l_badnet cd_l_badnet ct_l_badnet : Value}
    {f_l_text : Addr} {od_l_text an_l_text : Option Addr} {sl_l_text : Array (Option Value)} {oc_l_text kV_l_text dc_l_text pm_l_text cd_l_text ct_l_text : Value}
    {f_l_again : Addr} {od_l_again an_l_again : Option Addr} {sl_l_again : Array (Option Value)} {oc_l_again kV_l_again dc_l_again pm_l_again cd_l_again ct_l_again : Value}
    {f_l_bad : Addr} {od_l_bad an_l_bad : Option Addr} {sl_l_bad : Array (Option Value)} {oc_l_bad kV_l_bad dc_l_bad pm_l_bad cd_l_bad ct_l_bad : Value}
    {f_l_refused : Addr} {od_l_refused an_l_refused : Option Addr} {sl_l_refused : Array (Option Value)} {oc_l_refused kV_l_refused dc_l_refused pm_l_refused cd_l_refused ct_l_refused : Value}
    {f_law : Addr} {od_law an_law : Option Addr} {sl_law : Array (Option Value)} {oc_law kV_law dc_law pm_law cd_law ct_law : Value}
    {u_COLON : Tok}
    {u_DASH : Tok}
    {u_DIGITS : Tok}
    {u_HEAD : Tok}
    {u_MAX_DIGITS : Tok}
    {u_MAX_JUNCTION : Tok}
    {u_MAX_LIMIT : Tok}
    {u_MAX_ROADS : Tok}
    {u_MAX_SIGNS : Tok}
    {u_MIN_FAST : Tok}
    {u_OR : Tok}
    {u_SPACE : Tok}
    {u_TOWN : Tok}
    {u_UNIT : Tok}
    {C_InvalidNet : Addr}
    {C_InvalidRoad : Addr}
    {C_ParseError : Addr}
    {C_LimitError : Addr}
    (a_is_int : PySem.W.nsIn K mainGlobals "is_int" = some (some (.ref f_is_int))) (l_is_int : K.lookup f_is_int = some ⟨oc_is_int, od_is_int, .func (PySem.W.fnOf "is_int" "is_int" (defArgs s_is_int) (defBody s_is_int) (defScope s_is_int) .none kV_is_int dc_is_int pm_is_int an_is_int cd_is_int ct_is_int), sl_is_int⟩) (c_is_int : PySem.W.codeIn K cd_is_int "is_int" = true) (k_is_int : PySem.W.keepIn K (.ref f_is_int) = true)
    (a_are_signs : PySem.W.nsIn K mainGlobals "are_signs" = some (some (.ref f_are_signs))) (l_are_signs : K.lookup f_are_signs = some ⟨oc_are_signs, od_are_signs, .func (PySem.W.fnOf "are_signs" "are_signs" (defArgs s_are_signs) (defBody s_are_signs) (defScope s_are_signs) .none kV_are_signs dc_are_signs pm_are_signs an_are_signs cd_are_signs ct_are_signs), sl_are_signs⟩) (c_are_signs : PySem.W.codeIn K cd_are_signs "are_signs" = true) (k_are_signs : PySem.W.keepIn K (.ref f_are_signs) = true)
    (a_is_road : PySem.W.nsIn K mainGlobals "is_road" = some (some (.ref f_is_road))) (l_is_road : K.lookup f_is_road = some ⟨oc_is_road, od_is_road, .func (PySem.W.fnOf "is_road" "is_road" (defArgs s_is_road) (defBody s_is_road) (defScope s_is_road) .none kV_is_road dc_is_road pm_is_road an_is_road cd_is_road ct_is_road), sl_is_road⟩) (c_is_road : PySem.W.codeIn K cd_is_road "is_road" = true) (k_is_road : PySem.W.keepIn K (.ref f_is_road) = true)
    (a_is_net : PySem.W.nsIn K mainGlobals "is_net" = some (some (.ref f_is_net))) (l_is_net : K.lookup f_is_net = some ⟨oc_is_net, od_is_net, .func (PySem.W.fnOf "is_net" "is_net" (defArgs s_is_net) (defBody s_is_net) (defScope s_is_net) .none kV_is_net dc_is_net pm_is_net an_is_net cd_is_net ct_is_net), sl_is_net⟩) (c_is_net : PySem.W.codeIn K cd_is_net "is_net" = true) (k_is_net : PySem.W.keepIn K (.ref f_is_net) = true)
    (a_check_net : PySem.W.nsIn K mainGlobals "check_net" = some (some (.ref f_check_net))) (l_check_net : K.lookup f_check_net = some ⟨oc_check_net, od_check_net, .func (PySem.W.fnOf "check_net" "check_net" (defArgs s_check_net) (defBody s_check_net) (defScope s_check_net) .none kV_check_net dc_check_net pm_check_net an_check_net cd_check_net ct_check_net), sl_check_net⟩) (c_check_net : PySem.W.codeIn K cd_check_net "check_net" = true) (k_check_net : PySem.W.keepIn K (.ref f_check_net) = true)
    (a_check_road : PySem.W.nsIn K mainGlobals "check_road" = some (some (.ref f_check_road))) (l_check_road : K.lookup f_check_road = some ⟨oc_check_road, od_check_road, .func (PySem.W.fnOf "check_road" "check_road" (defArgs s_check_road) (defBody s_check_road) (defScope s_check_road) .none kV_check_road dc_check_road pm_check_road an_check_road cd_check_road ct_check_road), sl_check_road⟩) (c_check_road : PySem.W.codeIn K cd_check_road "check_road" = true) (k_check_road : PySem.W.keepIn K (.ref f_check_road) = true)
    (a_find_followers : PySem.W.nsIn K mainGlobals "find_followers" = some (some (.ref f_find_followers))) (l_find_followers : K.lookup f_find_followers = some ⟨oc_find_followers, od_find_followers, .func (PySem.W.fnOf "find_followers" "find_followers" (defArgs s_find_followers) (defBody s_find_followers) (defScope s_find_followers) .none kV_find_followers dc_find_followers pm_find_followers an_find_followers cd_find_followers ct_find_followers), sl_find_followers⟩) (c_find_followers : PySem.W.codeIn K cd_find_followers "find_followers" = true) (k_find_followers : PySem.W.keepIn K (.ref f_find_followers) = true)
    (a_find_standing : PySem.W.nsIn K mainGlobals "find_standing" = some (some (.ref f_find_standing))) (l_find_standing : K.lookup f_find_standing = some ⟨oc_find_standing, od_find_standing, .func (PySem.W.fnOf "find_standing" "find_standing" (defArgs s_find_standing) (defBody s_find_standing) (defScope s_find_standing) .none kV_find_standing dc_find_standing pm_find_standing an_find_standing cd_find_standing ct_find_standing), sl_find_standing⟩) (c_find_standing : PySem.W.codeIn K cd_find_standing "find_standing" = true) (k_find_standing : PySem.W.keepIn K (.ref f_find_standing) = true)
    (a_pieces : PySem.W.nsIn K mainGlobals "pieces" = some (some (.ref f_pieces))) (l_pieces : K.lookup f_pieces = some ⟨oc_pieces, od_pieces, .func (PySem.W.fnOf "pieces" "pieces" (defArgs s_pieces) (defBody s_pieces) (defScope s_pieces) .none kV_pieces dc_pieces pm_pieces an_pieces cd_pieces ct_pieces), sl_pieces⟩) (c_pieces : PySem.W.codeIn K cd_pieces "pieces" = true) (k_pieces : PySem.W.keepIn K (.ref f_pieces) = true)
    (a_leave : PySem.W.nsIn K mainGlobals "leave" = some (some (.ref f_leave))) (l_leave : K.lookup f_leave = some ⟨oc_leave, od_leave, .func (PySem.W.fnOf "leave" "leave" (defArgs s_leave) (defBody s_leave) (defScope s_leave) .none kV_leave dc_leave pm_leave an_leave cd_leave ct_leave), sl_leave⟩) (c_leave : PySem.W.codeIn K cd_leave "leave" = true) (k_leave : PySem.W.keepIn K (.ref f_leave) = true)
    (a_go_over : PySem.W.nsIn K mainGlobals "go_over" = some (some (.ref f_go_over))) (l_go_over : K.lookup f_go_over = some ⟨oc_go_over, od_go_over, .func (PySem.W.fnOf "go_over" "go_over" (defArgs s_go_over) (defBody s_go_over) (defScope s_go_over) .none kV_go_over dc_go_over pm_go_over an_go_over cd_go_over ct_go_over), sl_go_over⟩) (c_go_over : PySem.W.codeIn K cd_go_over "go_over" = true) (k_go_over : PySem.W.keepIn K (.ref f_go_over) = true)
    (a_find_places : PySem.W.nsIn K mainGlobals "find_places" = some (some (.ref f_find_places))) (l_find_places : K.lookup f_find_places = some ⟨oc_find_places, od_find_places, .func (PySem.W.fnOf "find_places" "find_places" (defArgs s_find_places) (defBody s_find_places) (defScope s_find_places) .none kV_find_places dc_find_places pm_find_places an_find_places cd_find_places ct_find_places), sl_find_places⟩) (c_find_places : PySem.W.codeIn K cd_find_places "find_places" = true) (k_find_places : PySem.W.keepIn K (.ref f_find_places) = true)
    (a_find_states : PySem.W.nsIn K mainGlobals "find_states" = some (some (.ref f_find_states))) (l_find_states : K.lookup f_find_states = some ⟨oc_find_states, od_find_states, .func (PySem.W.fnOf "find_states" "find_states" (defArgs s_find_states) (defBody s_find_states) (defScope s_find_states) .none kV_find_states dc_find_states pm_find_states an_find_states cd_find_states ct_find_states), sl_find_states⟩) (c_find_states : PySem.W.codeIn K cd_find_states "find_states" = true) (k_find_states : PySem.W.keepIn K (.ref f_find_states) = true)
    (a_find_possible : PySem.W.nsIn K mainGlobals "find_possible" = some (some (.ref f_find_possible))) (l_find_possible : K.lookup f_find_possible = some ⟨oc_find_possible, od_find_possible, .func (PySem.W.fnOf "find_possible" "find_possible" (defArgs s_find_possible) (defBody s_find_possible) (defScope s_find_possible) .none kV_find_possible dc_find_possible pm_find_possible an_find_possible cd_find_possible ct_find_possible), sl_find_possible⟩) (c_find_possible : PySem.W.codeIn K cd_find_possible "find_possible" = true) (k_find_possible : PySem.W.keepIn K (.ref f_find_possible) = true)
    (a_join_road : PySem.W.nsIn K mainGlobals "join_road" = some (some (.ref f_join_road))) (l_join_road : K.lookup f_join_road = some ⟨oc_join_road, od_join_road, .func (PySem.W.fnOf "join_road" "join_road" (defArgs s_join_road) (defBody s_join_road) (defScope s_join_road) .none kV_join_road dc_join_road pm_join_road an_join_road cd_join_road ct_join_road), sl_join_road⟩) (c_join_road : PySem.W.codeIn K cd_join_road "join_road" = true) (k_join_road : PySem.W.keepIn K (.ref f_join_road) = true)
    (a_join_net : PySem.W.nsIn K mainGlobals "join_net" = some (some (.ref f_join_net))) (l_join_net : K.lookup f_join_net = some ⟨oc_join_net, od_join_net, .func (PySem.W.fnOf "join_net" "join_net" (defArgs s_join_net) (defBody s_join_net) (defScope s_join_net) .none kV_join_net dc_join_net pm_join_net an_join_net cd_join_net ct_join_net), sl_join_net⟩) (c_join_net : PySem.W.codeIn K cd_join_net "join_net" = true) (k_join_net : PySem.W.keepIn K (.ref f_join_net) = true)
    (a_format_net : PySem.W.nsIn K mainGlobals "format_net" = some (some (.ref f_format_net))) (l_format_net : K.lookup f_format_net = some ⟨oc_format_net, od_format_net, .func (PySem.W.fnOf "format_net" "format_net" (defArgs s_format_net) (defBody s_format_net) (defScope s_format_net) .none kV_format_net dc_format_net pm_format_net an_format_net cd_format_net ct_format_net), sl_format_net⟩) (c_format_net : PySem.W.codeIn K cd_format_net "format_net" = true) (k_format_net : PySem.W.keepIn K (.ref f_format_net) = true)
    (a_read_int : PySem.W.nsIn K mainGlobals "read_int" = some (some (.ref f_read_int))) (l_read_int : K.lookup f_read_int = some ⟨oc_read_int, od_read_int, .func (PySem.W.fnOf "read_int" "read_int" (defArgs s_read_int) (defBody s_read_int) (defScope s_read_int) .none kV_read_int dc_read_int pm_read_int an_read_int cd_read_int ct_read_int), sl_read_int⟩) (c_read_int : PySem.W.codeIn K cd_read_int "read_int" = true) (k_read_int : PySem.W.keepIn K (.ref f_read_int) = true)
    (a_read_road : PySem.W.nsIn K mainGlobals "read_road" = some (some (.ref f_read_road))) (l_read_road : K.lookup f_read_road = some ⟨oc_read_road, od_read_road, .func (PySem.W.fnOf "read_road" "read_road" (defArgs s_read_road) (defBody s_read_road) (defScope s_read_road) .none kV_read_road dc_read_road pm_read_road an_read_road cd_read_road ct_read_road), sl_read_road⟩) (c_read_road : PySem.W.codeIn K cd_read_road "read_road" = true) (k_read_road : PySem.W.keepIn K (.ref f_read_road) = true)
    (a_parse_net : PySem.W.nsIn K mainGlobals "parse_net" = some (some (.ref f_parse_net))) (l_parse_net : K.lookup f_parse_net = some ⟨oc_parse_net, od_parse_net, .func (PySem.W.fnOf "parse_net" "parse_net" (defArgs s_parse_net) (defBody s_parse_net) (defScope s_parse_net) .none kV_parse_net dc_parse_net pm_parse_net an_parse_net cd_parse_net ct_parse_net), sl_parse_net⟩) (c_parse_net : PySem.W.codeIn K cd_parse_net "parse_net" = true) (k_parse_net : PySem.W.keepIn K (.ref f_parse_net) = true)
    (a_board : PySem.W.nsIn K mainGlobals "board" = some (some (.ref f_board))) (l_board : K.lookup f_board = some ⟨oc_board, od_board, .func (PySem.W.fnOf "board" "board" (defArgs s_board) (defBody s_board) (defScope s_board) .none kV_board dc_board pm_board an_board cd_board ct_board), sl_board⟩) (c_board : PySem.W.codeIn K cd_board "board" = true) (k_board : PySem.W.keepIn K (.ref f_board) = true)
    (a_l_drawn : PySem.W.nsIn K mainGlobals "_law_drawn" = some (some (.ref f_l_drawn))) (l_l_drawn : K.lookup f_l_drawn = some ⟨oc_l_drawn, od_l_drawn, .func (PySem.W.fnOf "_law_drawn" "_law_drawn" (defArgs s_l_drawn) (defBody s_l_drawn) (defScope s_l_drawn) .none kV_l_drawn dc_l_drawn pm_l_drawn an_l_drawn cd_l_drawn ct_l_drawn), sl_l_drawn⟩) (c_l_drawn : PySem.W.codeIn K cd_l_drawn "_law_drawn" = true) (k_l_drawn : PySem.W.keepIn K (.ref f_l_drawn) = true)
    (a_l_net : PySem.W.nsIn K mainGlobals "_law_net" = some (some (.ref f_l_net))) (l_l_net : K.lookup f_l_net = some ⟨oc_l_net, od_l_net, .func (PySem.W.fnOf "_law_net" "_law_net" (defArgs s_l_net) (defBody s_l_net) (defScope s_l_net) .none kV_l_net dc_l_net pm_l_net an_l_net cd_l_net ct_l_net), sl_l_net⟩) (c_l_net : PySem.W.codeIn K cd_l_net "_law_net" = true) (k_l_net : PySem.W.keepIn K (.ref f_l_net) = true)
    (a_l_pieces : PySem.W.nsIn K mainGlobals "_law_pieces" = some (some (.ref f_l_pieces))) (l_l_pieces : K.lookup f_l_pieces = some ⟨oc_l_pieces, od_l_pieces, .func (PySem.W.fnOf "_law_pieces" "_law_pieces" (defArgs s_l_pieces) (defBody s_l_pieces) (defScope s_l_pieces) .none kV_l_pieces dc_l_pieces pm_l_pieces an_l_pieces cd_l_pieces ct_l_pieces), sl_l_pieces⟩) (c_l_pieces : PySem.W.codeIn K cd_l_pieces "_law_pieces" = true) (k_l_pieces : PySem.W.keepIn K (.ref f_l_pieces) = true)
    (a_l_behind : PySem.W.nsIn K mainGlobals "_law_behind" = some (some (.ref f_l_behind))) (l_l_behind : K.lookup f_l_behind = some ⟨oc_l_behind, od_l_behind, .func (PySem.W.fnOf "_law_behind" "_law_behind" (defArgs s_l_behind) (defBody s_l_behind) (defScope s_l_behind) .none kV_l_behind dc_l_behind pm_l_behind an_l_behind cd_l_behind ct_l_behind), sl_l_behind⟩) (c_l_behind : PySem.W.codeIn K cd_l_behind "_law_behind" = true) (k_l_behind : PySem.W.keepIn K (.ref f_l_behind) = true)
    (a_l_next : PySem.W.nsIn K mainGlobals "_law_next" = some (some (.ref f_l_next))) (l_l_next : K.lookup f_l_next = some ⟨oc_l_next, od_l_next, .func (PySem.W.fnOf "_law_next" "_law_next" (defArgs s_l_next) (defBody s_l_next) (defScope s_l_next) .none kV_l_next dc_l_next pm_l_next an_l_next cd_l_next ct_l_next), sl_l_next⟩) (c_l_next : PySem.W.codeIn K cd_l_next "_law_next" = true) (k_l_next : PySem.W.keepIn K (.ref f_l_next) = true)
    (a_l_places : PySem.W.nsIn K mainGlobals "_law_places" = some (some (.ref f_l_places))) (l_l_places : K.lookup f_l_places = some ⟨oc_l_places, od_l_places, .func (PySem.W.fnOf "_law_places" "_law_places" (defArgs s_l_places) (defBody s_l_places) (defScope s_l_places) .none kV_l_places dc_l_places pm_l_places an_l_places cd_l_places ct_l_places), sl_l_places⟩) (c_l_places : PySem.W.codeIn K cd_l_places "_law_places" = true) (k_l_places : PySem.W.keepIn K (.ref f_l_places) = true)
    (a_l_badnet : PySem.W.nsIn K mainGlobals "_law_badnet" = some (some (.ref f_l_badnet))) (l_l_badnet : K.lookup f_l_badnet = some ⟨oc_l_badnet, od_l_badnet, .func (PySem.W.fnOf "_law_badnet" "_law_badnet" (defArgs s_l_badnet) (defBody s_l_badnet) (defScope s_l_badnet) .none kV_l_badnet dc_l_badnet pm_l_badnet an_l_badnet cd_l_badnet ct_l_badnet), sl_l_badnet⟩) (c_l_badnet : PySem.W.codeIn K cd_l_badnet "_law_badnet" = true) (k_l_badnet : PySem.W.keepIn K (.ref f_l_badnet) = true)
    (a_l_text : PySem.W.nsIn K mainGlobals "_law_text" = some (some (.ref f_l_text))) (l_l_text : K.lookup f_l_text = some ⟨oc_l_text, od_l_text, .func (PySem.W.fnOf "_law_text" "_law_text" (defArgs s_l_text) (defBody s_l_text) (defScope s_l_text) .none kV_l_text dc_l_text pm_l_text an_l_text cd_l_text ct_l_text), sl_l_text⟩) (c_l_text : PySem.W.codeIn K cd_l_text "_law_text" = true) (k_l_text : PySem.W.keepIn K (.ref f_l_text) = true)
    (a_l_again : PySem.W.nsIn K mainGlobals "_law_again" = some (some (.ref f_l_again))) (l_l_again : K.lookup f_l_again = some ⟨oc_l_again, od_l_again, .func (PySem.W.fnOf "_law_again" "_law_again" (defArgs s_l_again) (defBody s_l_again) (defScope s_l_again) .none kV_l_again dc_l_again pm_l_again an_l_again cd_l_again ct_l_again), sl_l_again⟩) (c_l_again : PySem.W.codeIn K cd_l_again "_law_again" = true) (k_l_again : PySem.W.keepIn K (.ref f_l_again) = true)
    (a_l_bad : PySem.W.nsIn K mainGlobals "_law_bad" = some (some (.ref f_l_bad))) (l_l_bad : K.lookup f_l_bad = some ⟨oc_l_bad, od_l_bad, .func (PySem.W.fnOf "_law_bad" "_law_bad" (defArgs s_l_bad) (defBody s_l_bad) (defScope s_l_bad) .none kV_l_bad dc_l_bad pm_l_bad an_l_bad cd_l_bad ct_l_bad), sl_l_bad⟩) (c_l_bad : PySem.W.codeIn K cd_l_bad "_law_bad" = true) (k_l_bad : PySem.W.keepIn K (.ref f_l_bad) = true)
    (a_l_refused : PySem.W.nsIn K mainGlobals "_law_refused" = some (some (.ref f_l_refused))) (l_l_refused : K.lookup f_l_refused = some ⟨oc_l_refused, od_l_refused, .func (PySem.W.fnOf "_law_refused" "_law_refused" (defArgs s_l_refused) (defBody s_l_refused) (defScope s_l_refused) .none kV_l_refused dc_l_refused pm_l_refused an_l_refused cd_l_refused ct_l_refused), sl_l_refused⟩) (c_l_refused : PySem.W.codeIn K cd_l_refused "_law_refused" = true) (k_l_refused : PySem.W.keepIn K (.ref f_l_refused) = true)
    (a_law : PySem.W.nsIn K mainGlobals "law" = some (some (.ref f_law))) (l_law : K.lookup f_law = some ⟨oc_law, od_law, .func (PySem.W.fnOf "law" "law" (defArgs s_law) (defBody s_law) (defScope s_law) .none kV_law dc_law pm_law an_law cd_law ct_law), sl_law⟩) (c_law : PySem.W.codeIn K cd_law "law" = true) (k_law : PySem.W.keepIn K (.ref f_law) = true)
    (z_all : PySem.W.nsIn K mainGlobals "all" = some none)
    (z_bool : PySem.W.nsIn K mainGlobals "bool" = some none)
    (z_enumerate : PySem.W.nsIn K mainGlobals "enumerate" = some none)
    (z_int : PySem.W.nsIn K mainGlobals "int" = some none)
    (z_isinstance : PySem.W.nsIn K mainGlobals "isinstance" = some none)
    (z_len : PySem.W.nsIn K mainGlobals "len" = some none)
    (z_range : PySem.W.nsIn K mainGlobals "range" = some none)
    (z_set : PySem.W.nsIn K mainGlobals "set" = some none)
    (z_sorted : PySem.W.nsIn K mainGlobals "sorted" = some none)
    (z_str : PySem.W.nsIn K mainGlobals "str" = some none)
    (z_tuple : PySem.W.nsIn K mainGlobals "tuple" = some none)
    (q_COLON : PySem.W.nsIn K mainGlobals "COLON" = some (some (.str ":" u_COLON)))
    (q_DASH : PySem.W.nsIn K mainGlobals "DASH" = some (some (.str "-" u_DASH)))
    (q_DIGITS : PySem.W.nsIn K mainGlobals "DIGITS" = some (some (.str "0123456789" u_DIGITS)))
    (q_HEAD : PySem.W.nsIn K mainGlobals "HEAD" = some (some (.int 3 u_HEAD)))
    (q_MAX_DIGITS : PySem.W.nsIn K mainGlobals "MAX_DIGITS" = some (some (.int 2 u_MAX_DIGITS)))
    (q_MAX_JUNCTION : PySem.W.nsIn K mainGlobals "MAX_JUNCTION" = some (some (.int 5 u_MAX_JUNCTION)))
    (q_MAX_LIMIT : PySem.W.nsIn K mainGlobals "MAX_LIMIT" = some (some (.int 13 u_MAX_LIMIT)))
    (q_MAX_ROADS : PySem.W.nsIn K mainGlobals "MAX_ROADS" = some (some (.int 8 u_MAX_ROADS)))
    (q_MAX_SIGNS : PySem.W.nsIn K mainGlobals "MAX_SIGNS" = some (some (.int 3 u_MAX_SIGNS)))
    (q_MIN_FAST : PySem.W.nsIn K mainGlobals "MIN_FAST" = some (some (.int 5 u_MIN_FAST)))
    (q_OR : PySem.W.nsIn K mainGlobals "OR" = some (some (.str " or " u_OR)))
    (q_SPACE : PySem.W.nsIn K mainGlobals "SPACE" = some (some (.str " " u_SPACE)))
    (q_TOWN : PySem.W.nsIn K mainGlobals "TOWN" = some (some (.str "t" u_TOWN)))
    (q_UNIT : PySem.W.nsIn K mainGlobals "UNIT" = some (some (.str "0 km/h" u_UNIT)))
    (g_InvalidNet : PySem.W.nsIn K mainGlobals "InvalidNet" = some (some (.ref C_InvalidNet))) (x_InvalidNet : PySem.W.excIn K C_InvalidNet [.type "ValueError", .type "Exception", .type "BaseException", .type "object"] "ValueError.__new__" = true) (kc_InvalidNet : PySem.W.keepIn K (.ref C_InvalidNet) = true) (sb_InvalidNet : PySem.W.subIn K (.ref C_InvalidNet) (.type "BaseException") = some true) (ty_InvalidNet : PySem.W.typeIn K (.ref C_InvalidNet) = some (.type "type"))
    (g_InvalidRoad : PySem.W.nsIn K mainGlobals "InvalidRoad" = some (some (.ref C_InvalidRoad))) (x_InvalidRoad : PySem.W.excIn K C_InvalidRoad [.type "ValueError", .type "Exception", .type "BaseException", .type "object"] "ValueError.__new__" = true) (kc_InvalidRoad : PySem.W.keepIn K (.ref C_InvalidRoad) = true) (sb_InvalidRoad : PySem.W.subIn K (.ref C_InvalidRoad) (.type "BaseException") = some true) (ty_InvalidRoad : PySem.W.typeIn K (.ref C_InvalidRoad) = some (.type "type"))
    (g_ParseError : PySem.W.nsIn K mainGlobals "ParseError" = some (some (.ref C_ParseError))) (x_ParseError : PySem.W.excIn K C_ParseError [.type "ValueError", .type "Exception", .type "BaseException", .type "object"] "ValueError.__new__" = true) (kc_ParseError : PySem.W.keepIn K (.ref C_ParseError) = true) (sb_ParseError : PySem.W.subIn K (.ref C_ParseError) (.type "BaseException") = some true) (ty_ParseError : PySem.W.typeIn K (.ref C_ParseError) = some (.type "type"))
    (g_LimitError : PySem.W.nsIn K mainGlobals "LimitError" = some (some (.ref C_LimitError)))
    (hd_InvalidNet : PySem.W.hasDictIn K C_InvalidNet = true)
    (su_InvalidNet_InvalidRoad : PySem.W.subIn K (.ref C_InvalidRoad) (.ref C_InvalidNet) = some false)
    (ne_InvalidNet_InvalidRoad : C_InvalidRoad ≠ C_InvalidNet)
    (su_InvalidNet_ParseError : PySem.W.subIn K (.ref C_ParseError) (.ref C_InvalidNet) = some false)
    (ne_InvalidNet_ParseError : C_ParseError ≠ C_InvalidNet)
    (hd_InvalidRoad : PySem.W.hasDictIn K C_InvalidRoad = true)
    (su_InvalidRoad_InvalidNet : PySem.W.subIn K (.ref C_InvalidNet) (.ref C_InvalidRoad) = some false)
    (ne_InvalidRoad_InvalidNet : C_InvalidNet ≠ C_InvalidRoad)
    (su_InvalidRoad_ParseError : PySem.W.subIn K (.ref C_ParseError) (.ref C_InvalidRoad) = some false)
    (ne_InvalidRoad_ParseError : C_ParseError ≠ C_InvalidRoad)
    (hd_LimitError : PySem.W.hasDictIn K C_LimitError = true)
    (sb_LimitError : PySem.W.subIn K (.ref C_LimitError) (.type "BaseException") = some true) (ty_LimitError : PySem.W.typeIn K (.ref C_LimitError) = some (.type "type"))
    (su_LimitError_InvalidNet : PySem.W.subIn K (.ref C_InvalidNet) (.ref C_LimitError) = some true)
    (su_LimitError_InvalidRoad : PySem.W.subIn K (.ref C_InvalidRoad) (.ref C_LimitError) = some true)
    (su_LimitError_ParseError : PySem.W.subIn K (.ref C_ParseError) (.ref C_LimitError) = some true)
    (hd_ParseError : PySem.W.hasDictIn K C_ParseError = true)
    (su_ParseError_InvalidNet : PySem.W.subIn K (.ref C_InvalidNet) (.ref C_ParseError) = some false)
    (ne_ParseError_InvalidNet : C_InvalidNet ≠ C_ParseError)
    (su_ParseError_InvalidRoad : PySem.W.subIn K (.ref C_InvalidRoad) (.ref C_ParseError) = some false)
    (ne_ParseError_InvalidRoad : C_InvalidRoad ≠ C_ParseError)
    (ec_InvalidNet : ExcC K C_InvalidNet)
    (ec_InvalidRoad : ExcC K C_InvalidRoad)
    (ec_ParseError : ExcC K C_ParseError) :
    ∃ fd : FuncData, (∀ (s : Shared) (v : Value), BindsTo s fd ⟨[v], []⟩ [("script", v)]) ∧ ∀ base : Heap, K.In base → base.Ns mainGlobals mg → FnOk P w K mg base (L2.CX P w) 9 fa fd ["script"] (spT K) := by
  have e := hfa.symm.trans (PySem.W.mg_of X G a_law)
  cases e
  let T : Fx K mg := {
    f_is_int := f_is_int
    fd_is_int := (PySem.W.fnOf "is_int" "is_int" (defArgs s_is_int) (defBody s_is_int) (defScope s_is_int) .none kV_is_int dc_is_int pm_is_int an_is_int cd_is_int ct_is_int)
    F_is_int := fun_mk (st := s_is_int) l_is_int c_is_int k_is_int
    b_is_int := (fun_mk (st := s_is_int) l_is_int c_is_int k_is_int).binds (ps := ["value", "least", "most"]) fun _ _ _ _ _ _ us hl => match us, hl with | [_, _, _], _ => rfl
    g_is_int := PySem.W.mg_of X G a_is_int
    f_are_signs := f_are_signs
    fd_are_signs := (PySem.W.fnOf "are_signs" "are_signs" (defArgs s_are_signs) (defBody s_are_signs) (defScope s_are_signs) .none kV_are_signs dc_are_signs pm_are_signs an_are_signs cd_are_signs ct_are_signs)
    F_are_signs := fun_mk (st := s_are_signs) l_are_signs c_are_signs k_are_signs
    b_are_signs := (fun_mk (st := s_are_signs) l_are_signs c_are_signs k_are_signs).binds (ps := ["value"]) fun _ _ _ _ _ _ us hl => match us, hl with | [_], _ => rfl
    g_are_signs := PySem.W.mg_of X G a_are_signs
    f_is_road := f_is_road
    fd_is_road := (PySem.W.fnOf "is_road" "is_road" (defArgs s_is_road) (defBody s_is_road) (defScope s_is_road) .none kV_is_road dc_is_road pm_is_road an_is_road cd_is_road ct_is_road)
    F_is_road := fun_mk (st := s_is_road) l_is_road c_is_road k_is_road
    b_is_road := (fun_mk (st := s_is_road) l_is_road c_is_road k_is_road).binds (ps := ["value"]) fun _ _ _ _ _ _ us hl => match us, hl with | [_], _ => rfl
    g_is_road := PySem.W.mg_of X G a_is_road
    f_is_net := f_is_net
    fd_is_net := (PySem.W.fnOf "is_net" "is_net" (defArgs s_is_net) (defBody s_is_net) (defScope s_is_net) .none kV_is_net dc_is_net pm_is_net an_is_net cd_is_net ct_is_net)
    F_is_net := fun_mk (st := s_is_net) l_is_net c_is_net k_is_net
    b_is_net := (fun_mk (st := s_is_net) l_is_net c_is_net k_is_net).binds (ps := ["candidate"]) fun _ _ _ _ _ _ us hl => match us, hl with | [_], _ => rfl
    g_is_net := PySem.W.mg_of X G a_is_net
    f_check_net := f_check_net
    fd_check_net := (PySem.W.fnOf "check_net" "check_net" (defArgs s_check_net) (defBody s_check_net) (defScope s_check_net) .none kV_check_net dc_check_net pm_check_net an_check_net cd_check_net ct_check_net)
    F_check_net := fun_mk (st := s_check_net) l_check_net c_check_net k_check_net
    b_check_net := (fun_mk (st := s_check_net) l_check_net c_check_net k_check_net).binds (ps := ["value"]) fun _ _ _ _ _ _ us hl => match us, hl with | [_], _ => rfl
    g_check_net := PySem.W.mg_of X G a_check_net
    f_check_road := f_check_road
    fd_check_road := (PySem.W.fnOf "check_road" "check_road" (defArgs s_check_road) (defBody s_check_road) (defScope s_check_road) .none kV_check_road dc_check_road pm_check_road an_check_road cd_check_road ct_check_road)
    F_check_road := fun_mk (st := s_check_road) l_check_road c_check_road k_check_road
    b_check_road := (fun_mk (st := s_check_road) l_check_road c_check_road k_check_road).binds (ps := ["net", "value"]) fun _ _ _ _ _ _ us hl => match us, hl with | [_, _], _ => rfl
    g_check_road := PySem.W.mg_of X G a_check_road
    f_find_followers := f_find_followers
    fd_find_followers := (PySem.W.fnOf "find_followers" "find_followers" (defArgs s_find_followers) (defBody s_find_followers) (defScope s_find_followers) .none kV_find_followers dc_find_followers pm_find_followers an_find_followers cd_find_followers ct_find_followers)
    F_find_followers := fun_mk (st := s_find_followers) l_find_followers c_find_followers k_find_followers
    b_find_followers := (fun_mk (st := s_find_followers) l_find_followers c_find_followers k_find_followers).binds (ps := ["net", "road"]) fun _ _ _ _ _ _ us hl => match us, hl with | [_, _], _ => rfl
    g_find_followers := PySem.W.mg_of X G a_find_followers
    f_find_standing := f_find_standing
    fd_find_standing := (PySem.W.fnOf "find_standing" "find_standing" (defArgs s_find_standing) (defBody s_find_standing) (defScope s_find_standing) .none kV_find_standing dc_find_standing pm_find_standing an_find_standing cd_find_standing ct_find_standing)
    F_find_standing := fun_mk (st := s_find_standing) l_find_standing c_find_standing k_find_standing
    b_find_standing := (fun_mk (st := s_find_standing) l_find_standing c_find_standing k_find_standing).binds (ps := ["net", "road"]) fun _ _ _ _ _ _ us hl => match us, hl with | [_, _], _ => rfl
    g_find_standing := PySem.W.mg_of X G a_find_standing
    f_pieces := f_pieces
    fd_pieces := (PySem.W.fnOf "pieces" "pieces" (defArgs s_pieces) (defBody s_pieces) (defScope s_pieces) .none kV_pieces dc_pieces pm_pieces an_pieces cd_pieces ct_pieces)
    F_pieces := fun_mk (st := s_pieces) l_pieces c_pieces k_pieces
    b_pieces := (fun_mk (st := s_pieces) l_pieces c_pieces k_pieces).binds (ps := ["net", "road", "state"]) fun _ _ _ _ _ _ us hl => match us, hl with | [_, _, _], _ => rfl
    g_pieces := PySem.W.mg_of X G a_pieces
    f_leave := f_leave
    fd_leave := (PySem.W.fnOf "leave" "leave" (defArgs s_leave) (defBody s_leave) (defScope s_leave) .none kV_leave dc_leave pm_leave an_leave cd_leave ct_leave)
    F_leave := fun_mk (st := s_leave) l_leave c_leave k_leave
    b_leave := (fun_mk (st := s_leave) l_leave c_leave k_leave).binds (ps := ["net", "road", "state"]) fun _ _ _ _ _ _ us hl => match us, hl with | [_, _, _], _ => rfl
    g_leave := PySem.W.mg_of X G a_leave
    f_go_over := f_go_over
    fd_go_over := (PySem.W.fnOf "go_over" "go_over" (defArgs s_go_over) (defBody s_go_over) (defScope s_go_over) .none kV_go_over dc_go_over pm_go_over an_go_over cd_go_over ct_go_over)
    F_go_over := fun_mk (st := s_go_over) l_go_over c_go_over k_go_over
    b_go_over := (fun_mk (st := s_go_over) l_go_over c_go_over k_go_over).binds (ps := ["net", "state"]) fun _ _ _ _ _ _ us hl => match us, hl with | [_, _], _ => rfl
    g_go_over := PySem.W.mg_of X G a_go_over
    f_find_places := f_find_places
    fd_find_places := (PySem.W.fnOf "find_places" "find_places" (defArgs s_find_places) (defBody s_find_places) (defScope s_find_places) .none kV_find_places dc_find_places pm_find_places an_find_places cd_find_places ct_find_places)
    F_find_places := fun_mk (st := s_find_places) l_find_places c_find_places k_find_places
    b_find_places := (fun_mk (st := s_find_places) l_find_places c_find_places k_find_places).binds (ps := ["net"]) fun _ _ _ _ _ _ us hl => match us, hl with | [_], _ => rfl
    g_find_places := PySem.W.mg_of X G a_find_places
    f_find_states := f_find_states
    fd_find_states := (PySem.W.fnOf "find_states" "find_states" (defArgs s_find_states) (defBody s_find_states) (defScope s_find_states) .none kV_find_states dc_find_states pm_find_states an_find_states cd_find_states ct_find_states)
    F_find_states := fun_mk (st := s_find_states) l_find_states c_find_states k_find_states
    b_find_states := (fun_mk (st := s_find_states) l_find_states c_find_states k_find_states).binds (ps := ["net", "road"]) fun _ _ _ _ _ _ us hl => match us, hl with | [_, _], _ => rfl
    g_find_states := PySem.W.mg_of X G a_find_states
    f_find_possible := f_find_possible
    fd_find_possible := (PySem.W.fnOf "find_possible" "find_possible" (defArgs s_find_possible) (defBody s_find_possible) (defScope s_find_possible) .none kV_find_possible dc_find_possible pm_find_possible an_find_possible cd_find_possible ct_find_possible)
    F_find_possible := fun_mk (st := s_find_possible) l_find_possible c_find_possible k_find_possible
    b_find_possible := (fun_mk (st := s_find_possible) l_find_possible c_find_possible k_find_possible).binds (ps := ["net", "road", "piece"]) fun _ _ _ _ _ _ us hl => match us, hl with | [_, _, _], _ => rfl
    g_find_possible := PySem.W.mg_of X G a_find_possible
    f_join_road := f_join_road
    fd_join_road := (PySem.W.fnOf "join_road" "join_road" (defArgs s_join_road) (defBody s_join_road) (defScope s_join_road) .none kV_join_road dc_join_road pm_join_road an_join_road cd_join_road ct_join_road)
    F_join_road := fun_mk (st := s_join_road) l_join_road c_join_road k_join_road
    b_join_road := (fun_mk (st := s_join_road) l_join_road c_join_road k_join_road).binds (ps := ["road"]) fun _ _ _ _ _ _ us hl => match us, hl with | [_], _ => rfl
    g_join_road := PySem.W.mg_of X G a_join_road
    f_join_net := f_join_net
    fd_join_net := (PySem.W.fnOf "join_net" "join_net" (defArgs s_join_net) (defBody s_join_net) (defScope s_join_net) .none kV_join_net dc_join_net pm_join_net an_join_net cd_join_net ct_join_net)
    F_join_net := fun_mk (st := s_join_net) l_join_net c_join_net k_join_net
    b_join_net := (fun_mk (st := s_join_net) l_join_net c_join_net k_join_net).binds (ps := ["net"]) fun _ _ _ _ _ _ us hl => match us, hl with | [_], _ => rfl
    g_join_net := PySem.W.mg_of X G a_join_net
    f_format_net := f_format_net
    fd_format_net := (PySem.W.fnOf "format_net" "format_net" (defArgs s_format_net) (defBody s_format_net) (defScope s_format_net) .none kV_format_net dc_format_net pm_format_net an_format_net cd_format_net ct_format_net)
    F_format_net := fun_mk (st := s_format_net) l_format_net c_format_net k_format_net
    b_format_net := (fun_mk (st := s_format_net) l_format_net c_format_net k_format_net).binds (ps := ["net"]) fun _ _ _ _ _ _ us hl => match us, hl with | [_], _ => rfl
    g_format_net := PySem.W.mg_of X G a_format_net
    f_read_int := f_read_int
    fd_read_int := (PySem.W.fnOf "read_int" "read_int" (defArgs s_read_int) (defBody s_read_int) (defScope s_read_int) .none kV_read_int dc_read_int pm_read_int an_read_int cd_read_int ct_read_int)
    F_read_int := fun_mk (st := s_read_int) l_read_int c_read_int k_read_int
    b_read_int := (fun_mk (st := s_read_int) l_read_int c_read_int k_read_int).binds (ps := ["text"]) fun _ _ _ _ _ _ us hl => match us, hl with | [_], _ => rfl
    g_read_int := PySem.W.mg_of X G a_read_int
    f_read_road := f_read_road
    fd_read_road := (PySem.W.fnOf "read_road" "read_road" (defArgs s_read_road) (defBody s_read_road) (defScope s_read_road) .none kV_read_road dc_read_road pm_read_road an_read_road cd_read_road ct_read_road)
    F_read_road := fun_mk (st := s_read_road) l_read_road c_read_road k_read_road
    b_read_road := (fun_mk (st := s_read_road) l_read_road c_read_road k_read_road).binds (ps := ["text"]) fun _ _ _ _ _ _ us hl => match us, hl with | [_], _ => rfl
    g_read_road := PySem.W.mg_of X G a_read_road
    f_parse_net := f_parse_net
    fd_parse_net := (PySem.W.fnOf "parse_net" "parse_net" (defArgs s_parse_net) (defBody s_parse_net) (defScope s_parse_net) .none kV_parse_net dc_parse_net pm_parse_net an_parse_net cd_parse_net ct_parse_net)
    F_parse_net := fun_mk (st := s_parse_net) l_parse_net c_parse_net k_parse_net
    b_parse_net := (fun_mk (st := s_parse_net) l_parse_net c_parse_net k_parse_net).binds (ps := ["text"]) fun _ _ _ _ _ _ us hl => match us, hl with | [_], _ => rfl
    g_parse_net := PySem.W.mg_of X G a_parse_net
    f_board := f_board
    fd_board := (PySem.W.fnOf "board" "board" (defArgs s_board) (defBody s_board) (defScope s_board) .none kV_board dc_board pm_board an_board cd_board ct_board)
    F_board := fun_mk (st := s_board) l_board c_board k_board
    b_board := (fun_mk (st := s_board) l_board c_board k_board).binds (ps := ["net", "road"]) fun _ _ _ _ _ _ us hl => match us, hl with | [_, _], _ => rfl
    g_board := PySem.W.mg_of X G a_board
    f_l_drawn := f_l_drawn
    fd_l_drawn := (PySem.W.fnOf "_law_drawn" "_law_drawn" (defArgs s_l_drawn) (defBody s_l_drawn) (defScope s_l_drawn) .none kV_l_drawn dc_l_drawn pm_l_drawn an_l_drawn cd_l_drawn ct_l_drawn)
    F_l_drawn := fun_mk (st := s_l_drawn) l_l_drawn c_l_drawn k_l_drawn
    b_l_drawn := (fun_mk (st := s_l_drawn) l_l_drawn c_l_drawn k_l_drawn).binds (ps := ["script", "k", "many"]) fun _ _ _ _ _ _ us hl => match us, hl with | [_, _, _], _ => rfl
    g_l_drawn := PySem.W.mg_of X G a_l_drawn
    f_l_net := f_l_net
    fd_l_net := (PySem.W.fnOf "_law_net" "_law_net" (defArgs s_l_net) (defBody s_l_net) (defScope s_l_net) .none kV_l_net dc_l_net pm_l_net an_l_net cd_l_net ct_l_net)
    F_l_net := fun_mk (st := s_l_net) l_l_net c_l_net k_l_net
    b_l_net := (fun_mk (st := s_l_net) l_l_net c_l_net k_l_net).binds (ps := ["script", "at", "most"]) fun _ _ _ _ _ _ us hl => match us, hl with | [_, _, _], _ => rfl
    g_l_net := PySem.W.mg_of X G a_l_net
    f_l_pieces := f_l_pieces
    fd_l_pieces := (PySem.W.fnOf "_law_pieces" "_law_pieces" (defArgs s_l_pieces) (defBody s_l_pieces) (defScope s_l_pieces) .none kV_l_pieces dc_l_pieces pm_l_pieces an_l_pieces cd_l_pieces ct_l_pieces)
    F_l_pieces := fun_mk (st := s_l_pieces) l_l_pieces c_l_pieces k_l_pieces
    b_l_pieces := (fun_mk (st := s_l_pieces) l_l_pieces c_l_pieces k_l_pieces).binds (ps := ["net", "road", "state"]) fun _ _ _ _ _ _ us hl => match us, hl with | [_, _, _], _ => rfl
    g_l_pieces := PySem.W.mg_of X G a_l_pieces
    f_l_behind := f_l_behind
    fd_l_behind := (PySem.W.fnOf "_law_behind" "_law_behind" (defArgs s_l_behind) (defBody s_l_behind) (defScope s_l_behind) .none kV_l_behind dc_l_behind pm_l_behind an_l_behind cd_l_behind ct_l_behind)
    F_l_behind := fun_mk (st := s_l_behind) l_l_behind c_l_behind k_l_behind
    b_l_behind := (fun_mk (st := s_l_behind) l_l_behind c_l_behind k_l_behind).binds (ps := ["net", "road", "state"]) fun _ _ _ _ _ _ us hl => match us, hl with | [_, _, _], _ => rfl
    g_l_behind := PySem.W.mg_of X G a_l_behind
    f_l_next := f_l_next
    fd_l_next := (PySem.W.fnOf "_law_next" "_law_next" (defArgs s_l_next) (defBody s_l_next) (defScope s_l_next) .none kV_l_next dc_l_next pm_l_next an_l_next cd_l_next ct_l_next)
    F_l_next := fun_mk (st := s_l_next) l_l_next c_l_next k_l_next
    b_l_next := (fun_mk (st := s_l_next) l_l_next c_l_next k_l_next).binds (ps := ["net", "road"]) fun _ _ _ _ _ _ us hl => match us, hl with | [_, _], _ => rfl
    g_l_next := PySem.W.mg_of X G a_l_next
    f_l_places := f_l_places
    fd_l_places := (PySem.W.fnOf "_law_places" "_law_places" (defArgs s_l_places) (defBody s_l_places) (defScope s_l_places) .none kV_l_places dc_l_places pm_l_places an_l_places cd_l_places ct_l_places)
    F_l_places := fun_mk (st := s_l_places) l_l_places c_l_places k_l_places
    b_l_places := (fun_mk (st := s_l_places) l_l_places c_l_places k_l_places).binds (ps := ["net"]) fun _ _ _ _ _ _ us hl => match us, hl with | [_], _ => rfl
    g_l_places := PySem.W.mg_of X G a_l_places
    f_l_badnet := f_l_badnet
    fd_l_badnet := (PySem.W.fnOf "_law_badnet" "_law_badnet" (defArgs s_l_badnet) (defBody s_l_badnet) (defScope s_l_badnet) .none kV_l_badnet dc_l_badnet pm_l_badnet an_l_badnet cd_l_badnet ct_l_badnet)
    F_l_badnet := fun_mk (st := s_l_badnet) l_l_badnet c_l_badnet k_l_badnet
    b_l_badnet := (fun_mk (st := s_l_badnet) l_l_badnet c_l_badnet k_l_badnet).binds (ps := ["script", "at"]) fun _ _ _ _ _ _ us hl => match us, hl with | [_, _], _ => rfl
    g_l_badnet := PySem.W.mg_of X G a_l_badnet
    f_l_text := f_l_text
    fd_l_text := (PySem.W.fnOf "_law_text" "_law_text" (defArgs s_l_text) (defBody s_l_text) (defScope s_l_text) .none kV_l_text dc_l_text pm_l_text an_l_text cd_l_text ct_l_text)
    F_l_text := fun_mk (st := s_l_text) l_l_text c_l_text k_l_text
    b_l_text := (fun_mk (st := s_l_text) l_l_text c_l_text k_l_text).binds (ps := ["net"]) fun _ _ _ _ _ _ us hl => match us, hl with | [_], _ => rfl
    g_l_text := PySem.W.mg_of X G a_l_text
    f_l_again := f_l_again
    fd_l_again := (PySem.W.fnOf "_law_again" "_law_again" (defArgs s_l_again) (defBody s_l_again) (defScope s_l_again) .none kV_l_again dc_l_again pm_l_again an_l_again cd_l_again ct_l_again)
    F_l_again := fun_mk (st := s_l_again) l_l_again c_l_again k_l_again
    b_l_again := (fun_mk (st := s_l_again) l_l_again c_l_again k_l_again).binds (ps := ["text"]) fun _ _ _ _ _ _ us hl => match us, hl with | [_], _ => rfl
    g_l_again := PySem.W.mg_of X G a_l_again
    f_l_bad := f_l_bad
    fd_l_bad := (PySem.W.fnOf "_law_bad" "_law_bad" (defArgs s_l_bad) (defBody s_l_bad) (defScope s_l_bad) .none kV_l_bad dc_l_bad pm_l_bad an_l_bad cd_l_bad ct_l_bad)
    F_l_bad := fun_mk (st := s_l_bad) l_l_bad c_l_bad k_l_bad
    b_l_bad := (fun_mk (st := s_l_bad) l_l_bad c_l_bad k_l_bad).binds (ps := []) fun _ _ _ _ _ _ us hl => match us, hl with | [], _ => rfl
    g_l_bad := PySem.W.mg_of X G a_l_bad
    f_l_refused := f_l_refused
    fd_l_refused := (PySem.W.fnOf "_law_refused" "_law_refused" (defArgs s_l_refused) (defBody s_l_refused) (defScope s_l_refused) .none kV_l_refused dc_l_refused pm_l_refused an_l_refused cd_l_refused ct_l_refused)
    F_l_refused := fun_mk (st := s_l_refused) l_l_refused c_l_refused k_l_refused
    b_l_refused := (fun_mk (st := s_l_refused) l_l_refused c_l_refused k_l_refused).binds (ps := ["way", "one", "two"]) fun _ _ _ _ _ _ us hl => match us, hl with | [_, _, _], _ => rfl
    g_l_refused := PySem.W.mg_of X G a_l_refused
    f_law := fa
    fd_law := (PySem.W.fnOf "law" "law" (defArgs s_law) (defBody s_law) (defScope s_law) .none kV_law dc_law pm_law an_law cd_law ct_law)
    F_law := fun_mk (st := s_law) l_law c_law k_law
    b_law := (fun_mk (st := s_law) l_law c_law k_law).binds (ps := ["script"]) fun _ _ _ _ _ _ us hl => match us, hl with | [_], _ => rfl
    g_law := PySem.W.mg_of X G a_law
    m_all := PySem.W.mg_none_of X G z_all
    m_bool := PySem.W.mg_none_of X G z_bool
    m_enumerate := PySem.W.mg_none_of X G z_enumerate
    m_int := PySem.W.mg_none_of X G z_int
    m_isinstance := PySem.W.mg_none_of X G z_isinstance
    m_len := PySem.W.mg_none_of X G z_len
    m_range := PySem.W.mg_none_of X G z_range
    m_set := PySem.W.mg_none_of X G z_set
    m_sorted := PySem.W.mg_none_of X G z_sorted
    m_str := PySem.W.mg_none_of X G z_str
    m_tuple := PySem.W.mg_none_of X G z_tuple
    c_COLON := ⟨_, PySem.W.mg_of X G q_COLON⟩
    c_DASH := ⟨_, PySem.W.mg_of X G q_DASH⟩
    c_DIGITS := ⟨_, PySem.W.mg_of X G q_DIGITS⟩
    c_HEAD := ⟨_, PySem.W.mg_of X G q_HEAD⟩
    c_MAX_DIGITS := ⟨_, PySem.W.mg_of X G q_MAX_DIGITS⟩
    c_MAX_JUNCTION := ⟨_, PySem.W.mg_of X G q_MAX_JUNCTION⟩
    c_MAX_LIMIT := ⟨_, PySem.W.mg_of X G q_MAX_LIMIT⟩
    c_MAX_ROADS := ⟨_, PySem.W.mg_of X G q_MAX_ROADS⟩
    c_MAX_SIGNS := ⟨_, PySem.W.mg_of X G q_MAX_SIGNS⟩
    c_MIN_FAST := ⟨_, PySem.W.mg_of X G q_MIN_FAST⟩
    c_OR := ⟨_, PySem.W.mg_of X G q_OR⟩
    c_SPACE := ⟨_, PySem.W.mg_of X G q_SPACE⟩
    c_TOWN := ⟨_, PySem.W.mg_of X G q_TOWN⟩
    c_UNIT := ⟨_, PySem.W.mg_of X G q_UNIT⟩
    C_InvalidNet := C_InvalidNet
    gc_InvalidNet := PySem.W.mg_of X G g_InvalidNet
    x_InvalidNet := x_InvalidNet
    k_InvalidNet := kc_InvalidNet
    sb_InvalidNet := sb_InvalidNet
    ty_InvalidNet := ty_InvalidNet
    C_InvalidRoad := C_InvalidRoad
    gc_InvalidRoad := PySem.W.mg_of X G g_InvalidRoad
    x_InvalidRoad := x_InvalidRoad
    k_InvalidRoad := kc_InvalidRoad
    sb_InvalidRoad := sb_InvalidRoad
    ty_InvalidRoad := ty_InvalidRoad
    C_ParseError := C_ParseError
    gc_ParseError := PySem.W.mg_of X G g_ParseError
    x_ParseError := x_ParseError
    k_ParseError := kc_ParseError
    sb_ParseError := sb_ParseError
    ty_ParseError := ty_ParseError
    C_LimitError := C_LimitError
    gc_LimitError := PySem.W.mg_of X G g_LimitError
    ex_LimitError := fun c C hc hm => by
        simp only [knownX, List.mem_cons, List.not_mem_nil, or_false] at hc
        rcases hc with rfl | rfl | rfl
        · rw [PySem.W.mg_of X G g_InvalidNet] at hm; cases hm; exact PySem.W.exm_ref sb_LimitError hd_LimitError ty_LimitError su_LimitError_InvalidNet
        · rw [PySem.W.mg_of X G g_InvalidRoad] at hm; cases hm; exact PySem.W.exm_ref sb_LimitError hd_LimitError ty_LimitError su_LimitError_InvalidRoad
        · rw [PySem.W.mg_of X G g_ParseError] at hm; cases hm; exact PySem.W.exm_ref sb_LimitError hd_LimitError ty_LimitError su_LimitError_ParseError
    ec := fun c C hc hm => by
        simp only [knownX, List.mem_cons, List.not_mem_nil, or_false] at hc
        rcases hc with rfl | rfl | rfl
        · rw [PySem.W.mg_of X G g_InvalidNet] at hm; cases hm; exact ec_InvalidNet
        · rw [PySem.W.mg_of X G g_InvalidRoad] at hm; cases hm; exact ec_InvalidRoad
        · rw [PySem.W.mg_of X G g_ParseError] at hm; cases hm; exact ec_ParseError
    kt_InvalidNet := fun c C hc hm => by
        simp only [knownX, List.mem_cons, List.not_mem_nil, or_false] at hc
        rcases hc with rfl | rfl | rfl
        · rw [PySem.W.mg_of X G g_InvalidNet] at hm; cases hm; exact kit_self
        · rw [PySem.W.mg_of X G g_InvalidRoad] at hm; cases hm; exact kit_ref ne_InvalidNet_InvalidRoad hd_InvalidNet ty_InvalidNet su_InvalidNet_InvalidRoad
        · rw [PySem.W.mg_of X G g_ParseError] at hm; cases hm; exact kit_ref ne_InvalidNet_ParseError hd_InvalidNet ty_InvalidNet su_InvalidNet_ParseError
    kt_InvalidRoad := fun c C hc hm => by
        simp only [knownX, List.mem_cons, List.not_mem_nil, or_false] at hc
        rcases hc with rfl | rfl | rfl
        · rw [PySem.W.mg_of X G g_InvalidNet] at hm; cases hm; exact kit_ref ne_InvalidRoad_InvalidNet hd_InvalidRoad ty_InvalidRoad su_InvalidRoad_InvalidNet
        · rw [PySem.W.mg_of X G g_InvalidRoad] at hm; cases hm; exact kit_self
        · rw [PySem.W.mg_of X G g_ParseError] at hm; cases hm; exact kit_ref ne_InvalidRoad_ParseError hd_InvalidRoad ty_InvalidRoad su_InvalidRoad_ParseError
    kt_ParseError := fun c C hc hm => by
        simp only [knownX, List.mem_cons, List.not_mem_nil, or_false] at hc
        rcases hc with rfl | rfl | rfl
        · rw [PySem.W.mg_of X G g_InvalidNet] at hm; cases hm; exact kit_ref ne_ParseError_InvalidNet hd_ParseError ty_ParseError su_ParseError_InvalidNet
        · rw [PySem.W.mg_of X G g_InvalidRoad] at hm; cases hm; exact kit_ref ne_ParseError_InvalidRoad hd_ParseError ty_ParseError su_ParseError_InvalidRoad
        · rw [PySem.W.mg_of X G g_ParseError] at hm; cases hm; exact kit_self }
  exact ⟨(PySem.W.fnOf "law" "law" (defArgs s_law) (defBody s_law) (defScope s_law) .none kV_law dc_law pm_law an_law cd_law ct_law), fun s v => .of_eq rfl, fun base _ _ => (ok_law T).imp fun vs H Q E q => spT_of q⟩
end LW
open PySem PySem.W PyProof.Rows
set_option maxHeartbeats 0 in
theorem PySem.Challenge.cw_limitsigns_k68_formats_holds : PySem.Challenge.rw_limitsigns_k68_formats.Holds := by
  w_on; o_law; k_head; (case hw => w_witness2)
  k_fill
  refine L2.walk_of (l := PySem.Challenge.rw_limitsigns_k68_formats) (n := 63) (k := 9) (x := "script") (CX := fun w => L2.CX PySem.Challenge.rw_limitsigns_k68_formats.prog w) (sp := fun w => LW.spT _) rfl (by decide) rfl ⟨rfl, by decide, by decide⟩ (fun w h Y => PySem.W.kIn_of Y) ?F (fun _ _ a ns hl _ hS => ⟨a, ns, rfl, hS, hl, fun _ => rfl⟩) (fun _ _ _ _ _ h => by obtain ⟨_, _, _, _, _, _, _, _, _, _, _, _, z⟩ := h; exact z)
  case F =>
    intro w mg fa h KX G hmg
    refine' LW.all_mk KX G hmg ?a_is_int ?l_is_int ?c_is_int ?k_is_int ?a_are_signs ?l_are_signs ?c_are_signs ?k_are_signs ?a_is_road ?l_is_road ?c_is_road ?k_is_road ?a_is_net ?l_is_net ?c_is_net ?k_is_net ?a_check_net ?l_check_net ?c_check_net ?k_check_net ?a_check_road ?l_check_road ?c_check_road ?k_check_road ?a_find_followers ?l_find_followers ?c_find_followers ?k_find_followers ?a_find_standing ?l_find_standing ?c_find_standing ?k_find_standing ?a_pieces ?l_pieces ?c_pieces ?k_pieces ?a_leave ?l_leave ?c_leave ?k_leave ?a_go_over ?l_go_over ?c_go_over ?k_go_over ?a_find_places ?l_find_places ?c_find_places ?k_find_places ?a_find_states ?l_find_states ?c_find_states ?k_find_states ?a_find_possible ?l_find_possible ?c_find_possible ?k_find_possible ?a_join_road ?l_join_road ?c_join_road ?k_join_road ?a_join_net ?l_join_net ?c_join_net ?k_join_net ?a_format_net ?l_format_net ?c_format_net ?k_format_net ?a_read_int ?l_read_int ?c_read_int ?k_read_int ?a_read_road ?l_read_road ?c_read_road ?k_read_road ?a_parse_net ?l_parse_net ?c_parse_net ?k_parse_net ?a_board ?l_board ?c_board ?k_board ?a_l_drawn ?l_l_drawn ?c_l_drawn ?k_l_drawn ?a_l_net ?l_l_net ?c_l_net ?k_l_net ?a_l_pieces ?l_l_pieces ?c_l_pieces ?k_l_pieces ?a_l_behind ?l_l_behind ?c_l_behind ?k_l_behind ?a_l_next ?l_l_next ?c_l_next ?k_l_next ?a_l_places ?l_l_places ?c_l_places ?k_l_places ?a_l_badnet ?l_l_badnet ?c_l_badnet ?k_l_badnet ?a_l_text ?l_l_text ?c_l_text ?k_l_text ?a_l_again ?l_l_again ?c_l_again ?k_l_again ?a_l_bad ?l_l_bad ?c_l_bad ?k_l_bad ?a_l_refused ?l_l_refused ?c_l_refused ?k_l_refused ?a_law ?l_law ?c_law ?k_law ?z_all ?z_bool ?z_enumerate ?z_int ?z_isinstance ?z_len ?z_range ?z_set ?z_sorted ?z_str ?z_tuple ?q_COLON ?q_DASH ?q_DIGITS ?q_HEAD ?q_MAX_DIGITS ?q_MAX_JUNCTION ?q_MAX_LIMIT ?q_MAX_ROADS ?q_MAX_SIGNS ?q_MIN_FAST ?q_OR ?q_SPACE ?q_TOWN ?q_UNIT ?g_InvalidNet ?x_InvalidNet ?kc_InvalidNet ?sb_InvalidNet ?ty_InvalidNet ?g_InvalidRoad ?x_InvalidRoad ?kc_InvalidRoad ?sb_InvalidRoad ?ty_InvalidRoad ?g_ParseError ?x_ParseError ?kc_ParseError ?sb_ParseError ?ty_ParseError ?g_LimitError ?hd_InvalidNet ?su_InvalidNet_InvalidRoad ?ne_InvalidNet_InvalidRoad ?su_InvalidNet_ParseError ?ne_InvalidNet_ParseError ?hd_InvalidRoad ?su_InvalidRoad_InvalidNet ?ne_InvalidRoad_InvalidNet ?su_InvalidRoad_ParseError ?ne_InvalidRoad_ParseError ?hd_LimitError ?sb_LimitError ?ty_LimitError ?su_LimitError_InvalidNet ?su_LimitError_InvalidRoad ?su_LimitError_ParseError ?hd_ParseError ?su_ParseError_InvalidNet ?ne_ParseError_InvalidNet ?su_ParseError_InvalidRoad ?ne_ParseError_InvalidRoad ?ec_InvalidNet ?ec_InvalidRoad ?ec_ParseError
    (case a_is_int => k_is); (case l_is_int => k_is); (case c_is_int => k_is); (case k_is_int => k_is); (case a_are_signs => k_is); (case l_are_signs => k_is); (case c_are_signs => k_is); (case k_are_signs => k_is); (case a_is_road => k_is); (case l_is_road => k_is); (case c_is_road => k_is); (case k_is_road => k_is); (case a_is_net => k_is); (case l_is_net => k_is); (case c_is_net => k_is); (case k_is_net => k_is); (case a_check_net => k_is); (case l_check_net => k_is); (case c_check_net => k_is); (case k_check_net => k_is); (case a_check_road => k_is); (case l_check_road => k_is); (case c_check_road => k_is); (case k_check_road => k_is); (case a_find_followers => k_is); (case l_find_followers => k_is); (case c_find_followers => k_is); (case k_find_followers => k_is); (case a_find_standing => k_is); (case l_find_standing => k_is); (case c_find_standing => k_is); (case k_find_standing => k_is); (case a_pieces => k_is); (case l_pieces => k_is); (case c_pieces => k_is); (case k_pieces => k_is); (case a_leave => k_is); (case l_leave => k_is); (case c_leave => k_is); (case k_leave => k_is); (case a_go_over => k_is); (case l_go_over => k_is); (case c_go_over => k_is); (case k_go_over => k_is); (case a_find_places => k_is); (case l_find_places => k_is); (case c_find_places => k_is); (case k_find_places => k_is); (case a_find_states => k_is); (case l_find_states => k_is); (case c_find_states => k_is); (case k_find_states => k_is); (case a_find_possible => k_is); (case l_find_possible => k_is); (case c_find_possible => k_is); (case k_find_possible => k_is); (case a_join_road => k_is); (case l_join_road => k_is); (case c_join_road => k_is); (case k_join_road => k_is); (case a_join_net => k_is); (case l_join_net => k_is); (case c_join_net => k_is); (case k_join_net => k_is); (case a_format_net => k_is); (case l_format_net => k_is); (case c_format_net => k_is); (case k_format_net => k_is); (case a_read_int => k_is); (case l_read_int => k_is); (case c_read_int => k_is); (case k_read_int => k_is); (case a_read_road => k_is); (case l_read_road => k_is); (case c_read_road => k_is); (case k_read_road => k_is); (case a_parse_net => k_is); (case l_parse_net => k_is); (case c_parse_net => k_is); (case k_parse_net => k_is); (case a_board => k_is); (case l_board => k_is); (case c_board => k_is); (case k_board => k_is); (case a_l_drawn => k_is); (case l_l_drawn => k_is); (case c_l_drawn => k_is); (case k_l_drawn => k_is); (case a_l_net => k_is); (case l_l_net => k_is); (case c_l_net => k_is); (case k_l_net => k_is); (case a_l_pieces => k_is); (case l_l_pieces => k_is); (case c_l_pieces => k_is); (case k_l_pieces => k_is); (case a_l_behind => k_is); (case l_l_behind => k_is); (case c_l_behind => k_is); (case k_l_behind => k_is); (case a_l_next => k_is); (case l_l_next => k_is); (case c_l_next => k_is); (case k_l_next => k_is); (case a_l_places => k_is); (case l_l_places => k_is); (case c_l_places => k_is); (case k_l_places => k_is); (case a_l_badnet => k_is); (case l_l_badnet => k_is); (case c_l_badnet => k_is); (case k_l_badnet => k_is); (case a_l_text => k_is); (case l_l_text => k_is); (case c_l_text => k_is); (case k_l_text => k_is); (case a_l_again => k_is); (case l_l_again => k_is); (case c_l_again => k_is); (case k_l_again => k_is); (case a_l_bad => k_is); (case l_l_bad => k_is); (case c_l_bad => k_is); (case k_l_bad => k_is); (case a_l_refused => k_is); (case l_l_refused => k_is); (case c_l_refused => k_is); (case k_l_refused => k_is); (case a_law => k_is); (case l_law => k_is); (case c_law => k_is); (case k_law => k_is); (case z_all => k_is); (case z_bool => k_is); (case z_enumerate => k_is); (case z_int => k_is); (case z_isinstance => k_is); (case z_len => k_is); (case z_range => k_is); (case z_set => k_is); (case z_sorted => k_is); (case z_str => k_is); (case z_tuple => k_is); (case q_COLON => k_is); (case q_DASH => k_is); (case q_DIGITS => k_is); (case q_HEAD => k_is); (case q_MAX_DIGITS => k_is); (case q_MAX_JUNCTION => k_is); (case q_MAX_LIMIT => k_is); (case q_MAX_ROADS => k_is); (case q_MAX_SIGNS => k_is); (case q_MIN_FAST => k_is); (case q_OR => k_is); (case q_SPACE => k_is); (case q_TOWN => k_is); (case q_UNIT => k_is); (case g_InvalidNet => k_is); (case x_InvalidNet => k_exc); (case kc_InvalidNet => k_is); (case sb_InvalidNet => k_is); (case ty_InvalidNet => k_is); (case g_InvalidRoad => k_is); (case x_InvalidRoad => k_exc); (case kc_InvalidRoad => k_is); (case sb_InvalidRoad => k_is); (case ty_InvalidRoad => k_is); (case g_ParseError => k_is); (case x_ParseError => k_exc); (case kc_ParseError => k_is); (case sb_ParseError => k_is); (case ty_ParseError => k_is); (case g_LimitError => k_is); (case hd_InvalidNet => k_is); (case su_InvalidNet_InvalidRoad => k_is); (case ne_InvalidNet_InvalidRoad => decide); (case su_InvalidNet_ParseError => k_is); (case ne_InvalidNet_ParseError => decide); (case hd_InvalidRoad => k_is); (case su_InvalidRoad_InvalidNet => k_is); (case ne_InvalidRoad_InvalidNet => decide); (case su_InvalidRoad_ParseError => k_is); (case ne_InvalidRoad_ParseError => decide); (case hd_LimitError => k_is); (case sb_LimitError => k_is); (case ty_LimitError => k_is); (case su_LimitError_InvalidNet => k_is); (case su_LimitError_InvalidRoad => k_is); (case su_LimitError_ParseError => k_is); (case hd_ParseError => k_is); (case su_ParseError_InvalidNet => k_is); (case ne_ParseError_InvalidNet => decide); (case su_ParseError_InvalidRoad => k_is); (case ne_ParseError_InvalidRoad => decide); (case ec_InvalidNet => constructor <;> k_is); (case ec_InvalidRoad => constructor <;> k_is); (case ec_ParseError => constructor <;> k_is)
