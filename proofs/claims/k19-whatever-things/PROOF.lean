import PyProof.Rows.All
import Wide.All
import OpenK.AllK
import Wide.FinOn
import HandS.ForMost
import HandS.ForExc
import HandS.IsInst
import HandS.Wide
import HandS.Style
import HandS.Evl
import HandS.ExcIs
import HandS.More
import HandS.Deep
import HandS.Zip
import KE.GoesMore
import HandS.Iter
import HandS.TryOnly
import HandS.Dict
import HandS.Conv
import HandS.SortRule
import HandS.ExcInit
import HandS.ExcField
import PySem.Challenge.RW_plymap_k19_whatever_things
set_option Elab.async false
set_option linter.all false
set_option autoImplicit false
set_option maxRecDepth 100000
set_option maxHeartbeats 4000000
namespace Py
open PySem L2
open Evl (Ex ex_rd ex_l ex_t fresh_back)
open Classical

/-! ### data -/
mutual
/-- a value is the data (lists as they are laid, no others) -/
inductive Dp (K : PySem.W.Frag) (G : Hp) : V → PyData → Prop
  | non : Dp K G .non .none
  | bl (b : Bool) : Dp K G (.bl b) (.bool b)
  | int (i : Int) : Dp K G (.int i) (.int i)
  | str (x : Str) : Dp K G (.str x) (.str x)
  | lst {a : Addr} {xs : List V} {ds : List PyData} {hp : G a = some (.lst xs)} : SqL K G a xs → DpAll K G xs ds → Dp K G (.ref a) (.list ds)
  | tup {a : Addr} {xs : List V} {ds : List PyData} {hp : G a = some (.tup xs)} : SqT K G a xs → DpAll K G xs ds → Dp K G (.ref a) (.tuple ds)
  | dic {a : Addr} {kvs : List (Key × V)} {hp : G a = some (.dK kvs)} : Dp K G (.ref a) (.dict [])
inductive DpAll (K : PySem.W.Frag) (G : Hp) : List V → List PyData → Prop
  | nil : DpAll K G [] []
  | cons {v : V} {vs : List V} {d : PyData} {ds : List PyData} : Dp K G v d → DpAll K G vs ds → DpAll K G (v :: vs) (d :: ds)
end
mutual
theorem Dp.to {K : PySem.W.Frag} {G : Hp} : ∀ (d : PyData) (v : V), d.canLay0 = true → Dp K G v d → L2.Dp K G v d
  | .none, _, _, h => by cases h; exact .non
  | .bool _, _, _, h => by cases h; exact .bl _
  | .int _, _, _, h => by cases h; exact .int _
  | .str _, _, _, h => by cases h; exact .str _
  | .list ds, _, c, h => by
    cases h with
    | lst hs ha => exact .lst hs (DpAll.to ds _ (by simpa [PyData.canLay0] using c) ha)
  | .tuple ds, _, c, h => by
    cases h with
    | tup hs ha => exact .tup hs (DpAll.to ds _ (by simpa [PyData.canLay0] using c) ha)
  | .dict _, _, c, _ => by simp [PyData.canLay0] at c
theorem DpAll.to {K : PySem.W.Frag} {G : Hp} : ∀ (ds : List PyData) (vs : List V), PyData.canLayAll0 ds = true → DpAll K G vs ds → L2.DpAll K G vs ds
  | [], _, _, h => by cases h; exact .nil
  | d :: ds, _, c, h => by
    simp only [PyData.canLayAll0, Bool.and_eq_true] at c
    cases h with
    | cons h1 h2 => exact .cons (Dp.to d _ c.1 h1) (DpAll.to ds _ c.2 h2)
end
theorem dp_lst {K : PySem.W.Frag} {G : Hp} {a : Addr} {xs : List V} {ds : List PyData} (h : G a = some (.lst xs)) (ha : DpAll K G xs ds) : Dp K G (.ref a) (.list ds) := .lst (hp := h) (.inl (.inl h)) ha
theorem dp_tup {K : PySem.W.Frag} {G : Hp} {a : Addr} {xs : List V} {ds : List PyData} (h : G a = some (.tup xs)) (ha : DpAll K G xs ds) : Dp K G (.ref a) (.tuple ds) := .tup (hp := h) (.inl (.inl h)) ha
mutual
theorem dp_mono {K : PySem.W.Frag} {G G' : Hp} (e : Ex G G') : ∀ (d : PyData) (v : V), Dp K G v d → Dp K G' v d
  | .none, _, h => by cases h; exact .non
  | .bool _, _, h => by cases h; exact .bl _
  | .int _, _, h => by cases h; exact .int _
  | .str _, _, h => by cases h; exact .str _
  | .list ds, _, h => by
    cases h with
    | @lst _ _ _ hp hs ha => exact .lst (hp := e _ _ hp) (ex_l e hs) (dpa_mono e ds _ ha)
  | .tuple ds, _, h => by
    cases h with
    | @tup _ _ _ hp hs ha => exact .tup (hp := e _ _ hp) (ex_t e hs) (dpa_mono e ds _ ha)
  | .dict _, _, h => by
    cases h with
    | @dic _ _ hp => exact .dic (hp := e _ _ hp)
theorem dpa_mono {K : PySem.W.Frag} {G G' : Hp} (e : Ex G G') : ∀ (ds : List PyData) (vs : List V), DpAll K G vs ds → DpAll K G' vs ds
  | [], _, h => by cases h; exact .nil
  | d :: ds, _, h => by
    cases h with
    | cons h1 h2 => exact .cons (dp_mono e d _ h1) (dpa_mono e ds _ h2)
end
theorem dpa_len {K : PySem.W.Frag} {G : Hp} : ∀ {ds : List PyData} {vs : List V}, DpAll K G vs ds → vs.length = ds.length
  | _, _, .nil => rfl
  | _, _, .cons _ h => by simp [dpa_len h]
theorem dpa_get {K : PySem.W.Frag} {G : Hp} : ∀ {ds : List PyData} {vs : List V} {i : Nat} {d : PyData}, DpAll K G vs ds → ds[i]? = some d → ∃ v, vs[i]? = some v ∧ Dp K G v d
  | _, _, i, d, .nil, h => by simp at h
  | _, _, 0, d, .cons h1 _, h => by
    have e : _ = d := Option.some.inj h
    subst e
    exact ⟨_, rfl, h1⟩
  | _, _, i + 1, d, .cons _ h2, h => dpa_get (i := i) h2 h
theorem dpa_get' {K : PySem.W.Frag} {G : Hp} : ∀ {ds : List PyData} {vs : List V} {i : Nat} {v : V}, DpAll K G vs ds → vs[i]? = some v → ∃ d, ds[i]? = some d ∧ Dp K G v d
  | _, _, i, d, .nil, h => by simp at h
  | _, _, 0, d, .cons h1 _, h => by
    have e : _ = d := Option.some.inj h
    subst e
    exact ⟨_, rfl, h1⟩
  | _, _, i + 1, d, .cons _ h2, h => dpa_get' (i := i) h2 h
theorem dpa_app {K : PySem.W.Frag} {G : Hp} : ∀ {ds es : List PyData} {vs us : List V}, DpAll K G vs ds → DpAll K G us es → DpAll K G (vs ++ us) (ds ++ es)
  | _, _, _, _, .nil, h => h
  | _, _, _, _, .cons h1 h2, h => .cons h1 (dpa_app h2 h)
theorem dpa_drop {K : PySem.W.Frag} {G : Hp} : ∀ {ds : List PyData} {vs : List V} (n : Nat), DpAll K G vs ds → DpAll K G (vs.drop n) (ds.drop n)
  | _, _, 0, h => by simpa using h
  | _, _, n + 1, .nil => by simpa using DpAll.nil
  | _, _, n + 1, .cons _ h => by simpa using dpa_drop n h
theorem dpa_take {K : PySem.W.Frag} {G : Hp} : ∀ {ds : List PyData} {vs : List V} (n : Nat), DpAll K G vs ds → DpAll K G (vs.take n) (ds.take n)
  | _, _, 0, _ => by simpa using DpAll.nil
  | _, _, n + 1, .nil => by simpa using DpAll.nil
  | _, _, n + 1, .cons h1 h => by simpa using DpAll.cons h1 (dpa_take n h)
theorem dpa_set {K : PySem.W.Frag} {G : Hp} {v : V} {d : PyData} (hd : Dp K G v d) : ∀ {ds : List PyData} {vs : List V} (n : Nat), DpAll K G vs ds → DpAll K G (vs.set n v) (ds.set n d)
  | _, _, _, .nil => by simpa using DpAll.nil
  | _, _, 0, .cons _ h => by simpa using DpAll.cons hd h
  | _, _, n + 1, .cons h1 h => by simpa using DpAll.cons h1 (dpa_set hd n h)

/-! ### what is hidden -/
noncomputable def hid (L : Addr → Prop) (H : Hp) : Hp := fun a => if L a then none else H a
theorem hid_pos {L : Addr → Prop} {H : Hp} {a : Addr} (h : L a) : hid L H a = none := if_pos h
theorem hid_neg {L : Addr → Prop} {H : Hp} {a : Addr} (h : ¬ L a) : hid L H a = H a := if_neg h
theorem hid_some {L : Addr → Prop} {H : Hp} {a : Addr} {o : HO} (h : hid L H a = some o) : ¬ L a ∧ H a = some o := by
  by_cases q : L a
  · rw [hid_pos q] at h; cases h
  · rw [hid_neg q] at h; exact ⟨q, h⟩
theorem hid_sub {L : Addr → Prop} {H : Hp} : Ex (hid L H) H := fun a o h => (hid_some h).2
theorem hid_ex {L : Addr → Prop} {H H' : Hp} (e : Ex H H') : Ex (hid L H) (hid L H') := fun a o h => by
  obtain ⟨n, q⟩ := hid_some h
  rw [hid_neg n]
  exact e a o q
theorem hid_less {L M : Addr → Prop} {H : Hp} (e : ∀ a, M a → L a) : Ex (hid L H) (hid M H) := fun a o h => by
  obtain ⟨n, q⟩ := hid_some h
  rw [hid_neg (fun z => n (e a z))]
  exact q
theorem hid_none {L : Addr → Prop} {H : Hp} {a : Addr} (h : H a = none) : hid L H a = none := by
  by_cases q : L a
  · exact hid_pos q
  · rw [hid_neg q]; exact h

/-- what an expression is worth: data, or a thing as it is -/
inductive Dv where
  | d (x : PyData)
  | r (v : V)
  | f (l : Addr) (xs : List PyData)
  | n (l : Addr) (ts : List (Addr × List PyData))
def DvOk (K : PySem.W.Frag) (G : Hp) (v : V) : Dv → Prop
  | .d x => Dp K G v x
  | .r u => v = u
  | .f l xs => v = .ref l ∧ ∃ vs, G l = some (.lst vs) ∧ DpAll K (hid (· = l) G) vs xs
  | .n l ts => v = .ref l ∧ G l = some (.lst (ts.map fun t => .ref t.1)) ∧ (l :: ts.map (·.1)).Nodup ∧ ∀ t ∈ ts, ∃ us, G t.1 = some (.lst us) ∧ DpAll K (hid (fun a => a ∈ l :: ts.map (·.1)) G) us t.2
theorem dv_mono {K : PySem.W.Frag} {G G' : Hp} (e : Ex G G') {v : V} : ∀ {x : Dv}, DvOk K G v x → DvOk K G' v x
  | .d _, h => dp_mono e _ _ h
  | .r _, h => h
  | .f _ _, ⟨h1, vs, h2, h3⟩ => ⟨h1, vs, e _ _ h2, dpa_mono (hid_ex e) _ _ h3⟩
  | .n _ _, ⟨h1, h2, h3, h4⟩ => ⟨h1, e _ _ h2, h3, fun t ht => let ⟨us, h5, h6⟩ := h4 t ht; ⟨us, e _ _ h5, dpa_mono (hid_ex e) _ _ h6⟩⟩
inductive DvAll (K : PySem.W.Frag) (G : Hp) : List V → List Dv → Prop
  | nil : DvAll K G [] []
  | cons {v : V} {vs : List V} {x : Dv} {xs : List Dv} : DvOk K G v x → DvAll K G vs xs → DvAll K G (v :: vs) (x :: xs)
theorem dva_mono {K : PySem.W.Frag} {G G' : Hp} (e : Ex G G') : ∀ {vs : List V} {xs : List Dv}, DvAll K G vs xs → DvAll K G' vs xs
  | _, _, .nil => .nil
  | _, _, .cons h t => .cons (dv_mono e h) (dva_mono e t)
theorem dva_len {K : PySem.W.Frag} {G : Hp} : ∀ {vs : List V} {xs : List Dv}, DvAll K G vs xs → vs.length = xs.length
  | _, _, .nil => rfl
  | _, _, .cons _ t => by simp [dva_len t]
theorem dva_get {K : PySem.W.Frag} {G : Hp} : ∀ {xs : List Dv} {vs : List V} {i : Nat} {x : Dv}, DvAll K G vs xs → xs[i]? = some x → ∃ v, vs[i]? = some v ∧ DvOk K G v x
  | _, _, i, d, .nil, h => by simp at h
  | _, _, 0, d, .cons h1 _, h => by
    have e : _ = d := Option.some.inj h
    subst e
    exact ⟨_, rfl, h1⟩
  | _, _, i + 1, d, .cons _ h2, h => dva_get (i := i) h2 h
theorem dva_data {K : PySem.W.Frag} {G : Hp} : ∀ {ds : List PyData} {vs : List V}, DvAll K G vs (ds.map Dv.d) → DpAll K G vs ds
  | [], _, .nil => .nil
  | d :: ds, _, .cons h t => .cons h (dva_data t)

/-- what may change: all but tuples -/
def isMut : HO → Bool
  | .tup _ => false
  | .frz _ (.tup _) => false
  | _ => true
/-- what can't change stands -/
def Tp (H H' : Hp) : Prop := ∀ a o, H a = some o → isMut o = false → H' a = some o
theorem tp_new {H : Hp} {p : Addr} {o : HO} (h : H p = none) : Tp H (upd H p o) := fun a u e _ => (upd_ne fun z => by subst z; rw [h] at e; cases e).trans e
theorem tp_mut {H : Hp} {p : Addr} {o o' : HO} (h : H p = some o') (m : isMut o' = true) : Tp H (upd H p o) := fun a u e n => (upd_ne fun z => by subst z; rw [h] at e; cases e; rw [m] at n; cases n).trans e
theorem tp_lst {H : Hp} {p : Addr} {o : HO} {us : List V} (h : H p = some (.lst us)) : Tp H (upd H p o) := tp_mut h rfl
structure Ctx (K : PySem.W.Frag) where
  B : Hp
  L : Addr → Prop
  W : Hp → Prop
  loc : ∀ H H', (∀ a, L a → H' a = H a) → Tp H H' → W H → W H'
  dom : ∀ H, W H → ∀ a, L a → ∃ o, H a = some o ∧ isMut o = true

/-- what stands in an object of one's own: a list, a dict by tuples of ints and texts, a dict by ints and texts -/
inductive OwnC where
  | l (xs : List PyData)
  | t (kvs : List (List Key × PyData))
  | k (kvs : List (Key × PyData))
instance : Coe (List PyData) OwnC := ⟨OwnC.l⟩
def OwnOk (K : PySem.W.Frag) (G : Hp) : HO → OwnC → Prop
  | ob, .l xs => ∃ vs, ob = .lst vs ∧ DpAll K G vs xs
  | ob, .t kvs => ∃ us : List (List Key × V), ob = .dT us ∧ us.map (·.1) = kvs.map (·.1) ∧ DpAll K G (us.map (·.2)) (kvs.map (·.2))
  | ob, .k kvs => ∃ us : List (Key × V), ob = .dK us ∧ us.map (·.1) = kvs.map (·.1) ∧ DpAll K G (us.map (·.2)) (kvs.map (·.2))
theorem own_mono {K : PySem.W.Frag} {G G' : Hp} (e : Ex G G') : ∀ (x : OwnC) (ob : HO), OwnOk K G ob x → OwnOk K G' ob x
  | .l _, _, ⟨vs, h1, h2⟩ => ⟨vs, h1, dpa_mono e _ _ h2⟩
  | .t _, _, ⟨us, h1, h2, h3⟩ => ⟨us, h1, h2, dpa_mono e _ _ h3⟩
  | .k _, _, ⟨us, h1, h2, h3⟩ => ⟨us, h1, h2, dpa_mono e _ _ h3⟩
theorem own_mut {K : PySem.W.Frag} {G : Hp} : ∀ {x : OwnC} {ob : HO}, OwnOk K G ob x → isMut ob = true
  | .l _, _, ⟨vs, h1, h2⟩ => by subst h1; rfl
  | .t _, _, ⟨us, h1, h2, h3⟩ => by subst h1; rfl
  | .k _, _, ⟨us, h1, h2, h3⟩ => by subst h1; rfl
inductive Slot where
  | un
  | val (x : Dv)
  | own (l : Addr) (x : OwnC)
abbrev Rho := List Slot
def Owns (ρ : Rho) (a : Addr) : Prop := ∃ x : OwnC, Slot.own a x ∈ ρ
def Hid {K : PySem.W.Frag} (c : Ctx K) (ρ : Rho) (a : Addr) : Prop := c.L a ∨ Owns ρ a
noncomputable def vis {K : PySem.W.Frag} (c : Ctx K) (ρ : Rho) (H : Hp) : Hp := hid (Hid c ρ) H
def SlotOk (K : PySem.W.Frag) (G H : Hp) (o : Option V) : Slot → Prop
  | .un => True
  | .val x => ∃ v, o = some v ∧ DvOk K G v x
  | .own l x => ∃ ob : HO, o = some (.ref l) ∧ H l = some ob ∧ OwnOk K G ob x
structure Ok {K : PySem.W.Frag} (c : Ctx K) (ρ : Rho) (σ : L2.St) (H : Hp) : Prop where
  w : c.W H
  b : Ex c.B (hid c.L H)
  ob : ∀ l, Owns ρ l → c.B l = none ∧ ¬ c.L l
  sl : ∀ (i : Nat) (s : Slot), ρ[i]? = some s → ∃ o, σ[i]? = some o ∧ SlotOk K (vis c ρ H) H o s
  one : ∀ (i j : Nat) (l : Addr) (xs ys : OwnC), ρ[i]? = some (.own l xs) → ρ[j]? = some (.own l ys) → i = j
  len : σ.length = ρ.length

/-- what an evaluation does to the heap -/
structure Stp {K : PySem.W.Frag} (c : Ctx K) (ρ : Rho) (H H' : Hp) : Prop where
  ex : Ex (vis c ρ H) (vis c ρ H')
  own : ∀ a, Owns ρ a → H' a = H a
theorem Stp.refl {K : PySem.W.Frag} {c : Ctx K} {ρ : Rho} (H : Hp) : Stp c ρ H H := ⟨Evl.Ex.refl _, fun _ _ => rfl⟩
theorem Stp.trans {K : PySem.W.Frag} {c : Ctx K} {ρ : Rho} {H H1 H2 : Hp} (a : Stp c ρ H H1) (b : Stp c ρ H1 H2) : Stp c ρ H H2 := ⟨a.ex.trans b.ex, fun x h => (b.own x h).trans (a.own x h)⟩
theorem vis_out {K : PySem.W.Frag} {c : Ctx K} {ρ : Rho} {H : Hp} : Ex (vis c ρ H) (hid c.L H) := hid_less fun _ h => .inl h
theorem Ok.base {K : PySem.W.Frag} {c : Ctx K} {ρ : Rho} {σ : L2.St} {H : Hp} (k : Ok c ρ σ H) : Ex c.B (vis c ρ H) := fun a o h => by
  obtain ⟨n, q⟩ := hid_some (k.b a o h)
  unfold vis
  rw [hid_neg]
  · exact q
  · rintro (z | z)
    · exact n z
    · rw [(k.ob a z).1] at h; cases h
theorem Ok.nh {K : PySem.W.Frag} {c : Ctx K} {ρ : Rho} {σ : L2.St} {H : Hp} (k : Ok c ρ σ H) {p : Addr} (h : H p = none) : ¬ Hid c ρ p := by
  rintro (z | ⟨xs, z⟩)
  · obtain ⟨o, e, _⟩ := c.dom H k.w p z
    rw [h] at e; cases e
  · obtain ⟨i, hi, e⟩ := List.mem_iff_getElem.mp z
    obtain ⟨o, _, vs, _, q, dd⟩ := k.sl i (.own p xs) (by rw [List.getElem?_eq_getElem hi, e])
    rw [h] at q; cases q
/-- the visible part grows, the hidden stands -/
theorem Ok.grow {K : PySem.W.Frag} {c : Ctx K} {ρ : Rho} {σ : L2.St} {H H' : Hp} (k : Ok c ρ σ H) (w : c.W H') (e : Ex (vis c ρ H) (vis c ρ H')) (ho : ∀ a, Owns ρ a → H' a = H a) : Ok c ρ σ H' where
  w := w
  b := (k.base.trans e).trans vis_out
  ob := k.ob
  sl := fun i s h => by
    obtain ⟨o, q, z⟩ := k.sl i s h
    refine ⟨o, q, ?_⟩
    cases s with
    | un => trivial
    | val x =>
      obtain ⟨v, e1, e2⟩ := z
      exact ⟨v, e1, dv_mono e e2⟩
    | own l xs =>
      obtain ⟨vs, e1, e2, e3⟩ := z
      exact ⟨vs, e1, (ho l ⟨xs, List.mem_of_getElem? h⟩).trans e2, own_mono e _ _ e3⟩
  one := k.one
  len := k.len
/-- a new object -/
theorem Ok.new {K : PySem.W.Frag} {c : Ctx K} {ρ : Rho} {σ : L2.St} {H : Hp} (k : Ok c ρ σ H) {p : Addr} {o : HO} (h : H p = none) : Ok c ρ σ (upd H p o) ∧ Stp c ρ H (upd H p o) := by
  have e : Ex (vis c ρ H) (vis c ρ (upd H p o)) := hid_ex (Ex.new h)
  have ho : ∀ a, Owns ρ a → upd H p o a = H a := fun a ha => upd_ne fun z => by subst z; exact k.nh h (.inr ha)
  exact ⟨k.grow (c.loc _ _ (fun a ha => upd_ne fun z => by subst z; exact k.nh h (.inl ha)) (tp_new h) k.w) e ho, e, ho⟩
theorem vis_upd {K : PySem.W.Frag} {c : Ctx K} {ρ : Rho} {H : Hp} {p : Addr} {o : HO} (n : ¬ Hid c ρ p) : vis c ρ (upd H p o) p = some o := by
  unfold vis
  rw [hid_neg n, upd_same]

/-! ### judgements -/
def Qk {K : PySem.W.Frag} (c : Ctx K) (ρ : Rho) (σ : L2.St) (H : Hp) (k : Dv → Prop) (Q : VK) : Prop := ∀ v x H', Ok c ρ σ H' → Stp c ρ H H' → DvOk K (vis c ρ H') v x → k x → Q v H'
def We {K : PySem.W.Frag} (c : Ctx K) (te : TE) (ρ : Rho) (k : Dv → Prop) : Prop := ∀ σ H (Q : VK), Ok c ρ σ H → Qk c ρ σ H k Q → te σ H Q
def Wt {K : PySem.W.Frag} (c : Ctx K) (tt : TT) (ρ : Rho) (k : Bool → Prop) : Prop := ∀ σ H (Q : Bool → Hp → Prop), Ok c ρ σ H → (∀ b H', Ok c ρ σ H' → Stp c ρ H H' → k b → Q b H') → tt σ H Q
def Wa {K : PySem.W.Frag} (c : Ctx K) (ta : TA) (ρ : Rho) (k : List Dv → Prop) : Prop := ∀ σ H (Q : List V → Hp → Prop), Ok c ρ σ H → (∀ vs xs H', Ok c ρ σ H' → Stp c ρ H H' → DvAll K (vis c ρ H') vs xs → k xs → Q vs H') → ta σ H Q
/-- a list that is new, and nobody else's -/
def Wf {K : PySem.W.Frag} (c : Ctx K) (te : TE) (ρ : Rho) (k : List PyData → Prop) : Prop := ∀ σ H (Q : VK), Ok c ρ σ H →
  (∀ l vs xs H', H l = none → H' l = some (.lst vs) → Ok c ρ σ H' → Stp c ρ H H' → DpAll K (hid (· = l) (vis c ρ H')) vs xs → k xs → Q (.ref l) H') → te σ H Q
def Rv {K : PySem.W.Frag} (c : Ctx K) (r : R2) (ρ : Rho) (x y : Dv) (k : Dv → Prop) : Prop := ∀ σ H v u (Q : VK), Ok c ρ σ H → DvOk K (vis c ρ H) v x → DvOk K (vis c ρ H) u y → Qk c ρ σ H k Q → r v u H Q
def Ru {K : PySem.W.Frag} (c : Ctx K) (r : V → Hp → VK → Prop) (ρ : Rho) (x : Dv) (k : Dv → Prop) : Prop := ∀ σ H v (Q : VK), Ok c ρ σ H → DvOk K (vis c ρ H) v x → Qk c ρ σ H k Q → r v H Q
def Rc {K : PySem.W.Frag} (c : Ctx K) (r : List V → Hp → VK → Prop) (ρ : Rho) (xs : List Dv) (k : Dv → Prop) : Prop := ∀ σ H vs (Q : VK), Ok c ρ σ H → DvAll K (vis c ρ H) vs xs → Qk c ρ σ H k Q → r vs H Q
structure DE where
  nx : Rho → Prop
  rt : Dv → Prop
  bk : Rho → Prop
  ct : Rho → Prop
structure EOk {K : PySem.W.Frag} (c : Ctx K) (E : DE) (D : Ends) : Prop where
  nx : ∀ ρ σ H, Ok c ρ σ H → E.nx ρ → D.nx σ H
  rt : ∀ v x H, c.W H → Ex c.B (hid c.L H) → DvOk K (hid c.L H) v x → E.rt x → D.rt v H
  bk : ∀ ρ σ H, Ok c ρ σ H → E.bk ρ → D.bk σ H
  ct : ∀ ρ σ H, Ok c ρ σ H → E.ct ρ → D.ct σ H
def Ws {K : PySem.W.Frag} (c : Ctx K) (t : TS) (ρ : Rho) (E : DE) : Prop := ∀ D σ H, EOk c E D → Ok c ρ σ H → t D σ H

theorem Qk.to {K : PySem.W.Frag} {c : Ctx K} {ρ : Rho} {σ : L2.St} {H H' : Hp} {k : Dv → Prop} {Q : VK} (q : Qk c ρ σ H k Q) (e : Stp c ρ H H') : Qk c ρ σ H' k Q := fun v x H2 o e2 d kx => q v x H2 o (e.trans e2) d kx
theorem Qk.val {K : PySem.W.Frag} {c : Ctx K} {ρ : Rho} {σ : L2.St} {H : Hp} {k : Dv → Prop} {Q : VK} (q : Qk c ρ σ H k Q) (o : Ok c ρ σ H) {v : V} {x : Dv} (d : DvOk K (vis c ρ H) v x) (kx : k x) : Q v H := q v x H o (Stp.refl _) d kx

section
variable {K : PySem.W.Frag} {c : Ctx K} {ρ : Rho} {k : Dv → Prop} {ta tb te : TE} {r : R2}
theorem we_var {i : Nat} {x : Dv} (h : ρ[i]? = some (.val x)) (kx : k x) : We c (tVar i) ρ k := fun σ H Q o q => by
  obtain ⟨u, e, v, rfl, d⟩ := o.sl i _ h
  exact ⟨v, e, q.val o d kx⟩
theorem we_int {i : Int} (kx : k (.d (.int i))) : We c (tC (.int i)) ρ k := fun σ H Q o q => q.val o (x := .d _) (Dp.int i) kx
theorem we_bl {b : Bool} (kx : k (.d (.bool b))) : We c (tC (.bl b)) ρ k := fun σ H Q o q => q.val o (x := .d _) (Dp.bl b) kx
theorem we_str {z : Str} (kx : k (.d (.str z))) : We c (tC (.str z)) ρ k := fun σ H Q o q => q.val o (x := .d _) (Dp.str z) kx
theorem we_non (kx : k (.d .none)) : We c (tC .non) ρ k := fun σ H Q o q => q.val o (x := .d _) Dp.non kx
theorem we_raw {v : V} (kx : k (.r v)) : We c (tC v) ρ k := fun σ H Q o q => q.val o (x := .r v) rfl kx
theorem we_op (h : We c ta ρ fun x => We c tb ρ fun y => Rv c r ρ x y k) : We c (tOp r ta tb) ρ k := fun σ H Q o q =>
  h σ H _ o fun v x H1 o1 e1 d1 h1 => h1 σ H1 _ o1 fun u y H2 o2 e2 d2 h2 => h2 σ H2 v u Q o2 (dv_mono e2.ex d1) d2 (q.to (e1.trans e2))
theorem we_un {r : V → Hp → VK → Prop} (h : We c ta ρ fun x => Ru c r ρ x k) : We c (tUn r ta) ρ k := fun σ H Q o q =>
  h σ H _ o fun v x H1 o1 e1 d1 h1 => h1 σ H1 v Q o1 d1 (q.to e1)
theorem we_cb {r : List V → Hp → VK → Prop} {t : TA} (h : Wa c t ρ fun xs => Rc c r ρ xs k) : We c (tCB r t) ρ k := fun σ H Q o q =>
  h σ H _ o fun vs xs H1 o1 e1 d1 h1 => h1 σ H1 vs Q o1 d1 (q.to e1)
theorem wa_nil {k : List Dv → Prop} (h : k []) : Wa c tNil ρ k := fun σ H Q o q => q [] [] H o (Stp.refl _) .nil h
theorem wa_cons {k : List Dv → Prop} {tr : TA} (h : We c ta ρ fun x => Wa c tr ρ fun xs => k (x :: xs)) : Wa c (tCons ta tr) ρ k := fun σ H Q o q =>
  h σ H _ o fun v x H1 o1 e1 d1 h1 => h1 σ H1 _ o1 fun vs xs H2 o2 e2 d2 h2 => q (v :: vs) (x :: xs) H2 o2 (e1.trans e2) (.cons (dv_mono e2.ex d1) d2) h2
/-- the data of a list of values -/
def allD : List Dv → Option (List PyData)
  | [] => some []
  | .d x :: r => match allD r with | some l => some (x :: l) | none => none
  | .r _ :: _ => none
  | .f _ _ :: _ => none
  | .n _ _ :: _ => none
theorem allD_ok {K : PySem.W.Frag} {G : Hp} : ∀ {xs : List Dv} {ds : List PyData} {vs : List V}, allD xs = some ds → DvAll K G vs xs → DpAll K G vs ds
  | [], ds, vs, h, t => by cases h; cases t; exact .nil
  | .d x :: r, ds, vs, h, t => by
    unfold allD at h
    cases e : allD r with
    | none => rw [e] at h; cases h
    | some l =>
      rw [e] at h; cases h
      cases t with
      | cons h1 h2 => exact .cons h1 (allD_ok e h2)
  | .r _ :: _, ds, vs, h, t => by cases h
  | .f _ _ :: _, ds, vs, h, t => by cases h
  | .n _ _ :: _, ds, vs, h, t => by cases h
theorem we_tup {t : TA} (h : Wa c t ρ fun xs => ∃ ds, allD xs = some ds ∧ xs.length ≤ 100000 ∧ k (.d (.tuple ds))) : We c (tTup t) ρ k := fun σ H Q o q =>
  h σ H _ o fun vs xs H1 o1 e1 d1 ⟨ds, h1, h2, h3⟩ => ⟨Evl.sz_of (by rw [dva_len d1]; exact h2), fun p hp => by
    obtain ⟨o2, e2⟩ := o1.new (o := .tup vs) hp
    exact q _ (.d _) _ o2 (e1.trans e2) (dp_tup (vis_upd (o1.nh hp)) (dpa_mono e2.ex _ _ (allD_ok h1 d1))) h3⟩
theorem wf_lst {k : List PyData → Prop} {t : TA} (h : Wa c t ρ fun xs => ∃ ds, allD xs = some ds ∧ xs.length ≤ 100000 ∧ k ds) : Wf c (tLst t) ρ k := fun σ H Q o q =>
  h σ H _ o fun vs xs H1 o1 e1 d1 ⟨ds, h1, h2, h3⟩ => ⟨Evl.sz_of (by rw [dva_len d1]; exact h2), fun p hp => by
    obtain ⟨o2, e2⟩ := o1.new (o := .lst vs) hp
    have hp0 : H p = none := by
      cases z : H p with
      | none => rfl
      | some ob =>
        exfalso
        have np : ¬ Hid c ρ p := o1.nh hp
        have := e1.ex p ob (by unfold vis; rw [hid_neg np]; exact z)
        rw [vis, hid_neg np, hp] at this; cases this
    refine q p vs ds _ hp0 upd_same o2 (e1.trans e2) (dpa_mono (fun a u ha => ?_) _ _ (allD_ok h1 d1)) h3
    have na : a ≠ p := fun z => by subst z; rw [vis, hid_none hp] at ha; cases ha
    exact (hid_neg (L := fun x => x = p) na).trans (e2.ex a u ha)⟩
theorem we_fresh (h : Wf c te ρ fun xs => k (.d (.list xs))) : We c te ρ k := fun σ H Q o q =>
  h σ H _ o fun l vs xs H1 n h1 o1 e1 d1 k1 => by
    have nl : ¬ Hid c ρ l := o.nh n
    exact q _ (.d _) _ o1 e1 (dp_lst (by unfold vis; rw [hid_neg nl]; exact h1) (dpa_mono hid_sub _ _ d1)) k1
end
/-! ### statements -/
section
variable {K : PySem.W.Frag} {c : Ctx K} {ρ : Rho} {E : DE} {ta tb te : TE} {t u : TS} {tc : TT}
theorem List_set_get {α : Type} {l : List α} {i j : Nat} {x s : α} (h : (l.set i x)[j]? = some s) : (i = j ∧ s = x ∧ i < l.length) ∨ (i ≠ j ∧ l[j]? = some s) := by
  by_cases e : i = j
  · subst e
    rw [List.getElem?_set_self'] at h
    left
    cases z : l[i]? with
    | none => rw [z] at h; simp at h
    | some y =>
      rw [z] at h
      exact ⟨rfl, (Option.some.inj h).symm, (List.getElem?_eq_some_iff.mp z).1⟩
  · rw [List.getElem?_set_ne e] at h
    exact .inr ⟨e, h⟩
theorem owns_set {i : Nat} {s : Slot} {a : Addr} (h : Owns (ρ.set i s) a) : Owns ρ a ∨ ∃ xs, s = .own a xs := by
  obtain ⟨xs, h⟩ := h
  rcases List.mem_or_eq_of_mem_set h with q | q
  · exact .inl ⟨xs, q⟩
  · exact .inr ⟨xs, q.symm⟩
/-- a slot is given a value -/
theorem Ok.put {σ : L2.St} {H : Hp} (o : Ok c ρ σ H) {v : V} {x : Dv} (d : DvOk K (vis c ρ H) v x) (i : Nat) : Ok c (ρ.set i (.val x)) (σ.set i (some v)) H := by
  have ow : ∀ a, Owns (ρ.set i (.val x)) a → Owns ρ a := fun a h => by
    rcases owns_set h with q | ⟨xs, q⟩
    · exact q
    · cases q
  have e : Ex (vis c ρ H) (vis c (ρ.set i (.val x)) H) := hid_less fun a h => h.imp id (ow a)
  refine ⟨o.w, o.b, fun l h => o.ob l (ow l h), fun j s h => ?_, fun j j' l xs ys h h' => ?_, by simp [o.len]⟩
  · rcases List_set_get h with ⟨rfl, rfl, hl⟩ | ⟨ne, h⟩
    · exact ⟨some v, by rw [List.getElem?_set_self (by rw [o.len]; exact hl)], v, rfl, dv_mono e d⟩
    · obtain ⟨u, q, z⟩ := o.sl j s h
      refine ⟨u, by rw [List.getElem?_set_ne ne]; exact q, ?_⟩
      cases s with
      | un => trivial
      | val y => obtain ⟨w, e1, e2⟩ := z; exact ⟨w, e1, dv_mono e e2⟩
      | own l xs => obtain ⟨vs, e1, e2, e3⟩ := z; exact ⟨vs, e1, e2, own_mono e _ _ e3⟩
  · rcases List_set_get h with ⟨_, q, _⟩ | ⟨_, h⟩
    · cases q
    · rcases List_set_get h' with ⟨_, q, _⟩ | ⟨_, h'⟩
      · cases q
      · exact o.one _ _ _ _ _ h h'
/-- a slot is given a new list -/
theorem Ok.putOwnC {σ : L2.St} {H H' : Hp} (o : Ok c ρ σ H) (o' : Ok c ρ σ H') {l : Addr} {vs : HO} {xs : OwnC} (n : H l = none) (h : H' l = some vs) (d : OwnOk K (hid (· = l) (vis c ρ H')) vs xs)
    (clean : ∀ (i : Nat) (s : Slot), ρ[i]? = some s → ∃ u, σ[i]? = some u ∧ SlotOk K (hid (· = l) (vis c ρ H')) H' u s) (i : Nat) : Ok c (ρ.set i (.own l xs)) (σ.set i (some (.ref l))) H' := by
  have nl : ¬ Hid c ρ l := o.nh n
  have ow : ∀ a, Owns (ρ.set i (.own l xs)) a → Owns ρ a ∨ a = l := fun a h => by
    rcases owns_set h with q | ⟨ys, q⟩
    · exact .inl q
    · cases q; exact .inr rfl
  have e : Ex (hid (· = l) (vis c ρ H')) (vis c (ρ.set i (.own l xs)) H') := fun a ob q => by
    obtain ⟨n1, q⟩ := hid_some q
    obtain ⟨n2, q⟩ := hid_some q
    unfold vis
    rw [hid_neg]
    · exact q
    · rintro (z | z)
      · exact n2 (.inl z)
      · rcases ow a z with z | z
        · exact n2 (.inr z)
        · exact n1 z
  have bl : c.B l = none := by
    cases z : c.B l with
    | none => rfl
    | some ob =>
      have := hid_some (o.b l ob z)
      rw [n] at this; cases this.2
  refine ⟨o'.w, o'.b, fun a h => ?_, fun j s h => ?_, fun j j' a xs ys h h' => ?_, by simp [o'.len]⟩
  · rcases ow a h with q | rfl
    · exact o'.ob a q
    · exact ⟨bl, fun z => nl (.inl z)⟩
  · rcases List_set_get h with ⟨rfl, rfl, hl⟩ | ⟨ne, h⟩
    · exact ⟨some (.ref l), by rw [List.getElem?_set_self (by rw [o'.len]; exact hl)], vs, rfl, ‹_›, own_mono e _ _ d⟩
    · obtain ⟨u, q, z⟩ := clean j s h
      refine ⟨u, by rw [List.getElem?_set_ne ne]; exact q, ?_⟩
      cases s with
      | un => trivial
      | val y => obtain ⟨w, e1, e2⟩ := z; exact ⟨w, e1, dv_mono e e2⟩
      | own l xs => obtain ⟨vs, e1, e2, e3⟩ := z; exact ⟨vs, e1, e2, own_mono e _ _ e3⟩
  · rcases List_set_get h with ⟨r1, q, _⟩ | ⟨_, h⟩
    · rcases List_set_get h' with ⟨r2, q', _⟩ | ⟨_, h'⟩
      · exact r1.symm.trans r2
      · cases q
        exact absurd (.inr ⟨_, List.mem_of_getElem? h'⟩) nl
    · rcases List_set_get h' with ⟨_, q, _⟩ | ⟨_, h'⟩
      · cases q
        exact absurd (.inr ⟨_, List.mem_of_getElem? h⟩) nl
      · exact o.one _ _ _ _ _ h h'
theorem Ok.putOwn {σ : L2.St} {H H' : Hp} (o : Ok c ρ σ H) (o' : Ok c ρ σ H') {l : Addr} {vs : List V} {xs : List PyData} (n : H l = none) (h : H' l = some (.lst vs)) (d : DpAll K (hid (· = l) (vis c ρ H')) vs xs)
    (clean : ∀ (i : Nat) (s : Slot), ρ[i]? = some s → ∃ u, σ[i]? = some u ∧ SlotOk K (hid (· = l) (vis c ρ H')) H' u s) (i : Nat) : Ok c (ρ.set i (.own l xs)) (σ.set i (some (.ref l))) H' := o.putOwnC (xs := .l xs) o' n h ⟨vs, rfl, d⟩ clean i
/-- what stood ahead knows nothing of a new object -/
theorem Ok.clean {σ : L2.St} {H H' : Hp} (o : Ok c ρ σ H) (e : Stp c ρ H H') {l : Addr} (n : H l = none) (i : Nat) (s : Slot) (h : ρ[i]? = some s) : ∃ u, σ[i]? = some u ∧ SlotOk K (hid (· = l) (vis c ρ H')) H' u s := by
  have e2 : Ex (vis c ρ H) (hid (· = l) (vis c ρ H')) := fun a ob q => by
    have na : a ≠ l := fun z => by subst z; rw [vis, hid_none n] at q; cases q
    exact (hid_neg (L := fun x => x = l) na).trans (e.ex a ob q)
  obtain ⟨u, q, z⟩ := o.sl i s h
  refine ⟨u, q, ?_⟩
  cases s with
  | un => trivial
  | val x => obtain ⟨v, e1, d1⟩ := z; exact ⟨v, e1, dv_mono e2 d1⟩
  | own m xs =>
    obtain ⟨vs, e1, h1, d1⟩ := z
    exact ⟨vs, e1, (e.own m ⟨xs, List.mem_of_getElem? h⟩).trans h1, own_mono e2 _ _ d1⟩
theorem EOk.next {D : Ends} (k : EOk c E D) {f : Rho → Prop} {g : L2.St → Hp → Prop} (h : ∀ ρ σ H, Ok c ρ σ H → f ρ → g σ H) : EOk c { E with nx := f } { D with nx := g } := ⟨h, k.rt, k.bk, k.ct⟩
theorem EOk.loop {D : Ends} (k : EOk c E D) {f : Rho → Prop} {g : L2.St → Hp → Prop} (h : ∀ ρ σ H, Ok c ρ σ H → f ρ → g σ H) : EOk c { E with nx := f, ct := f, bk := E.nx } { D with nx := g, ct := g, bk := D.nx } := ⟨h, k.rt, k.nx, h⟩
theorem ws_next (h : E.nx ρ) : Ws c tNext ρ E := fun D σ H e o => e.nx ρ σ H o h
theorem ws_seq (h : Ws c t ρ { E with nx := fun ρ' => Ws c u ρ' E }) : Ws c (tSeq t u) ρ E := fun D σ H e o =>
  h { D with nx := u D } σ H (e.next fun ρ' σ' H' o' w => w D σ' H' e o') o
theorem ws_brk (h : E.bk ρ) : Ws c tBreak ρ E := fun D σ H e o => e.bk ρ σ H o h
theorem ws_cont (h : E.ct ρ) : Ws c tCont ρ E := fun D σ H e o => e.ct ρ σ H o h
theorem ws_asg {i : Nat} (h : We c te ρ fun x => E.nx (ρ.set i (.val x))) : Ws c (tAsg te (gName i)) ρ E := fun D σ H e o =>
  h σ H _ o fun v x H1 o1 e1 d1 k1 => e.nx _ _ _ (o1.put d1 i) k1
theorem ws_own {i : Nat} (h : Wf c te ρ fun xs => ∀ l, E.nx (ρ.set i (.own l xs))) : Ws c (tAsg te (gName i)) ρ E := fun D σ H e o =>
  h σ H _ o fun l vs xs H1 n h1 o1 e1 d1 k1 => e.nx _ _ _ (o.putOwn o1 n h1 d1 (o.clean e1 n) i) (k1 l)
theorem ws_drop (h : We c te ρ fun _ => E.nx ρ) : Ws c (tDrop te) ρ E := fun D σ H e o =>
  h σ H _ o fun v x H1 o1 e1 d1 k1 => e.nx _ _ _ o1 k1
theorem ws_ret (h : We c te ρ E.rt) : Ws c (tRet te) ρ E := fun D σ H e o =>
  h σ H _ o fun v x H1 o1 e1 d1 k1 => e.rt v x H1 o1.w o1.b (dv_mono vis_out d1) k1
theorem ws_retOwn {i : Nat} {l : Addr} {xs : List PyData} (h : ρ[i]? = some (.own l xs)) (k : E.rt (.d (.list xs))) : Ws c (tRet (tVar i)) ρ E := fun D σ H e o => by
  obtain ⟨u, q, _, rfl, h1, vs, rfl, d1⟩ := o.sl i _ h
  have nl : ¬ c.L l := (o.ob l ⟨xs, List.mem_of_getElem? h⟩).2
  exact ⟨_, q, e.rt _ (.d (.list xs)) H o.w o.b (dp_lst (by rw [hid_neg nl]; exact h1) (dpa_mono vis_out _ _ d1)) k⟩
theorem ws_retN (h : E.rt (.d .none)) : Ws c tRetN ρ E := fun D σ H e o => e.rt .non (.d .none) H o.w o.b Dp.non h
theorem ws_if (h : Wt c tc ρ fun b => (b = true → Ws c t ρ E) ∧ (b = false → Ws c u ρ E)) : Ws c (tIfS tc t u) ρ E := fun D σ H e o =>
  h σ H _ o fun b H1 o1 e1 k1 => by
    cases b with
    | true => exact k1.1 rfl D σ H1 e o1
    | false => exact k1.2 rfl D σ H1 e o1
theorem ws_par {i j : Nat} {ta : TA} (h : Wa c ta ρ fun xs => ∃ x y, xs = [x, y] ∧ E.nx ((ρ.set i (.val x)).set j (.val y))) : Ws c (tPar i j ta) ρ E := fun D σ H e o =>
  h σ H _ o fun vs xs H1 o1 e1 d1 ⟨x, y, hx, k1⟩ => by
    subst hx
    cases d1 with
    | cons a1 d2 =>
      cases d2 with
      | cons a2 d3 =>
        cases d3
        refine ⟨_, _, rfl, e.nx _ _ _ ((o1.put a1 i).put ?_ j) k1⟩
        exact dv_mono (hid_less fun a h => h.imp id fun z => (owns_set z).elim id fun ⟨xs, q⟩ => by cases q) a2
end
end Py

set_option Elab.async false
set_option linter.all false
set_option autoImplicit false
set_option maxRecDepth 100000
set_option maxHeartbeats 4000000
namespace Py
open PySem L2
open Evl (Ex ex_rd ex_l ex_t fresh_back)
open Classical
/-! ### operators -/
section
variable {K : PySem.W.Frag} {c : Ctx K} {ρ : Rho} {k : Dv → Prop} {ta tb te : TE} {r : R2}
/-- one of two rules -/
def rOr (r r' : R2) : R2 := fun x y H Q => r x y H Q ∨ r' x y H Q
theorem op_or {X : Cx} {f : Value → Value → Sem Value} {r r' : R2} (h : OpR X f r) (h' : OpR X f r') : OpR X f (rOr r r') := fun pins s σ H x y v u Q I r1 r2 h0 =>
  h0.elim (fun z => h pins s σ H x y v u Q I r1 r2 z) (fun z => h' pins s σ H x y v u Q I r1 r2 z)
theorem rv_l {r r' : R2} {x y : Dv} (h : Rv c r ρ x y k) : Rv c (rOr r r') ρ x y k := fun σ H v u Q o d e q => .inl (h σ H v u Q o d e q)
theorem rv_r {r r' : R2} {x y : Dv} (h : Rv c r' ρ x y k) : Rv c (rOr r r') ρ x y k := fun σ H v u Q o d e q => .inr (h σ H v u Q o d e q)
theorem dp_int {K : PySem.W.Frag} {G : Hp} {v : V} {i : Int} (h : Dp K G v (.int i)) : v = .int i := by cases h; rfl
theorem dp_bl {K : PySem.W.Frag} {G : Hp} {v : V} {b : Bool} (h : Dp K G v (.bool b)) : v = .bl b := by cases h; rfl
theorem dp_str {K : PySem.W.Frag} {G : Hp} {v : V} {z : Str} (h : Dp K G v (.str z)) : v = .str z := by cases h; rfl
theorem dp_non {K : PySem.W.Frag} {G : Hp} {v : V} (h : Dp K G v .none) : v = .non := by cases h; rfl
theorem rv_I0 {f : Int → Int → Int} {i j : Int} (h : k (.d (.int (f i j)))) : Rv c (rI0 fun i j => .int (f i j)) ρ (.d (.int i)) (.d (.int j)) k := fun σ H v u Q o d e q =>
  ⟨i, j, dp_int d, dp_int e, q.val o (x := .d _) (Dp.int _) h⟩
theorem rv_I {C : Int → Int → Prop} {f : Int → Int → Int} {i j : Int} (hc : C i j) (h : k (.d (.int (f i j)))) : Rv c (rI C fun i j => .int (f i j)) ρ (.d (.int i)) (.d (.int j)) k := fun σ H v u Q o d e q =>
  ⟨i, j, dp_int d, dp_int e, hc, q.val o (x := .d _) (Dp.int _) h⟩
theorem rv_C0 {f : Int → Int → Bool} {i j : Int} (h : k (.d (.bool (f i j)))) : Rv c (rI0 fun i j => .bl (f i j)) ρ (.d (.int i)) (.d (.int j)) k := fun σ H v u Q o d e q =>
  ⟨i, j, dp_int d, dp_int e, q.val o (x := .d _) (Dp.bl _) h⟩
theorem ru_U {f : Int → Int} {i : Int} (h : k (.d (.int (f i)))) : Ru c (rU fun i => .int (f i)) ρ (.d (.int i)) k := fun σ H v Q o d q => ⟨i, dp_int d, q.val o (x := .d _) (Dp.int _) h⟩
/-- == and != of data -/
theorem rv_eqD {d e : PyData} (hd : SeqAt.shaped d = true) (he : SeqAt.shaped e = true) (h : k (.d (.bool (PyData.eqv d e)))) : Rv c (rEqD K) ρ (.d d) (.d e) k := fun σ H v u Q o d1 d2 q =>
  ⟨d, e, Dp.to _ _ (SeqAt.canLay_of_shaped hd) (dp_mono hid_sub _ _ d1), Dp.to _ _ (SeqAt.canLay_of_shaped he) (dp_mono hid_sub _ _ d2), hd, he, q.val o (x := .d _) (Dp.bl _) h⟩
theorem rv_neD {d e : PyData} (hd : SeqAt.shaped d = true) (he : SeqAt.shaped e = true) (h : k (.d (.bool (!PyData.eqv d e)))) : Rv c (rNeD K) ρ (.d d) (.d e) k := fun σ H v u Q o d1 d2 q =>
  ⟨d, e, Dp.to _ _ (SeqAt.canLay_of_shaped hd) (dp_mono hid_sub _ _ d1), Dp.to _ _ (SeqAt.canLay_of_shaped he) (dp_mono hid_sub _ _ d2), hd, he, q.val o (x := .d _) (Dp.bl _) h⟩
theorem rv_eqI {i j : Int} (h : k (.d (.bool (decide (i = j))))) : Rv c (rEqD K) ρ (.d (.int i)) (.d (.int j)) k := rv_eqD rfl rfl (by
  have e : PyData.eqv (.int i) (.int j) = decide (i = j) := by
    simp only [PyData.eqv]
    by_cases z : i = j <;> simp [z]
  rw [e]; exact h)
theorem rv_neI {i j : Int} (h : k (.d (.bool (!decide (i = j))))) : Rv c (rNeD K) ρ (.d (.int i)) (.d (.int j)) k := rv_neD rfl rfl (by
  have e : PyData.eqv (.int i) (.int j) = decide (i = j) := by
    simp only [PyData.eqv]
    by_cases z : i = j <;> simp [z]
  rw [e]; exact h)
theorem rv_isB {a b : Bool} (h : k (.d (.bool (decide (a = b))))) : Rv c rIsB ρ (.d (.bool a)) (.d (.bool b)) k := fun σ H v u Q o d1 d2 q =>
  ⟨a, b, dp_bl d1, dp_bl d2, q.val o (x := .d _) (Dp.bl _) h⟩
/-! ### subscripts -/
theorem dpa_atI {K : PySem.W.Frag} {G : Hp} {vs : List V} {ds : List PyData} {i : Int} {d : PyData} (h : DpAll K G vs ds) (e : atI ds i = some d) : ∃ v, atI vs i = some v ∧ Dp K G v d := by
  unfold atI at *
  rw [dpa_len h]
  cases z : ixN ds.length i with
  | none => rw [z] at e; cases e
  | some j =>
    rw [z] at e
    exact dpa_get h e
theorem rv_ixT {ds : List PyData} {i : Int} {d : PyData} (e : atI ds i = some d) (h : k (.d d)) : Rv c (rIx K) ρ (.d (.tuple ds)) (.d (.int i)) k := fun σ H v u Q o d1 d2 q => by
  obtain rfl := dp_int d2
  change Dp _ _ _ _ at d1
  cases d1 with
  | tup hs ha =>
    obtain ⟨w, e1, e2⟩ := dpa_atI ha e
    exact .inr (.inl ⟨_, _, _, w, rfl, rfl, ex_t hid_sub hs, e1, q.val o (x := .d _) e2 h⟩)
theorem rv_ixL {ds : List PyData} {i : Int} {d : PyData} (e : atI ds i = some d) (h : k (.d d)) : Rv c (rIx K) ρ (.d (.list ds)) (.d (.int i)) k := fun σ H v u Q o d1 d2 q => by
  obtain rfl := dp_int d2
  change Dp _ _ _ _ at d1
  cases d1 with
  | lst hs ha =>
    obtain ⟨w, e1, e2⟩ := dpa_atI ha e
    exact .inl ⟨_, _, _, w, rfl, rfl, ex_l hid_sub hs, e1, q.val o (x := .d _) e2 h⟩
/-- from a list of one's own -/
theorem Ok.own {σ : L2.St} {H : Hp} (o : Ok c ρ σ H) {i : Nat} {l : Addr} {xs : List PyData} (h : ρ[i]? = some (.own l xs)) : ∃ vs, σ[i]? = some (some (.ref l)) ∧ H l = some (.lst vs) ∧ DpAll K (vis c ρ H) vs xs := by
  obtain ⟨u, q, _, rfl, h1, vs, rfl, d1⟩ := o.sl i _ h
  exact ⟨vs, q, h1, d1⟩
theorem we_ixOwn {i : Nat} {l : Addr} {xs : List PyData} (h : ρ[i]? = some (.own l xs)) (ht : We c tb ρ fun y => ∃ j d, y = .d (.int j) ∧ atI xs j = some d ∧ k (.d d)) : We c (tOp (rIx K) (tVar i) tb) ρ k := fun σ H Q o q => by
  obtain ⟨vs, e1, h1, d1⟩ := o.own h
  refine ⟨_, e1, ht σ H _ o fun u y H1 o1 s1 dy ⟨j, d, hy, ha, hk⟩ => ?_⟩
  subst hy
  obtain rfl := dp_int dy
  have h1' : H1 l = some (.lst vs) := (s1.own l ⟨xs, List.mem_of_getElem? h⟩).trans h1
  obtain ⟨w, e2, e3⟩ := dpa_atI (dpa_mono s1.ex _ _ d1) ha
  exact .inl ⟨_, _, _, w, rfl, rfl, .inl (.inl h1'), e2, q w (.d d) H1 o1 s1 e3 hk⟩
/-! ### tests -/
theorem wt_test {k : Bool → Prop} (h : We c te ρ fun x => ∃ b, x = .d (.bool b) ∧ k b) : Wt c (tTest te) ρ k := fun σ H Q o q => h σ H _ o fun v x H1 o1 e1 d1 ⟨b, hx, hb⟩ => by
  subst hx
  exact ⟨b, dp_bl d1, q b H1 o1 e1 hb⟩
theorem wt_B {k : Bool → Prop} (h : We c te ρ fun x => ∃ b, x = .d (.bool b) ∧ k b) : Wt c (tB te) ρ k := fun σ H Q o q => h σ H _ o fun v x H1 o1 e1 d1 ⟨b, hx, hb⟩ => by
  subst hx
  exact ⟨b, dp_bl d1, q b H1 o1 e1 hb⟩
theorem wt_and {t u : TT} {k : Bool → Prop} (h : Wt c t ρ fun a => (a = true → Wt c u ρ k) ∧ (a = false → k false)) : Wt c (tAnd t u) ρ k := fun σ H Q o q => h σ H _ o fun a H1 o1 e1 z => by
  cases a with
  | true => exact z.1 rfl σ H1 Q o1 fun b H2 o2 e2 kb => q b H2 o2 (e1.trans e2) kb
  | false => exact q false H1 o1 e1 (z.2 rfl)
theorem wt_or {t u : TT} {k : Bool → Prop} (h : Wt c t ρ fun a => (a = false → Wt c u ρ k) ∧ (a = true → k true)) : Wt c (tOr t u) ρ k := fun σ H Q o q => h σ H _ o fun a H1 o1 e1 z => by
  cases a with
  | false => exact z.1 rfl σ H1 Q o1 fun b H2 o2 e2 kb => q b H2 o2 (e1.trans e2) kb
  | true => exact q true H1 o1 e1 (z.2 rfl)
theorem wt_not {t : TT} {k : Bool → Prop} (h : Wt c t ρ fun a => k (!a)) : Wt c (tNot t) ρ k := fun σ H Q o q => h σ H _ o fun a H1 o1 e1 z => q (!a) H1 o1 e1 z
theorem we_andV (h : We c ta ρ fun x => ∃ a, x = .d (.bool a) ∧ (a = true → We c tb ρ k) ∧ (a = false → k (.d (.bool false)))) : We c (tAndV ta tb) ρ k := fun σ H Q o q => h σ H _ o fun v x H1 o1 e1 d1 ⟨a, hx, z1, z2⟩ => by
  subst hx
  refine ⟨a, dp_bl d1, ?_⟩
  cases a with
  | true => exact z1 rfl σ H1 Q o1 (q.to e1)
  | false => exact q (.bl false) (.d _) H1 o1 e1 (Dp.bl _) (z2 rfl)
theorem we_orV (h : We c ta ρ fun x => ∃ a, x = .d (.bool a) ∧ (a = false → We c tb ρ k) ∧ (a = true → k (.d (.bool true)))) : We c (tOrV ta tb) ρ k := fun σ H Q o q => h σ H _ o fun v x H1 o1 e1 d1 ⟨a, hx, z1, z2⟩ => by
  subst hx
  refine ⟨a, dp_bl d1, ?_⟩
  cases a with
  | false => exact z1 rfl σ H1 Q o1 (q.to e1)
  | true => exact q (.bl true) (.d _) H1 o1 e1 (Dp.bl _) (z2 rfl)
theorem we_notV (h : We c ta ρ fun x => ∃ a, x = .d (.bool a) ∧ k (.d (.bool (!a)))) : We c (tNotV ta) ρ k := fun σ H Q o q => h σ H _ o fun v x H1 o1 e1 d1 ⟨a, hx, z⟩ => by
  subst hx
  exact ⟨a, dp_bl d1, q (.bl (!a)) (.d _) H1 o1 e1 (Dp.bl _) z⟩
theorem we_if {t : TT} (h : Wt c t ρ fun b => (b = true → We c ta ρ k) ∧ (b = false → We c tb ρ k)) : We c (tIf t ta tb) ρ k := fun σ H Q o q => h σ H _ o fun b H1 o1 e1 z => by
  cases b with
  | true => exact z.1 rfl σ H1 Q o1 (q.to e1)
  | false => exact z.2 rfl σ H1 Q o1 (q.to e1)
theorem we_chain {r r' : R2} {tc : TE} (h : We c ta ρ fun x => We c tb ρ fun y => Rv c r ρ x y fun z => ∃ b, z = .d (.bool b) ∧ (b = true → We c tc ρ fun w => Rv c r' ρ y w k) ∧ (b = false → k (.d (.bool false)))) : We c (tChain r r' ta tb tc) ρ k := fun σ H Q o q =>
  h σ H _ o fun v x H1 o1 e1 d1 h1 => h1 σ H1 _ o1 fun u y H2 o2 e2 d2 h2 => h2 σ H2 v u _ o2 (dv_mono e2.ex d1) d2 fun z zd H3 o3 e3 d3 ⟨b, hz, z1, z2⟩ => by
    subst hz
    refine ⟨b, dp_bl d3, ?_⟩
    cases b with
    | true =>
      rw [if_pos rfl]
      exact z1 rfl σ H3 _ o3 fun w wd H4 o4 e4 d4 h4 => h4 σ H4 u w Q o4 (dv_mono (e3.trans e4).ex d2) d4 (q.to ((e1.trans e2).trans (e3.trans e4)))
    | false =>
      rw [if_neg Bool.false_ne_true]
      exact q (.bl false) (.d _) H3 o3 ((e1.trans e2).trans e3) (Dp.bl _) (z2 rfl)
/-- the truth of data -/
def truD : PyData → Option Bool
  | .none => some false
  | .bool b => some b
  | .int i => some (i != 0)
  | .list xs => some (!xs.isEmpty)
  | .tuple xs => some (!xs.isEmpty)
  | _ => none
theorem isEmpty_len {α β : Type} {xs : List α} {ys : List β} (h : xs.length = ys.length) : xs.isEmpty = ys.isEmpty := by
  cases xs <;> cases ys <;> simp_all
theorem wt_tru {k : Bool → Prop} (h : We c te ρ fun x => ∃ d b, x = .d d ∧ truD d = some b ∧ k b) : Wt c (fun σ H Q => te σ H fun x H' => ∃ k, TruV K x H' k ∧ Q k H') ρ k := fun σ H Q o q => h σ H _ o fun v x H1 o1 e1 d1 ⟨d, b, hx, ht, kb⟩ => by
  subst hx
  refine ⟨b, ?_, q b H1 o1 e1 kb⟩
  change Dp _ _ _ _ at d1
  cases d1 with
  | non => cases ht; exact rfl
  | bl b => cases ht; exact rfl
  | int i => cases ht; exact rfl
  | str z => cases ht
  | dic => cases ht
  | lst hs ha =>
    cases ht
    exact .inl ⟨_, ex_l hid_sub hs, by rw [isEmpty_len (dpa_len ha)]⟩
  | tup hs ha =>
    cases ht
    exact .inr (.inl ⟨_, ex_t hid_sub hs, by rw [isEmpty_len (dpa_len ha)]⟩)
/-! ### builtins -/
theorem rc_abs {i : Int} (h : k (.d (.int (i.natAbs : Int)))) : Rc c (fun xs H Q => ∃ i, xs = [.int i] ∧ Q (.int (if i < 0 then -i else i)) H) ρ [.d (.int i)] k := fun σ H vs Q o d q => by
  cases d with
  | cons d1 d2 =>
    cases d2
    obtain rfl := dp_int d1
    refine ⟨i, rfl, ?_⟩
    have e : (if i < 0 then -i else i) = (i.natAbs : Int) := by split <;> omega
    rw [e]
    exact q.val o (x := .d _) (Dp.int _) h
theorem rc_lenT {ds : List PyData} (h : k (.d (.int (ds.length : Int)))) : Rc c (fun xs H Q => ∃ x n, xs = [x] ∧ LenV K x H n ∧ Q (.int n) H) ρ [.d (.tuple ds)] k := fun σ H vs Q o d q => by
  cases d with
  | cons d1 d2 =>
    cases d2
    change Dp _ _ _ _ at d1
    cases d1 with
    | tup hs ha => exact ⟨_, ds.length, rfl, .inr ⟨_, ex_t hid_sub hs, (dpa_len ha).symm⟩, q.val o (x := .d _) (Dp.int _) h⟩
theorem rc_lenL {ds : List PyData} (h : k (.d (.int (ds.length : Int)))) : Rc c (fun xs H Q => ∃ x n, xs = [x] ∧ LenV K x H n ∧ Q (.int n) H) ρ [.d (.list ds)] k := fun σ H vs Q o d q => by
  cases d with
  | cons d1 d2 =>
    cases d2
    change Dp _ _ _ _ at d1
    cases d1 with
    | lst hs ha => exact ⟨_, ds.length, rfl, .inl ⟨_, ex_l hid_sub hs, (dpa_len ha).symm⟩, q.val o (x := .d _) (Dp.int _) h⟩
theorem we_lenOwn {i : Nat} {l : Addr} {xs : List PyData} (h : ρ[i]? = some (.own l xs)) (hk : k (.d (.int (xs.length : Int)))) : We c (tCB (fun xs H Q => ∃ x n, xs = [x] ∧ LenV K x H n ∧ Q (.int n) H) (tCons (tVar i) tNil)) ρ k := fun σ H Q o q => by
  obtain ⟨vs, e1, h1, d1⟩ := o.own h
  exact ⟨_, e1, _, xs.length, rfl, .inl ⟨_, .inl (.inl h1), (dpa_len d1).symm⟩, q.val o (x := .d _) (Dp.int _) hk⟩
/-- the class of data -/
def tyD : PyData → Option Value
  | .none => some (.type "NoneType")
  | .bool _ => some (.type "bool")
  | .int _ => some (.type "int")
  | .str _ => some (.type "str")
  | .list _ => some (.type "list")
  | .tuple _ => some (.type "tuple")
  | .dict _ => some (.type "dict")
theorem tyx_of {K : PySem.W.Frag} {H : Hp} {v : V} {d : PyData} (h : Dp K H v d) : ∃ t, tyD d = some t ∧ TyX K H v t := by
  cases h with
  | non => exact ⟨_, rfl, .base .non⟩
  | bl b => exact ⟨_, rfl, .base (.bl b)⟩
  | int i => exact ⟨_, rfl, .base (.int i)⟩
  | str z => exact ⟨_, rfl, .base (.str z)⟩
  | lst hs ha =>
    refine ⟨_, rfl, ?_⟩
    rcases hs with (h | ⟨o, h⟩) | ⟨o, its, n, h1, h2, _⟩
    · exact .base (.lst h)
    · exact .base (.frz h)
    · exact .kList h1 h2
  | tup hs ha =>
    refine ⟨_, rfl, ?_⟩
    rcases hs with (h | ⟨o, h⟩) | ⟨o, its, n, h1, h2, _⟩
    · exact .base (.tup h)
    · exact .fTuple h
    · exact .kTuple h1 h2
  | @dic _ _ hp => exact ⟨_, rfl, .base (.dK hp)⟩
/-- isinstance(x, T), T a built-in class -/
theorem rc_isi {d : PyData} {T : String} {t : Value} {b : Bool} (ht : tyD d = some t) (hb : PySem.W.kitOne K t (.type T) = some b) (h : k (.d (.bool b))) : Rc c (rIsi K) ρ [.d d, .r (.ty T)] k := fun σ H vs Q o d0 q => by
  cases d0 with
  | cons d1 d2 =>
    cases d2 with
    | cons d2 d3 =>
      cases d3
      obtain rfl : _ = V.ty T := d2
      obtain ⟨t', e1, e2⟩ := tyx_of (dp_mono hid_sub _ _ d1)
      rw [ht] at e1
      cases e1
      exact ⟨_, _, t, _, b, rfl, .ty T, e2, hb, q.val o (x := .d _) (Dp.bl _) h⟩
end
end Py

set_option Elab.async false
set_option linter.all false
set_option autoImplicit false
set_option maxRecDepth 100000
set_option maxHeartbeats 4000000
namespace Py
open PySem L2
open Evl (Ex ex_rd ex_l ex_t fresh_back)
open Classical
/-! ### a context within another -/
structure Le {K : PySem.W.Frag} (c c' : Ctx K) : Prop where
  L : ∀ a, c.L a → c'.L a
  W : ∀ H, c'.W H → c.W H
  F : ∀ H H', c'.W H → c.W H' → (∀ a, c'.L a → ¬ c.L a → H' a = H a) → Tp H H' → c'.W H'
  B : Ex c.B c'.B
theorem Le.refl {K : PySem.W.Frag} (c : Ctx K) : Le c c := ⟨fun _ h => h, fun _ h => h, fun _ _ _ h _ _ => h, Evl.Ex.refl _⟩
theorem Le.trans {K : PySem.W.Frag} {c c1 c2 : Ctx K} (a : Le c c1) (b : Le c1 c2) : Le c c2 :=
  ⟨fun x h => b.L x (a.L x h), fun H h => a.W H (b.W H h), fun H H' h h' e t => b.F H H' h (a.F H H' (b.W H h) h' (fun x h1 h2 => e x (b.L x h1) h2) t) (fun x h1 h2 => e x h1 fun h3 => h2 (a.L x h3)) t, a.B.trans b.B⟩
def Ctx.at {K : PySem.W.Frag} (c : Ctx K) (B : Hp) : Ctx K := { c with B := B }
theorem le_at {K : PySem.W.Frag} {c : Ctx K} {B : Hp} (h : Ex c.B B) : Le c (c.at B) := ⟨fun _ h => h, fun _ h => h, fun _ _ _ h _ _ => h, h⟩
section
variable {K : PySem.W.Frag} {c c' : Ctx K} {ρ : Rho} {E : DE} {ta tb te : TE} {t u tb' : TS} {tc : TT}
theorem hid_le (e : Le c c') {H : Hp} : Ex (hid c'.L H) (hid c.L H) := hid_less e.L
/-- the same state with another base -/
theorem ok_at {B : Hp} {σ : L2.St} {H : Hp} (h : Ex c.B B) (o : Ok (c.at B) ρ σ H) : Ok c ρ σ H := ⟨o.w, h.trans o.b, fun l hl => ⟨fresh_back h (o.ob l hl).1, (o.ob l hl).2⟩, o.sl, o.one, o.len⟩
theorem Ok.at' {σ : L2.St} {H : Hp} (o : Ok c ρ σ H) : Ok (c.at (vis c ρ H)) ρ σ H := ⟨o.w, vis_out, fun l hl => ⟨hid_pos (.inr hl), (o.ob l hl).2⟩, o.sl, o.one, o.len⟩
theorem EOk.at' {D : Ends} {B : Hp} (h : Ex c.B B) (k : EOk c E D) : EOk (c.at B) E D :=
  ⟨fun ρ σ H o => k.nx ρ σ H (ok_at h o), fun v x H w b d => k.rt v x H w (h.trans b) d, fun ρ σ H o => k.bk ρ σ H (ok_at h o), fun ρ σ H o => k.ct ρ σ H (ok_at h o)⟩

/-! ### targets -/
def isOwn : Slot → Bool
  | .own _ _ => true
  | _ => false
def Wg (c : Ctx K) (g : TG) (js : List Nat) (x : Dv) (ρ : Rho) (N : Rho → Prop) : Prop := ∀ σ H v (Q : L2.St → Hp → Prop), Ok c ρ σ H → DvOk K (vis c ρ H) v x →
  (∀ ρ' σ', Ok c ρ' σ' H → (∀ i, i ∉ js → σ'[i]? = σ[i]?) → σ'.length = σ.length → (∀ a, Owns ρ a → Owns ρ' a) → (∀ a, Owns ρ' a → Owns ρ a) → N ρ' → Q σ' H) → g v σ H Q
theorem owns_keep {i : Nat} {s : Slot} (h : (ρ[i]?.map isOwn) = some false) {a : Addr} (z : Owns ρ a) : Owns (ρ.set i s) a := by
  obtain ⟨xs, z⟩ := z
  obtain ⟨j, hj, e⟩ := List.mem_iff_getElem.mp z
  have ne : i ≠ j := fun q => by
    subst q
    rw [List.getElem?_eq_getElem hj, e] at h
    cases h
  exact ⟨xs, List.mem_of_getElem? (i := j) (by rw [List.getElem?_set_ne ne, List.getElem?_eq_getElem hj, e])⟩
theorem owns_less {i : Nat} {x : Dv} {a : Addr} (z : Owns (ρ.set i (.val x)) a) : Owns ρ a := (owns_set z).elim id fun ⟨xs, q⟩ => by cases q
theorem wg_name {i : Nat} {x : Dv} {N : Rho → Prop} (h : (ρ[i]?.map isOwn) = some false) (n : N (ρ.set i (.val x))) : Wg c (gName i) [i] x ρ N := fun σ H v Q o d q =>
  q _ _ (o.put d i) (fun j hj => List.getElem?_set_ne fun z => hj (by simp [z])) (by simp) (fun a z => owns_keep h z) (fun a z => owns_less z) n
def Wgs (c : Ctx K) (g : TGs) (js : List Nat) (xs : List PyData) (ρ : Rho) (N : Rho → Prop) : Prop := ∀ σ H vs (Q : L2.St → Hp → Prop), Ok c ρ σ H → DpAll K (vis c ρ H) vs xs →
  (∀ ρ' σ', Ok c ρ' σ' H → (∀ i, i ∉ js → σ'[i]? = σ[i]?) → σ'.length = σ.length → (∀ a, Owns ρ a → Owns ρ' a) → (∀ a, Owns ρ' a → Owns ρ a) → N ρ' → Q σ' H) → g vs σ H Q
theorem wgs_nil {N : Rho → Prop} (n : N ρ) : Wgs c gNil [] [] ρ N := fun σ H vs Q o d q => by
  cases d
  exact ⟨rfl, q ρ σ o (fun _ _ => rfl) rfl (fun _ h => h) (fun _ h => h) n⟩
theorem wgs_cons {g : TG} {gs : TGs} {js is : List Nat} {x : PyData} {xs : List PyData} {N : Rho → Prop} (h : Wg c g js (.d x) ρ fun ρ' => Wgs c gs is xs ρ' N) : Wgs c (gCons g gs) (js ++ is) (x :: xs) ρ N := fun σ H vs Q o d q => by
  cases d with
  | cons d1 d2 =>
    refine ⟨_, _, rfl, h σ H _ _ o d1 fun ρ1 σ1 o1 a1 l1 b1 b1' n1 => n1 σ1 H _ _ o1 (dpa_mono ?_ _ _ d2) fun ρ2 σ2 o2 a2 l2 b2 b2' n2 => q ρ2 σ2 o2 (fun i hi => ?_) (l2.trans l1) (fun a z => b2 a (b1 a z)) (fun a z => b1' a (b2' a z)) n2⟩
    · exact hid_less fun a z => z.imp id (b1' a)
    · exact (a2 i fun z => hi (List.mem_append_right _ z)).trans (a1 i fun z => hi (List.mem_append_left _ z))
theorem wg_tup {n : Nat} {gs : TGs} {js : List Nat} {xs : List PyData} {N : Rho → Prop} (hl : xs.length = n) (h : Wgs c gs js xs ρ N) : Wg c (gTup K n gs) js (.d (.tuple xs)) ρ N := fun σ H v Q o d q => by
  change Dp _ _ _ _ at d
  cases d with
  | tup hs ha => exact ⟨_, _, rfl, ex_t hid_sub hs, (dpa_len ha).trans hl, h σ H _ Q o ha q⟩
theorem ws_asgG {g : TG} {js : List Nat} (h : We c te ρ fun x => Wg c g js x ρ E.nx) : Ws c (tAsg te g) ρ E := fun D σ H e o =>
  h σ H _ o fun v x H1 o1 e1 d1 k1 => k1 σ H1 v _ o1 d1 fun ρ' σ' o' _ _ _ _ n => e.nx ρ' σ' H1 o' n

/-! ### loops -/
theorem ws_for {tl : TE} {g : TG} (js : List Nat) (h : We c tl ρ fun x => ∃ xs, x = .d (.list xs) ∧ ∃ P : Nat → Rho → Prop, P 0 ρ ∧
    (∀ c' : Ctx K, Le c c' → ∀ i x ρ', xs[i]? = some x → P i ρ' → Wg c' g js (.d x) ρ' fun ρ2 => Ws c' tb' ρ2 { E with nx := P (i + 1), ct := P (i + 1), bk := E.nx }) ∧ ∀ ρ', P xs.length ρ' → E.nx ρ') : Ws c (tFor (iList K tl) g tb') ρ E := fun D σ H e o =>
  h σ H _ o fun v x H1 o1 e1 d1 ⟨xs, hx, P, p0, ps, pd⟩ => by
    subst hx
    change Dp _ _ _ _ at d1
    cases d1 with
    | @lst a vs _ _ hs ha =>
      have b1 : Ex c.B (vis c ρ H1) := o1.base
      have le : Le c (c.at (vis c ρ H1)) := le_at b1
      have sq : ∀ {ρ' σ' H'}, Ok (c.at (vis c ρ H1)) ρ' σ' H' → SqL K H' a vs := fun o' => ex_l hid_sub (ex_l o'.b hs)
      refine ⟨a, rfl, ⟨vs, ex_l hid_sub hs⟩, for_list (K := K) (a := a) (xs := vs) (fun i σ' H' => ∃ ρ', Ok (c.at (vis c ρ H1)) ρ' σ' H' ∧ P i ρ') ⟨ρ, o1.at', p0⟩ (fun i σ' H' _ ⟨ρ', o', _⟩ => sq o') ?_ ?_⟩
      · rintro i y σ' H' hy ⟨ρ', o', p'⟩
        obtain ⟨d, hd, dd⟩ := dpa_get' ha hy
        refine ps _ le i d ρ' hd p' σ' H' y _ o' (dp_mono o'.base _ _ dd) fun ρ2 σ2 o2 _ _ _ _ w => ?_
        exact w { D with nx := fun σ' H' => ∃ ρ', Ok (c.at (vis c ρ H1)) ρ' σ' H' ∧ P (i + 1) ρ', ct := fun σ' H' => ∃ ρ', Ok (c.at (vis c ρ H1)) ρ' σ' H' ∧ P (i + 1) ρ', bk := D.nx } σ2 H' ((e.at' b1).loop fun ρ σ H o p => ⟨ρ, o, p⟩) o2
      · rintro σ' H' ⟨ρ', o', p'⟩
        rw [dpa_len ha] at p'
        exact e.nx ρ' σ' H' (ok_at b1 o') (pd ρ' p')
theorem ws_forR1 {ta : TA} {g : TG} (js : List Nat) (h : Wa c ta ρ fun ys => ∃ n : Int, ys = [.d (.int n)] ∧ -(2 ^ 62) ≤ n ∧ n < 2 ^ 62 ∧ ∃ P : Nat → Rho → Prop, P 0 ρ ∧
    (∀ i ρ', i < n.toNat → P i ρ' → Wg c g js (.d (.int i)) ρ' fun ρ2 => Ws c tb' ρ2 { E with nx := P (i + 1), ct := P (i + 1), bk := E.nx }) ∧ ∀ ρ', P n.toNat ρ' → E.nx ρ') : Ws c (tFor (iRng1 ta) g tb') ρ E := fun D σ H e o =>
  h σ H _ o fun vs ys H1 o1 e1 d1 ⟨n, hy, b1, b2, P, p0, ps, pd⟩ => by
    subst hy
    cases d1 with
    | cons a1 a2 =>
      cases a2
      obtain rfl := dp_int a1
      refine ⟨n, rfl, b1, b2, for_range (lo := 0) (n := n.toNat) (fun i σ' H' => ∃ ρ', Ok c ρ' σ' H' ∧ P i ρ') ⟨ρ, o1, p0⟩ ?_ ?_⟩
      · rintro i σ' H' hi ⟨ρ', o', p'⟩
        rw [Int.zero_add]
        refine ps i ρ' hi p' σ' H' _ _ o' (Dp.int _) fun ρ2 σ2 o2 _ _ _ _ w => ?_
        exact w { D with nx := fun σ' H' => ∃ ρ', Ok c ρ' σ' H' ∧ P (i + 1) ρ', ct := fun σ' H' => ∃ ρ', Ok c ρ' σ' H' ∧ P (i + 1) ρ', bk := D.nx } σ2 H' (e.loop fun ρ σ H o p => ⟨ρ, o, p⟩) o2
      · rintro σ' H' ⟨ρ', o', p'⟩
        exact e.nx ρ' σ' H' o' (pd ρ' p')
theorem ws_while {m0 : Nat} (P : Nat → Rho → Prop) (p0 : P m0 ρ) (h : ∀ m ρ', P m ρ' → Wt c tc ρ' fun b => (b = true → Ws c t ρ' { E with nx := fun ρ2 => ∃ m', m' < m ∧ P m' ρ2, ct := fun ρ2 => ∃ m', m' < m ∧ P m' ρ2, bk := E.nx }) ∧ (b = false → E.nx ρ')) : Ws c (tWhile tc t) ρ E := fun D σ H e o => by
  refine ⟨fun m σ' H' => ∃ ρ', Ok c ρ' σ' H' ∧ P m ρ', ⟨m0, ρ, o, p0⟩, ?_⟩
  rintro m σ' H' ⟨ρ', o', p'⟩
  refine h m ρ' p' σ' H' _ o' fun b H1 o1 e1 z => ?_
  cases b with
  | true =>
    rw [if_pos rfl]
    refine ⟨fun σ2 H2 => ∃ ρ2, Ok c ρ2 σ2 H2 ∧ ∃ m', m' < m ∧ P m' ρ2, fun σ2 H2 ⟨ρ2, o2, m', lt, p2⟩ => ⟨m', lt, ρ2, o2, p2⟩, ?_⟩
    exact z.1 rfl _ σ' H1 (e.loop fun ρ σ H o p => ⟨ρ, o, p⟩) o1
  | false =>
    rw [if_neg Bool.false_ne_true]
    exact e.nx ρ' σ' H1 o1 (z.2 rfl)
end
end Py

set_option Elab.async false
set_option linter.all false
set_option autoImplicit false
set_option maxRecDepth 100000
set_option maxHeartbeats 4000000
namespace Py
open PySem L2
open Evl (Ex ex_rd ex_l ex_t fresh_back)
open Classical
section
variable {K : PySem.W.Frag} {c c' : Ctx K} {ρ : Rho} {E : DE} {ta tb te : TE} {t u : TS} {tc : TT}
/-! ### comprehensions -/
theorem hid_none' {L : Addr → Prop} {G : Hp} {a : Addr} (h : G a = none) : hid L G a = none := hid_none h
def wipeR (ρ : Rho) : List Nat → Rho
  | [] => ρ
  | v :: vs => (wipeR ρ vs).set v .un
theorem owns_un {i : Nat} {a : Addr} (z : Owns (ρ.set i .un) a) : Owns ρ a := (owns_set z).elim id fun ⟨xs, q⟩ => by cases q
/-- a slot is forgotten -/
theorem Ok.un {σ : L2.St} {H : Hp} (o : Ok c ρ σ H) (i : Nat) (w : Option V) : Ok c (ρ.set i .un) (σ.set i w) H := by
  have e : Ex (vis c ρ H) (vis c (ρ.set i .un) H) := hid_less fun a h => h.imp id owns_un
  refine ⟨o.w, o.b, fun l h => o.ob l (owns_un h), fun j s h => ?_, fun j j' l xs ys h h' => ?_, by simp [o.len]⟩
  · rcases List_set_get h with ⟨rfl, rfl, hl⟩ | ⟨ne, h⟩
    · exact ⟨w, by rw [List.getElem?_set_self (by rw [o.len]; exact hl)], trivial⟩
    · obtain ⟨u, q, z⟩ := o.sl j s h
      refine ⟨u, by rw [List.getElem?_set_ne ne]; exact q, ?_⟩
      cases s with
      | un => trivial
      | val y => obtain ⟨w, e1, e2⟩ := z; exact ⟨w, e1, dv_mono e e2⟩
      | own l xs => obtain ⟨vs, e1, e2, e3⟩ := z; exact ⟨vs, e1, e2, own_mono e _ _ e3⟩
  · rcases List_set_get h with ⟨_, q, _⟩ | ⟨_, h⟩
    · cases q
    · rcases List_set_get h' with ⟨_, q, _⟩ | ⟨_, h'⟩
      · cases q
      · exact o.one _ _ _ _ _ h h'
theorem Ok.wipe {σ : L2.St} {H : Hp} (o : Ok c ρ σ H) : ∀ vs : List Nat, Ok c (wipeR ρ vs) (L2.wipe σ vs) H
  | [] => o
  | v :: vs => (o.wipe vs).un v none
theorem owns_wipe {a : Addr} : ∀ {vs : List Nat}, Owns (wipeR ρ vs) a → Owns ρ a
  | [], h => h
  | _ :: _, h => owns_wipe (owns_un h)
theorem owns_wipe' : ∀ {vs : List Nat}, (vs.all fun v => (ρ[v]?.map isOwn) == some false) = true → ∀ {a : Addr}, Owns ρ a → Owns (wipeR ρ vs) a ∧ ∀ i : Nat, (ρ[i]?.map isOwn) = some false → ((wipeR ρ vs)[i]?.map isOwn) = some false
  | [], _, _, h => ⟨h, fun _ h => h⟩
  | v :: vs, hv, a, h => by
    rw [List.all_cons, Bool.and_eq_true] at hv
    obtain ⟨h1, h2⟩ := owns_wipe' (vs := vs) hv.2 h
    refine ⟨owns_keep (h2 v (by simpa using hv.1)) h1, fun i hi => ?_⟩
    show ((((wipeR ρ vs).set v .un)[i]?).map isOwn) = some false
    by_cases e : v = i
    · subst e
      rw [List.getElem?_set_self']
      have := h2 v hi
      cases z : (wipeR ρ vs)[v]? with
      | none => rw [z] at this; cases this
      | some y => rfl
    · rw [List.getElem?_set_ne e]
      exact h2 i hi
theorem wipe_get {σ : L2.St} {i : Nat} : ∀ {vs : List Nat}, (L2.wipe σ vs)[i]? = if i ∈ vs then (σ[i]?.map fun _ => none) else σ[i]?
  | [] => by simp [L2.wipe]
  | v :: vs => by
    show ((L2.wipe σ vs).set v none)[i]? = _
    have ih := wipe_get (σ := σ) (i := i) (vs := vs)
    by_cases e : v = i
    · subst e
      rw [List.getElem?_set_self', ih]
      by_cases m : v ∈ vs
      · rw [if_pos m, if_pos (by simp)]
        cases σ[v]? <;> rfl
      · rw [if_neg m, if_pos (by simp)]
        cases σ[v]? <;> rfl
    · rw [List.getElem?_set_ne e, ih]
      have : (i ∈ v :: vs) ↔ i ∈ vs := by simp [Ne.symm e]
      simp only [this]
theorem wipe_eq {σ σ' : L2.St} {vs js : List Nat} (hj : ∀ i ∈ js, i ∈ vs) (h : ∀ i, i ∉ js → σ'[i]? = (L2.wipe σ vs)[i]?) (hl : σ'.length = (L2.wipe σ vs).length) : L2.wipe σ' vs = L2.wipe σ vs := by
  refine List.ext_getElem? fun i => ?_
  rw [wipe_get]
  by_cases m : i ∈ vs
  · rw [if_pos m]
    have w : (L2.wipe σ vs)[i]? = (σ[i]?.map fun _ => none) := by rw [wipe_get, if_pos m]
    have l : σ'.length = σ.length := by rw [hl, wipe_length]
    rw [w]
    by_cases q : i < σ.length
    · rw [List.getElem?_eq_getElem (by omega), List.getElem?_eq_getElem q]; rfl
    · rw [List.getElem?_eq_none (by omega), List.getElem?_eq_none (by omega)] <;> rfl
  · rw [if_neg m]
    exact h i fun z => m (hj i z)
/-- one more thing hidden, as it stands -/
def Ctx.hide (c : Ctx K) (D : Addr) (o : HO) (B : Hp) (hm : isMut o = true := by rfl) : Ctx K where
  B := B
  L := fun a => c.L a ∨ a = D
  W := fun H => c.W H ∧ H D = some o
  loc := fun H H' e t h => ⟨c.loc H H' (fun a ha => e a (.inl ha)) t h.1, (e D (.inr rfl)).trans h.2⟩
  dom := fun H h a ha => ha.elim (c.dom H h.1 a) fun z => by rw [z, h.2]; exact ⟨o, rfl, hm⟩
theorem le_hide {D : Addr} {o : HO} {B : Hp} {hm : isMut o = true} (hD : ¬ c.L D) (h : Ex c.B B) : Le c (c.hide D o B hm) :=
  ⟨fun _ h => .inl h, fun _ h => h.1, fun H H' h h' e _ => ⟨h', (e D (.inr rfl) hD).trans h.2⟩, h⟩
/-- a comprehension over a list: P tells what is made so far -/
theorem wf_lc {tl : TE} {g : TG} {tt : TT} {vs : List Nat} {k : List PyData → Prop} (js : List Nat) (hj : ∀ i ∈ js, i ∈ vs) (hw : (vs.all fun v => (ρ[v]?.map isOwn) == some false) = true) (h : We c tl ρ fun x => ∃ xs, x = .d (.list xs) ∧ xs.length ≤ 100000 ∧ ∃ P : Nat → List PyData → Prop, P 0 [] ∧
    (∀ c' : Ctx K, Le c c' → ∀ i x acc, xs[i]? = some x → acc.length ≤ i → P i acc → Wg c' g js (.d x) (wipeR ρ vs) fun ρ2 => Wt c' tt ρ2 fun b => (b = true → We c' te ρ2 fun y => ∃ d, y = .d d ∧ P (i + 1) (acc ++ [d])) ∧ (b = false → P (i + 1) acc)) ∧
    ∀ acc, acc.length ≤ xs.length → P xs.length acc → k acc) : Wf c (tLc (iList K tl) g tt te vs) ρ k := fun σ H Q o q =>
  h σ H _ o fun v x H1 o1 e1 d1 ⟨xs, hx, hz, P, p0, ps, pd⟩ => by
    subst hx
    change Dp _ _ _ _ at d1
    cases d1 with
    | @lst a us _ _ hs ha =>
      refine ⟨a, rfl, ⟨us, ex_l hid_sub hs⟩, fun D hD => ?_⟩
      have nD : ¬ Hid c ρ D := o1.nh hD
      have nDL : ¬ c.L D := fun z => nD (.inl z)
      -- what stood ahead of the list, for all turns
      let B1 : Hp := vis c ρ H1
      have bB : Ex c.B B1 := o1.base
      have B1D : B1 D = none := hid_none hD
      have own0 : ∀ a, Owns ρ a → B1 a = none := fun a z => hid_pos (.inr z)
      let Pv : Nat → Hp → Prop := fun i H' => ∃ (ws : List V) (acc : List PyData), H' D = some (.lst ws) ∧ Ok (c.at B1) ρ σ H' ∧ Stp c ρ H1 H' ∧ DpAll K (hid (· = D) (vis c ρ H')) ws acc ∧ acc.length ≤ i ∧ P i acc
      have hH0 : H D = none := by
        cases z : H D with
        | none => rfl
        | some ob =>
          have := e1.ex D ob (by unfold vis; rw [hid_neg nD]; exact z)
          rw [vis, hid_none hD] at this; cases this
      refine lc_list (K := K) (a := a) (xs := us) Pv ?_ ?_ ?_ ?_
      · obtain ⟨o2, e2⟩ := o1.new (o := .lst []) hD
        have o2' : Ok (c.at B1) ρ σ (upd H1 D (.lst [])) := ⟨o2.w, e2.ex.trans vis_out, fun l z => ⟨own0 l z, (o2.ob l z).2⟩, o2.sl, o2.one, o2.len⟩
        exact ⟨[], [], upd_same, o2', e2, .nil, Nat.le_refl 0, p0⟩
      · rintro i H' _ ⟨ws, acc, _, o', _, _, _, _⟩
        exact ex_l hid_sub (ex_l o'.b hs)
      · rintro i y H' hy ⟨ws, acc, hD', o', s', dacc, hl, p'⟩
        obtain ⟨d, hd, dd⟩ := dpa_get' ha hy
        have hi : i < 100000 := by
          have := (List.getElem?_eq_some_iff.mp hd).1
          omega
        -- the context of this turn
        let B2 : Hp := hid (· = D) (vis c ρ H')
        have bB2 : Ex B1 B2 := fun b ob z => by
          have nb : b ≠ D := fun q => by rw [q, B1D] at z; cases z
          exact (hid_neg (L := fun x => x = D) nb).trans (s'.ex b ob z)
        let c2 : Ctx K := c.hide D (.lst ws) B2
        have le : Le c c2 := le_hide nDL (bB.trans bB2)
        have visE : ∀ (ρ2 : Rho) (H2 : Hp), Ex (vis c2 ρ2 H2) (hid (· = D) (vis c ρ2 H2)) := fun ρ2 H2 b ob z => by
          obtain ⟨n1, z⟩ := hid_some z
          have nb : b ≠ D := fun q => n1 (.inl (.inr q))
          refine (hid_neg (L := fun x => x = D) nb).trans ((hid_neg fun q => n1 (q.imp .inl id)).trans z)
        have visE' : ∀ (ρ2 : Rho) (H2 : Hp), Ex (hid (· = D) (vis c ρ2 H2)) (vis c2 ρ2 H2) := fun ρ2 H2 b ob z => by
          obtain ⟨nb, z⟩ := hid_some z
          obtain ⟨n1, z⟩ := hid_some z
          refine (hid_neg fun q => ?_).trans z
          rcases q with (q | q) | q
          · exact n1 (.inl q)
          · exact nb q
          · exact n1 (.inr q)
        have oD : ∀ (l : Addr), Owns ρ l → l ≠ D := fun l z q => nD (.inr (q ▸ z))
        have slots : ∀ (j : Nat) (s : Slot), ρ[j]? = some s → ∃ ob, σ[j]? = some ob ∧ SlotOk K (vis c2 ρ H') H' ob s := fun j s hs' => by
          obtain ⟨u1, q1, z1⟩ := (o1.clean s' hD j s hs')
          refine ⟨u1, q1, ?_⟩
          cases s with
          | un => trivial
          | val y => obtain ⟨w, w1, w2⟩ := z1; exact ⟨w, w1, dv_mono (visE' ρ H') w2⟩
          | own l ys => obtain ⟨w, w1, w2, w3⟩ := z1; exact ⟨w, w1, w2, own_mono (visE' ρ H') _ _ w3⟩
        have o2 : Ok c2 ρ σ H' := ⟨⟨o'.w, hD'⟩, (visE' ρ H').trans vis_out, fun l z => ⟨(show hid (· = D) (vis c ρ H') l = none from hid_none' (hid_pos (Or.inr z))), fun q => q.elim (o'.ob l z).2 (oD l z)⟩, slots, o'.one, o'.len⟩
        have o3 : Ok c2 (wipeR ρ vs) (L2.wipe σ vs) H' := o2.wipe vs
        have ev : Ex (vis c2 ρ H') (vis c2 (wipeR ρ vs) H') := hid_less fun b z => z.imp id owns_wipe
        have dd2 : Dp K (vis c2 (wipeR ρ vs) H') y d := dp_mono ((Evl.Ex.trans bB2 (visE' ρ H')).trans ev) _ _ dd
        refine ps c2 le i d acc hd hl p' (L2.wipe σ vs) H' y _ o3 dd2 fun ρ4 σ4 o4 a4 l4 b4 b4' w4 => ⟨wipe_eq hj a4 l4, ?_⟩
        refine w4 σ4 H' _ o4 fun b H5 o5 s5 z5 => ?_
        -- what is the same again once the element is told
        have back : ∀ H6, Ok c2 ρ4 σ4 H6 → Stp c2 ρ4 H' H6 → H6 D = some (.lst ws) ∧ (∀ a, Owns ρ a → H6 a = H' a) ∧ Ex (vis c2 ρ H') (vis c2 ρ H6) := fun H6 o6 s6 => by
          refine ⟨o6.w.2, fun a z => s6.own a (b4 a (owns_wipe' hw z).1), fun b ob z => ?_⟩
          · obtain ⟨n1, z⟩ := hid_some z
            have n2 : ¬ Hid c2 ρ4 b := fun q => n1 (q.imp id fun q => owns_wipe (b4' b q))
            have := s6.ex b ob (by unfold vis; rw [hid_neg n2]; exact z)
            unfold vis
            rw [hid_neg n1]
            exact (hid_some this).2
        cases b with
        | false =>
          rw [if_neg Bool.false_ne_true]
          obtain ⟨hD5, ow5, ex5⟩ := back H5 o5 s5
          have exA : Ex (vis c ρ H') (vis c ρ H5) := fun b ob z => by
            by_cases nb : b = D
            · subst nb
              unfold vis at *
              rw [hid_neg nD] at *
              rw [hD'] at z
              rw [hD5]; exact z
            · have := ex5 b ob (visE' ρ H' b ob ((hid_neg (L := fun x => x = D) nb).trans z))
              exact hid_sub b ob (visE ρ H5 b ob this)
          have stp : Stp c ρ H' H5 := ⟨exA, ow5⟩
          refine ⟨ws, acc, hD5, o'.grow o5.w.1 exA ow5, s'.trans stp, dpa_mono (fun b ob z => visE ρ H5 b ob (ex5 b ob (visE' ρ H' b ob z))) _ _ dacc, Nat.le_succ_of_le hl, z5.2 rfl⟩
        | true =>
          rw [if_pos rfl]
          refine z5.1 rfl σ4 H5 _ o5 fun v6 y6 H6 o6 s6 d6 ⟨d, hy6, p6⟩ => ?_
          subst hy6
          obtain ⟨hD6, ow6, ex6⟩ := back H6 o6 (s5.trans s6)
          refine ⟨ws, hD6, ?_, ?_⟩
          · have w1 := dpa_len dacc
            exact Evl.sz_lt (by omega)
          · -- the list has one more
            have ow7 : ∀ a, Owns ρ a → upd H6 D (.lst (ws ++ [v6])) a = H' a := fun a z => (upd_ne (oD a z)).trans (ow6 a z)
            have e67 : Ex (hid (· = D) (vis c ρ H6)) (hid (· = D) (vis c ρ (upd H6 D (.lst (ws ++ [v6]))))) := fun b ob z => by
              obtain ⟨nb, z⟩ := hid_some z
              obtain ⟨n1, z⟩ := hid_some z
              refine (hid_neg (L := fun x => x = D) nb).trans ((hid_neg n1).trans ((upd_ne nb).trans z))
            have exB : Ex (hid (· = D) (vis c ρ H')) (hid (· = D) (vis c ρ (upd H6 D (.lst (ws ++ [v6]))))) := fun b ob z => e67 b ob (visE ρ H6 b ob (ex6 b ob (visE' ρ H' b ob z)))
            have w7 : c.W (upd H6 D (.lst (ws ++ [v6]))) := c.loc _ _ (fun a z => upd_ne fun q => nDL (q ▸ z)) (tp_lst hD6) o6.w.1
            have o7 : Ok (c.at B1) ρ σ (upd H6 D (.lst (ws ++ [v6]))) := by
              refine ⟨w7, fun b ob z => ?_, o'.ob, fun j s hs' => ?_, o'.one, o'.len⟩
              · have := exB b ob (bB2 b ob z)
                exact vis_out b ob (hid_sub b ob this)
              · obtain ⟨u1, q1, z1⟩ := (o1.clean s' hD j s hs')
                refine ⟨u1, q1, ?_⟩
                cases s with
                | un => trivial
                | val y => obtain ⟨w, w1, w2⟩ := z1; exact ⟨w, w1, dv_mono (exB.trans hid_sub) w2⟩
                | own l ys =>
                  obtain ⟨w, w1, w2, w3⟩ := z1
                  exact ⟨w, w1, (ow7 l ⟨ys, List.mem_of_getElem? hs'⟩).trans w2, own_mono (exB.trans hid_sub) _ _ w3⟩
            refine ⟨ws ++ [v6], acc ++ [d], upd_same, o7, ⟨fun b ob z => ?_, fun a z => (ow7 a z).trans (s'.own a z)⟩, ?_, by simp; omega, p6⟩
            · have nb : b ≠ D := fun q => by subst q; rw [vis, hid_none hD] at z; cases z
              have := exB b ob ((hid_neg (L := fun x => x = D) nb).trans (s'.ex b ob z))
              exact hid_sub b ob this
            · refine dpa_app (dpa_mono exB _ _ dacc) (.cons (dp_mono (fun b ob z => ?_) _ _ d6) .nil)
              -- what the element is made of
              have z0 := visE ρ4 H6 b ob z
              obtain ⟨nb, z1⟩ := hid_some z0
              obtain ⟨n1, z2⟩ := hid_some z1
              refine e67 b ob ((hid_neg (L := fun x => x = D) nb).trans ((hid_neg fun q => ?_).trans z2))
              rcases q with q | q
              · exact n1 (.inl q)
              · exact n1 (.inr (b4 b (owns_wipe' hw q).1))
      · rintro H' ⟨ws, acc, hD', o', s', dacc, hl, p'⟩
        rw [dpa_len ha] at *
        exact q D ws acc H' hH0 hD' (ok_at bB o') (e1.trans s') dacc (pd acc hl p')
end
end Py

set_option Elab.async false
set_option linter.all false
set_option autoImplicit false
set_option maxRecDepth 100000
set_option maxHeartbeats 4000000
namespace Py
open PySem hiding start
open L2
open Evl (Ex ex_rd ex_l ex_t fresh_back)
open Classical
section
variable {K : PySem.W.Frag} {c c' : Ctx K} {ρ : Rho} {E : DE} {ta tb te : TE} {t u : TS} {tc : TT}
/-! ### calls -/
/-- the promise of a def: what it asks (of the context, the arguments) and tells (the value's wish k, the raised classes' wish x) -/
abbrev PT0 (K : PySem.W.Frag) := Ctx K → List Dv → (Dv → Prop) → (Value → Prop) → Prop
def spD (K : PySem.W.Frag) (P : PT0 K) : Sp := fun vs H Q E => ∃ (c : Ctx K) (xs : List Dv) (k : Dv → Prop) (x : Value → Prop), c.W H ∧ c.B = hid c.L H ∧ DvAll K c.B vs xs ∧ P c xs k x ∧
  (∀ v y H', c.W H' → Ex c.B (hid c.L H') → DvOk K (hid c.L H') v y → k y → Q v H') ∧ ∀ cls H', c.W H' → Ex c.B (hid c.L H') → x cls → E cls none H'
/-- the context of a call -/
noncomputable def Ctx.shut (c : Ctx K) (ρ : Rho) (H : Hp) (w : c.W H) (dom : ∀ a, Hid c ρ a → ∃ o, H a = some o ∧ isMut o = true) : Ctx K where
  B := vis c ρ H
  L := Hid c ρ
  W := fun H' => c.W H' ∧ ∀ a, Owns ρ a → H' a = H a
  loc := fun H1 H2 e t h => ⟨c.loc H1 H2 (fun a ha => e a (.inl ha)) t h.1, fun a ha => (e a (.inr ha)).trans (h.2 a ha)⟩
  dom := fun H1 h a ha => ha.elim (c.dom H1 h.1 a) fun z => by rw [h.2 a z]; exact dom a (.inr z)
theorem Ok.mut {σ : L2.St} {H : Hp} (k : Ok c ρ σ H) {p : Addr} (h : Hid c ρ p) : ∃ o, H p = some o ∧ isMut o = true := by
  rcases h with z | ⟨xs, z⟩
  · exact c.dom H k.w p z
  · obtain ⟨i, hi, e⟩ := List.mem_iff_getElem.mp z
    obtain ⟨o, _, vs, _, q, dd⟩ := k.sl i (.own p xs) (by rw [List.getElem?_eq_getElem hi, e])
    exact ⟨_, q, own_mut dd⟩
theorem Ok.le {σ : L2.St} {H : Hp} (o : Ok c ρ σ H) : Le c (c.shut ρ H o.w fun a z => o.mut z) :=
  ⟨fun _ h => .inl h, fun _ h => h.1, fun H1 H2 h h' e _ => ⟨h', fun a ha => (e a (.inr ha) (o.ob a ha).2).trans (h.2 a ha)⟩, o.base⟩
theorem call_core {P : PT0 K} {σ : L2.St} {H : Hp} {vs : List V} {xs : List Dv} {Q : VK} {X : XK} {k : Dv → Prop} {x : Value → Prop} (o : Ok c ρ σ H) (d : DvAll K (vis c ρ H) vs xs) (h : ∀ c', Le c c' → P c' xs k x)
    (q : Qk c ρ σ H k Q) (e : ∀ cls H', Ok c ρ σ H' → Stp c ρ H H' → x cls → X cls none H') : spD K P vs H Q X := by
  refine ⟨c.shut ρ H o.w fun a z => o.mut z, xs, k, x, ⟨o.w, fun _ _ => rfl⟩, rfl, d, h _ o.le, fun v y H' w b dv ky => ?_, fun cls H' w b kx => ?_⟩
  · have s : Stp c ρ H H' := ⟨b, w.2⟩
    exact q v y H' (o.grow w.1 b w.2) s dv ky
  · exact e cls H' (o.grow w.1 b w.2) ⟨b, w.2⟩ kx
theorem we_call {P : PT0 K} {k : Dv → Prop} {X : XK} {t : TA} (h : Wa c t ρ fun xs => ∀ c', Le c c' → P c' xs k fun _ => False) : We c (tCall (spD K P) [] X t) ρ k := fun σ H Q o q =>
  h σ H _ o fun vs xs H1 o1 e1 d1 h1 => by
    rw [List.append_nil]
    exact call_core o1 d1 h1 (q.to e1) fun _ _ _ _ z => z.elim
/-- what is wished of a raised class, at the slots -/
def XOk (c : Ctx K) (W : WX) (x : Rho → Value → Prop) : Prop := ∀ ρ σ H cls, Ok c ρ σ H → x ρ cls → W cls none σ H
theorem ok_le (le : Le c c') {σ : L2.St} {H : Hp} (o : Ok c' ρ σ H) : Ok c ρ σ H := by
  have e : Ex (vis c' ρ H) (vis c ρ H) := hid_less fun a z => z.imp (le.L a) id
  refine ⟨le.W H o.w, (le.B.trans o.b).trans (hid_less le.L), fun l z => ⟨fresh_back le.B (o.ob l z).1, fun q => (o.ob l z).2 (le.L l q)⟩, fun i s h => ?_, o.one, o.len⟩
  obtain ⟨u, q, z⟩ := o.sl i s h
  refine ⟨u, q, ?_⟩
  cases s with
  | un => trivial
  | val y => obtain ⟨w, e1, e2⟩ := z; exact ⟨w, e1, dv_mono e e2⟩
  | own l xs => obtain ⟨vs, e1, e2, e3⟩ := z; exact ⟨vs, e1, e2, own_mono e _ _ e3⟩
theorem XOk.le {W : WX} {x : Rho → Value → Prop} (h : XOk c W x) (le : Le c c') : XOk c' W x := fun ρ σ H cls o z => h ρ σ H cls (ok_le le o) z
/-- a call that may raise -/
theorem we_callS {P : PT0 K} {k : Dv → Prop} {W : WX} {x : Rho → Value → Prop} {t : TA} (hx : XOk c W x) (h : Wa c t ρ fun xs => ∀ c', Le c c' → P c' xs k (x ρ)) : We c (tCallS (spD K P) (WE W) t) ρ k := fun σ H Q o q =>
  h σ H _ o fun vs xs H1 o1 e1 d1 h1 => call_core o1 d1 h1 (q.to e1) fun cls H' o' _ z => hx ρ σ H' cls o' z
theorem ws_raise {W : WX} {x : Rho → Value → Prop} {cls : Value} (hx : XOk c W x) (h : x ρ cls) : Ws c (fun _ σ H => (fun _ H Q => Q cls none H : L2.St → Hp → XK → Prop) σ H fun cls d H' => W cls d σ H') ρ E := fun D σ H e o => hx ρ σ H cls o h
/-- try: .. except C as n: .. -/
theorem ws_tryAs {tb0 : WX → TS} {ts : Addr → Value → Option Addr → TS} {Wout : WX} {xo : Rho → Value → Prop} {C : Value} {i : Nat} (ho : XOk c Wout xo)
    (h : ∀ W, XOk c W (fun ρ' cls => ∃ b, PySem.W.exmOne K cls C = some b ∧
        (b = true → ∀ a, Ws c (ts a cls none) (ρ'.set i (.val (.r (.ref a)))) ⟨fun ρ2 => E.nx (ρ2.set i .un), E.rt, fun ρ2 => E.bk (ρ2.set i .un), fun ρ2 => E.ct (ρ2.set i .un)⟩) ∧ (b = false → xo ρ' cls)) → Ws c (tb0 W) ρ E) :
    Ws c (fun D σ H => tb0 (wAs K C i ts Wout D) D σ H) ρ E := fun D σ H e o => by
  refine h (wAs K C i ts Wout D) (fun ρ' σ' H' cls o' ⟨b, hb, h1, h2⟩ => ⟨b, hb, fun z a ha => ?_, fun z => ho ρ' σ' H' cls o' (h2 z)⟩) D σ H e o
  refine h1 z a _ _ _ ⟨fun ρ2 σ2 H2 o2 z2 => e.nx _ _ _ (o2.un i none) z2, e.rt, fun ρ2 σ2 H2 o2 z2 => e.bk _ _ _ (o2.un i none) z2, fun ρ2 σ2 H2 o2 z2 => e.ct _ _ _ (o2.un i none) z2⟩ (o'.put (x := .r (.ref a)) rfl i)
theorem ws_tryOnly {tb0 : WX → TS} {ts : Addr → Value → Option Addr → TS} {Wout : WX} {xo : Rho → Value → Prop} {C : Value} (ho : XOk c Wout xo)
    (h : ∀ W, XOk c W (fun ρ' cls => ∃ b, PySem.W.exmOne K cls C = some b ∧ (b = true → ∀ a, Ws c (ts a cls none) ρ' E) ∧ (b = false → xo ρ' cls)) → Ws c (tb0 W) ρ E) :
    Ws c (fun D σ H => tb0 (wOnly K C ts Wout D) D σ H) ρ E := fun D σ H e o => by
  refine h (wOnly K C ts Wout D) (fun ρ' σ' H' cls o' ⟨b, hb, h1, h2⟩ => ⟨b, hb, fun z a ha => ?_, fun z => ho ρ' σ' H' cls o' (h2 z)⟩) D σ H e o
  exact h1 z a _ _ _ e o'
theorem xok_none {W : WX} : XOk c W fun _ _ => False := fun _ _ _ _ _ z => z.elim

/-! ### a def -/
def startR (n : Nat) (xs : List Dv) : Rho := xs.map .val ++ List.replicate (n - xs.length) .un
theorem no_own {xs : List Dv} {n : Nat} {l : Addr} {ys : OwnC} : Slot.own l ys ∉ startR n xs := fun h => by
  rcases List.mem_append.mp h with h | h
  · obtain ⟨x, _, q⟩ := List.mem_map.mp h
    cases q
  · cases List.eq_of_mem_replicate h
theorem start_ok {N : List Str} {vs : List V} {xs : List Dv} {H : Hp} (w : c.W H) (b : c.B = hid c.L H) (d : DvAll K c.B vs xs) (hl : xs.length ≤ N.length) : Ok c (startR N.length xs) (start N vs) H := by
  have no : ∀ a, ¬ Owns (startR N.length xs) a := fun a ⟨ys, z⟩ => no_own z
  have ev : Ex c.B (vis c (startR N.length xs) H) := by
    rw [b]
    exact hid_less fun a z => z.elim id fun z => (no a z).elim
  refine ⟨w, by rw [b]; exact Evl.Ex.refl _, fun l z => (no l z).elim, fun i s h => ?_, fun i j l xs' ys h _ => (no_own (List.mem_of_getElem? h)).elim, ?_⟩
  · have hv := dva_len d
    unfold startR at h
    unfold start
    by_cases q : i < xs.length
    · rw [List.getElem?_append_left (by simpa using q)] at h
      rw [List.getElem?_append_left (by simpa [hv] using q)]
      rw [List.getElem?_map] at h ⊢
      cases z : xs[i]? with
      | none => rw [z] at h; cases h
      | some x =>
        rw [z] at h
        cases h
        obtain ⟨v, e1, e2⟩ := dva_get d z
        exact ⟨some v, by rw [e1]; rfl, v, rfl, dv_mono ev e2⟩
    · rw [List.getElem?_append_right (by simpa using q)] at h
      have e := List.eq_of_mem_replicate (List.mem_of_getElem? h)
      subst e
      have h' := (List.getElem?_eq_some_iff.mp h).1
      simp at h'
      refine ⟨none, ?_, trivial⟩
      rw [List.getElem?_append_right (by simpa [hv] using q)]
      rw [List.getElem?_replicate, if_pos (by simp [hv]; omega)]
  · unfold start startR
    simp [dva_len d]
/-- the body of a def against its promise -/
theorem run_spD {P : PT0 K} {vs : List V} {H : Hp} {Q : VK} {X : XK} {N : List Str} (h : spD K P vs H Q X)
    (hw : ∀ (c : Ctx K) xs k x, P c xs k x → xs.length ≤ N.length ∧ (XOk c (fun cls d _ H => X cls d H) (fun _ => x) → Ws c t (startR N.length xs) ⟨fun _ => k (.d .none), k, fun _ => False, fun _ => False⟩)) :
    t { nx := fun _ H' => Q .non H', rt := Q } (start N vs) H := by
  obtain ⟨c, xs, k, x, w, b, d, p, q, e⟩ := h
  obtain ⟨hl, hw⟩ := hw c xs k x p
  refine hw (fun ρ σ H cls o z => e cls H o.w o.b z) _ _ _ ⟨fun ρ σ H' o z => q .non (.d .none) H' o.w o.b Dp.non z, q' q, fun _ _ _ _ z => z.elim, fun _ _ _ _ z => z.elim⟩ (start_ok w b d hl)
where q' {c : Ctx K} {k : Dv → Prop} {Q : VK} (q : ∀ v y H', c.W H' → Ex c.B (hid c.L H') → DvOk K (hid c.L H') v y → k y → Q v H') : ∀ v x H, c.W H → Ex c.B (hid c.L H) → DvOk K (hid c.L H) v x → k x → Q v H := q
theorem spD_len {P : PT0 K} {n : Nat} (hp : ∀ (c : Ctx K) xs k x, P c xs k x → xs.length = n) : ∀ vs H Q X, spD K P vs H Q X → vs.length = n := fun vs H Q X ⟨c, xs, k, x, _, _, d, p, _⟩ => (dva_len d).trans (hp c xs k x p)
/-! ### lists of one's own -/
theorem ws_app {i : Nat} {l : Addr} {xs : List PyData} (h : ρ[i]? = some (.own l xs)) (hz : xs.length < 100000) (ht : We c te ρ fun y => ∃ d, y = .d d ∧ E.nx (ρ.set i (.own l (xs ++ [d])))) :
    Ws c (tDrop (tBM K "list" rAppend (tVar i) (tCons te tNil))) ρ E := fun D σ H e o => by
  obtain ⟨vs, e1, h1, d1⟩ := o.own h
  refine ⟨_, e1, .inl ⟨rfl, _, .inl (.inl h1)⟩, ht σ H _ o fun v y H1 o1 s1 dy ⟨d, hy, n⟩ => ?_⟩
  subst hy
  have ol : Owns ρ l := ⟨xs, List.mem_of_getElem? h⟩
  have h1' : H1 l = some (.lst vs) := (s1.own l ol).trans h1
  refine ⟨l, vs, v, rfl, rfl, h1', Evl.sz_lt (by rw [dpa_len d1]; exact hz), e.nx (ρ.set i (.own l (xs ++ [d]))) σ (upd H1 l (.lst (vs ++ [v]))) ?_ n⟩
  have nl : ¬ c.L l := (o.ob l ol).2
  have hi : i < ρ.length := (List.getElem?_eq_some_iff.mp h).1
  have ow1 : ∀ a, Owns (ρ.set i (.own l (xs ++ [d]))) a → Owns ρ a := fun a z => by
    rcases owns_set z with q | ⟨ys, q⟩
    · exact q
    · cases q; exact ol
  have ow2 : ∀ a, Owns ρ a → Owns (ρ.set i (.own l (xs ++ [d]))) a := fun a ⟨ys, z⟩ => by
    obtain ⟨j, hj, e'⟩ := List.mem_iff_getElem.mp z
    by_cases q : i = j
    · subst q
      have : some (Slot.own a ys) = some (Slot.own l xs) := by rw [← h, List.getElem?_eq_getElem hj, e']
      cases this
      exact ⟨xs ++ [d], List.mem_of_getElem? (i := i) (List.getElem?_set_self hi)⟩
    · exact ⟨ys, List.mem_of_getElem? (i := j) (by rw [List.getElem?_set_ne q, List.getElem?_eq_getElem hj, e'])⟩
  have ev : Ex (vis c ρ H1) (vis c (ρ.set i (.own l (xs ++ [d]))) (upd H1 l (.lst (vs ++ [v])))) := fun b ob z => by
    obtain ⟨n1, z⟩ := hid_some z
    have nb : b ≠ l := fun q => n1 (.inr (q ▸ ol))
    exact (hid_neg fun q => n1 (q.imp id (ow1 b))).trans ((upd_ne nb).trans z)
  refine ⟨c.loc _ _ (fun a z => upd_ne fun q => nl (q ▸ z)) (tp_lst h1') o1.w, (o1.base.trans ev).trans vis_out, fun a z => o1.ob a (ow1 a z), fun j s hs => ?_, fun j j' a ys zs hs hs' => ?_, by simp [o1.len]⟩
  · rcases List_set_get hs with ⟨rfl, rfl, _⟩ | ⟨ne, hs⟩
    · exact ⟨some (.ref l), e1, _, rfl, upd_same, vs ++ [v], rfl, dpa_app (dpa_mono (s1.ex.trans ev) _ _ d1) (.cons (dp_mono ev _ _ dy) .nil)⟩
    · obtain ⟨u, q, z⟩ := o1.sl j s hs
      refine ⟨u, q, ?_⟩
      cases s with
      | un => trivial
      | val y => obtain ⟨w, e1, e2⟩ := z; exact ⟨w, e1, dv_mono ev e2⟩
      | own m ys =>
        obtain ⟨ws, e1, e2, e3⟩ := z
        have nm : m ≠ l := fun q => ne (o1.one i j l xs ys h (q ▸ hs))
        exact ⟨ws, e1, (upd_ne nm).trans e2, own_mono ev _ _ e3⟩
  · rcases List_set_get hs with ⟨r1, q1, _⟩ | ⟨ne, hs⟩
    · rcases List_set_get hs' with ⟨r2, q2, _⟩ | ⟨ne', hs'⟩
      · exact r1.symm.trans r2
      · cases q1
        exact (r1.symm.trans (o1.one i j' l xs _ h hs'))
    · rcases List_set_get hs' with ⟨r2, q2, _⟩ | ⟨ne', hs'⟩
      · cases q2
        exact ((o1.one i j l xs _ h hs).symm.trans r2)
      · exact o1.one _ _ _ _ _ hs hs'
/-- a list of one's own is one's own no more -/
theorem Ok.freeze {σ : L2.St} {H : Hp} (o : Ok c ρ σ H) {i : Nat} {l : Addr} {xs : List PyData} (h : ρ[i]? = some (.own l xs)) : Ok c (ρ.set i (.val (.d (.list xs)))) σ H := by
  obtain ⟨vs, e1, h1, d1⟩ := o.own h
  have ol : Owns ρ l := ⟨xs, List.mem_of_getElem? h⟩
  have e : Ex (vis c ρ H) (vis c (ρ.set i (.val (.d (.list xs)))) H) := hid_less fun a z => z.imp id owns_less
  have nl : ¬ Hid c (ρ.set i (.val (.d (.list xs)))) l := fun z => z.elim (o.ob l ol).2 fun ⟨ys, z⟩ => by
    obtain ⟨j, hj, e'⟩ := List.mem_iff_getElem.mp z
    have z' : (ρ.set i (.val (.d (.list xs))))[j]? = some (Slot.own l ys) := by rw [List.getElem?_eq_getElem hj, e']
    rcases List_set_get z' with ⟨_, q, _⟩ | ⟨ne, z'⟩
    · cases q
    · exact ne (o.one i j l xs ys h z')
  refine ⟨o.w, o.b, fun l h => o.ob l (owns_less h), fun j s h' => ?_, fun j j' a ys zs h h' => ?_, by simp [o.len]⟩
  · rcases List_set_get h' with ⟨rfl, rfl, _⟩ | ⟨ne, h'⟩
    · exact ⟨some (.ref l), e1, .ref l, rfl, dp_lst ((hid_neg nl).trans h1) (dpa_mono e _ _ d1)⟩
    · obtain ⟨u, q, z⟩ := o.sl j s h'
      refine ⟨u, q, ?_⟩
      cases s with
      | un => trivial
      | val y => obtain ⟨w, e1, e2⟩ := z; exact ⟨w, e1, dv_mono e e2⟩
      | own l xs => obtain ⟨vs, e1, e2, e3⟩ := z; exact ⟨vs, e1, e2, own_mono e _ _ e3⟩
  · rcases List_set_get h with ⟨_, q, _⟩ | ⟨_, h⟩
    · cases q
    · rcases List_set_get h' with ⟨_, q, _⟩ | ⟨_, h'⟩
      · cases q
      · exact o.one _ _ _ _ _ h h'
theorem ws_freeze {i : Nat} {l : Addr} {xs : List PyData} (h : ρ[i]? = some (.own l xs)) (n : Ws c t (ρ.set i (.val (.d (.list xs)))) E) : Ws c t ρ E := fun D σ H e o => n D σ H e (o.freeze h)
end
end Py

set_option Elab.async false
set_option linter.all false
set_option autoImplicit false
set_option maxRecDepth 100000
set_option maxHeartbeats 4000000
namespace Py
open PySem hiding start
open L2
open Evl (Ex ex_rd ex_l ex_t fresh_back)
open Classical
/-! ### defs by their names -/
section
variable {P : Program} {w : World} {K : PySem.W.Frag} {mg : Str → Option Value} {base : Heap} {CX : CXT} {k : Nat} {ps : List Str} {sp : Sp} {x : Str}
structure Def (P : Program) (w : World) (K : PySem.W.Frag) (mg : Str → Option Value) (base : Heap) (x : Str) (ps : List Str) (CX : CXT) (k : Nat) (sp : Sp) : Prop where
  ex : ∃ f fd, FnOk P w K mg base CX k f fd ps sp ∧ mg x = some (.ref f) ∧ PySem.W.keepIn K (.ref f) = true ∧ Binds K fd ps []
structure Raw (K : PySem.W.Frag) (mg : Str → Option Value) (x : Str) (st : Stmt) : Prop where
  ex : ∃ f fd, Fun K x x st f fd ∧ mg x = some (.ref f)
theorem Raw.def {st : Stmt} (R : Raw K mg x st) (b : ∀ f fd, Fun K x x st f fd → Binds K fd ps [] ∧ FnOk P w K mg base CX k f fd ps sp) : Def P w K mg base x ps CX k sp := by
  obtain ⟨f, fd, F, m⟩ := R.ex
  obtain ⟨b1, b2⟩ := b f fd F
  exact ⟨f, fd, b2, m, F.kp, b1⟩
end
section
variable {X : Cx} {CX : CXT} {k k' : Nat} {ps : List Str} {sp : Sp} {x : Str} {p pos : Pos} {e : Expr} {es : List Expr} {t : TA} {W : WX}
theorem pe_D0 (D : Def X.prog X.w X.K X.mg X.base x ps CX k sp) (hk : k ≤ k') (hr : Room k' X.A) (hx : Passes CX X E0) (ha : PA X (e :: es) t) (hg : Gl X x := by rfl) (hdb : (x == ("__debug__" : Str)) = false := by decide)
    (he : starEach (e :: es) X.env = (false, eval e X.env) :: starEach es X.env := by rfl) (hpl : (backTo pos (starEach es X.env)).any (·.1) = false := by rfl) : PE X (.Call (.Name x p) (e :: es) [] pos) (tCall sp [] E0 t) := by
  obtain ⟨f, fd, F, m, kp, b⟩ := D.ex
  exact pe_call F (hr.mono hk) hg m kp b .nil hx ha hdb he hpl
theorem pe_DS (D : Def X.prog X.w X.K X.mg X.base x ps (L2.CX X.prog X.w) k sp) (hk : k ≤ k') (hr : Room k' X.A) (tk : Takes X W) (ha : PA X (e :: es) t) (hg : Gl X x := by rfl) (hdb : (x == ("__debug__" : Str)) = false := by decide)
    (he : starEach (e :: es) X.env = (false, eval e X.env) :: starEach es X.env := by rfl) (hpl : (backTo pos (starEach es X.env)).any (·.1) = false := by rfl) : PE X (.Call (.Name x p) (e :: es) [] pos) (tCallS sp (WE W) t) := by
  obtain ⟨f, fd, F, m, kp, b⟩ := D.ex
  exact pe_callS F (hr.mono hk) hg m kp b (fun σ => passAt tk σ) ha hdb he hpl
end
/-! ### isinstance of the error that a suite holds -/
def rIsX (K : PySem.W.Frag) (a : Addr) (cls : Value) (d : Option Addr) : List V → Hp → VK → Prop := fun xs H Q => ∃ (D : Addr) (c : V) (cv : Value) (b : Bool), cls = .ref D ∧ d = none ∧ ExcC K D ∧ xs = [.ref a, c] ∧ (∀ u, RelV c u → u = cv) ∧ PySem.W.kitOne K (.ref D) cv = some b ∧ Q (.bl b) H
theorem call_isX {X : Cx} {a : Addr} {oe : Obj} {cls : Value} {d : Option Addr} {pn : List (Addr × Obj)} (hz : Zc cls d oe) (hf : ∃ vs, oe.data = .fields vs) : CallR (X.suite a ((a, oe) :: pn)) (.builtin "isinstance") (rIsX X.K a cls d) := by
  intro pins s σ H xs us Q I r h
  obtain ⟨D, c, cv, b, rfl, rfl, C, h1, h2, h3, h4⟩ := h
  exact call_isE C hz hf pins s σ H xs us Q I r ⟨c, cv, b, h1, h2, h3, h4⟩
section
variable {K : PySem.W.Frag} {c : Ctx K} {ρ : Rho} {k : Dv → Prop}
theorem rc_isX {a D : Addr} {u : V} {cv : Value} {b : Bool} (C : ExcC K D) (hu : ∀ z, RelV u z → z = cv) (hb : PySem.W.kitOne K (.ref D) cv = some b) (h : k (.d (.bool b))) : Rc c (rIsX K a (.ref D) none) ρ [.r (.ref a), .r u] k := fun σ H vs Q o d q => by
  cases d with
  | cons d1 d2 =>
    cases d2 with
    | cons d2 d3 =>
      cases d3
      obtain rfl : _ = V.ref a := d1
      obtain rfl : _ = u := d2
      exact ⟨D, _, cv, b, rfl, rfl, C, rfl, hu, hb, q.val o (x := .d _) (Dp.bl _) h⟩
end
/-! ### // by any number but 0, all of a list -/
def CDivX (_ j : Int) : Prop := j ≠ 0 ∧ j.natAbs.log2 < 9000
theorem op_fdivX {X : Cx} : OpR X (binaryOp .FloorDiv) (rI CDivX fun i j => .int (i.fdiv j)) := opI fun i j _ _ _ _ _ hc q => floordiv_any hc.1 q hc.2
where floordiv_any {prog : Program} {w : World} {A : Around} {Q : Value → Shared → Prop} {E : Value → Shared → Prop} {s : Shared} {i j : Int} {t u : Tok} (h : j ≠ 0) (q : Q (.int (i.fdiv j) s.toks) { s with toks := s.toks + 1 }) (hl : j.natAbs.log2 < 9000) :
    wpAny (model prog w) A (binaryOp .FloorDiv (.int i t) (.int j u)) Q E s := PyProof.Rows.floordiv_int h q (.inl (PyProof.noPylong_of_log2 hl))
section
variable {K : PySem.W.Frag} {c : Ctx K} {ρ : Rho} {k : Dv → Prop}
theorem dpa_bools {K : PySem.W.Frag} {G : Hp} : ∀ {bs : List Bool} {vs : List V}, DpAll K G vs (bs.map PyData.bool) → vs = bs.map V.bl
  | [], _, .nil => rfl
  | b :: bs, _, .cons h t => by
    have := dp_bl h
    have := dpa_bools t
    subst this
    subst_vars
    rfl
theorem dpa_ints {K : PySem.W.Frag} {G : Hp} : ∀ {bs : List Int} {vs : List V}, DpAll K G vs (bs.map PyData.int) → vs = bs.map V.int
  | [], _, .nil => rfl
  | b :: bs, _, .cons h t => by
    have := dp_int h
    have := dpa_ints t
    subst this
    subst_vars
    rfl
theorem rc_all {bs : List Bool} (h : k (.d (.bool (bs.all id)))) : Rc c (rAll K) ρ [.d (.list (bs.map PyData.bool))] k := fun σ H vs Q o d q => by
  cases d with
  | cons d1 d2 =>
    cases d2
    change Dp _ _ _ _ at d1
    cases d1 with
    | lst hs ha =>
      have e := dpa_bools ha
      subst e
      exact ⟨_, bs, rfl, ex_l hid_sub hs, q.val o (x := .d _) (Dp.bl _) h⟩
theorem rc_any {bs : List Bool} (h : k (.d (.bool (bs.any id)))) : Rc c (rAny K) ρ [.d (.list (bs.map PyData.bool))] k := fun σ H vs Q o d q => by
  cases d with
  | cons d1 d2 =>
    cases d2
    change Dp _ _ _ _ at d1
    cases d1 with
    | lst hs ha =>
      have e := dpa_bools ha
      subst e
      exact ⟨_, bs, rfl, ex_l hid_sub hs, q.val o (x := .d _) (Dp.bl _) h⟩
theorem rc_sum {ns : List Int} (h : k (.d (.int ns.sum))) : Rc c (rSum K) ρ [.d (.list (ns.map PyData.int))] k := fun σ H vs Q o d q => by
  cases d with
  | cons d1 d2 =>
    cases d2
    change Dp _ _ _ _ at d1
    cases d1 with
    | lst hs ha =>
      have e := dpa_ints ha
      subst e
      exact ⟨_, ns, rfl, ex_l hid_sub hs, q.val o (x := .d _) (Dp.int _) h⟩
end
end Py

set_option Elab.async false
set_option linter.all false
set_option autoImplicit false
set_option maxRecDepth 100000
set_option maxHeartbeats 4000000
namespace Py
open PySem hiding start
open L2
open Evl (Ex ex_rd ex_l ex_t fresh_back)
open Classical
section
variable {X : Cx}
def rStrAdd : R2 := fun x y H Q => ∃ i j, x = .str i ∧ y = .str j ∧ i.length + j.length ≤ sizeLine ∧ Q (.str (i ++ j)) H
def rAddU (K : PySem.W.Frag) : R2 := rOr (rI0 fun i j => .int (i + j)) (rOr rStrAdd (rOr rCat (rCatT K)))
theorem op_addU : OpR X (binaryOp .Add) (rAddU X.K) := op_or op_add (op_or op_add_str (op_or op_cat op_catT))
def rMulU (K : PySem.W.Frag) : R2 := rOr (rI CMulW fun i j => .int (i * j)) rRep
theorem op_mulU : OpR X (binaryOp .Mult) (rMulU X.K) := op_or op_mulW op_rep
theorem op_ltU : OpR X (compareOp .Lt) (rI0 fun i j => .bl (decide (i < j))) := op_lt
theorem op_leU : OpR X (compareOp .LtE) (rI0 fun i j => .bl (decide (i ≤ j))) := op_le
theorem op_gtU : OpR X (compareOp .Gt) (rI0 fun i j => .bl (decide (j < i))) := op_gt
theorem op_geU : OpR X (compareOp .GtE) (rI0 fun i j => .bl (decide (j ≤ i))) := op_ge
/-- xs[i] of xs[i] op= e -/
theorem get_list : PGet X (rIxL X.K) := by
  intro pins s σ H o i ov iv Q I rx ry h
  obtain ⟨p, xs, k, z, rfl, rfl, hq, he, q⟩ := h
  cases rx
  obtain ⟨t, rfl⟩ := ry
  obtain ⟨its, r, pl, hz⟩ := I.list hq
  obtain ⟨j, h1, h2, h3, h4, h5⟩ := atI_get he
  obtain ⟨w, ew, rw'⟩ := r.get h2
  have hl := r.length
  have hn := line63
  have fin : EP X pins σ Q w s := ⟨z, H, I, rw', q⟩
  by_cases h0 : 0 ≤ k
  · have hj : k.toNat = j := by
      rw [seqIndex_of h0 h5] at h1
      exact Option.some.inj h1
    exact wpAny_getItem_list pl.isList h0 (by omega) (by rw [hj]; simpa using ew) fin
  · have hj : (k + (its.toArray.size : Int)).toNat = j := by
      rw [seqIndex_neg (by omega) h4] at h1
      rw [List.size_toArray, ← hl]
      exact Option.some.inj h1
    exact wpAny_getItem_list_neg pl.isList (by omega) (by rw [List.size_toArray] <;> omega) (by omega) (by rw [hj]; simpa using ew) fin
end
section
variable {K : PySem.W.Frag} {c : Ctx K} {ρ : Rho} {k : Dv → Prop} {ta tb te : TE}
theorem rv_addI {i j : Int} (h : k (.d (.int (i + j)))) : Rv c (rAddU K) ρ (.d (.int i)) (.d (.int j)) k := rv_l (rv_I0 h)
theorem rv_mulI {i j : Int} (hc : CMulW i j) (h : k (.d (.int (i * j)))) : Rv c (rMulU K) ρ (.d (.int i)) (.d (.int j)) k := rv_l (rv_I hc h)
theorem rv_lt {i j : Int} (h : k (.d (.bool (decide (i < j))))) : Rv c (rI0 fun i j => .bl (decide (i < j))) ρ (.d (.int i)) (.d (.int j)) k := rv_C0 h
theorem rv_le {i j : Int} (h : k (.d (.bool (decide (i ≤ j))))) : Rv c (rI0 fun i j => .bl (decide (i ≤ j))) ρ (.d (.int i)) (.d (.int j)) k := rv_C0 (f := fun i j => decide (i ≤ j)) h
theorem rv_gt {i j : Int} (h : k (.d (.bool (decide (j < i))))) : Rv c (rI0 fun i j => .bl (decide (j < i))) ρ (.d (.int i)) (.d (.int j)) k := rv_C0 (f := fun i j => decide (j < i)) h
theorem rv_ge {i j : Int} (h : k (.d (.bool (decide (j ≤ i))))) : Rv c (rI0 fun i j => .bl (decide (j ≤ i))) ρ (.d (.int i)) (.d (.int j)) k := rv_C0 (f := fun i j => decide (j ≤ i)) h
theorem rv_sub {i j : Int} (h : k (.d (.int (i - j)))) : Rv c (rI0 fun i j => .int (i - j)) ρ (.d (.int i)) (.d (.int j)) k := rv_I0 (f := fun i j => i - j) h
theorem rv_fdiv {i j : Int} (hc : CDivX i j) (h : k (.d (.int (i.fdiv j)))) : Rv c (rI CDivX fun i j => .int (i.fdiv j)) ρ (.d (.int i)) (.d (.int j)) k := rv_I (f := fun i j => i.fdiv j) hc h
theorem rv_mod {i j : Int} (hc : j ≠ 0) (h : k (.d (.int (i.fmod j)))) : Rv c (rI (fun _ j => j ≠ 0) fun i j => .int (i.fmod j)) ρ (.d (.int i)) (.d (.int j)) k := rv_I (f := fun i j => i.fmod j) hc h
theorem rv_pow {i j : Int} (hc : CPow i j) (h : k (.d (.int (i ^ j.toNat)))) : Rv c (rI CPow fun i j => .int (i ^ j.toNat)) ρ (.d (.int i)) (.d (.int j)) k := rv_I (f := fun i j => i ^ j.toNat) hc h
/-- list display as data -/
theorem we_lst {t : TA} (h : Wa c t ρ fun xs => ∃ ds, allD xs = some ds ∧ xs.length ≤ 100000 ∧ k (.d (.list ds))) : We c (tLst t) ρ k := we_fresh (wf_lst h)
end

/-! ### the hand that the laws draw by: a list [script, at, pool, left, a, b] that they change -/
def handL (l : Addr) (i pool left a b : Int) : List V := [.ref l, .int i, .int pool, .int left, .int a, .int b]
structure HandAt (H : Hp) (p l : Addr) (ns : List Int) : Prop where
  ex : ∃ i pool left a b : Int, H p = some (.lst (handL l i pool left a b)) ∧ 0 ≤ i ∧ 0 ≤ pool ∧ (0 ≤ a ∧ a < 2 ^ 31) ∧ 0 ≤ b ∧ b < 2 ^ 31
  sc : H l = some (.lst (ns.map V.int))
  ne : l ≠ p
structure HandIn {K : PySem.W.Frag} (c : Ctx K) (p : Addr) : Prop where
  L : c.L p
  ex : ∃ l ns, c.L l ∧ (∀ H, c.W H → HandAt H p l ns) ∧ ∀ H H', c.W H → HandAt H' p l ns → (∀ a, a ≠ p → H' a = H a) → c.W H'
theorem HandIn.le {K : PySem.W.Frag} {c c' : Ctx K} {p : Addr} (h : HandIn c p) (e : Le c c') : HandIn c' p := by
  obtain ⟨l, ns, hl, h1, h2⟩ := h.ex
  refine ⟨e.L p h.L, l, ns, e.L l hl, fun H w => h1 H (e.W H w), fun H H' w ha hk => ?_⟩
  refine e.F H H' w (h2 H H' (e.W H w) ha hk) (fun a _ na => hk a fun z => na (z ▸ h.L)) fun a u e1 nl => ?_
  by_cases z : a = p
  · subst z
    obtain ⟨⟨_, _, _, _, _, hp, _⟩, _, _⟩ := h1 H (e.W H w)
    rw [hp] at e1; cases e1; cases nl
  · exact (hk a z).trans e1
/-- what a call by the hand alone leaves -/
theorem hand_end {K : PySem.W.Frag} {c : Ctx K} {p l : Addr} {ns : List Int} {H H' : Hp} (hp : c.L p) (put : ∀ H H', c.W H → HandAt H' p l ns → (∀ a, a ≠ p → H' a = H a) → c.W H') (w : c.W H) (b : c.B = hid c.L H) (h : HandAt H' p l ns) (hk : ∀ a, a ≠ p → H' a = H a) :
    c.W H' ∧ Ex c.B (hid c.L H') := by
  refine ⟨put H H' w h hk, fun a o z => ?_⟩
  rw [b] at z
  obtain ⟨n, z⟩ := hid_some z
  exact (hid_neg n).trans ((hk a fun q => n (q ▸ hp)).trans z)
/-- the promise of a def that draws: a number from 0 below n -/
def p_draw (K : PySem.W.Frag) : PT0 K := fun c xs k _ => ∃ (p : Addr) (n : Int), xs = [.r (.ref p), .d (.int n)] ∧ HandIn c p ∧ 0 < n ∧ n < 2 ^ 2000 ∧ ∀ v : Int, 0 ≤ v → v < n → k (.d (.int v))
theorem len_draw {K : PySem.W.Frag} : ∀ (c : Ctx K) xs k x, p_draw K c xs k x → xs.length = 2 := by
  rintro c xs k x ⟨p, n, rfl, _⟩
  rfl
/-- raw promises -/
def spNext (K : PySem.W.Frag) : Sp := fun vs H Q _ => ∃ (p l : Addr) (ns : List Int) (i pool left a b : Int), vs = [.ref p] ∧ H p = some (.lst (handL l i pool left a b)) ∧ (0 ≤ a ∧ a < 2 ^ 31) ∧ (0 ≤ b ∧ b < 2 ^ 31) ∧
  ∀ (a' b' v : Int) (H' : Hp), (0 ≤ a' ∧ a' < 2 ^ 31) → (0 ≤ b' ∧ b' < 2 ^ 31) → (0 ≤ v ∧ v < 2 ^ 32) → H' p = some (.lst (handL l i pool left a' b')) → (∀ x, x ≠ p → H' x = H x) → Q (.int v) H'
def spTake (K : PySem.W.Frag) : Sp := fun vs H Q _ => ∃ (p l : Addr) (ns : List Int) (i left a b : Int), vs = [.ref p] ∧ H p = some (.lst (handL l i 0 left a b)) ∧ H l = some (.lst (ns.map V.int)) ∧ l ≠ p ∧ 0 ≤ i ∧ (0 ≤ a ∧ a < 2 ^ 31) ∧ (0 ≤ b ∧ b < 2 ^ 31) ∧
  ∀ (i' pool' left' a' b' : Int) (H' : Hp), 0 ≤ i' → 0 ≤ pool' → (0 ≤ a' ∧ a' < 2 ^ 31) → (0 ≤ b' ∧ b' < 2 ^ 31) → H' p = some (.lst (handL l i' pool' left' a' b')) → (∀ x, x ≠ p → H' x = H x) → Q .non H'
end Py

set_option Elab.async false
set_option linter.all false
set_option autoImplicit false
set_option maxRecDepth 100000
set_option maxHeartbeats 4000000
namespace Py
open PySem hiding start
open L2
open Evl (Ex ex_rd ex_l ex_t fresh_back)
open Classical
/-! ### the rules with the written part named -/
section
variable {X : Cx}
theorem ix_s (K : PySem.W.Frag) (h : X.K = K := by rfl) : IxR X (rIx K) := h ▸ ix_seq
theorem get_s (K : PySem.W.Frag) (h : X.K = K := by rfl) : PGet X (rIxL K) := h ▸ get_list
theorem op_eqs (K : PySem.W.Frag) (hu : X.A.units + 64 < cLine) (h : X.K = K := by rfl) : OpR X (compareOp .Eq) (rEqD K) := h ▸ op_eqD hu
theorem op_nes (K : PySem.W.Frag) (hu : X.A.units + 64 < cLine) (h : X.K = K := by rfl) : OpR X (compareOp .NotEq) (rNeD K) := h ▸ op_neD hu
theorem op_adds (K : PySem.W.Frag) (h : X.K = K := by rfl) : OpR X (binaryOp .Add) (rAddU K) := h ▸ op_addU
theorem op_muls (K : PySem.W.Frag) (h : X.K = K := by rfl) : OpR X (binaryOp .Mult) (rMulU K) := h ▸ op_mulU
def rLen (K : PySem.W.Frag) : List V → Hp → VK → Prop := fun xs H Q => ∃ x n, xs = [x] ∧ LenV K x H n ∧ Q (.int n) H
theorem call_lens (K : PySem.W.Frag) (h : X.K = K := by rfl) : CallR X (.builtin "len") (rLen K) := h ▸ call_len
def rAbs : List V → Hp → VK → Prop := fun xs H Q => ∃ i, xs = [.int i] ∧ Q (.int (if i < 0 then -i else i)) H
theorem call_abss : CallR X (.builtin "abs") rAbs := call_abs
theorem call_isis (K : PySem.W.Frag) (h : X.K = K := by rfl) : CallR X (.builtin "isinstance") (rIsi K) := h ▸ call_isi
theorem call_isXs (K : PySem.W.Frag) {a : Addr} {oe : Obj} {cls : Value} {d : Option Addr} {pn : List (Addr × Obj)} (hz : Zc cls d oe) (hf : ∃ vs, oe.data = .fields vs) (h : X.K = K := by rfl) : CallR (X.suite a ((a, oe) :: pn)) (.builtin "isinstance") (rIsX K a cls d) := h ▸ call_isX hz hf
theorem cr_alls (K : PySem.W.Frag) (hc : X.calm = true) (h : X.K = K := by rfl) : CallR X (.builtin "all") (rAll K) := h ▸ cr_all hc
theorem cr_anys (K : PySem.W.Frag) (hc : X.calm = true) (h : X.K = K := by rfl) : CallR X (.builtin "any") (rAny K) := h ▸ cr_any hc
theorem cr_sums (K : PySem.W.Frag) (hc : X.calm = true) (h : X.K = K := by rfl) : CallR X (.builtin "sum") (rSum K) := h ▸ cr_sum hc
def tTruth (K : PySem.W.Frag) (ta : TE) : TT := fun σ H Q => ta σ H fun x H' => ∃ k, TruV K x H' k ∧ Q k H'
theorem pt_tru (K : PySem.W.Frag) {a : Expr} {ta : TE} (ha : PE X a ta) (he : ∀ whole, isTrue a X.env whole = (do let v ← whole; standAt a.pos; holding [v] (truthy v))) (h : X.K = K := by rfl) : PT X a (tTruth K ta) := h ▸ pt_truth ha he
theorem sl_s (K : PySem.W.Frag) (h : X.K = K := by rfl) : SlR X (rSlL K) := h ▸ sl_list
theorem pi_s (K : PySem.W.Frag) {tg l : Expr} {tl : TE} (hl : PE X l tl) (h : X.K = K := by rfl) : PI X tg l (iList K tl) := h ▸ pi_list hl
def rListOf (K : PySem.W.Frag) : List V → Hp → VK → Prop := fun xs H Q => ∃ p ys, xs = [.ref p] ∧ (SqL K H p ys ∨ SqT K H p ys) ∧ ∀ l, H l = none → Q (.ref l) (upd H l (.lst ys))
theorem call_lists (K : PySem.W.Frag) (h : X.K = K := by rfl) : CallR X (.type "list") (rListOf K) := h ▸ call_list_of
theorem pg_tups (K : PySem.W.Frag) {es : List Expr} {k : Nat} {t : TGs} {n : Nat} {pos : Pos} (hc : X.calm = true) (h0 : PGs X es t) (hn : (assignEach es X.env).length = n := by rfl) (hst : (assignEach es X.env).findIdx? (·.1) = none := by rfl) (h : X.K = K := by rfl) : PG X (.Tuple es k pos) (gTup K n t) := by
  subst h
  exact pg_tup hc h0 hn hst
end
section
variable {K : PySem.W.Frag} {c : Ctx K} {ρ : Rho} {k : Dv → Prop} {ta tb te : TE}
/-! isinstance of data by the five classes -/
def tyN : PyData → Option String
  | .none => some "NoneType"
  | .bool _ => some "bool"
  | .int _ => some "int"
  | .str _ => some "str"
  | .list _ => some "list"
  | .tuple _ => some "tuple"
  | _ => none
theorem tyD_N {d : PyData} {a : String} (h : tyN d = some a) : tyD d = some (.type a) := by
  cases d <;> simp_all [tyN, tyD] <;> exact h
def isInt : PyData → Bool
  | .int _ => true
  | .bool _ => true
  | _ => false
def isBool : PyData → Bool
  | .bool _ => true
  | _ => false
def isTup : PyData → Bool
  | .tuple _ => true
  | _ => false
def isLst : PyData → Bool
  | .list _ => true
  | _ => false
def isStr : PyData → Bool
  | .str _ => true
  | _ => false
def noDict : PyData → Bool
  | .dict _ => false
  | _ => true
theorem rc_isInt {d : PyData} (h : k (.d (.bool (isInt d)))) : Rc c (rIsi K) ρ [.d d, .r (.ty "int")] k := by
  cases d with
  | none => first | exact rc_isi rfl (kit_ty (r := true) (by decide +kernel)) h | exact rc_isi rfl (kit_ty (r := false) (by decide +kernel)) h
  | bool b => first | exact rc_isi rfl (kit_ty (r := true) (by decide +kernel)) h | exact rc_isi rfl (kit_ty (r := false) (by decide +kernel)) h
  | int b => first | exact rc_isi rfl (kit_ty (r := true) (by decide +kernel)) h | exact rc_isi rfl (kit_ty (r := false) (by decide +kernel)) h
  | str b => first | exact rc_isi rfl (kit_ty (r := true) (by decide +kernel)) h | exact rc_isi rfl (kit_ty (r := false) (by decide +kernel)) h
  | list b => first | exact rc_isi rfl (kit_ty (r := true) (by decide +kernel)) h | exact rc_isi rfl (kit_ty (r := false) (by decide +kernel)) h
  | tuple b => first | exact rc_isi rfl (kit_ty (r := true) (by decide +kernel)) h | exact rc_isi rfl (kit_ty (r := false) (by decide +kernel)) h
  | dict b => first | exact rc_isi rfl (kit_ty (r := true) (by decide +kernel)) h | exact rc_isi rfl (kit_ty (r := false) (by decide +kernel)) h
theorem rc_isBool {d : PyData} (h : k (.d (.bool (isBool d)))) : Rc c (rIsi K) ρ [.d d, .r (.ty "bool")] k := by
  cases d with
  | none => first | exact rc_isi rfl (kit_ty (r := true) (by decide +kernel)) h | exact rc_isi rfl (kit_ty (r := false) (by decide +kernel)) h
  | bool b => first | exact rc_isi rfl (kit_ty (r := true) (by decide +kernel)) h | exact rc_isi rfl (kit_ty (r := false) (by decide +kernel)) h
  | int b => first | exact rc_isi rfl (kit_ty (r := true) (by decide +kernel)) h | exact rc_isi rfl (kit_ty (r := false) (by decide +kernel)) h
  | str b => first | exact rc_isi rfl (kit_ty (r := true) (by decide +kernel)) h | exact rc_isi rfl (kit_ty (r := false) (by decide +kernel)) h
  | list b => first | exact rc_isi rfl (kit_ty (r := true) (by decide +kernel)) h | exact rc_isi rfl (kit_ty (r := false) (by decide +kernel)) h
  | tuple b => first | exact rc_isi rfl (kit_ty (r := true) (by decide +kernel)) h | exact rc_isi rfl (kit_ty (r := false) (by decide +kernel)) h
  | dict b => first | exact rc_isi rfl (kit_ty (r := true) (by decide +kernel)) h | exact rc_isi rfl (kit_ty (r := false) (by decide +kernel)) h
theorem rc_isTup {d : PyData} (h : k (.d (.bool (isTup d)))) : Rc c (rIsi K) ρ [.d d, .r (.ty "tuple")] k := by
  cases d with
  | none => first | exact rc_isi rfl (kit_ty (r := true) (by decide +kernel)) h | exact rc_isi rfl (kit_ty (r := false) (by decide +kernel)) h
  | bool b => first | exact rc_isi rfl (kit_ty (r := true) (by decide +kernel)) h | exact rc_isi rfl (kit_ty (r := false) (by decide +kernel)) h
  | int b => first | exact rc_isi rfl (kit_ty (r := true) (by decide +kernel)) h | exact rc_isi rfl (kit_ty (r := false) (by decide +kernel)) h
  | str b => first | exact rc_isi rfl (kit_ty (r := true) (by decide +kernel)) h | exact rc_isi rfl (kit_ty (r := false) (by decide +kernel)) h
  | list b => first | exact rc_isi rfl (kit_ty (r := true) (by decide +kernel)) h | exact rc_isi rfl (kit_ty (r := false) (by decide +kernel)) h
  | tuple b => first | exact rc_isi rfl (kit_ty (r := true) (by decide +kernel)) h | exact rc_isi rfl (kit_ty (r := false) (by decide +kernel)) h
  | dict b => first | exact rc_isi rfl (kit_ty (r := true) (by decide +kernel)) h | exact rc_isi rfl (kit_ty (r := false) (by decide +kernel)) h
theorem rc_isLst {d : PyData} (h : k (.d (.bool (isLst d)))) : Rc c (rIsi K) ρ [.d d, .r (.ty "list")] k := by
  cases d with
  | none => first | exact rc_isi rfl (kit_ty (r := true) (by decide +kernel)) h | exact rc_isi rfl (kit_ty (r := false) (by decide +kernel)) h
  | bool b => first | exact rc_isi rfl (kit_ty (r := true) (by decide +kernel)) h | exact rc_isi rfl (kit_ty (r := false) (by decide +kernel)) h
  | int b => first | exact rc_isi rfl (kit_ty (r := true) (by decide +kernel)) h | exact rc_isi rfl (kit_ty (r := false) (by decide +kernel)) h
  | str b => first | exact rc_isi rfl (kit_ty (r := true) (by decide +kernel)) h | exact rc_isi rfl (kit_ty (r := false) (by decide +kernel)) h
  | list b => first | exact rc_isi rfl (kit_ty (r := true) (by decide +kernel)) h | exact rc_isi rfl (kit_ty (r := false) (by decide +kernel)) h
  | tuple b => first | exact rc_isi rfl (kit_ty (r := true) (by decide +kernel)) h | exact rc_isi rfl (kit_ty (r := false) (by decide +kernel)) h
  | dict b => first | exact rc_isi rfl (kit_ty (r := true) (by decide +kernel)) h | exact rc_isi rfl (kit_ty (r := false) (by decide +kernel)) h
theorem rc_isStr {d : PyData} (h : k (.d (.bool (isStr d)))) : Rc c (rIsi K) ρ [.d d, .r (.ty "str")] k := by
  cases d with
  | none => first | exact rc_isi rfl (kit_ty (r := true) (by decide +kernel)) h | exact rc_isi rfl (kit_ty (r := false) (by decide +kernel)) h
  | bool b => first | exact rc_isi rfl (kit_ty (r := true) (by decide +kernel)) h | exact rc_isi rfl (kit_ty (r := false) (by decide +kernel)) h
  | int b => first | exact rc_isi rfl (kit_ty (r := true) (by decide +kernel)) h | exact rc_isi rfl (kit_ty (r := false) (by decide +kernel)) h
  | str b => first | exact rc_isi rfl (kit_ty (r := true) (by decide +kernel)) h | exact rc_isi rfl (kit_ty (r := false) (by decide +kernel)) h
  | list b => first | exact rc_isi rfl (kit_ty (r := true) (by decide +kernel)) h | exact rc_isi rfl (kit_ty (r := false) (by decide +kernel)) h
  | tuple b => first | exact rc_isi rfl (kit_ty (r := true) (by decide +kernel)) h | exact rc_isi rfl (kit_ty (r := false) (by decide +kernel)) h
  | dict b => first | exact rc_isi rfl (kit_ty (r := true) (by decide +kernel)) h | exact rc_isi rfl (kit_ty (r := false) (by decide +kernel)) h
theorem we_ty {T : String} (kx : k (.r (.ty T))) : We c (tC (.ty T)) ρ k := we_raw kx
theorem we_ref {a : Addr} (kx : k (.r (.ref a))) : We c (tC (.ref a)) ρ k := we_raw kx
theorem rc_lenTs {ds : List PyData} (h : k (.d (.int (ds.length : Int)))) : Rc c (rLen K) ρ [.d (.tuple ds)] k := rc_lenT h
theorem rc_lenLs {ds : List PyData} (h : k (.d (.int (ds.length : Int)))) : Rc c (rLen K) ρ [.d (.list ds)] k := rc_lenL h
theorem we_lenOwns {i : Nat} {l : Addr} {xs : List PyData} (h : ρ[i]? = some (.own l xs)) (hk : k (.d (.int (xs.length : Int)))) : We c (tCB (rLen K) (tCons (tVar i) tNil)) ρ k := we_lenOwn h hk
theorem rc_abss {i : Int} (h : k (.d (.int (i.natAbs : Int)))) : Rc c rAbs ρ [.d (.int i)] k := rc_abs h
theorem wt_truth {k : Bool → Prop} (h : We c te ρ fun x => ∃ d b, x = .d d ∧ truD d = some b ∧ k b) : Wt c (tTruth K te) ρ k := wt_tru h
theorem wt_truthB {k : Bool → Prop} (h : We c te ρ fun x => ∃ b, x = .d (.bool b) ∧ k b) : Wt c (tTruth K te) ρ k := wt_tru fun σ H Q o q => h σ H Q o fun v x H' o' s d ⟨b, e, kb⟩ => q v x H' o' s d ⟨.bool b, b, e, rfl, kb⟩
/-- wishes grow -/
theorem Ws.imp {t : TS} {E E' : DE} (h : Ws c t ρ E) (h1 : ∀ ρ, E.nx ρ → E'.nx ρ) (h2 : ∀ x, E.rt x → E'.rt x) (h3 : ∀ ρ, E.bk ρ → E'.bk ρ) (h4 : ∀ ρ, E.ct ρ → E'.ct ρ) : Ws c t ρ E' := fun D σ H e o =>
  h D σ H ⟨fun ρ σ H o z => e.nx ρ σ H o (h1 ρ z), fun v x H w b d z => e.rt v x H w b d (h2 x z), fun ρ σ H o z => e.bk ρ σ H o (h3 ρ z), fun ρ σ H o z => e.ct ρ σ H o (h4 ρ z)⟩ o
/-- behind a statement M holds -/
theorem ws_cut {t u : TS} {E : DE} (M : Rho → Prop) (h : Ws c t ρ { E with nx := M }) (k : ∀ ρ', M ρ' → Ws c u ρ' E) : Ws c (tSeq t u) ρ E := ws_seq (h.imp k (fun _ z => z) (fun _ z => z) fun _ z => z)
theorem We.imp {k' : Dv → Prop} (h : We c te ρ k) (i : ∀ x, k x → k' x) : We c te ρ k' := fun σ H Q o q => h σ H Q o fun v x H' o' s d z => q v x H' o' s d (i x z)
end
end Py

set_option Elab.async false
set_option linter.all false
set_option autoImplicit false
set_option maxRecDepth 100000
set_option maxHeartbeats 4000000
namespace Py
open PySem hiding start
open L2
open Evl (Ex ex_rd ex_l ex_t fresh_back)
open Classical
section
variable {K : PySem.W.Frag} {c c' : Ctx K} {ρ : Rho} {E : DE} {ta tb te : TE} {t u tb' : TS} {tc : TT}
/-- a comprehension over a tuple: P tells what is made so far -/
theorem wf_lcT {tl : TE} {g : TG} {tt : TT} {vs : List Nat} {k : List PyData → Prop} (js : List Nat) (hj : ∀ i ∈ js, i ∈ vs) (hw : (vs.all fun v => (ρ[v]?.map isOwn) == some false) = true) (h : We c tl ρ fun x => ∃ xs, x = .d (.tuple xs) ∧ xs.length ≤ 100000 ∧ ∃ P : Nat → List PyData → Prop, P 0 [] ∧
    (∀ c' : Ctx K, Le c c' → ∀ i x acc, xs[i]? = some x → acc.length ≤ i → P i acc → Wg c' g js (.d x) (wipeR ρ vs) fun ρ2 => Wt c' tt ρ2 fun b => (b = true → We c' te ρ2 fun y => ∃ d, y = .d d ∧ P (i + 1) (acc ++ [d])) ∧ (b = false → P (i + 1) acc)) ∧
    ∀ acc, acc.length ≤ xs.length → P xs.length acc → k acc) : Wf c (tLc (iTup K tl) g tt te vs) ρ k := fun σ H Q o q =>
  h σ H _ o fun v x H1 o1 e1 d1 ⟨xs, hx, hz, P, p0, ps, pd⟩ => by
    subst hx
    change Dp _ _ _ _ at d1
    cases d1 with
    | @tup a us _ _ hs ha =>
      refine ⟨a, rfl, ⟨us, ex_t hid_sub hs⟩, fun D hD => ?_⟩
      have nD : ¬ Hid c ρ D := o1.nh hD
      have nDL : ¬ c.L D := fun z => nD (.inl z)
      -- what stood ahead of the list, for all turns
      let B1 : Hp := vis c ρ H1
      have bB : Ex c.B B1 := o1.base
      have B1D : B1 D = none := hid_none hD
      have own0 : ∀ a, Owns ρ a → B1 a = none := fun a z => hid_pos (.inr z)
      let Pv : Nat → Hp → Prop := fun i H' => ∃ (ws : List V) (acc : List PyData), H' D = some (.lst ws) ∧ Ok (c.at B1) ρ σ H' ∧ Stp c ρ H1 H' ∧ DpAll K (hid (· = D) (vis c ρ H')) ws acc ∧ acc.length ≤ i ∧ P i acc
      have hH0 : H D = none := by
        cases z : H D with
        | none => rfl
        | some ob =>
          have := e1.ex D ob (by unfold vis; rw [hid_neg nD]; exact z)
          rw [vis, hid_none hD] at this; cases this
      refine lc_tup (K := K) (a := a) (xs := us) Pv ?_ ?_ ?_ ?_
      · obtain ⟨o2, e2⟩ := o1.new (o := .lst []) hD
        have o2' : Ok (c.at B1) ρ σ (upd H1 D (.lst [])) := ⟨o2.w, e2.ex.trans vis_out, fun l z => ⟨own0 l z, (o2.ob l z).2⟩, o2.sl, o2.one, o2.len⟩
        exact ⟨[], [], upd_same, o2', e2, .nil, Nat.le_refl 0, p0⟩
      · rintro i H' _ ⟨ws, acc, _, o', _, _, _, _⟩
        exact ex_t hid_sub (ex_t o'.b hs)
      · rintro i y H' hy ⟨ws, acc, hD', o', s', dacc, hl, p'⟩
        obtain ⟨d, hd, dd⟩ := dpa_get' ha hy
        have hi : i < 100000 := by
          have := (List.getElem?_eq_some_iff.mp hd).1
          omega
        -- the context of this turn
        let B2 : Hp := hid (· = D) (vis c ρ H')
        have bB2 : Ex B1 B2 := fun b ob z => by
          have nb : b ≠ D := fun q => by rw [q, B1D] at z; cases z
          exact (hid_neg (L := fun x => x = D) nb).trans (s'.ex b ob z)
        let c2 : Ctx K := c.hide D (.lst ws) B2
        have le : Le c c2 := le_hide nDL (bB.trans bB2)
        have visE : ∀ (ρ2 : Rho) (H2 : Hp), Ex (vis c2 ρ2 H2) (hid (· = D) (vis c ρ2 H2)) := fun ρ2 H2 b ob z => by
          obtain ⟨n1, z⟩ := hid_some z
          have nb : b ≠ D := fun q => n1 (.inl (.inr q))
          refine (hid_neg (L := fun x => x = D) nb).trans ((hid_neg fun q => n1 (q.imp .inl id)).trans z)
        have visE' : ∀ (ρ2 : Rho) (H2 : Hp), Ex (hid (· = D) (vis c ρ2 H2)) (vis c2 ρ2 H2) := fun ρ2 H2 b ob z => by
          obtain ⟨nb, z⟩ := hid_some z
          obtain ⟨n1, z⟩ := hid_some z
          refine (hid_neg fun q => ?_).trans z
          rcases q with (q | q) | q
          · exact n1 (.inl q)
          · exact nb q
          · exact n1 (.inr q)
        have oD : ∀ (l : Addr), Owns ρ l → l ≠ D := fun l z q => nD (.inr (q ▸ z))
        have slots : ∀ (j : Nat) (s : Slot), ρ[j]? = some s → ∃ ob, σ[j]? = some ob ∧ SlotOk K (vis c2 ρ H') H' ob s := fun j s hs' => by
          obtain ⟨u1, q1, z1⟩ := (o1.clean s' hD j s hs')
          refine ⟨u1, q1, ?_⟩
          cases s with
          | un => trivial
          | val y => obtain ⟨w, w1, w2⟩ := z1; exact ⟨w, w1, dv_mono (visE' ρ H') w2⟩
          | own l ys => obtain ⟨w, w1, w2, w3⟩ := z1; exact ⟨w, w1, w2, own_mono (visE' ρ H') _ _ w3⟩
        have o2 : Ok c2 ρ σ H' := ⟨⟨o'.w, hD'⟩, (visE' ρ H').trans vis_out, fun l z => ⟨(show hid (· = D) (vis c ρ H') l = none from hid_none' (hid_pos (Or.inr z))), fun q => q.elim (o'.ob l z).2 (oD l z)⟩, slots, o'.one, o'.len⟩
        have o3 : Ok c2 (wipeR ρ vs) (L2.wipe σ vs) H' := o2.wipe vs
        have ev : Ex (vis c2 ρ H') (vis c2 (wipeR ρ vs) H') := hid_less fun b z => z.imp id owns_wipe
        have dd2 : Dp K (vis c2 (wipeR ρ vs) H') y d := dp_mono ((Evl.Ex.trans bB2 (visE' ρ H')).trans ev) _ _ dd
        refine ps c2 le i d acc hd hl p' (L2.wipe σ vs) H' y _ o3 dd2 fun ρ4 σ4 o4 a4 l4 b4 b4' w4 => ⟨wipe_eq hj a4 l4, ?_⟩
        refine w4 σ4 H' _ o4 fun b H5 o5 s5 z5 => ?_
        -- what is the same again once the element is told
        have back : ∀ H6, Ok c2 ρ4 σ4 H6 → Stp c2 ρ4 H' H6 → H6 D = some (.lst ws) ∧ (∀ a, Owns ρ a → H6 a = H' a) ∧ Ex (vis c2 ρ H') (vis c2 ρ H6) := fun H6 o6 s6 => by
          refine ⟨o6.w.2, fun a z => s6.own a (b4 a (owns_wipe' hw z).1), fun b ob z => ?_⟩
          · obtain ⟨n1, z⟩ := hid_some z
            have n2 : ¬ Hid c2 ρ4 b := fun q => n1 (q.imp id fun q => owns_wipe (b4' b q))
            have := s6.ex b ob (by unfold vis; rw [hid_neg n2]; exact z)
            unfold vis
            rw [hid_neg n1]
            exact (hid_some this).2
        cases b with
        | false =>
          rw [if_neg Bool.false_ne_true]
          obtain ⟨hD5, ow5, ex5⟩ := back H5 o5 s5
          have exA : Ex (vis c ρ H') (vis c ρ H5) := fun b ob z => by
            by_cases nb : b = D
            · subst nb
              unfold vis at *
              rw [hid_neg nD] at *
              rw [hD'] at z
              rw [hD5]; exact z
            · have := ex5 b ob (visE' ρ H' b ob ((hid_neg (L := fun x => x = D) nb).trans z))
              exact hid_sub b ob (visE ρ H5 b ob this)
          have stp : Stp c ρ H' H5 := ⟨exA, ow5⟩
          refine ⟨ws, acc, hD5, o'.grow o5.w.1 exA ow5, s'.trans stp, dpa_mono (fun b ob z => visE ρ H5 b ob (ex5 b ob (visE' ρ H' b ob z))) _ _ dacc, Nat.le_succ_of_le hl, z5.2 rfl⟩
        | true =>
          rw [if_pos rfl]
          refine z5.1 rfl σ4 H5 _ o5 fun v6 y6 H6 o6 s6 d6 ⟨d, hy6, p6⟩ => ?_
          subst hy6
          obtain ⟨hD6, ow6, ex6⟩ := back H6 o6 (s5.trans s6)
          refine ⟨ws, hD6, ?_, ?_⟩
          · have w1 := dpa_len dacc
            exact Evl.sz_lt (by omega)
          · -- the list has one more
            have ow7 : ∀ a, Owns ρ a → upd H6 D (.lst (ws ++ [v6])) a = H' a := fun a z => (upd_ne (oD a z)).trans (ow6 a z)
            have e67 : Ex (hid (· = D) (vis c ρ H6)) (hid (· = D) (vis c ρ (upd H6 D (.lst (ws ++ [v6]))))) := fun b ob z => by
              obtain ⟨nb, z⟩ := hid_some z
              obtain ⟨n1, z⟩ := hid_some z
              refine (hid_neg (L := fun x => x = D) nb).trans ((hid_neg n1).trans ((upd_ne nb).trans z))
            have exB : Ex (hid (· = D) (vis c ρ H')) (hid (· = D) (vis c ρ (upd H6 D (.lst (ws ++ [v6]))))) := fun b ob z => e67 b ob (visE ρ H6 b ob (ex6 b ob (visE' ρ H' b ob z)))
            have w7 : c.W (upd H6 D (.lst (ws ++ [v6]))) := c.loc _ _ (fun a z => upd_ne fun q => nDL (q ▸ z)) (tp_lst hD6) o6.w.1
            have o7 : Ok (c.at B1) ρ σ (upd H6 D (.lst (ws ++ [v6]))) := by
              refine ⟨w7, fun b ob z => ?_, o'.ob, fun j s hs' => ?_, o'.one, o'.len⟩
              · have := exB b ob (bB2 b ob z)
                exact vis_out b ob (hid_sub b ob this)
              · obtain ⟨u1, q1, z1⟩ := (o1.clean s' hD j s hs')
                refine ⟨u1, q1, ?_⟩
                cases s with
                | un => trivial
                | val y => obtain ⟨w, w1, w2⟩ := z1; exact ⟨w, w1, dv_mono (exB.trans hid_sub) w2⟩
                | own l ys =>
                  obtain ⟨w, w1, w2, w3⟩ := z1
                  exact ⟨w, w1, (ow7 l ⟨ys, List.mem_of_getElem? hs'⟩).trans w2, own_mono (exB.trans hid_sub) _ _ w3⟩
            refine ⟨ws ++ [v6], acc ++ [d], upd_same, o7, ⟨fun b ob z => ?_, fun a z => (ow7 a z).trans (s'.own a z)⟩, ?_, by simp; omega, p6⟩
            · have nb : b ≠ D := fun q => by subst q; rw [vis, hid_none hD] at z; cases z
              have := exB b ob ((hid_neg (L := fun x => x = D) nb).trans (s'.ex b ob z))
              exact hid_sub b ob this
            · refine dpa_app (dpa_mono exB _ _ dacc) (.cons (dp_mono (fun b ob z => ?_) _ _ d6) .nil)
              -- what the element is made of
              have z0 := visE ρ4 H6 b ob z
              obtain ⟨nb, z1⟩ := hid_some z0
              obtain ⟨n1, z2⟩ := hid_some z1
              refine e67 b ob ((hid_neg (L := fun x => x = D) nb).trans ((hid_neg fun q => ?_).trans z2))
              rcases q with q | q
              · exact n1 (.inl q)
              · exact n1 (.inr (b4 b (owns_wipe' hw q).1))
      · rintro H' ⟨ws, acc, hD', o', s', dacc, hl, p'⟩
        rw [dpa_len ha] at *
        exact q D ws acc H' hH0 hD' (ok_at bB o') (e1.trans s') dacc (pd acc hl p')
theorem ws_forT {tl : TE} {g : TG} (js : List Nat) (h : We c tl ρ fun x => ∃ xs, x = .d (.tuple xs) ∧ ∃ P : Nat → Rho → Prop, P 0 ρ ∧
    (∀ c' : Ctx K, Le c c' → ∀ i x ρ', xs[i]? = some x → P i ρ' → Wg c' g js (.d x) ρ' fun ρ2 => Ws c' tb' ρ2 { E with nx := P (i + 1), ct := P (i + 1), bk := E.nx }) ∧ ∀ ρ', P xs.length ρ' → E.nx ρ') : Ws c (tFor (iTup K tl) g tb') ρ E := fun D σ H e o =>
  h σ H _ o fun v x H1 o1 e1 d1 ⟨xs, hx, P, p0, ps, pd⟩ => by
    subst hx
    change Dp _ _ _ _ at d1
    cases d1 with
    | @tup a vs _ _ hs ha =>
      have b1 : Ex c.B (vis c ρ H1) := o1.base
      have le : Le c (c.at (vis c ρ H1)) := le_at b1
      have sq : ∀ {ρ' σ' H'}, Ok (c.at (vis c ρ H1)) ρ' σ' H' → SqT K H' a vs := fun o' => ex_t hid_sub (ex_t o'.b hs)
      refine ⟨a, rfl, ⟨vs, ex_t hid_sub hs⟩, for_tup (K := K) (a := a) (xs := vs) (fun i σ' H' => ∃ ρ', Ok (c.at (vis c ρ H1)) ρ' σ' H' ∧ P i ρ') ⟨ρ, o1.at', p0⟩ (fun i σ' H' _ ⟨ρ', o', _⟩ => sq o') ?_ ?_⟩
      · rintro i y σ' H' hy ⟨ρ', o', p'⟩
        obtain ⟨d, hd, dd⟩ := dpa_get' ha hy
        refine ps _ le i d ρ' hd p' σ' H' y _ o' (dp_mono o'.base _ _ dd) fun ρ2 σ2 o2 _ _ _ _ w => ?_
        exact w { D with nx := fun σ' H' => ∃ ρ', Ok (c.at (vis c ρ H1)) ρ' σ' H' ∧ P (i + 1) ρ', ct := fun σ' H' => ∃ ρ', Ok (c.at (vis c ρ H1)) ρ' σ' H' ∧ P (i + 1) ρ', bk := D.nx } σ2 H' ((e.at' b1).loop fun ρ σ H o p => ⟨ρ, o, p⟩) o2
      · rintro σ' H' ⟨ρ', o', p'⟩
        rw [dpa_len ha] at p'
        exact e.nx ρ' σ' H' (ok_at b1 o') (pd ρ' p')

/-! ### a list or a tuple that is walked -/
def iOr (w1 w2 : TI) : TI := fun σ H R => w1 σ H R ∨ w2 σ H R
theorem pi_or {X : Cx} {tg l : Expr} {w1 w2 : TI} (h1 : PI X tg l w1) (h2 : PI X tg l w2) : PI X tg l (iOr w1 w2) := ⟨fun pins s σ H R I h => h.elim (h1.run pins s σ H R I) (h2.run pins s σ H R I)⟩
def iSeq (K : PySem.W.Frag) (tl : TE) : TI := iOr (iList K tl) (iTup K tl)
theorem pi_q (K : PySem.W.Frag) {X : Cx} {tg l : Expr} {tl : TE} (hl : PE X l tl) (h : X.K = K := by rfl) : PI X tg l (iSeq K tl) := h ▸ pi_or (pi_list hl) (pi_tup hl)
theorem wf_lcQ1 {tl : TE} {g : TG} {tt : TT} {vs : List Nat} {k : List PyData → Prop} (h : Wf c (tLc (iList K tl) g tt te vs) ρ k) : Wf c (tLc (iSeq K tl) g tt te vs) ρ k := fun σ H Q o q => .inl (h σ H Q o q)
theorem wf_lcQ2 {tl : TE} {g : TG} {tt : TT} {vs : List Nat} {k : List PyData → Prop} (h : Wf c (tLc (iTup K tl) g tt te vs) ρ k) : Wf c (tLc (iSeq K tl) g tt te vs) ρ k := fun σ H Q o q => .inr (h σ H Q o q)
theorem ws_forQ1 {tl : TE} {g : TG} (h : Ws c (tFor (iList K tl) g t) ρ E) : Ws c (tFor (iSeq K tl) g t) ρ E := fun D σ H e o => .inl (h D σ H e o)
theorem ws_forQ2 {tl : TE} {g : TG} (h : Ws c (tFor (iTup K tl) g t) ρ E) : Ws c (tFor (iSeq K tl) g t) ρ E := fun D σ H e o => .inr (h D σ H e o)
/-- a comprehension whose elements are told by a function, without tests -/
theorem wt_yes {k : Bool → Prop} (h : k true) : Wt c tYes ρ k := fun σ H Q o q => q true H o (Stp.refl _) h
theorem map_take {α β : Type} {f : α → β} {xs : List α} {i : Nat} {x : α} (h : xs[i]? = some x) : (xs.take (i + 1)).map f = (xs.take i).map f ++ [f x] := by
  rw [List.take_add_one, h]; simp
/-- over a list, over a tuple: each element told by f -/
theorem wf_lcL {α : Type} {tl : TE} {j : Nat} {vs : List Nat} {k : List PyData → Prop} (e f : α → PyData) (hj : (j ∈ vs)) (hw : (vs.all fun v => (ρ[v]?.map isOwn) == some false) = true) (hu : ((wipeR ρ vs)[j]?.map isOwn) = some false)
    (h : We c tl ρ fun x => ∃ as : List α, x = .d (.list (as.map e)) ∧ as.length ≤ 100000 ∧ (∀ c' : Ctx K, Le c c' → ∀ z, z ∈ as → We c' te ((wipeR ρ vs).set j (.val (.d (e z)))) fun y => y = .d (f z)) ∧ k (as.map f)) :
    Wf c (tLc (iSeq K tl) (gName j) tYes te vs) ρ k := by
  refine wf_lcQ1 (wf_lc [j] (by simpa using hj) hw (h.imp fun x ⟨as, h1, h2, h3, h4⟩ => ⟨_, h1, by simpa using h2, fun i acc => acc = (as.take i).map f, by simp, fun c' le i x acc hx _ hp => ?_, fun acc _ hp => by
    rw [List.length_map, List.take_length] at hp
    rw [hp]; exact h4⟩))
  rw [List.getElem?_map] at hx
  cases z : as[i]? with
  | none => rw [z] at hx; cases hx
  | some a =>
    rw [z] at hx
    cases hx
    refine wg_name hu (wt_yes ⟨fun _ => (h3 c' le a (List.mem_of_getElem? z)).imp fun y hy => ⟨_, hy, ?_⟩, fun q => Bool.noConfusion q⟩)
    subst hp
    exact (map_take z).symm
theorem wf_lcU {α : Type} {tl : TE} {j : Nat} {vs : List Nat} {k : List PyData → Prop} (e f : α → PyData) (hj : (j ∈ vs)) (hw : (vs.all fun v => (ρ[v]?.map isOwn) == some false) = true) (hu : ((wipeR ρ vs)[j]?.map isOwn) = some false)
    (h : We c tl ρ fun x => ∃ as : List α, x = .d (.tuple (as.map e)) ∧ as.length ≤ 100000 ∧ (∀ c' : Ctx K, Le c c' → ∀ z, z ∈ as → We c' te ((wipeR ρ vs).set j (.val (.d (e z)))) fun y => y = .d (f z)) ∧ k (as.map f)) :
    Wf c (tLc (iSeq K tl) (gName j) tYes te vs) ρ k := by
  refine wf_lcQ2 (wf_lcT [j] (by simpa using hj) hw (h.imp fun x ⟨as, h1, h2, h3, h4⟩ => ⟨_, h1, by simpa using h2, fun i acc => acc = (as.take i).map f, by simp, fun c' le i x acc hx _ hp => ?_, fun acc _ hp => by
    rw [List.length_map, List.take_length] at hp
    rw [hp]; exact h4⟩))
  rw [List.getElem?_map] at hx
  cases z : as[i]? with
  | none => rw [z] at hx; cases hx
  | some a =>
    rw [z] at hx
    cases hx
    refine wg_name hu (wt_yes ⟨fun _ => (h3 c' le a (List.mem_of_getElem? z)).imp fun y hy => ⟨_, hy, ?_⟩, fun q => Bool.noConfusion q⟩)
    subst hp
    exact (map_take z).symm

/-! ### try and raise by names -/
def tTryAs (K : PySem.W.Frag) (C : Value) (i : Nat) (tb0 : WX → TS) (ts : Addr → Value → Option Addr → TS) (Wout : WX) : TS := fun D σ H => tb0 (wAs K C i ts Wout D) D σ H
def tTryOnly (K : PySem.W.Frag) (C : Value) (tb0 : WX → TS) (ts : Addr → Value → Option Addr → TS) (Wout : WX) : TS := fun D σ H => tb0 (wOnly K C ts Wout D) D σ H
def tRaise0 (W : WX) (cls : Value) : TS := fun _ σ H => W cls none σ H
theorem ps_tAs (K : PySem.W.Frag) {X : Cx} {x n : Str} {c : Value} {i : Nat} {body suite : List Stmt} {b₀ : Stmt} {np pos pos' : Pos} {tb : WX → TS} {ts : Addr → Value → Option Addr → TS} {Wout : WX} (hs : X.stack = X.env :: X.outer) (hf : X.env.frame = some X.env.locals) (hN : X.N.Nodup) (hi : X.N[i]? = some n) (hln : X.env.kindOf n = some .local) (hc : Names X x c) (tk : Takes X Wout)
    (hb : ∀ (W : WX) (pn : List (Addr × Obj)) (xe : Value → Shared → Prop), Takes (X.tr pn xe) W → PassesOwn (model X.prog X.w) X.A X.env xe → PSs (X.tr pn xe) body (tb W))
    (hsu : ∀ (a : Addr) (oe : Obj) (cls : Value) (d : Option Addr) (pn : List (Addr × Obj)), Zc cls d oe → (∃ vs, oe.data = .fields vs) → PSs (X.suite a ((a, oe) :: pn)) (b₀ :: suite) (ts a cls d)) (h : X.K = K := by rfl) :
    PS X (.Try body [.ExceptHandler (some (.Name x np)) (some n) (b₀ :: suite) pos'] [] [] pos) (tTryAs K c i tb ts Wout) := h ▸ ps_try_as hs hf hN hi hln hc tk hb hsu
theorem ps_tOnly (K : PySem.W.Frag) {X : Cx} {x : Str} {c : Value} {body suite : List Stmt} {b₀ : Stmt} {np pos pos' : Pos} {tb : WX → TS} {ts : Addr → Value → Option Addr → TS} {Wout : WX} (hs : X.stack = X.env :: X.outer) (hf : X.env.frame = some X.env.locals) (hc : Names X x c) (tk : Takes X Wout)
    (hb : ∀ (W : WX) (pn : List (Addr × Obj)) (xe : Value → Shared → Prop), Takes (X.tr pn xe) W → PassesOwn (model X.prog X.w) X.A X.env xe → PSs (X.tr pn xe) body (tb W))
    (hsu : ∀ (a : Addr) (oe : Obj) (cls : Value) (d : Option Addr) (pn : List (Addr × Obj)), Zc cls d oe → (∃ vs, oe.data = .fields vs) → PSs (X.suite a ((a, oe) :: pn)) (b₀ :: suite) (ts a cls d)) (h : X.K = K := by rfl) :
    PS X (.Try body [.ExceptHandler (some (.Name x np)) none (b₀ :: suite) pos'] [] [] pos) (tTryOnly K c tb ts Wout) := h ▸ ps_try_only hs hf hc tk hb hsu
theorem ps_rs {X : Cx} {W : WX} {e : Expr} {cls : Value} {pos : Pos} (hc : X.calm = true) (tk : Takes X W) (he : PMk X e (fun _ H Q => Q cls none H)) : PS X (.Raise (some e) none pos) (tRaise0 W cls) := ps_raise hc tk he
theorem ws_tAs {tb0 : WX → TS} {ts : Addr → Value → Option Addr → TS} {Wout : WX} {xo : Rho → Value → Prop} {C : Value} {i : Nat} (ho : XOk c Wout xo)
    (h : ∀ W, XOk c W (fun ρ' cls => ∃ b, PySem.W.exmOne K cls C = some b ∧
        (b = true → ∀ a, Ws c (ts a cls none) (ρ'.set i (.val (.r (.ref a)))) ⟨fun ρ2 => E.nx (ρ2.set i .un), E.rt, fun ρ2 => E.bk (ρ2.set i .un), fun ρ2 => E.ct (ρ2.set i .un)⟩) ∧ (b = false → xo ρ' cls)) → Ws c (tb0 W) ρ E) :
    Ws c (tTryAs K C i tb0 ts Wout) ρ E := ws_tryAs ho h
theorem ws_tOnly {tb0 : WX → TS} {ts : Addr → Value → Option Addr → TS} {Wout : WX} {xo : Rho → Value → Prop} {C : Value} (ho : XOk c Wout xo)
    (h : ∀ W, XOk c W (fun ρ' cls => ∃ b, PySem.W.exmOne K cls C = some b ∧ (b = true → ∀ a, Ws c (ts a cls none) ρ' E) ∧ (b = false → xo ρ' cls)) → Ws c (tb0 W) ρ E) :
    Ws c (tTryOnly K C tb0 ts Wout) ρ E := ws_tryOnly ho h
theorem ws_mid (M : Rho → Prop) (h : Ws c t ρ { E with nx := M }) (k : ∀ ρ', M ρ' → E.nx ρ') : Ws c t ρ E := h.imp k (fun _ z => z) (fun _ z => z) fun _ z => z
theorem ws_rs {W : WX} {x : Rho → Value → Prop} {cls : Value} (hx : XOk c W x) (h : x ρ cls) : Ws c (tRaise0 W cls) ρ E := fun D σ H e o => hx ρ σ H cls o h
end

theorem pe_toK (K : PySem.W.Frag) {X : Cx} {e : Expr} {T : String} {r : V → List V → Hp → VK → Prop} {to : TE} {t : TA} (h : X.K = K) (hp : PE X e (tBM X.K T r to t)) : PE X e (tBM K T r to t) := h ▸ hp
end Py
namespace Py
open PySem hiding start
open L2
theorem rv_notB {K : PySem.W.Frag} {c : Ctx K} {ρ : Rho} {k : Dv → Prop} {a b : Bool} (h : k (.d (.bool (!decide (a = b))))) : Rv c rNotB ρ (.d (.bool a)) (.d (.bool b)) k := fun σ H v u Q o d1 d2 q =>
  ⟨a, b, dp_bl d1, dp_bl d2, q.val o (x := .d _) (Dp.bl _) h⟩
end Py

set_option Elab.async false
set_option linter.all false
set_option autoImplicit false
set_option maxRecDepth 100000
set_option maxHeartbeats 4000000
namespace Py
open PySem hiding start
open L2
open Evl (Ex ex_rd ex_l ex_t fresh_back)
open Classical
section
variable {K : PySem.W.Frag} {c c' : Ctx K} {ρ : Rho} {E : DE} {ta tb te : TE} {t u tb' : TS} {tc : TT}
/-- a comprehension over range(n): P tells what is made so far -/
theorem wf_lcR {ta : TA} {g : TG} {tt : TT} {vs : List Nat} {k : List PyData → Prop} (js : List Nat) (hj : ∀ i ∈ js, i ∈ vs) (hw : (vs.all fun v => (ρ[v]?.map isOwn) == some false) = true) (h : Wa c ta ρ fun ys => ∃ n : Int, ys = [.d (.int n)] ∧ 0 ≤ n ∧ n ≤ 100000 ∧ ∃ P : Nat → List PyData → Prop, P 0 [] ∧
    (∀ c' : Ctx K, Le c c' → ∀ (i : Nat) (acc : List PyData), i < n.toNat → acc.length ≤ i → P i acc → Wg c' g js (.d (.int i)) (wipeR ρ vs) fun ρ2 => Wt c' tt ρ2 fun b => (b = true → We c' te ρ2 fun y => ∃ d, y = .d d ∧ P (i + 1) (acc ++ [d])) ∧ (b = false → P (i + 1) acc)) ∧
    ∀ acc, acc.length ≤ n.toNat → P n.toNat acc → k acc) : Wf c (tLc (iRng1 ta) g tt te vs) ρ k := fun σ H Q o q =>
  h σ H _ o fun vvs ys H1 o1 e1 d1 ⟨n, hx, hz0, hz, P, p0, ps, pd⟩ => by
    subst hx
    cases d1 with
    | cons dn dnil =>
      cases dnil
      obtain rfl := dp_int dn
      refine ⟨n, rfl, by omega, by omega, fun D hD => ?_⟩
      have nD : ¬ Hid c ρ D := o1.nh hD
      have nDL : ¬ c.L D := fun z => nD (.inl z)
      -- what stood ahead of the list, for all turns
      let B1 : Hp := vis c ρ H1
      have bB : Ex c.B B1 := o1.base
      have B1D : B1 D = none := hid_none hD
      have own0 : ∀ a, Owns ρ a → B1 a = none := fun a z => hid_pos (.inr z)
      let Pv : Nat → Hp → Prop := fun i H' => ∃ (ws : List V) (acc : List PyData), H' D = some (.lst ws) ∧ Ok (c.at B1) ρ σ H' ∧ Stp c ρ H1 H' ∧ DpAll K (hid (· = D) (vis c ρ H')) ws acc ∧ acc.length ≤ i ∧ P i acc
      have hH0 : H D = none := by
        cases z : H D with
        | none => rfl
        | some ob =>
          have := e1.ex D ob (by unfold vis; rw [hid_neg nD]; exact z)
          rw [vis, hid_none hD] at this; cases this
      refine lc_range (lo := 0) (n := n.toNat) Pv ?_ ?_ ?_
      · obtain ⟨o2, e2⟩ := o1.new (o := .lst []) hD
        have o2' : Ok (c.at B1) ρ σ (upd H1 D (.lst [])) := ⟨o2.w, e2.ex.trans vis_out, fun l z => ⟨own0 l z, (o2.ob l z).2⟩, o2.sl, o2.one, o2.len⟩
        exact ⟨[], [], upd_same, o2', e2, .nil, Nat.le_refl 0, p0⟩
      · rintro i H' hin ⟨ws, acc, hD', o', s', dacc, hl, p'⟩
        have hi : i < 100000 := by omega
        rw [Int.zero_add]
        -- the context of this turn
        let B2 : Hp := hid (· = D) (vis c ρ H')
        have bB2 : Ex B1 B2 := fun b ob z => by
          have nb : b ≠ D := fun q => by rw [q, B1D] at z; cases z
          exact (hid_neg (L := fun x => x = D) nb).trans (s'.ex b ob z)
        let c2 : Ctx K := c.hide D (.lst ws) B2
        have le : Le c c2 := le_hide nDL (bB.trans bB2)
        have visE : ∀ (ρ2 : Rho) (H2 : Hp), Ex (vis c2 ρ2 H2) (hid (· = D) (vis c ρ2 H2)) := fun ρ2 H2 b ob z => by
          obtain ⟨n1, z⟩ := hid_some z
          have nb : b ≠ D := fun q => n1 (.inl (.inr q))
          refine (hid_neg (L := fun x => x = D) nb).trans ((hid_neg fun q => n1 (q.imp .inl id)).trans z)
        have visE' : ∀ (ρ2 : Rho) (H2 : Hp), Ex (hid (· = D) (vis c ρ2 H2)) (vis c2 ρ2 H2) := fun ρ2 H2 b ob z => by
          obtain ⟨nb, z⟩ := hid_some z
          obtain ⟨n1, z⟩ := hid_some z
          refine (hid_neg fun q => ?_).trans z
          rcases q with (q | q) | q
          · exact n1 (.inl q)
          · exact nb q
          · exact n1 (.inr q)
        have oD : ∀ (l : Addr), Owns ρ l → l ≠ D := fun l z q => nD (.inr (q ▸ z))
        have slots : ∀ (j : Nat) (s : Slot), ρ[j]? = some s → ∃ ob, σ[j]? = some ob ∧ SlotOk K (vis c2 ρ H') H' ob s := fun j s hs' => by
          obtain ⟨u1, q1, z1⟩ := (o1.clean s' hD j s hs')
          refine ⟨u1, q1, ?_⟩
          cases s with
          | un => trivial
          | val y => obtain ⟨w, w1, w2⟩ := z1; exact ⟨w, w1, dv_mono (visE' ρ H') w2⟩
          | own l ys => obtain ⟨w, w1, w2, w3⟩ := z1; exact ⟨w, w1, w2, own_mono (visE' ρ H') _ _ w3⟩
        have o2 : Ok c2 ρ σ H' := ⟨⟨o'.w, hD'⟩, (visE' ρ H').trans vis_out, fun l z => ⟨(show hid (· = D) (vis c ρ H') l = none from hid_none' (hid_pos (Or.inr z))), fun q => q.elim (o'.ob l z).2 (oD l z)⟩, slots, o'.one, o'.len⟩
        have o3 : Ok c2 (wipeR ρ vs) (L2.wipe σ vs) H' := o2.wipe vs
        have ev : Ex (vis c2 ρ H') (vis c2 (wipeR ρ vs) H') := hid_less fun b z => z.imp id owns_wipe
        have dd2 : Dp K (vis c2 (wipeR ρ vs) H') (V.int (i : Int)) (.int (i : Int)) := Dp.int _
        refine ps c2 le i acc hin hl p' (L2.wipe σ vs) H' _ _ o3 dd2 fun ρ4 σ4 o4 a4 l4 b4 b4' w4 => ⟨wipe_eq hj a4 l4, ?_⟩
        refine w4 σ4 H' _ o4 fun b H5 o5 s5 z5 => ?_
        -- what is the same again once the element is told
        have back : ∀ H6, Ok c2 ρ4 σ4 H6 → Stp c2 ρ4 H' H6 → H6 D = some (.lst ws) ∧ (∀ a, Owns ρ a → H6 a = H' a) ∧ Ex (vis c2 ρ H') (vis c2 ρ H6) := fun H6 o6 s6 => by
          refine ⟨o6.w.2, fun a z => s6.own a (b4 a (owns_wipe' hw z).1), fun b ob z => ?_⟩
          · obtain ⟨n1, z⟩ := hid_some z
            have n2 : ¬ Hid c2 ρ4 b := fun q => n1 (q.imp id fun q => owns_wipe (b4' b q))
            have := s6.ex b ob (by unfold vis; rw [hid_neg n2]; exact z)
            unfold vis
            rw [hid_neg n1]
            exact (hid_some this).2
        cases b with
        | false =>
          rw [if_neg Bool.false_ne_true]
          obtain ⟨hD5, ow5, ex5⟩ := back H5 o5 s5
          have exA : Ex (vis c ρ H') (vis c ρ H5) := fun b ob z => by
            by_cases nb : b = D
            · subst nb
              unfold vis at *
              rw [hid_neg nD] at *
              rw [hD'] at z
              rw [hD5]; exact z
            · have := ex5 b ob (visE' ρ H' b ob ((hid_neg (L := fun x => x = D) nb).trans z))
              exact hid_sub b ob (visE ρ H5 b ob this)
          have stp : Stp c ρ H' H5 := ⟨exA, ow5⟩
          refine ⟨ws, acc, hD5, o'.grow o5.w.1 exA ow5, s'.trans stp, dpa_mono (fun b ob z => visE ρ H5 b ob (ex5 b ob (visE' ρ H' b ob z))) _ _ dacc, Nat.le_succ_of_le hl, z5.2 rfl⟩
        | true =>
          rw [if_pos rfl]
          refine z5.1 rfl σ4 H5 _ o5 fun v6 y6 H6 o6 s6 d6 ⟨d, hy6, p6⟩ => ?_
          subst hy6
          obtain ⟨hD6, ow6, ex6⟩ := back H6 o6 (s5.trans s6)
          refine ⟨ws, hD6, ?_, ?_⟩
          · have w1 := dpa_len dacc
            exact Evl.sz_lt (by omega)
          · -- the list has one more
            have ow7 : ∀ a, Owns ρ a → upd H6 D (.lst (ws ++ [v6])) a = H' a := fun a z => (upd_ne (oD a z)).trans (ow6 a z)
            have e67 : Ex (hid (· = D) (vis c ρ H6)) (hid (· = D) (vis c ρ (upd H6 D (.lst (ws ++ [v6]))))) := fun b ob z => by
              obtain ⟨nb, z⟩ := hid_some z
              obtain ⟨n1, z⟩ := hid_some z
              refine (hid_neg (L := fun x => x = D) nb).trans ((hid_neg n1).trans ((upd_ne nb).trans z))
            have exB : Ex (hid (· = D) (vis c ρ H')) (hid (· = D) (vis c ρ (upd H6 D (.lst (ws ++ [v6]))))) := fun b ob z => e67 b ob (visE ρ H6 b ob (ex6 b ob (visE' ρ H' b ob z)))
            have w7 : c.W (upd H6 D (.lst (ws ++ [v6]))) := c.loc _ _ (fun a z => upd_ne fun q => nDL (q ▸ z)) (tp_lst hD6) o6.w.1
            have o7 : Ok (c.at B1) ρ σ (upd H6 D (.lst (ws ++ [v6]))) := by
              refine ⟨w7, fun b ob z => ?_, o'.ob, fun j s hs' => ?_, o'.one, o'.len⟩
              · have := exB b ob (bB2 b ob z)
                exact vis_out b ob (hid_sub b ob this)
              · obtain ⟨u1, q1, z1⟩ := (o1.clean s' hD j s hs')
                refine ⟨u1, q1, ?_⟩
                cases s with
                | un => trivial
                | val y => obtain ⟨w, w1, w2⟩ := z1; exact ⟨w, w1, dv_mono (exB.trans hid_sub) w2⟩
                | own l ys =>
                  obtain ⟨w, w1, w2, w3⟩ := z1
                  exact ⟨w, w1, (ow7 l ⟨ys, List.mem_of_getElem? hs'⟩).trans w2, own_mono (exB.trans hid_sub) _ _ w3⟩
            refine ⟨ws ++ [v6], acc ++ [d], upd_same, o7, ⟨fun b ob z => ?_, fun a z => (ow7 a z).trans (s'.own a z)⟩, ?_, by simp; omega, p6⟩
            · have nb : b ≠ D := fun q => by subst q; rw [vis, hid_none hD] at z; cases z
              have := exB b ob ((hid_neg (L := fun x => x = D) nb).trans (s'.ex b ob z))
              exact hid_sub b ob this
            · refine dpa_app (dpa_mono exB _ _ dacc) (.cons (dp_mono (fun b ob z => ?_) _ _ d6) .nil)
              -- what the element is made of
              have z0 := visE ρ4 H6 b ob z
              obtain ⟨nb, z1⟩ := hid_some z0
              obtain ⟨n1, z2⟩ := hid_some z1
              refine e67 b ob ((hid_neg (L := fun x => x = D) nb).trans ((hid_neg fun q => ?_).trans z2))
              rcases q with q | q
              · exact n1 (.inl q)
              · exact n1 (.inr (b4 b (owns_wipe' hw q).1))
      · rintro H' ⟨ws, acc, hD', o', s', dacc, hl, p'⟩
        exact q D ws acc H' hH0 hD' (ok_at bB o') (e1.trans s') dacc (pd acc hl p')
end
def rInt1 : List V → Hp → VK → Prop := fun xs H Q => (∃ i, xs = [.int i] ∧ Q (.int i) H) ∨ ∃ k, xs = [.bl k] ∧ Q (.int (if k then 1 else 0)) H
theorem call_int1s {X : Cx} : CallR X (.type "int") rInt1 := call_int1
theorem rc_intB {K : PySem.W.Frag} {c : Ctx K} {ρ : Rho} {k : Dv → Prop} {b : Bool} (h : k (.d (.int (if b then 1 else 0)))) : Rc c rInt1 ρ [.d (.bool b)] k := fun σ H vs Q o d q => by
  cases d with
  | cons d1 d2 =>
    cases d2
    obtain rfl := dp_bl d1
    exact .inr ⟨b, rfl, q.val o (x := .d _) (Dp.int _) h⟩
theorem rc_intI {K : PySem.W.Frag} {c : Ctx K} {ρ : Rho} {k : Dv → Prop} {b : Int} (h : k (.d (.int b))) : Rc c rInt1 ρ [.d (.int b)] k := fun σ H vs Q o d q => by
  cases d with
  | cons d1 d2 =>
    cases d2
    obtain rfl := dp_int d1
    exact .inl ⟨b, rfl, q.val o (x := .d _) (Dp.int _) h⟩
theorem ru_neg {K : PySem.W.Frag} {c : Ctx K} {ρ : Rho} {k : Dv → Prop} {i : Int} (h : k (.d (.int (-i)))) : Ru c (rU fun i => V.int (-i)) ρ (.d (.int i)) k := ru_U (f := fun i => -i) h
end Py

set_option Elab.async false
set_option linter.all false
set_option autoImplicit false
namespace Py
open PySem hiding start
open L2
/-! ### fractions -/
abbrev frD (q : Rat) : PyData := .tuple [.int q.num, .int q.den]
theorem fdiv_num {t b : Int} (hb : b ≠ 0) : t.fdiv (if b < 0 then 0 - (Int.gcd t b : Int) else (Int.gcd t b : Int)) = (Rat.divInt t b).num ∧ b.fdiv (if b < 0 then 0 - (Int.gcd t b : Int) else (Int.gcd t b : Int)) = ((Rat.divInt t b).den : Int) := by
  have hg : (Int.gcd t b : Int) ≠ 0 := by
    intro h
    have : Int.gcd t b = 0 := by exact_mod_cast h
    exact hb (Int.gcd_eq_zero_iff.mp this).2
  obtain ⟨t', ht⟩ := Int.gcd_dvd_left (a := t) (b := b)
  obtain ⟨b', hb'⟩ := Int.gcd_dvd_right (a := t) (b := b)
  have hgp : 0 < (Int.gcd t b : Int) := by omega
  rw [Rat.num_divInt, Rat.den_divInt, if_neg hb, Int.gcd_comm b t]
  generalize hG : (Int.gcd t b : Int) = g at *
  have e1 : b.natAbs / Int.gcd t b = b'.natAbs := by
    have : b.natAbs = Int.gcd t b * b'.natAbs := by
      have h2 : b.natAbs = (g * b').natAbs := by rw [← hb']
      rw [h2, Int.natAbs_mul, ← hG]; rfl
    rw [this]
    exact Nat.mul_div_cancel_left _ (by omega)
  rw [e1]
  have f1 : ∀ z : Int, (g * z).fdiv g = z := fun z => Int.mul_fdiv_cancel_left z hg
  have f2 : ∀ z : Int, (g * z).fdiv (0 - g) = -z := fun z => by
    have : g * z = (0 - g) * (-z) := by grind
    rw [this]
    exact Int.mul_fdiv_cancel_left _ (by omega)
  have f3 : ∀ z : Int, g * z / g = z := fun z => Int.mul_ediv_cancel_left z hg
  by_cases n : b < 0
  · rw [if_pos n, Int.sign_eq_neg_one_of_neg n]
    have nb' : b' < 0 := by
      rw [hb'] at n
      exact Int.neg_of_mul_neg_right n (by omega)
    constructor
    · rw [ht, f2]
      have : -1 * (g * t') = g * (-t') := by grind
      rw [this, f3]
    · have := f2 b'
      rw [← hb'] at this
      rw [this]
      omega
  · rw [if_neg n, Int.sign_eq_one_of_pos (by omega)]
    have nb' : 0 < b' := by
      have : 0 < g * b' := by rw [← hb']; omega
      exact Int.pos_of_mul_pos_right this hgp
    constructor
    · rw [ht, f1, Int.one_mul, f3]
    · have := f1 b'
      rw [← hb'] at this
      rw [this]
      omega
theorem fr_gcd (q : Rat) : Int.gcd q.num (q.den : Int) = 1 := by
  have := q.reduced
  unfold Nat.Coprime at this
  show q.num.natAbs.gcd (q.den : Int).natAbs = 1
  simpa using this
theorem gcd_step {a b : Int} (ha : 0 ≤ a) (hb : 0 < b) : Int.gcd b (a.fmod b) = Int.gcd a b := by
  rw [Int.fmod_eq_emod_of_nonneg a (by omega)]
  obtain ⟨n, rfl⟩ := Int.eq_ofNat_of_zero_le ha
  obtain ⟨m, rfl⟩ := Int.eq_ofNat_of_zero_le (show 0 ≤ b by omega)
  show Nat.gcd m ((n : Int) % (m : Int)).natAbs = Nat.gcd n m
  have : ((n : Int) % (m : Int)).natAbs = n % m := by
    rw [← Int.natCast_emod]; rfl
  rw [this, Nat.gcd_comm m, ← Nat.gcd_rec, Nat.gcd_comm]
theorem gcd_abs (a b : Int) : Int.gcd (a.natAbs : Int) (b.natAbs : Int) = Int.gcd a b := by
  simp [Int.gcd]
end Py
namespace Py
open PySem hiding start
open L2
theorem eqv_int (a b : Int) : PyData.eqv (.int a) (.int b) = decide (a = b) := by
  simp only [PyData.eqv]
  by_cases z : a = b <;> simp [z]
theorem call_draw {K : PySem.W.Frag} {c : Py.Ctx K} {k : Dv → Prop} {x : Value → Prop} {p : Addr} {n : Int} (HI : HandIn c p) (hn : 0 < n) (hn2 : n < 2 ^ 2000) (h : ∀ v : Int, 0 ≤ v → v < n → k (.d (.int v))) : ∀ c', Le c c' → p_draw K c' [.r (.ref p), .d (.int n)] k x := fun c' le => ⟨p, n, rfl, HI.le le, hn, hn2, h⟩
end Py
namespace Py
open PySem hiding start
open L2
/-- data of depth at most n, no texts too long, no dicts -/
def Shp (n : Nat) (d : PyData) : Prop := d.canLay0 = true ∧ d.depth ≤ n
theorem Shp.shaped {n : Nat} {d : PyData} (h : Shp n d) (hn : n ≤ 64) : SeqAt.shaped d = true := by
  unfold SeqAt.shaped
  rw [h.1, Bool.true_and]
  exact decide_eq_true (Nat.le_trans h.2 hn)
theorem shp_int {n : Nat} (i : Int) : Shp n (.int i) := ⟨rfl, Nat.zero_le _⟩
theorem shp_bool {n : Nat} (i : Bool) : Shp n (.bool i) := ⟨rfl, Nat.zero_le _⟩
theorem shp_none {n : Nat} : Shp n .none := ⟨rfl, Nat.zero_le _⟩
theorem shp_all {n : Nat} : ∀ {ds : List PyData}, (∀ d ∈ ds, Shp n d) → PyData.canLayAll0 ds = true ∧ PyData.depthAll ds ≤ n
  | [], _ => ⟨rfl, Nat.zero_le _⟩
  | d :: ds, h => by
    obtain ⟨h1, h2⟩ := shp_all (ds := ds) fun x hx => h x (List.mem_cons_of_mem _ hx)
    have h3 := h d List.mem_cons_self
    simp only [PyData.canLayAll0, PyData.depthAll, h1, h3.1, Bool.and_self, true_and]
    exact Nat.max_le.mpr ⟨h3.2, h2⟩
theorem shp_tup {n : Nat} {ds : List PyData} (h : ∀ d ∈ ds, Shp n d) (hl : ds.length ≤ 100000) : Shp (n + 1) (.tuple ds) := by
  obtain ⟨h1, h2⟩ := shp_all h
  constructor
  · simp [PyData.canLay0, h1]
  · simp only [PyData.depth]; omega
theorem shp_lst {n : Nat} {ds : List PyData} (h : ∀ d ∈ ds, Shp n d) (hl : ds.length ≤ 100000) : Shp (n + 1) (.list ds) := by
  obtain ⟨h1, h2⟩ := shp_all h
  constructor
  · simp [PyData.canLay0, h1]
  · simp only [PyData.depth]; omega
theorem shaped_ints {as : List Int} (h : as.length ≤ 1000) : SeqAt.shaped (.tuple (as.map .int)) = true :=
  (shp_tup (n := 0) (fun d hd => by obtain ⟨a, _, rfl⟩ := List.mem_map.mp hd; exact shp_int a) (by simp; omega)).shaped (by decide)
theorem eqvAll_ints : ∀ as bs : List Int, PyData.eqvAll (as.map .int) (bs.map .int) = decide (as = bs)
  | [], [] => rfl
  | [], _ :: _ => rfl
  | _ :: _, [] => rfl
  | a :: as, b :: bs => by
    show (PyData.eqv (.int a) (.int b) && PyData.eqvAll (as.map .int) (bs.map .int)) = _
    rw [eqv_int, eqvAll_ints as bs]
    by_cases h : a = b <;> by_cases h2 : as = bs <;> simp [h, h2]
theorem eqv_ints (as bs : List Int) : PyData.eqv (.tuple (as.map .int)) (.tuple (bs.map .int)) = decide (as = bs) := eqvAll_ints as bs
end Py
namespace Py
open PySem hiding start
open L2
open Evl (Ex)
open Classical
theorem cut63 (ns : List Int) : cutV (ns.map V.int) none (some 63) = (ns.take 63).map V.int := by
  have e1 : HT.sIx (ns.map V.int).length 0 none = 0 := rfl
  have e2 : HT.sIx (ns.map V.int).length (ns.map V.int).length (some 63) = min 63 (ns.map V.int).length := by
    unfold HT.sIx
    simp
    try omega
  unfold cutV
  rw [e1, e2, List.drop_zero, List.map_take]
  rw [Nat.sub_zero, ← List.take_take, List.take_length]
def spHand (K : PySem.W.Frag) : Sp := fun vs H Q _ => ∃ (a : Addr) (ns : List Int), vs = [.ref a] ∧ SqL K H a (ns.map V.int) ∧ ∀ (p l : Addr) (H' : Hp), H p = none → H l = none → l ≠ p →
  H' p = some (.lst (handL l 0 0 0 20011 40009)) → H' l = some (.lst ((ns.take 63).map V.int)) → Ex H H' → Q (.ref p) H'
def spLaw (K : PySem.W.Frag) : Sp := fun vs H Q _ => ∃ (a : Addr) (ns : List Int), vs = [.ref a] ∧ SqL K H a (ns.map V.int) ∧ ns.length ≤ 63 ∧ ∀ H', Q (.bl true) H'
def lawE : DE := ⟨fun _ => False, fun x => x = .d (.bool true), fun _ => False, fun _ => False⟩
theorem law_enter {K : PySem.W.Frag} {t : TS} {D : Ends} {a p l : Addr} {H1 : Hp} {ns : List Int} {n : Nat} (hp : H1 p = some (.lst (handL l 0 0 0 20011 40009))) (hl : H1 l = some (.lst (ns.map V.int))) (nlp : l ≠ p) (hD : ∀ H', D.rt (.bl true) H')
    (h : ∀ c : Ctx K, HandIn c p → Ws c t (.un :: .val (.r (.ref p)) :: List.replicate n .un) lawE) : t D (some (.ref a) :: some (.ref p) :: List.replicate n none) H1 := by
  let c : Ctx K := {
    B := hid (fun x => x = p ∨ x = l) H1
    L := fun x => x = p ∨ x = l
    W := fun H => HandAt H p l ns
    loc := fun H H' e _ ⟨⟨i, pool, left, a, b, h, r⟩, h2, h3⟩ => ⟨⟨i, pool, left, a, b, (e p (.inl rfl)).trans h, r⟩, (e l (.inr rfl)).trans h2, h3⟩
    dom := fun H ⟨⟨i, pool, left, a, b, h, r⟩, h2, h3⟩ x hx => hx.elim (fun z => by rw [z, h]; exact ⟨_, rfl, rfl⟩) (fun z => by rw [z, h2]; exact ⟨_, rfl, rfl⟩) }
  have w : c.W H1 := ⟨⟨0, 0, 0, 20011, 40009, hp, by decide, by decide, ⟨by decide, by decide⟩, by decide, by decide⟩, hl, nlp⟩
  have HI : HandIn c p := ⟨.inl rfl, l, ns, .inr rfl, fun H h => h, fun H H' _ h _ => h⟩
  have no : ∀ x, ¬ Owns (.un :: .val (.r (.ref p)) :: List.replicate n .un) x := fun x ⟨ys, z⟩ => by
    simp at z
  refine h c HI D _ H1 ⟨fun _ _ _ _ z => z.elim, fun v x H _ _ d e => ?_, fun _ _ _ _ z => z.elim, fun _ _ _ _ z => z.elim⟩ ⟨w, Evl.Ex.refl _, fun x z => (no x z).elim, fun i s hs => ?_, fun i j x ys zs hs _ => (no x ⟨ys, List.mem_of_getElem? hs⟩).elim, by simp⟩
  · obtain rfl : x = .d (.bool true) := e
    obtain rfl := dp_bl d
    exact hD H
  · match i, hs with
    | 0, hs => cases hs; exact ⟨_, rfl, trivial⟩
    | 1, hs => cases hs; exact ⟨_, rfl, _, rfl, rfl⟩
    | i + 2, hs =>
      have hs' : (List.replicate n Slot.un)[i]? = some s := hs
      have e := List.eq_of_mem_replicate (List.mem_of_getElem? hs')
      subst e
      have h' := (List.getElem?_eq_some_iff.mp hs').1
      simp at h'
      refine ⟨none, ?_, trivial⟩
      show (List.replicate n (none : Option V))[i]? = _
      rw [List.getElem?_replicate, if_pos h']
end Py
namespace Py
open PySem hiding start
open L2
theorem law_start {K : PySem.W.Frag} {u : TS} {D : Ends} {a : Addr} {H : Hp} {ns : List Int} {n : Nat} (hS : SqL K H a (ns.map V.int)) (hD : ∀ H', D.rt (.bl true) H')
    (h : ∀ (c : Py.Ctx K) (p : Addr), HandIn c p → Ws c u (.un :: .val (.r (.ref p)) :: List.replicate n .un) lawE) : tSeq (tAsg (tCall (spHand K) [] E0 (tCons (tVar 0) tNil)) (gName 1)) u D (some (.ref a) :: none :: List.replicate n none) H := by
  refine ⟨_, rfl, a, ns, rfl, hS, fun p l H1 np nl nlp hp hl ex => ?_⟩
  exact law_enter (K := K) (t := u) (D := D) (a := a) hp hl nlp hD fun c HI => h c p HI
end Py
namespace Py
open PySem hiding start
open L2
/-- what the head tells of a def -/
def FnFacts (K : PySem.W.Frag) (x : Str) (st : Stmt) : Prop := ∃ (f : Addr) (oc : Value) (od : Option Addr) (sl : Array (Option Value)) (kV dc pm : Value) (an : Option Addr) (cd ct : Value),
  PySem.W.nsIn K mainGlobals x = some (some (.ref f)) ∧ K.lookup f = some ⟨oc, od, .func (PySem.W.fnOf x x (defArgs st) (defBody st) (defScope st) .none kV dc pm an cd ct), sl⟩ ∧ PySem.W.codeIn K cd x = true ∧ PySem.W.keepIn K (.ref f) = true
theorem fnf_mk {K : PySem.W.Frag} {x : Str} {st : Stmt} {f : Addr} {oc : Value} {od : Option Addr} {sl : Array (Option Value)} {kV dc pm : Value} {an : Option Addr} {cd ct : Value}
    (a : PySem.W.nsIn K mainGlobals x = some (some (.ref f))) (l : K.lookup f = some ⟨oc, od, .func (PySem.W.fnOf x x (defArgs st) (defBody st) (defScope st) .none kV dc pm an cd ct), sl⟩) (c : PySem.W.codeIn K cd x = true) (k : PySem.W.keepIn K (.ref f) = true) : FnFacts K x st :=
  ⟨f, oc, od, sl, kV, dc, pm, an, cd, ct, a, l, c, k⟩
theorem FnFacts.raw {K : PySem.W.Frag} {mg : Str → Option Value} {h : Heap} {x : Str} {st : Stmt} (F : FnFacts K x st) (X : K.In h) (G : h.Ns mainGlobals mg) : Raw K mg x st := by
  obtain ⟨f, oc, od, sl, kV, dc, pm, an, cd, ct, a, l, c, k⟩ := F
  exact ⟨f, _, fun_mk l c k, PySem.W.mg_of X G a⟩
end Py

set_option Elab.async false
set_option linter.all false
set_option autoImplicit false
set_option exponentiation.threshold 3000
namespace Py
open PySem hiding start
open L2
/-! ### sizes of fractions -/
theorem gcd_log {t b : Int} {n : Nat} (hb : b ≠ 0) (h : b.natAbs < 2 ^ n) (h0 : 0 < n) (hn : n ≤ 9000) : (Int.gcd t b).log2 < 9000 := by
  have h1 : Int.gcd t b ≤ b.natAbs := Nat.le_of_dvd (by omega) (Nat.gcd_dvd_right _ _)
  exact Nat.lt_of_lt_of_le (PySem.Flt.log2_lt_of (k := n) h0 (Nat.lt_of_le_of_lt h1 h)) hn
theorem frD_ints (q : Rat) : frD q = .tuple ([q.num, (q.den : Int)].map .int) := rfl
structure frB (n : Nat) (q : Rat) : Prop where
  n0 : 0 < n
  nu : q.num.natAbs < 2 ^ n
  de : q.den < 2 ^ n
theorem frB.mono {n m : Nat} {q : Rat} (h : frB n q) (e : n ≤ m) : frB m q :=
  ⟨Nat.lt_of_lt_of_le h.n0 e, Nat.lt_of_lt_of_le h.nu (Nat.pow_le_pow_right (by decide) e), Nat.lt_of_lt_of_le h.de (Nat.pow_le_pow_right (by decide) e)⟩
theorem frB.dei {n : Nat} {q : Rat} (h : frB n q) : ((q.den : Int)).natAbs < 2 ^ n := by simpa using h.de
theorem divInt_num_le {t b : Int} (hb : b ≠ 0) : (Rat.divInt t b).num.natAbs ≤ t.natAbs ∧ (Rat.divInt t b).den ≤ b.natAbs := by
  obtain ⟨e1, e2⟩ := fdiv_num (t := t) hb
  rw [Rat.num_divInt, Rat.den_divInt, if_neg hb]
  constructor
  · have h : (b.sign * t).natAbs ≤ t.natAbs := by
      rw [Int.natAbs_mul]
      have : b.sign.natAbs ≤ 1 := by
        rcases Int.lt_trichotomy b 0 with h | h | h
        · rw [Int.sign_eq_neg_one_of_neg h]; decide
        · exact absurd h hb
        · rw [Int.sign_eq_one_of_pos h]; decide
      calc b.sign.natAbs * t.natAbs ≤ 1 * t.natAbs := Nat.mul_le_mul_right _ this
        _ = t.natAbs := Nat.one_mul _
    refine Nat.le_trans ?_ h
    exact Int.natAbs_ediv_le_natAbs _ _
  · exact Nat.div_le_self _ _
theorem frB_div {t b : Int} {n : Nat} (hb : b ≠ 0) (h0 : 0 < n) (ht : t.natAbs < 2 ^ n) (hb' : b.natAbs < 2 ^ n) : frB n (Rat.divInt t b) := by
  obtain ⟨h1, h2⟩ := divInt_num_le (t := t) hb
  exact ⟨h0, Nat.lt_of_le_of_lt h1 ht, Nat.lt_of_le_of_lt h2 hb'⟩
theorem den_ne (q : Rat) : (q.den : Int) ≠ 0 := by have := q.den_pos; omega
theorem den_pos' (q : Rat) : 0 < (q.den : Int) := by have := q.den_pos; omega
theorem den_mul_ne (a b : Rat) : ((a.den : Int) * (b.den : Int)) ≠ 0 := Int.mul_ne_zero (den_ne a) (den_ne b)
theorem add_eq (a b : Rat) : Rat.divInt (a.num * b.den + b.num * a.den) (a.den * b.den) = a + b := by
  have h := Rat.divInt_add_divInt a.num b.num (den_ne a) (den_ne b)
  rw [Rat.num_divInt_den, Rat.num_divInt_den] at h
  exact h.symm
theorem sub_eq (a b : Rat) : Rat.divInt (a.num * b.den - b.num * a.den) (a.den * b.den) = a - b := by
  have h := Rat.divInt_sub_divInt a.num b.num (den_ne a) (den_ne b)
  rw [Rat.num_divInt_den, Rat.num_divInt_den] at h
  exact h.symm
theorem mul_eq (a b : Rat) : Rat.divInt (a.num * b.num) (a.den * b.den) = a * b := by
  have h := Rat.divInt_mul_divInt a.num b.num (d₁ := a.den) (d₂ := b.den)
  rw [Rat.num_divInt_den, Rat.num_divInt_den] at h
  exact h.symm
theorem two_pow_add_lt {a b : Nat} {n m : Nat} (ha : a < 2 ^ n) (hb : b < 2 ^ m) : a * b < 2 ^ (n + m) := by
  rw [Nat.pow_add]
  exact Nat.mul_lt_mul'' ha hb
/-- sizes of top and bottom -/
structure frS (n d : Nat) (q : Rat) : Prop where
  n0 : 0 < n
  d0 : 0 < d
  nu : q.num.natAbs < 2 ^ n
  de : q.den < 2 ^ d
theorem frS.dei {n d : Nat} {q : Rat} (h : frS n d q) : ((q.den : Int)).natAbs < 2 ^ d := by simpa using h.de
theorem frB.S {n : Nat} {q : Rat} (h : frB n q) : frS n n q := ⟨h.n0, h.n0, h.nu, h.de⟩
theorem frS.mono {n d n' d' : Nat} {q : Rat} (h : frS n d q) (e : n ≤ n') (e' : d ≤ d') : frS n' d' q :=
  ⟨Nat.lt_of_lt_of_le h.n0 e, Nat.lt_of_lt_of_le h.d0 e', Nat.lt_of_lt_of_le h.nu (Nat.pow_le_pow_right (by decide) e), Nat.lt_of_lt_of_le h.de (Nat.pow_le_pow_right (by decide) e')⟩
theorem frS_div {t b : Int} {n d : Nat} (hb : b ≠ 0) (h0 : 0 < n) (d0 : 0 < d) (ht : t.natAbs < 2 ^ n) (hb' : b.natAbs < 2 ^ d) : frS n d (Rat.divInt t b) := by
  obtain ⟨h1, h2⟩ := divInt_num_le (t := t) hb
  exact ⟨h0, d0, Nat.lt_of_le_of_lt h1 ht, Nat.lt_of_le_of_lt h2 hb'⟩
structure frTwo (a b : Rat) : Prop where
  ex : ∃ n d n' d', frS n d a ∧ frS n' d' b ∧ d + d' ≤ 8900 ∧ n ≤ 400000 ∧ n' ≤ 400000
theorem frTwo.of {a b : Rat} {n m : Nat} (h1 : frB n a) (h2 : frB m b) (h : n + m ≤ 8900) : frTwo a b := ⟨n, n, m, m, h1.S, h2.S, h, by omega, by omega⟩
theorem frTwo.symm {a b : Rat} (h : frTwo a b) : frTwo b a := by
  obtain ⟨n, d, n', d', h1, h2, h3, h4, h5⟩ := h.ex
  exact ⟨n', d', n, d, h2, h1, by omega, h5, h4⟩
theorem mulc {i j : Int} {n m : Nat} (hi : i.natAbs < 2 ^ n) (hj : j.natAbs < 2 ^ m) (n0 : 0 < n) (m0 : 0 < m) (h : n + m ≤ 1000000) : CMulW i j := wide_mul hi hj n0 m0 h
section
variable {a b : Rat} (h : frTwo a b)
include h
theorem frTwo.m1 : CMulW a.num b.den := by
  obtain ⟨n, d, n', d', h1, h2, h3, h4, h5⟩ := h.ex
  exact mulc h1.nu h2.dei h1.n0 h2.d0 (by omega)
theorem frTwo.m2 : CMulW b.num a.den := h.symm.m1
theorem frTwo.m3 : CMulW (a.den : Int) b.den := by
  obtain ⟨n, d, n', d', h1, h2, h3, h4, h5⟩ := h.ex
  exact mulc h1.dei h2.dei h1.d0 h2.d0 (by omega)
theorem frTwo.m4 : CMulW a.num b.num := by
  obtain ⟨n, d, n', d', h1, h2, h3, h4, h5⟩ := h.ex
  exact mulc h1.nu h2.nu h1.n0 h2.n0 (by omega)
theorem frTwo.g {t : Int} : (Int.gcd t ((a.den : Int) * b.den)).log2 < 9000 := by
  obtain ⟨n, d, n', d', h1, h2, h3, h4, h5⟩ := h.ex
  refine gcd_log (n := d + d') (den_mul_ne a b) ?_ (by have := h1.d0; omega) (by omega)
  rw [Int.natAbs_mul]
  exact two_pow_add_lt h1.dei h2.dei
end
theorem frS_add {a b : Rat} {n d n' d' : Nat} (ha : frS n d a) (hb : frS n' d' b) : frS (max (n + d') (n' + d) + 1) (d + d') (a + b) := by
  rw [← add_eq]
  refine frS_div (den_mul_ne a b) (by omega) (by have := ha.d0; omega) ?_ ?_
  · have h1 := two_pow_add_lt ha.nu hb.dei
    have h2 := two_pow_add_lt hb.nu ha.dei
    have h1 := Nat.lt_of_lt_of_le h1 (Nat.pow_le_pow_right (n := 2) (by decide) (Nat.le_max_left (n + d') (n' + d)))
    have h2 := Nat.lt_of_lt_of_le h2 (Nat.pow_le_pow_right (n := 2) (by decide) (Nat.le_max_right (n + d') (n' + d)))
    rw [← Int.natAbs_mul] at h1 h2
    have : 2 ^ (max (n + d') (n' + d) + 1) = 2 * 2 ^ (max (n + d') (n' + d)) := by rw [Nat.pow_succ, Nat.mul_comm]
    rw [this]
    exact Nat.lt_of_le_of_lt (Int.natAbs_add_le _ _) (by omega)
  · rw [Int.natAbs_mul]
    exact two_pow_add_lt ha.dei hb.dei
theorem frB_add {a b : Rat} {n m : Nat} (ha : frB n a) (hb : frB m b) : frB (n + m + 1) (a + b) := by
  rw [← add_eq]
  refine frB_div (den_mul_ne a b) (by omega) ?_ ?_
  · have h1 := two_pow_add_lt ha.nu hb.dei
    have h2 := two_pow_add_lt hb.nu ha.dei
    rw [Nat.add_comm m n] at h2
    rw [← Int.natAbs_mul] at h1 h2
    have : 2 ^ (n + m + 1) = 2 * 2 ^ (n + m) := by rw [Nat.pow_succ, Nat.mul_comm]
    rw [this]
    exact Nat.lt_of_le_of_lt (Int.natAbs_add_le _ _) (by omega)
  · rw [Int.natAbs_mul]
    exact Nat.lt_of_lt_of_le (two_pow_add_lt ha.dei hb.dei) (Nat.pow_le_pow_right (by decide) (by omega))
theorem frB_sub {a b : Rat} {n m : Nat} (ha : frB n a) (hb : frB m b) : frB (n + m + 1) (a - b) := by
  rw [← sub_eq]
  refine frB_div (den_mul_ne a b) (by omega) ?_ ?_
  · have h1 := two_pow_add_lt ha.nu hb.dei
    have h2 := two_pow_add_lt hb.nu ha.dei
    rw [Nat.add_comm m n] at h2
    rw [← Int.natAbs_mul] at h1 h2
    have : 2 ^ (n + m + 1) = 2 * 2 ^ (n + m) := by rw [Nat.pow_succ, Nat.mul_comm]
    rw [this]
    exact Nat.lt_of_le_of_lt (Int.natAbs_sub_le _ _) (by omega)
  · rw [Int.natAbs_mul]
    exact Nat.lt_of_lt_of_le (two_pow_add_lt ha.dei hb.dei) (Nat.pow_le_pow_right (by decide) (by omega))
theorem frB_mul {a b : Rat} {n m : Nat} (ha : frB n a) (hb : frB m b) : frB (n + m) (a * b) := by
  rw [← mul_eq]
  refine frB_div (den_mul_ne a b) (by have := ha.n0; omega) ?_ ?_
  · rw [Int.natAbs_mul]; exact two_pow_add_lt ha.nu hb.nu
  · rw [Int.natAbs_mul]; exact two_pow_add_lt ha.dei hb.dei
theorem below_eq (a b : Rat) : decide (a.num * b.den < b.num * a.den) = decide (a < b) := by
  exact decide_eq_decide.mpr (Rat.lt_iff a b).symm
def sumQ (qs : List Rat) : Rat := qs.foldl (· + ·) 0
theorem sumQ_take {qs : List Rat} {i : Nat} {q : Rat} (h : qs[i]? = some q) : sumQ (qs.take (i + 1)) = sumQ (qs.take i) + q := by
  unfold sumQ
  rw [List.take_add_one, h]
  simp [List.foldl_append]
end Py
namespace Py
open PySem hiding start
open L2
theorem shp_fr {n : Nat} (q : Rat) : Shp (n + 1) (frD q) := shp_tup (fun d hd => by
  simp at hd
  rcases hd with rfl | rfl <;> exact shp_int _) (Nat.le_of_ble_eq_true rfl)
theorem shp_mapL {α : Type} {n : Nat} {l : List α} {f : α → PyData} (h : ∀ a ∈ l, Shp n (f a)) (hl : l.length ≤ 100000) : Shp (n + 1) (.list (l.map f)) := shp_lst (fun d hd => by
  obtain ⟨a, ha, rfl⟩ := List.mem_map.mp hd
  exact h a ha) (by simpa using hl)
theorem atI_any {α : Type} {l : List α} {v : Int} (h0 : -(l.length : Int) ≤ v) (h1 : v < (l.length : Int)) : ∃ x, atI l v = some x ∧ x ∈ l := by
  by_cases hv : 0 ≤ v
  · have hl : v.toNat < l.length := by omega
    refine ⟨l[v.toNat], ?_, List.getElem_mem hl⟩
    unfold atI ixN
    rw [if_pos hv, if_pos h1]
    exact List.getElem?_eq_getElem hl
  · have hl : (v + l.length).toNat < l.length := by omega
    refine ⟨l[(v + l.length).toNat], ?_, List.getElem_mem hl⟩
    unfold atI ixN
    rw [if_neg hv, if_pos h0]
    exact List.getElem?_eq_getElem hl
section
variable {K : PySem.W.Frag} {c : Py.Ctx K} {ρ : Rho} {k : Dv → Prop}
theorem rv_neSame {d : PyData} (hd : SeqAt.shaped d = true) (h : k (.d (.bool false))) : Rv c (rNeD K) ρ (.d d) (.d d) k := rv_neD hd hd (by rw [SeqAt.eqv_refl d (SeqAt.canLay_of_shaped hd)]; exact h)
theorem rv_eqSame {d : PyData} (hd : SeqAt.shaped d = true) (h : k (.d (.bool true))) : Rv c (rEqD K) ρ (.d d) (.d d) k := rv_eqD hd hd (by rw [SeqAt.eqv_refl d (SeqAt.canLay_of_shaped hd)]; exact h)
theorem rc_listOf {ds : List PyData} (h : k (.d (.list ds))) : Rc c (rListOf K) ρ [.d (.list ds)] k := fun σ H vs Q o d q => by
  cases d with
  | cons d1 d2 =>
    cases d2
    change Dp _ _ _ _ at d1
    cases d1 with
    | @lst a xs _ _ hs ha =>
      refine ⟨_, _, rfl, .inl (Evl.ex_l hid_sub hs), fun p hp => ?_⟩
      obtain ⟨o2, e2⟩ := o.new (o := .lst xs) hp
      exact q _ (.d (.list ds)) _ o2 e2 (dp_lst (vis_upd (o.nh hp)) (dpa_mono e2.ex _ _ ha)) h
end
end Py

set_option Elab.async false
set_option linter.all false
set_option autoImplicit false
set_option exponentiation.threshold 3000
namespace Py
open PySem hiding start
open L2
/-! ### points: three numbers in lowest terms -/
@[ext] structure Pt where
  a : Int
  b : Int
  c : Int
  pos : 0 < c
  low : Int.gcd (Int.gcd a b) c = 1
deriving DecidableEq
abbrev ptD (p : Pt) : PyData := .tuple [.int p.a, .int p.b, .int p.c]
def Pt.x (p : Pt) : Rat := Rat.divInt p.a p.c
def Pt.y (p : Pt) : Rat := Rat.divInt p.b p.c
theorem Pt.c_ne (p : Pt) : p.c ≠ 0 := by have := p.pos; omega
theorem gcd3_mul (k a b c : Int) : Int.gcd (Int.gcd (k * a) (k * b)) (k * c) = k.natAbs * Int.gcd (Int.gcd a b) c := by
  rw [Int.gcd_mul_left]
  show Nat.gcd (((k.natAbs * Int.gcd a b : Nat) : Int)).natAbs (k * c).natAbs = _
  rw [Int.natAbs_mul, Int.natAbs_natCast, Nat.gcd_mul_left]
  rfl
theorem dvd3 {k a b c : Int} {d : Int} (h1 : d ∣ k * a) (h2 : d ∣ k * b) (h3 : d ∣ k * c) (h : Int.gcd (Int.gcd a b) c = 1) : d ∣ k := by
  have e := gcd3_mul k a b c
  rw [h, Nat.mul_one] at e
  have z : d ∣ ((Int.gcd (Int.gcd (k * a) (k * b)) (k * c) : Nat) : Int) := Int.dvd_coe_gcd (Int.dvd_coe_gcd h1 h2) h3
  rw [e] at z
  exact Int.dvd_natAbs.mp z
theorem Pt.same {p q : Pt} (h1 : p.a * q.c = q.a * p.c) (h2 : p.b * q.c = q.b * p.c) : p = q := by
  have d1 : p.c ∣ q.c := dvd3 (k := q.c) (a := p.a) (b := p.b) (c := p.c) ⟨q.a, by rw [Int.mul_comm, h1, Int.mul_comm]⟩ ⟨q.b, by rw [Int.mul_comm, h2, Int.mul_comm]⟩ ⟨q.c, Int.mul_comm _ _⟩ p.low
  have d2 : q.c ∣ p.c := dvd3 (k := p.c) (a := q.a) (b := q.b) (c := q.c) ⟨p.a, by rw [Int.mul_comm, ← h1, Int.mul_comm]⟩ ⟨p.b, by rw [Int.mul_comm, ← h2, Int.mul_comm]⟩ ⟨p.c, Int.mul_comm _ _⟩ q.low
  have ec : p.c = q.c := by
    have l1 := Int.le_of_dvd q.pos d1
    have l2 := Int.le_of_dvd p.pos d2
    omega
  have hc := q.c_ne
  rw [ec] at h1 h2
  exact Pt.ext (Int.eq_of_mul_eq_mul_right hc h1) (Int.eq_of_mul_eq_mul_right hc h2) ec
theorem Pt.eq_of {p q : Pt} (h1 : p.x = q.x) (h2 : p.y = q.y) : p = q :=
  Pt.same ((Rat.divInt_eq_divInt_iff p.c_ne q.c_ne).mp h1) ((Rat.divInt_eq_divInt_iff p.c_ne q.c_ne).mp h2)
/-- what three numbers are divided by -/
def by3 (a b c : Int) : Int := if c < 0 then 0 - (Int.gcd (Int.gcd a b) c : Int) else (Int.gcd (Int.gcd a b) c : Int)
theorem by3_facts {a b c : Int} (hc : c ≠ 0) : ∃ a' b' c' : Int, a = by3 a b c * a' ∧ b = by3 a b c * b' ∧ c = by3 a b c * c' ∧ 0 < c' ∧ Int.gcd (Int.gcd a' b') c' = 1 ∧ by3 a b c ≠ 0 ∧ (by3 a b c).natAbs = Int.gcd (Int.gcd a b) c := by
  have hg : (Int.gcd (Int.gcd a b) c) ≠ 0 := fun h => hc (Int.gcd_eq_zero_iff.mp h).2
  have hn : (by3 a b c).natAbs = Int.gcd (Int.gcd a b) c := by
    unfold by3; split <;> omega
  have h0 : by3 a b c ≠ 0 := by intro h; rw [h] at hn; simp at hn; exact hg hn.symm
  have dg : ∀ z : Int, ((Int.gcd (Int.gcd a b) c : Nat) : Int) ∣ z → by3 a b c ∣ z := fun z hz => by
    rw [← hn] at hz
    exact Int.natAbs_dvd.mp hz
  have d0 : ((Int.gcd (Int.gcd a b) c : Nat) : Int) ∣ (Int.gcd a b : Int) := Int.gcd_dvd_left ..
  obtain ⟨a', ha⟩ := dg a (Int.dvd_trans d0 (Int.gcd_dvd_left ..))
  obtain ⟨b', hb⟩ := dg b (Int.dvd_trans d0 (Int.gcd_dvd_right ..))
  obtain ⟨c', hc'⟩ := dg c (Int.gcd_dvd_right ..)
  refine ⟨a', b', c', ha, hb, hc', ?_, ?_, h0, hn⟩
  · by_cases n : c < 0
    · have s : by3 a b c < 0 := by unfold by3; rw [if_pos n]; omega
      rcases Int.lt_trichotomy c' 0 with h | h | h
      · have : 0 < by3 a b c * c' := Int.mul_pos_of_neg_of_neg s h
        omega
      · rw [h, Int.mul_zero] at hc'; omega
      · exact h
    · have s : 0 < by3 a b c := by unfold by3; rw [if_neg n]; omega
      have : 0 < by3 a b c * c' := by rw [← hc']; omega
      exact Int.pos_of_mul_pos_right this s
  · have e := gcd3_mul (by3 a b c) a' b' c'
    rw [← ha, ← hb, ← hc', hn] at e
    have : Int.gcd (Int.gcd a b) c * Int.gcd (Int.gcd a' b') c' = Int.gcd (Int.gcd a b) c * 1 := by omega
    exact Nat.eq_of_mul_eq_mul_left (by omega) this
/-- the point of three numbers -/
def ptBy (a b c : Int) (hc : c ≠ 0) : Pt :=
  ⟨a.fdiv (by3 a b c), b.fdiv (by3 a b c), c.fdiv (by3 a b c), by
    obtain ⟨a', b', c', h1, h2, h3, h4, h5, h6, _⟩ := by3_facts (a := a) (b := b) hc
    rw [h3, ← h3, show c.fdiv (by3 a b c) = c' from by conv => lhs; rw [show c.fdiv (by3 a b c) = (by3 a b c * c').fdiv (by3 a b c) from by rw [← h3]]; rw [Int.mul_fdiv_cancel_left _ h6]]
    exact h4, by
    obtain ⟨a', b', c', h1, h2, h3, h4, h5, h6, _⟩ := by3_facts (a := a) (b := b) hc
    have e : ∀ z z' : Int, z = by3 a b c * z' → z.fdiv (by3 a b c) = z' := fun z z' h => by
      conv => lhs; rw [h]
      exact Int.mul_fdiv_cancel_left _ h6
    rw [e a a' h1, e b b' h2, e c c' h3]
    exact h5⟩
theorem ptBy_x {a b c : Int} (hc : c ≠ 0) : (ptBy a b c hc).x = Rat.divInt a c ∧ (ptBy a b c hc).y = Rat.divInt b c := by
  obtain ⟨a', b', c', h1, h2, h3, h4, h5, h6, _⟩ := by3_facts (a := a) (b := b) hc
  show Rat.divInt (a.fdiv (by3 a b c)) (c.fdiv (by3 a b c)) = _ ∧ Rat.divInt (b.fdiv (by3 a b c)) (c.fdiv (by3 a b c)) = _
  generalize by3 a b c = s at *
  subst h1 h2 h3
  rw [Int.mul_fdiv_cancel_left _ h6, Int.mul_fdiv_cancel_left _ h6, Int.mul_fdiv_cancel_left _ h6, Rat.divInt_mul_left h6, Rat.divInt_mul_left h6]
  exact ⟨rfl, rfl⟩
/-- the point of two fractions -/
def ptOf (x y : Rat) : Pt := ptBy (x.num * y.den) (y.num * x.den) (x.den * y.den) (den_mul_ne x y)
theorem ptOf_x (x y : Rat) : (ptOf x y).x = x ∧ (ptOf x y).y = y := by
  obtain ⟨h1, h2⟩ := ptBy_x (a := x.num * y.den) (b := y.num * x.den) (den_mul_ne x y)
  refine ⟨h1.trans ?_, h2.trans ?_⟩
  · rw [Rat.divInt_mul_right (den_ne y), Rat.num_divInt_den]
  · rw [Int.mul_comm (x.den : Int), Rat.divInt_mul_right (den_ne x), Rat.num_divInt_den]
theorem ptOf_xy (p : Pt) : ptOf p.x p.y = p := Pt.eq_of (ptOf_x _ _).1 (ptOf_x _ _).2
theorem ptBy_eq {a b c : Int} (hc : c ≠ 0) {p : Pt} (h1 : Rat.divInt a c = p.x) (h2 : Rat.divInt b c = p.y) : ptBy a b c hc = p := Pt.eq_of ((ptBy_x hc).1.trans h1) ((ptBy_x hc).2.trans h2)
/-- sizes of points -/
structure ptB (n : Nat) (p : Pt) : Prop where
  n0 : 0 < n
  a : p.a.natAbs < 2 ^ n
  b : p.b.natAbs < 2 ^ n
  c : p.c.natAbs < 2 ^ n
theorem ptB.mono {n m : Nat} {p : Pt} (h : ptB n p) (e : n ≤ m) : ptB m p :=
  ⟨Nat.lt_of_lt_of_le h.n0 e, Nat.lt_of_lt_of_le h.a (Nat.pow_le_pow_right (by decide) e), Nat.lt_of_lt_of_le h.b (Nat.pow_le_pow_right (by decide) e), Nat.lt_of_lt_of_le h.c (Nat.pow_le_pow_right (by decide) e)⟩
theorem fdiv_le {a b c z z' : Int} (h : z = by3 a b c * z') (h6 : by3 a b c ≠ 0) : (z.fdiv (by3 a b c)).natAbs ≤ z.natAbs := by
  have e : z.fdiv (by3 a b c) = z' := by
    conv => lhs; rw [h]
    exact Int.mul_fdiv_cancel_left _ h6
  rw [e]
  conv => rhs; rw [h]
  rw [Int.natAbs_mul]
  have : 0 < (by3 a b c).natAbs := by omega
  exact Nat.le_mul_of_pos_left _ this
theorem ptB_by {a b c : Int} {n : Nat} (hc : c ≠ 0) (h0 : 0 < n) (ha : a.natAbs < 2 ^ n) (hb : b.natAbs < 2 ^ n) (hc' : c.natAbs < 2 ^ n) : ptB n (ptBy a b c hc) := by
  obtain ⟨a', b', c', h1, h2, h3, h4, h5, h6, _⟩ := by3_facts (a := a) (b := b) hc
  exact ⟨h0, Nat.lt_of_le_of_lt (fdiv_le h1 h6) ha, Nat.lt_of_le_of_lt (fdiv_le h2 h6) hb, Nat.lt_of_le_of_lt (fdiv_le h3 h6) hc'⟩
theorem by3_div {a b c : Int} {n : Nat} (hc : c ≠ 0) (h : c.natAbs < 2 ^ n) (h0 : 0 < n) (hn : n ≤ 9000) (z : Int) : CDivX z (by3 a b c) := by
  obtain ⟨_, _, _, _, _, _, _, _, h6, h7⟩ := by3_facts (a := a) (b := b) hc
  refine ⟨h6, ?_⟩
  rw [h7]
  exact gcd_log hc h h0 hn
theorem frB_x {p : Pt} {n : Nat} (h : ptB n p) : frB n p.x := frB_div p.c_ne h.n0 h.a h.c
theorem frB_y {p : Pt} {n : Nat} (h : ptB n p) : frB n p.y := frB_div p.c_ne h.n0 h.b h.c
theorem ptB_of {x y : Rat} {n m : Nat} (hx : frB n x) (hy : frB m y) : ptB (n + m) (ptOf x y) := by
  refine ptB_by _ (by have := hx.n0; omega) ?_ ?_ ?_
  · rw [Int.natAbs_mul]; exact two_pow_add_lt hx.nu hy.dei
  · rw [Int.natAbs_mul, Nat.add_comm]; exact two_pow_add_lt hy.nu hx.dei
  · rw [Int.natAbs_mul]; exact two_pow_add_lt hx.dei hy.dei
theorem shp_pt {n : Nat} (p : Pt) : Shp (n + 1) (ptD p) := shp_tup (fun d hd => by
  simp at hd
  rcases hd with rfl | rfl | rfl <;> exact shp_int _) (Nat.le_of_ble_eq_true rfl)
theorem eqv_pt (p q : Pt) : PyData.eqv (ptD p) (ptD q) = decide (p = q) := by
  have := eqv_ints [p.a, p.b, p.c] [q.a, q.b, q.c]
  refine Eq.trans this (decide_eq_decide.mpr ⟨fun h => ?_, fun h => by rw [h]⟩)
  simp at h
  exact Pt.ext h.1 h.2.1 h.2.2
theorem eqv_fr (p q : Rat) : PyData.eqv (frD p) (frD q) = decide (p = q) := by
  have := eqv_ints [p.num, p.den] [q.num, q.den]
  refine Eq.trans this (decide_eq_decide.mpr ⟨fun h => ?_, fun h => by rw [h]⟩)
  simp at h
  exact Rat.ext h.1 (by exact_mod_cast h.2)
end Py
namespace Py
open PySem hiding start
open L2
theorem ptBy_neg {a b c : Int} (hc : c ≠ 0) (hc' : 0 - c ≠ 0) : ptBy (0 - a) (0 - b) (0 - c) hc' = ptBy a b c hc := by
  have e : ∀ z : Int, Rat.divInt (0 - z) (0 - c) = Rat.divInt z c := fun z => by
    rw [Int.zero_sub, Int.zero_sub, Rat.neg_divInt_neg]
  refine ptBy_eq hc' ?_ ?_
  · rw [e]; exact (ptBy_x hc).1.symm
  · rw [e]; exact (ptBy_x hc).2.symm
theorem ptD_ints (p : Pt) : ptD p = .tuple ([p.a, p.b, p.c].map .int) := rfl
theorem gcd_rot (a b c : Int) : Int.gcd (Int.gcd c a) b = Int.gcd (Int.gcd a b) c := by
  rw [Int.gcd_assoc, Int.gcd_comm]
theorem by3_pos {a b c : Int} (hc : 0 < c) : by3 a b c = (Int.gcd (Int.gcd a b) c : Int) := if_neg (by omega)
end Py

set_option Elab.async false
set_option linter.all false
set_option autoImplicit false
set_option exponentiation.threshold 3000
namespace Py
open PySem hiding start
open L2
/-! ### turns -/
theorem divInt_q (a c : Int) : Rat.divInt a c = (a : Rat) / (c : Rat) := Rat.divInt_eq_div a c
theorem Pt.cq (p : Pt) : (p.c : Rat) ≠ 0 := by
  have := p.c_ne
  exact_mod_cast this
theorem Pt.cqp (p : Pt) : (0 : Rat) < (p.c : Rat) := by
  have := p.pos
  exact_mod_cast this
theorem Pt.xc (p : Pt) : (p.a : Rat) = p.x * p.c := by
  have h := p.cq
  unfold Pt.x
  rw [divInt_q]
  grind
theorem Pt.yc (p : Pt) : (p.b : Rat) = p.y * p.c := by
  have h := p.cq
  unfold Pt.y
  rw [divInt_q]
  grind
def crI (p q r : Pt) : Int := (q.a * p.c - p.a * q.c) * (r.b * p.c - p.b * r.c) - (q.b * p.c - p.b * q.c) * (r.a * p.c - p.a * r.c)
def crQ (p q r : Pt) : Rat := (q.x - p.x) * (r.y - p.y) - (q.y - p.y) * (r.x - p.x)
/-- the sign of a fraction -/
def sg (q : Rat) : Int := if 0 < q then 1 else if q < 0 then -1 else 0
def tn (p q r : Pt) : Int := sg (crQ p q r)
theorem cr_eq (p q r : Pt) : ((crI p q r : Int) : Rat) = crQ p q r * (p.c * p.c * q.c * r.c) := by
  unfold crI crQ
  have h1 := p.xc
  have h2 := p.yc
  have h3 := q.xc
  have h4 := q.yc
  have h5 := r.xc
  have h6 := r.yc
  simp only [Rat.intCast_sub, Rat.intCast_mul]
  rw [h1, h2, h3, h4, h5, h6]
  grind
theorem sg_neg (q : Rat) : sg (-q) = - sg q := by
  unfold sg
  by_cases h1 : 0 < q
  · rw [if_neg (by grind), if_pos (by grind), if_pos h1]
  · by_cases h2 : q < 0
    · rw [if_pos (by grind), if_neg h1, if_pos h2]; rfl
    · rw [if_neg (by grind), if_neg (by grind), if_neg h1, if_neg h2]; rfl
theorem sg_int {i : Int} {q d : Rat} (hd : 0 < d) (h : (i : Rat) = q * d) : sg q = (if i > 0 then 1 else if i < 0 then -1 else 0) := by
  unfold sg
  have e1 : 0 < q ↔ 0 < i := by
    have : (0 : Rat) < (i : Rat) ↔ 0 < i := by exact_mod_cast Iff.rfl
    rw [← this, h]
    constructor
    · intro z; exact Rat.mul_pos z hd
    · intro z
      by_cases q0 : 0 < q
      · exact q0
      · exfalso
        have : q ≤ 0 := by grind
        have := Rat.mul_le_mul_of_nonneg_right this (Rat.le_of_lt hd)
        grind
  have e2 : q < 0 ↔ i < 0 := by
    have : (i : Rat) < (0 : Rat) ↔ i < 0 := by exact_mod_cast Iff.rfl
    rw [← this, h]
    constructor
    · intro z
      have z' : 0 < -q := by grind
      have := Rat.mul_pos z' hd
      grind
    · intro z
      by_cases q0 : q < 0
      · exact q0
      · exfalso
        have : 0 ≤ q := by grind
        have := Rat.mul_le_mul_of_nonneg_right this (Rat.le_of_lt hd)
        grind
  by_cases h1 : 0 < i
  · rw [if_pos (e1.mpr h1), if_pos h1]
  · rw [if_neg (fun z => h1 (e1.mp z)), if_neg h1]
    by_cases h2 : i < 0
    · rw [if_pos (e2.mpr h2), if_pos h2]
    · rw [if_neg (fun z => h2 (e2.mp z)), if_neg h2]
theorem tn_int (p q r : Pt) : tn p q r = (if crI p q r > 0 then 1 else if crI p q r < 0 then -1 else 0) :=
  sg_int (Rat.mul_pos (Rat.mul_pos (Rat.mul_pos p.cqp p.cqp) q.cqp) r.cqp) (cr_eq p q r)
theorem tn_rot (p q r : Pt) : tn q r p = tn p q r := by
  unfold tn crQ
  congr 1
  grind
theorem tn_flip (p q r : Pt) : tn q p r = - tn p q r := by
  unfold tn
  rw [← sg_neg]
  congr 1
  unfold crQ
  grind
end Py
namespace Py
open PySem hiding start
open L2
/-! ### sizes of what turns reckon -/
theorem nsub {a b : Int} {n : Nat} (ha : a.natAbs < 2 ^ n) (hb : b.natAbs < 2 ^ n) : (a - b).natAbs < 2 ^ (n + 1) := by
  have : 2 ^ (n + 1) = 2 * 2 ^ n := by rw [Nat.pow_succ, Nat.mul_comm]
  omega
theorem nadd {a b : Int} {n : Nat} (ha : a.natAbs < 2 ^ n) (hb : b.natAbs < 2 ^ n) : (a + b).natAbs < 2 ^ (n + 1) := by
  have : 2 ^ (n + 1) = 2 * 2 ^ n := by rw [Nat.pow_succ, Nat.mul_comm]
  omega
theorem nmul {a b : Int} {n m : Nat} (ha : a.natAbs < 2 ^ n) (hb : b.natAbs < 2 ^ m) : (a * b).natAbs < 2 ^ (n + m) := by
  rw [Int.natAbs_mul]; exact two_pow_add_lt ha hb
theorem nup {a : Int} {n m : Nat} (ha : a.natAbs < 2 ^ n) (h : n ≤ m) : a.natAbs < 2 ^ m := Nat.lt_of_lt_of_le ha (Nat.pow_le_pow_right (by decide) h)
/-- a product of numbers of these sizes may be reckoned -/
theorem cmul {a b : Int} {n m : Nat} (ha : a.natAbs < 2 ^ n) (hb : b.natAbs < 2 ^ m) (h : n + m ≤ 999998) : CMulW a b :=
  wide_mul (nup ha (Nat.le_succ n)) (nup hb (Nat.le_succ m)) (by omega) (by omega) (by omega)
structure ptS (n : Nat) (p : Pt) : Prop where
  a : p.a.natAbs < 2 ^ n
  b : p.b.natAbs < 2 ^ n
  c : p.c.natAbs < 2 ^ n
theorem ptB.S {n : Nat} {p : Pt} (h : ptB n p) : ptS n p := ⟨h.a, h.b, h.c⟩
theorem ptS.mono {n m : Nat} {p : Pt} (h : ptS n p) (e : n ≤ m) : ptS m p := ⟨nup h.a e, nup h.b e, nup h.c e⟩
/-- twice of two points -/
def tw (p q : Pt) : Rat := p.x * q.y - p.y * q.x
theorem tw_eq (p q : Pt) : Rat.divInt (p.a * q.b - p.b * q.a) (p.c * q.c) = tw p q := by
  have h1 := p.xc
  have h2 := p.yc
  have h3 := q.xc
  have h4 := q.yc
  have hp := p.cq
  have hq := q.cq
  rw [divInt_q]
  unfold tw
  simp only [Rat.intCast_sub, Rat.intCast_mul]
  rw [h1, h2, h3, h4]
  grind
theorem cc_ne (p q : Pt) : p.c * q.c ≠ 0 := Int.mul_ne_zero p.c_ne q.c_ne
theorem cc_pos (p q : Pt) : 0 < p.c * q.c := Int.mul_pos p.pos q.pos
end Py
namespace Py
open PySem hiding start
open L2
instance : Inhabited Pt := ⟨⟨0, 0, 1, by decide, by decide⟩⟩
/-- the twices of a round -/
def rsL (ps : List Pt) : List Rat := (List.range ps.length).map fun k => tw (ps[(k + ps.length - 1) % ps.length]!) (ps[k]!)
def rs (ps : List Pt) : Rat := sumQ (rsL ps)
theorem at_cur {ps : List Pt} {k : Nat} (h : k < ps.length) : atI (ps.map ptD) (k : Int) = some (ptD ps[k]!) := by
  unfold atI ixN
  rw [if_pos (by omega), if_pos (by rw [List.length_map]; omega)]
  show (ps.map ptD)[(k : Int).toNat]? = _
  rw [Int.toNat_natCast, List.getElem?_map, List.getElem?_eq_getElem h, getElem!_pos ps k h]
  rfl
theorem at_prev {ps : List Pt} {k : Nat} (h : k < ps.length) : atI (ps.map ptD) ((k : Int) - 1) = some (ptD ps[(k + ps.length - 1) % ps.length]!) := by
  have hm : (k + ps.length - 1) % ps.length < ps.length := Nat.mod_lt _ (by omega)
  have e : (ps.map ptD)[(k + ps.length - 1) % ps.length]? = some (ptD ps[(k + ps.length - 1) % ps.length]!) := by
    rw [List.getElem?_map, List.getElem?_eq_getElem hm, getElem!_pos ps _ hm]
    rfl
  by_cases h0 : k = 0
  · subst h0
    have e2 : (0 + ps.length - 1) % ps.length = ps.length - 1 := by rw [Nat.zero_add]; exact Nat.mod_eq_of_lt (by omega)
    rw [e2] at e
    rw [e2]
    unfold atI ixN
    rw [if_neg (by omega), if_pos (by rw [List.length_map]; omega)]
    show (ps.map ptD)[(((0 : Nat) : Int) - 1 + (ps.map ptD).length).toNat]? = _
    have e3 : (((0 : Nat) : Int) - 1 + ((ps.map ptD).length : Int)).toNat = ps.length - 1 := by rw [List.length_map]; omega
    rw [e3]; exact e
  · have e2 : (k + ps.length - 1) % ps.length = k - 1 := by
      have : k + ps.length - 1 = k - 1 + ps.length := by omega
      rw [this, Nat.add_mod_right]
      exact Nat.mod_eq_of_lt (by omega)
    rw [e2] at e
    rw [e2]
    unfold atI ixN
    rw [if_pos (by omega), if_pos (by rw [List.length_map]; omega)]
    show (ps.map ptD)[((k : Int) - 1).toNat]? = _
    have e3 : ((k : Int) - 1).toNat = k - 1 := by omega
    rw [e3]; exact e
theorem rsL_get {ps : List Pt} {k : Nat} (h : k < ps.length) : (rsL ps)[k]? = some (tw (ps[(k + ps.length - 1) % ps.length]!) (ps[k]!)) := by
  unfold rsL
  rw [List.getElem?_map, List.getElem?_range h]
  rfl
theorem mem_at {ps : List Pt} {k : Nat} (h : k < ps.length) : ps[k]! ∈ ps ∧ ps[(k + ps.length - 1) % ps.length]! ∈ ps := by
  have hm : (k + ps.length - 1) % ps.length < ps.length := Nat.mod_lt _ (by omega)
  rw [getElem!_pos ps k h, getElem!_pos ps _ hm]
  exact ⟨List.getElem_mem h, List.getElem_mem hm⟩
theorem tw_S {p q : Pt} {n d : Nat} (hp : ptS n p) (hq : ptS n q) (dp : p.c.natAbs < 2 ^ d) (dq : q.c.natAbs < 2 ^ d) (d0 : 0 < d) : frS (2 * n + 1) (2 * d) (tw p q) := by
  rw [← tw_eq]
  have e1 : 2 * n = n + n := by omega
  have e2 : 2 * d = d + d := by omega
  rw [e1, e2]
  exact frS_div (cc_ne p q) (by omega) (by omega) (nsub (nmul hp.a hq.b) (nmul hp.b hq.a)) (nmul dp dq)
/-- a fraction kept as a top and a bottom -/
structure KeptR (qs : List Rat) (i n d : Nat) (t b : Int) : Prop where
  pos : 0 < b
  eq : Rat.divInt t b = sumQ (qs.take i)
  tb : t.natAbs < 2 ^ ((2 * n + 2 * d + 2) * i + 1)
  bb : b.natAbs < 2 ^ (2 * d * i + 1)
theorem KeptR.next {ps : List Pt} {i n d : Nat} {t b : Int} {p q : Pt} (h : KeptR (rsL ps) i n d t b) (z : (rsL ps)[i]? = some (tw p q)) (hp : ptS n p) (hq : ptS n q) (dp : p.c.natAbs < 2 ^ d) (dq : q.c.natAbs < 2 ^ d) :
    KeptR (rsL ps) (i + 1) n d (t * p.c * q.c + (p.a * q.b - q.a * p.b) * b) (b * p.c * q.c) := by
  have e1 : (2 * n + 2 * d + 2) * (i + 1) + 1 = (2 * n + 2 * d + 2) * i + 1 + 2 * n + 2 * d + 1 + 1 := by rw [Nat.mul_succ]; omega
  have e2 : 2 * d * (i + 1) + 1 = 2 * d * i + 1 + d + d := by rw [Nat.mul_succ]; omega
  have e3 : 2 * d * i ≤ (2 * n + 2 * d + 2) * i := Nat.mul_le_mul_right _ (by omega)
  refine ⟨Int.mul_pos (Int.mul_pos h.pos p.pos) q.pos, ?_, ?_, ?_⟩
  · rw [sumQ_take z, ← h.eq]
    have hb : (b : Rat) ≠ 0 := by have := h.pos; exact_mod_cast (show b ≠ 0 by omega)
    have h1 := p.xc
    have h2 := p.yc
    have h3 := q.xc
    have h4 := q.yc
    have hp := p.cq
    have hq := q.cq
    rw [divInt_q, divInt_q]
    unfold tw
    simp only [Rat.intCast_sub, Rat.intCast_mul, Rat.intCast_add]
    rw [h1, h2, h3, h4]
    grind
  · rw [e1]
    refine nadd (nup (nmul (nmul h.tb dp) dq) (by omega)) (nup (nmul (nsub (nmul hp.a hq.b) (nmul hq.a hp.b)) h.bb) (by omega))
  · rw [e2]
    exact nmul (nmul h.bb dp) dq
theorem KeptR.zero (qs : List Rat) (n d : Nat) : KeptR qs 0 n d 0 1 := ⟨by decide, rfl, by simp, by simp⟩
def Pt.quarter (p : Pt) : Pt := ⟨0 - p.b, p.a, p.c, p.pos, by
  have := p.low
  rw [Int.zero_sub, Int.gcd_comm (-p.b), Int.gcd_neg]
  exact this⟩
def Pt.mirror (p : Pt) : Pt := ⟨p.b, p.a, p.c, p.pos, by rw [Int.gcd_comm p.b]; exact p.low⟩
theorem quarter_xy (p : Pt) : p.quarter.x = -p.y ∧ p.quarter.y = p.x := by
  constructor
  · show Rat.divInt (0 - p.b) p.c = - Rat.divInt p.b p.c
    rw [Int.zero_sub, Rat.neg_divInt]
  · rfl
theorem mirror_xy (p : Pt) : p.mirror.x = p.y ∧ p.mirror.y = p.x := ⟨rfl, rfl⟩
theorem tn_quarter (p q r : Pt) : tn p.quarter q.quarter r.quarter = tn p q r := by
  unfold tn crQ
  rw [(quarter_xy p).1, (quarter_xy p).2, (quarter_xy q).1, (quarter_xy q).2, (quarter_xy r).1, (quarter_xy r).2]
  congr 1
  grind
theorem tn_mirror (p q r : Pt) : tn p.mirror q.mirror r.mirror = 0 - tn p q r := by
  unfold tn crQ
  rw [(mirror_xy p).1, (mirror_xy p).2, (mirror_xy q).1, (mirror_xy q).2, (mirror_xy r).1, (mirror_xy r).2, Int.zero_sub, ← sg_neg]
  congr 1
  grind
theorem tn_moved {p q r p' q' r' m : Pt} (hp : p'.x = p.x + m.x ∧ p'.y = p.y + m.y) (hq : q'.x = q.x + m.x ∧ q'.y = q.y + m.y) (hr : r'.x = r.x + m.x ∧ r'.y = r.y + m.y) : tn p' q' r' = tn p q r := by
  unfold tn crQ
  rw [hp.1, hp.2, hq.1, hq.2, hr.1, hr.2]
  congr 1
  grind
end Py
namespace Py
open PySem hiding start
open L2
theorem qS {n : Nat} {p : Pt} (h : ptS n p) : ptS n p.quarter := ⟨by show (0 - p.b).natAbs < _; have := h.b; omega, h.a, h.c⟩
theorem mS {n : Nat} {p : Pt} (h : ptS n p) : ptS n p.mirror := ⟨h.b, h.a, h.c⟩
theorem tw_flip (p q : Pt) : tw q p = -(tw p q) := by
  unfold tw
  grind
end Py

set_option Elab.async false
set_option linter.all false
set_option autoImplicit false
set_option exponentiation.threshold 3000
namespace Py
open PySem hiding start
open L2
/-! ### the order of points; sides -/
def ahd (p q : Pt) : Bool := if p.x = q.x then decide (p.y < q.y) else decide (p.x < q.x)
theorem lt_cross {pa pc qa qc : Int} (hp : 0 < pc) (hq : 0 < qc) : (pa * qc < qa * pc) ↔ (Rat.divInt pa pc < Rat.divInt qa qc) := by
  have h1 : (0 : Rat) < (pc : Rat) := by exact_mod_cast hp
  have h2 : (0 : Rat) < (qc : Rat) := by exact_mod_cast hq
  have e : (pa * qc < qa * pc) ↔ ((pa : Rat) * qc < (qa : Rat) * pc) := by
    constructor
    · intro h; exact_mod_cast h
    · intro h; exact_mod_cast h
  rw [e, divInt_q, divInt_q]
  have e1 : (pa : Rat) = (pa : Rat) / pc * pc := by grind
  have e2 : (qa : Rat) = (qa : Rat) / qc * qc := by grind
  generalize (pa : Rat) / pc = u at *
  generalize (qa : Rat) / qc = v at *
  rw [e1, e2]
  have h3 := Rat.mul_pos h1 h2
  constructor
  · intro h
    have : u * (pc * qc) < v * (pc * qc) := by grind
    exact Rat.lt_of_mul_lt_mul_right this (Rat.le_of_lt h3)
  · intro h
    have := Rat.mul_lt_mul_of_pos_right h h3
    grind
theorem eq_cross {pa pc qa qc : Int} (hp : pc ≠ 0) (hq : qc ≠ 0) : (pa * qc = qa * pc) ↔ (Rat.divInt pa pc = Rat.divInt qa qc) := (Rat.divInt_eq_divInt_iff hp hq).symm
theorem ahd_int (p q : Pt) : ahd p q = if p.a * q.c = q.a * p.c then decide (p.b * q.c < q.b * p.c) else decide (p.a * q.c < q.a * p.c) := by
  unfold ahd Pt.x Pt.y
  simp only [eq_cross p.c_ne q.c_ne, lt_cross p.pos q.pos]
/-- whether a point lies on the side from a to b -/
def onS (p a b : Pt) : Bool := if tn a b p ≠ 0 then false else if ahd b a then (!ahd p b && !ahd a p) else (!ahd p a && !ahd b p)
theorem ahd_irr (p : Pt) : ahd p p = false := by
  unfold ahd
  rw [if_pos rfl]
  exact decide_eq_false (by grind)
theorem ahd_flip {p q : Pt} (h : p ≠ q) : ahd q p = !ahd p q := by
  unfold ahd
  by_cases hx : p.x = q.x
  · rw [if_pos hx, if_pos hx.symm]
    have hy : p.y ≠ q.y := fun z => h (Pt.eq_of hx z)
    rw [← decide_not]
    exact decide_eq_decide.mpr (by grind)
  · rw [if_neg hx, if_neg (fun z => hx z.symm), ← decide_not]
    exact decide_eq_decide.mpr (by grind)
theorem tn_swap0 (a b p : Pt) : (tn b a p = 0) ↔ (tn a b p = 0) := by
  rw [tn_flip]; omega
theorem onS_flip {p a b : Pt} (h : a ≠ b) : onS p b a = onS p a b := by
  unfold onS
  have e := ahd_flip h
  have t := tn_swap0 a b p
  by_cases h0 : tn a b p = 0
  · have hb : tn b a p = 0 := t.mpr h0
    simp only [hb, h0, ne_eq, not_true_eq_false, if_false, e]
    cases ahd a b <;> rfl
  · have hb : ¬ tn b a p = 0 := fun z => h0 (t.mp z)
    rw [if_pos hb, if_pos h0]
theorem ahd_x {p q : Pt} (h : p.x = q.x → p.y = q.y) : ahd p q = decide (p.x < q.x) := by
  unfold ahd
  by_cases e : p.x = q.x
  · rw [if_pos e]
    have := h e
    exact decide_eq_decide.mpr (by grind)
  · rw [if_neg e]
theorem onS_law {p a b : Pt} (h : a ≠ b) : onS p a b = if tn a b p ≠ 0 then false else if ahd a b then (!ahd p a && !ahd b p) else (!ahd p b && !ahd a p) := by
  unfold onS
  rw [ahd_flip h]
  cases ahd a b <;> rfl
/-- a point of the line, told by where it lies along it -/
theorem onS_along {a b r : Pt} {l : Rat} (hab : a ≠ b) (hx : r.x = a.x + (b.x - a.x) * l) (hy : r.y = a.y + (b.y - a.y) * l) : onS r a b = decide (0 ≤ l ∧ l ≤ 1) := by
  have h0 : tn a b r = 0 := by
    have : crQ a b r = 0 := by unfold crQ; rw [hx, hy]; grind
    unfold tn
    rw [this]; rfl
  rw [onS_law hab, if_neg (by simp [h0])]
  have key : ∀ u v : Rat, u < v → ∀ w : Rat, w = u + (v - u) * l → (¬ w < u ↔ 0 ≤ l) ∧ (¬ v < w ↔ l ≤ 1) := fun u v huv w hw => by
    have hd : 0 < v - u := by grind
    constructor
    · constructor
      · intro h
        by_cases q : 0 ≤ l
        · exact q
        · exfalso
          have q' : 0 < -l := by grind
          have := Rat.mul_pos hd q'
          grind
      · intro h z
        have := Rat.mul_nonneg (Rat.le_of_lt hd) h
        grind
    · constructor
      · intro h
        by_cases q : l ≤ 1
        · exact q
        · exfalso
          have q' : 0 < l - 1 := by grind
          have := Rat.mul_pos hd q'
          grind
      · intro h z
        have q' : 0 ≤ 1 - l := by grind
        have := Rat.mul_nonneg (Rat.le_of_lt hd) q'
        grind
  have key2 : ∀ u v : Rat, v < u → ∀ w : Rat, w = u + (v - u) * l → (¬ u < w ↔ 0 ≤ l) ∧ (¬ w < v ↔ l ≤ 1) := fun u v huv w hw => by
    have := key (-u) (-v) (by grind) (-w) (by grind)
    constructor
    · rw [← this.1]; constructor <;> intro h z <;> exact h (by grind)
    · rw [← this.2]; constructor <;> intro h z <;> exact h (by grind)
  by_cases ex : a.x = b.x
  · have rx : r.x = a.x := by rw [hx, ex]; grind
    have ny : a.y ≠ b.y := fun z => hab (Pt.eq_of ex z)
    by_cases ly : a.y < b.y
    · obtain ⟨k1, k2⟩ := key a.y b.y ly r.y hy
      have e1 : ahd a b = true := by unfold ahd; rw [if_pos ex]; exact decide_eq_true ly
      have e2 : ahd r a = decide (r.y < a.y) := by unfold ahd; rw [if_pos rx]
      have e3 : ahd b r = decide (b.y < r.y) := by unfold ahd; rw [if_pos (ex.symm.trans rx.symm)]
      rw [e1, if_pos rfl, e2, e3, ← decide_not, ← decide_not, ← Bool.decide_and]
      exact decide_eq_decide.mpr (by rw [k1, k2])
    · have ly' : b.y < a.y := by grind
      obtain ⟨k1, k2⟩ := key2 a.y b.y ly' r.y hy
      have e1 : ahd a b = false := by unfold ahd; rw [if_pos ex]; exact decide_eq_false ly
      have e2 : ahd r b = decide (r.y < b.y) := by unfold ahd; rw [if_pos (rx.trans ex)]
      have e3 : ahd a r = decide (a.y < r.y) := by unfold ahd; rw [if_pos rx.symm]
      rw [e1, if_neg Bool.false_ne_true, e2, e3, ← decide_not, ← decide_not, ← Bool.decide_and]
      exact decide_eq_decide.mpr (by rw [k1, k2]; exact And.comm)
  · have hd : b.x - a.x ≠ 0 := by grind
    have ra : r.x = a.x → r.y = a.y := fun z => by
      have h1 : (b.x - a.x) * l = 0 := by grind
      have : l = 0 := by
        rcases Rat.mul_eq_zero.mp h1 with q | q
        · exact absurd q hd
        · exact q
      rw [hy, this]; grind
    have rb : r.x = b.x → r.y = b.y := fun z => by
      have h1 : (b.x - a.x) * (l - 1) = 0 := by grind
      have : l - 1 = 0 := by
        rcases Rat.mul_eq_zero.mp h1 with q | q
        · exact absurd q hd
        · exact q
      have : l = 1 := by grind
      rw [hy, this]; grind
    by_cases lx : a.x < b.x
    · obtain ⟨k1, k2⟩ := key a.x b.x lx r.x hx
      have e1 : ahd a b = true := by unfold ahd; rw [if_neg ex]; exact decide_eq_true lx
      rw [e1, if_pos rfl, ahd_x ra, ahd_x (fun z => (rb z.symm).symm), ← decide_not, ← decide_not, ← Bool.decide_and]
      exact decide_eq_decide.mpr (by rw [k1, k2])
    · obtain ⟨k1, k2⟩ := key2 a.x b.x (by grind) r.x hx
      have e1 : ahd a b = false := by unfold ahd; rw [if_neg ex]; exact decide_eq_false lx
      rw [e1, if_neg Bool.false_ne_true, ahd_x rb, ahd_x (fun z => (ra z.symm).symm), ← decide_not, ← decide_not, ← Bool.decide_and]
      exact decide_eq_decide.mpr (by rw [k1, k2]; exact And.comm)
/-- a point off the line is on no side of it -/
theorem onS_off {a b p : Pt} (h : crQ a b p ≠ 0) : onS p a b = false := by
  unfold onS
  have : tn a b p ≠ 0 := by
    unfold tn sg
    by_cases h1 : 0 < crQ a b p
    · rw [if_pos h1]; decide
    · rw [if_neg h1, if_pos (by grind)]; decide
  rw [if_pos this]
theorem sq_pos {u v : Rat} (h : u ≠ 0 ∨ v ≠ 0) : 0 < u * u + v * v := by
  have h1 : ∀ z : Rat, 0 ≤ z * z := fun z => by
    by_cases q : 0 ≤ z
    · exact Rat.mul_nonneg q q
    · have : 0 ≤ (-z) := by grind
      have := Rat.mul_nonneg this this
      grind
  have h2 : ∀ z : Rat, z ≠ 0 → 0 < z * z := fun z hz => by
    have := h1 z
    have : z * z ≠ 0 := fun q => by
      rcases Rat.mul_eq_zero.mp q with q | q <;> exact hz q
    grind
  rcases h with h | h
  · have := h2 u h; have := h1 v; grind
  · have := h2 v h; have := h1 u; grind
/-- how far above the line through a and b passes at x -/
def hgt (a b : Pt) (x : Rat) : Rat := a.y + (b.y - a.y) / (b.x - a.x) * (x - a.x)
theorem hgt_flip {a b : Pt} (h : a.x ≠ b.x) (x : Rat) : hgt b a x = hgt a b x := by
  unfold hgt
  have h1 : b.x - a.x ≠ 0 := by grind
  have h2 : a.x - b.x ≠ 0 := by grind
  grind
theorem num_eq (h : Rat) : (h.num : Rat) = h * (((h.den : Nat) : Int) : Rat) := by
  have e := Rat.num_divInt_den h
  rw [divInt_q] at e
  have d : (((h.den : Nat) : Int) : Rat) ≠ 0 := by exact_mod_cast den_ne h
  generalize (((h.den : Nat) : Int) : Rat) = z at *
  generalize (h.num : Rat) = y at *
  grind
theorem div_eq {h w : Rat} (hw : w ≠ 0) : Rat.divInt (h.num * w.den) (h.den * w.num) = h / w := by
  have d1 : (((h.den : Nat) : Int) : Rat) ≠ 0 := by exact_mod_cast den_ne h
  have d2 : (((w.den : Nat) : Int) : Rat) ≠ 0 := by exact_mod_cast den_ne w
  have e1 := num_eq h
  have e2 := num_eq w
  rw [divInt_q]
  simp only [Rat.intCast_mul]
  generalize (((h.den : Nat) : Int) : Rat) = z at *
  generalize (((w.den : Nat) : Int) : Rat) = y at *
  generalize (h.num : Rat) = u at *
  generalize (w.num : Rat) = v at *
  subst e1 e2
  grind
theorem num_ne {w : Rat} (h : w ≠ 0) : w.num ≠ 0 := fun z => h (by rwa [Rat.num_eq_zero] at z)
end Py
namespace Py
open PySem hiding start
open L2
theorem bneq_q {p : Pt} {a b : Rat} (h : a = b) : a = b := h
theorem q_div_pos {u v : Rat} (hu : 0 < u) (hv : 0 < v) : 0 < u / v := by
  by_cases h : 0 < u / v
  · exact h
  · exfalso
    have h1 : 0 ≤ -(u / v) := by grind
    have h2 := Rat.mul_nonneg h1 (Rat.le_of_lt hv)
    have e : u / v * v = u := by grind
    grind
/-- the point put off square to the side -/
theorem off_q {a b p r : Pt} {m : Int} (hm : 0 < m) (hab : a ≠ b) (h0 : crQ a b p = 0)
    (hx : r.x = Rat.divInt (p.a * m + (a.b * b.c - b.b * a.c) * p.c) (p.c * m)) (hy : r.y = Rat.divInt (p.b * m + (b.a * a.c - a.a * b.c) * p.c) (p.c * m)) : crQ a b r ≠ 0 := by
  have hmq : (0 : Rat) < (m : Rat) := by exact_mod_cast hm
  have hp := p.cq
  have ha := a.cqp
  have hb := b.cqp
  have e1 : r.x = p.x + (a.y - b.y) * (a.c * b.c) / m := by
    rw [hx, divInt_q]
    simp only [Rat.intCast_sub, Rat.intCast_mul, Rat.intCast_add]
    rw [p.xc, a.yc, b.yc]
    have : (m : Rat) ≠ 0 := by grind
    grind
  have e2 : r.y = p.y + (b.x - a.x) * (a.c * b.c) / m := by
    rw [hy, divInt_q]
    simp only [Rat.intCast_sub, Rat.intCast_mul, Rat.intCast_add]
    rw [p.yc, a.xc, b.xc]
    have : (m : Rat) ≠ 0 := by grind
    grind
  have key : crQ a b r = crQ a b p + ((b.x - a.x) * (b.x - a.x) + (b.y - a.y) * (b.y - a.y)) * ((a.c : Rat) * (b.c : Rat) / (m : Rat)) := by
    unfold crQ
    rw [e1, e2]
    grind
  have s : 0 < (b.x - a.x) * (b.x - a.x) + (b.y - a.y) * (b.y - a.y) := sq_pos (by
    by_cases z : b.x - a.x = 0
    · right
      intro z2
      exact hab (Pt.eq_of (by grind) (by grind))
    · exact .inl z)
  have t : 0 < (a.c : Rat) * (b.c : Rat) / (m : Rat) := q_div_pos (Rat.mul_pos ha hb) hmq
  have u := Rat.mul_pos s t
  rw [key, h0]
  grind
theorem wide_x (a b : Pt) : b.a * a.c - a.a * b.c = 0 ↔ a.x = b.x := by
  have := eq_cross (pa := a.a) (pc := a.c) (qa := b.a) (qc := b.c) a.c_ne b.c_ne
  constructor
  · intro h; exact this.mp (by omega)
  · intro h; have := this.mpr h; omega
theorem high_q {a b : Pt} {x : Rat} (h : a.x ≠ b.x) : Rat.divInt (a.b * x.den * (b.a * a.c - a.a * b.c) + (x.num * a.c - a.a * x.den) * (b.b * a.c - a.b * b.c)) (a.c * x.den * (b.a * a.c - a.a * b.c)) = hgt a b x := by
  have d : (((x.den : Nat) : Int) : Rat) ≠ 0 := by exact_mod_cast den_ne x
  have ha := a.cq
  have hb := b.cq
  have e1 := num_eq x
  have hw : b.x - a.x ≠ 0 := by grind
  rw [divInt_q]
  simp only [Rat.intCast_sub, Rat.intCast_mul, Rat.intCast_add]
  rw [a.xc, a.yc, b.xc, b.yc, e1]
  unfold hgt
  generalize (((x.den : Nat) : Int) : Rat) = z at *
  generalize (a.c : Rat) = ac at *
  generalize (b.c : Rat) = bc at *
  have e : (b.x * bc) * ac - (a.x * ac) * bc = (b.x - a.x) * (ac * bc) := by grind
  have e' : (b.y * bc) * ac - (a.y * ac) * bc = (b.y - a.y) * (ac * bc) := by grind
  rw [e, e']
  have e3 : (x * z) * ac - (a.x * ac) * z = (x - a.x) * (ac * z) := by grind
  rw [e3]
  generalize b.x - a.x = w at *
  generalize b.y - a.y = v at *
  generalize x - a.x = u at *
  grind
end Py
namespace Py
open PySem hiding start
open L2
theorem frac_le {s t : Int} (ht : 0 < t) : (0 ≤ ((s : Rat) / (t : Rat)) ∧ ((s : Rat) / (t : Rat)) ≤ 1) ↔ (0 ≤ s ∧ s ≤ t) := by
  have h : (0 : Rat) < (t : Rat) := by exact_mod_cast ht
  have e : (s : Rat) = (s : Rat) / t * t := by grind
  have e1 : (0 ≤ s) ↔ (0 : Rat) ≤ (s : Rat) := by
    constructor
    · intro z; exact_mod_cast z
    · intro z; exact_mod_cast z
  have e2 : (s ≤ t) ↔ (s : Rat) ≤ (t : Rat) := by
    constructor
    · intro z; exact_mod_cast z
    · intro z; exact_mod_cast z
  rw [e1, e2]
  generalize hq : (s : Rat) / t = q at *
  rw [e]
  constructor
  · rintro ⟨a, b⟩
    refine ⟨Rat.mul_nonneg a (Rat.le_of_lt h), ?_⟩
    have := Rat.mul_le_mul_of_nonneg_right b (Rat.le_of_lt h)
    grind
  · rintro ⟨a, b⟩
    constructor
    · by_cases z : 0 ≤ q
      · exact z
      · exfalso
        have := Rat.mul_pos (show 0 < -q by grind) h
        grind
    · by_cases z : q ≤ 1
      · exact z
      · exfalso
        have := Rat.mul_pos (show 0 < q - 1 by grind) h
        grind
end Py

set_option Elab.async false
set_option linter.all false
set_option autoImplicit false
set_option exponentiation.threshold 20000
namespace Py
open PySem hiding start
open L2
/-! ### what two sides share -/
theorem ahd_trans {p q r : Pt} (h1 : ahd p q = true) (h2 : ahd q r = true) : ahd p r = true := by
  unfold ahd at *
  by_cases e1 : p.x = q.x
  · rw [if_pos e1] at h1
    by_cases e2 : q.x = r.x
    · rw [if_pos e2] at h2
      rw [if_pos (e1.trans e2)]
      have h1 := of_decide_eq_true h1
      have h2 := of_decide_eq_true h2
      exact decide_eq_true (by grind)
    · rw [if_neg e2] at h2
      have h2 := of_decide_eq_true h2
      rw [if_neg (by grind)]
      exact decide_eq_true (by grind)
  · rw [if_neg e1] at h1
    have h1 := of_decide_eq_true h1
    by_cases e2 : q.x = r.x
    · rw [if_neg (by grind)]
      exact decide_eq_true (by grind)
    · rw [if_neg e2] at h2
      have h2 := of_decide_eq_true h2
      rw [if_neg (by grind)]
      exact decide_eq_true (by grind)
/-- p at or ahead of q -/
def ale (p q : Pt) : Prop := ahd q p = false
theorem ale_refl (p : Pt) : ale p p := ahd_irr p
theorem ale_iff {p q : Pt} : ale p q ↔ (p = q ∨ ahd p q = true) := by
  unfold ale
  by_cases h : p = q
  · subst h; simp [ahd_irr]
  · rw [ahd_flip h]
    cases ahd p q <;> simp [h]
theorem ale_trans {p q r : Pt} (h1 : ale p q) (h2 : ale q r) : ale p r := by
  rw [ale_iff] at *
  rcases h1 with rfl | h1
  · exact h2
  · rcases h2 with rfl | h2
    · exact .inr h1
    · exact .inr (ahd_trans h1 h2)
theorem ale_total (p q : Pt) : ale p q ∨ ale q p := by
  by_cases h : ahd p q = true
  · exact .inl (ale_iff.mpr (.inr h))
  · exact .inr (by unfold ale; simpa using h)
theorem ale_of {p q : Pt} (h : ahd p q = true) : ale p q := ale_iff.mpr (.inr h)
theorem ale_anti {p q : Pt} (h1 : ale p q) (h2 : ale q p) : p = q := by
  rw [ale_iff] at h1
  rcases h1 with h | h
  · exact h
  · unfold ale at h2; rw [h] at h2; cases h2
def ptLo (a b : Pt) : Pt := if ahd b a then b else a
def ptHi (a b : Pt) : Pt := if ahd b a then a else b
def mx (p q : Pt) : Pt := if ahd p q then q else p
def mn (p q : Pt) : Pt := if ahd p q then p else q
theorem lo_le (a b : Pt) : ale (ptLo a b) (ptHi a b) := by
  unfold ptLo ptHi
  by_cases h : ahd b a = true
  · rw [if_pos h, if_pos h]; exact ale_of h
  · rw [if_neg h, if_neg h]; unfold ale; simpa using h
theorem lo_comm (a b : Pt) : ptLo a b = ptLo b a ∧ ptHi a b = ptHi b a := by
  by_cases h : a = b
  · subst h; exact ⟨rfl, rfl⟩
  · unfold ptLo ptHi
    rw [ahd_flip h]
    cases ahd a b <;> exact ⟨rfl, rfl⟩
theorem mx_comm (p q : Pt) : mx p q = mx q p := by
  by_cases h : p = q
  · subst h; rfl
  · unfold mx
    rw [ahd_flip h]
    cases ahd p q <;> rfl
theorem mn_comm (p q : Pt) : mn p q = mn q p := by
  by_cases h : p = q
  · subst h; rfl
  · unfold mn
    rw [ahd_flip h]
    cases ahd p q <;> rfl
theorem mx_ge (p q : Pt) : ale p (mx p q) ∧ ale q (mx p q) := by
  unfold mx
  by_cases h : ahd p q = true
  · rw [if_pos h]; exact ⟨ale_of h, ale_refl q⟩
  · rw [if_neg h]; exact ⟨ale_refl p, by unfold ale; simpa using h⟩
theorem mn_le (p q : Pt) : ale (mn p q) p ∧ ale (mn p q) q := by
  unfold mn
  by_cases h : ahd p q = true
  · rw [if_pos h]; exact ⟨ale_refl p, ale_of h⟩
  · rw [if_neg h]; exact ⟨by unfold ale; simpa using h, ale_refl q⟩
theorem mx_or (p q : Pt) : mx p q = p ∨ mx p q = q := by unfold mx; split <;> simp
theorem mn_or (p q : Pt) : mn p q = p ∨ mn p q = q := by unfold mn; split <;> simp
theorem lo_or (p q : Pt) : (ptLo p q = p ∧ ptHi p q = q) ∨ (ptLo p q = q ∧ ptHi p q = p) := by unfold ptLo ptHi; split <;> simp
/-- a point of the line between the ends -/
theorem onS_between {a b p : Pt} (h0 : tn a b p = 0) (h1 : ale (ptLo a b) p) (h2 : ale p (ptHi a b)) : onS p a b = true := by
  unfold onS
  rw [if_neg (by simp [h0])]
  unfold ptLo at h1
  unfold ptHi at h2
  unfold ale at h1 h2
  by_cases h : ahd b a = true
  · rw [if_pos h] at h1 h2 ⊢; simp [h1, h2]
  · rw [if_neg h] at h1 h2 ⊢; simp [h1, h2]
theorem sg_zero {q : Rat} : sg q = 0 ↔ q = 0 := by
  unfold sg
  by_cases h1 : 0 < q
  · rw [if_pos h1]; constructor
    · intro h; cases h
    · intro h; grind
  · rw [if_neg h1]
    by_cases h2 : q < 0
    · rw [if_pos h2]; constructor
      · intro h; cases h
      · intro h; grind
    · rw [if_neg h2]; constructor
      · intro _; grind
      · intro _; rfl
theorem tn_zero {a b c : Pt} : tn a b c = 0 ↔ crQ a b c = 0 := sg_zero
/-- the turn of the two ways -/
def parQ (a b c d : Pt) : Rat := (b.x - a.x) * (d.y - c.y) - (b.y - a.y) * (d.x - c.x)
theorem par_eq (a b c d : Pt) : crQ a b d - crQ a b c = parQ a b c d := by unfold crQ parQ; grind
theorem par_eq' (a b c d : Pt) : crQ c d b - crQ c d a = -(parQ a b c d) := by unfold crQ parQ; grind
/-- the point in which two lines meet -/
def xsI (a b c d : Pt) : Int × Int × Int :=
  let u := (a.b * b.c - b.b * a.c, b.a * a.c - a.a * b.c, a.a * b.b - b.a * a.b)
  let v := (c.b * d.c - d.b * c.c, d.a * c.c - c.a * d.c, c.a * d.b - d.a * c.b)
  (u.2.1 * v.2.2 - v.2.1 * u.2.2, u.2.2 * v.1 - v.2.2 * u.1, u.1 * v.2.1 - v.1 * u.2.1)
theorem xs_bottom (a b c d : Pt) : (((xsI a b c d).2.2 : Int) : Rat) = parQ a b c d * (a.c * b.c * c.c * d.c) := by
  unfold xsI parQ
  simp only [Rat.intCast_sub, Rat.intCast_mul]
  rw [a.xc, a.yc, b.xc, b.yc, c.xc, c.yc, d.xc, d.yc]
  grind
theorem xs_ne {a b c d : Pt} (h : parQ a b c d ≠ 0) : (xsI a b c d).2.2 ≠ 0 := fun z => by
  have e := xs_bottom a b c d
  rw [z] at e
  have h1 := a.cq
  have h2 := b.cq
  have h3 := c.cq
  have h4 := d.cq
  have : parQ a b c d * ((a.c : Rat) * b.c * c.c * d.c) = 0 := by
    rw [← e]; rfl
  rcases Rat.mul_eq_zero.mp this with q | q
  · exact h q
  · have : (a.c : Rat) * b.c * c.c * d.c ≠ 0 := by
      intro z
      rcases Rat.mul_eq_zero.mp z with z | z
      · rcases Rat.mul_eq_zero.mp z with z | z
        · rcases Rat.mul_eq_zero.mp z with z | z
          · exact h1 z
          · exact h2 z
        · exact h3 z
      · exact h4 z
    exact this q
def xsP (a b c d : Pt) (h : parQ a b c d ≠ 0) : Pt := ptBy (xsI a b c d).1 (xsI a b c d).2.1 (xsI a b c d).2.2 (xs_ne h)
theorem q_fix {cx dx w t m : Rat} (hw : w ≠ 0) (hm : m ≠ 0) : (cx * w - (dx - cx) * t) * m / (w * m) = cx + (dx - cx) * (-t / w) := by grind
theorem xsP_xy {a b c d : Pt} (h : parQ a b c d ≠ 0) : (xsP a b c d h).x = c.x + (d.x - c.x) * (-(crQ a b c) / parQ a b c d) ∧ (xsP a b c d h).y = c.y + (d.y - c.y) * (-(crQ a b c) / parQ a b c d) := by
  obtain ⟨x1, y1⟩ := ptBy_x (a := (xsI a b c d).1) (b := (xsI a b c d).2.1) (xs_ne h)
  have h1 := a.cq
  have h2 := b.cq
  have h3 := c.cq
  have h4 := d.cq
  have hm : (a.c : Rat) * b.c * c.c * d.c ≠ 0 := by
    intro z
    rcases Rat.mul_eq_zero.mp z with z | z
    · rcases Rat.mul_eq_zero.mp z with z | z
      · rcases Rat.mul_eq_zero.mp z with z | z
        · exact h1 z
        · exact h2 z
      · exact h3 z
    · exact h4 z
  have ex : (((xsI a b c d).1 : Int) : Rat) = (c.x * parQ a b c d - (d.x - c.x) * crQ a b c) * ((a.c : Rat) * b.c * c.c * d.c) := by
    unfold xsI parQ crQ
    simp only [Rat.intCast_sub, Rat.intCast_mul]
    rw [a.xc, a.yc, b.xc, b.yc, c.xc, c.yc, d.xc, d.yc]
    grind
  have ey : (((xsI a b c d).2.1 : Int) : Rat) = (c.y * parQ a b c d - (d.y - c.y) * crQ a b c) * ((a.c : Rat) * b.c * c.c * d.c) := by
    unfold xsI parQ crQ
    simp only [Rat.intCast_sub, Rat.intCast_mul]
    rw [a.xc, a.yc, b.xc, b.yc, c.xc, c.yc, d.xc, d.yc]
    grind
  have eb := xs_bottom a b c d
  constructor
  · show (ptBy _ _ _ _).x = _
    rw [x1, divInt_q, ex, eb]
    exact q_fix h hm
  · show (ptBy _ _ _ _).y = _
    rw [y1, divInt_q, ey, eb]
    exact q_fix h hm
end Py
namespace Py
open PySem hiding start
open L2
theorem xs_on {a b c d : Pt} (h : parQ a b c d ≠ 0) : crQ a b (xsP a b c d h) = 0 ∧ crQ c d (xsP a b c d h) = 0 := by
  obtain ⟨x1, y1⟩ := xsP_xy h
  constructor
  · have : crQ a b (xsP a b c d h) = crQ a b c + parQ a b c d * (-(crQ a b c) / parQ a b c d) := by
      have e : ∀ z : Rat, (xsP a b c d h).x = c.x + (d.x - c.x) * z → (xsP a b c d h).y = c.y + (d.y - c.y) * z → crQ a b (xsP a b c d h) = crQ a b c + parQ a b c d * z := fun z hx hy => by
        unfold crQ parQ
        rw [hx, hy]
        grind
      exact e _ x1 y1
    rw [this]
    generalize crQ a b c = t
    grind
  · unfold crQ
    rw [x1, y1]
    grind
/-- two lines that do not go alike have one point -/
theorem xs_uniq {a b c d p q : Pt} (h : parQ a b c d ≠ 0) (h1 : crQ a b p = 0) (h2 : crQ c d p = 0) (h3 : crQ a b q = 0) (h4 : crQ c d q = 0) : p = q := by
  unfold crQ at h1 h2 h3 h4
  unfold parQ at h
  have e1 : (b.x - a.x) * (p.y - q.y) = (b.y - a.y) * (p.x - q.x) := by grind
  have e2 : (d.x - c.x) * (p.y - q.y) = (d.y - c.y) * (p.x - q.x) := by grind
  have f1 : ((b.x - a.x) * (d.y - c.y) - (b.y - a.y) * (d.x - c.x)) * (p.x - q.x) = 0 := by grind
  have f2 : ((b.x - a.x) * (d.y - c.y) - (b.y - a.y) * (d.x - c.x)) * (p.y - q.y) = 0 := by grind
  refine Pt.eq_of ?_ ?_
  · rcases Rat.mul_eq_zero.mp f1 with z | z
    · exact absurd z h
    · grind
  · rcases Rat.mul_eq_zero.mp f2 with z | z
    · exact absurd z h
    · grind
theorem par_swap1 (a b c d : Pt) : parQ b a c d = -(parQ a b c d) := by unfold parQ; grind
theorem par_swap2 (a b c d : Pt) : parQ a b d c = -(parQ a b c d) := by unfold parQ; grind
theorem par_swapS (a b c d : Pt) : parQ c d a b = -(parQ a b c d) := by unfold parQ; grind
theorem cr_flip (a b c : Pt) : crQ b a c = -(crQ a b c) := by unfold crQ; grind
def sharedM (a b c d : Pt) : List Pt :=
  let f := mx (ptLo a b) (ptLo c d)
  let l := mn (ptHi a b) (ptHi c d)
  if ahd l f then [] else if f = l then [f] else [f, l]
def xsM (a b c d : Pt) : Pt := if h : parQ a b c d ≠ 0 then xsP a b c d h else default
def meetM (a b c d : Pt) : List Pt :=
  if tn a b c = 0 ∧ tn a b d = 0 then sharedM a b c d
  else if tn a b c * tn a b d > 0 ∨ tn c d a * tn c d b > 0 then [] else [xsM a b c d]
theorem sg_cases (q : Rat) : (0 < q ∧ sg q = 1) ∨ (q < 0 ∧ sg q = -1) ∨ (q = 0 ∧ sg q = 0) := by
  unfold sg
  by_cases h1 : 0 < q
  · exact .inl ⟨h1, if_pos h1⟩
  · by_cases h2 : q < 0
    · exact .inr (.inl ⟨h2, by rw [if_neg h1, if_pos h2]⟩)
    · exact .inr (.inr ⟨by grind, by rw [if_neg h1, if_neg h2]⟩)
/-- the third case of meet: the lines cross -/
theorem par_ne {a b c d : Pt} (h1 : ¬ (tn a b c = 0 ∧ tn a b d = 0)) (h2 : ¬ (tn a b c * tn a b d > 0 ∨ tn c d a * tn c d b > 0)) : parQ a b c d ≠ 0 := fun z => by
  have e := par_eq a b c d
  rw [z] at e
  have e : crQ a b d = crQ a b c := by grind
  have e2 : tn a b d = tn a b c := by unfold tn; rw [e]
  rw [e2] at h1 h2
  rcases sg_cases (crQ a b c) with ⟨_, h⟩ | ⟨_, h⟩ | ⟨_, h⟩
  · exact h2 (.inl (by unfold tn; rw [h]; decide))
  · exact h2 (.inl (by unfold tn; rw [h]; decide))
  · exact h1 ⟨h, h⟩
theorem xsM_eq {a b c d : Pt} (h : parQ a b c d ≠ 0) : xsM a b c d = xsP a b c d h := by unfold xsM; rw [dif_pos h]
theorem xsM_on {a b c d : Pt} (h : parQ a b c d ≠ 0) : crQ a b (xsM a b c d) = 0 ∧ crQ c d (xsM a b c d) = 0 := by rw [xsM_eq h]; exact xs_on h
theorem xsM_1 (a b c d : Pt) (h : parQ a b c d ≠ 0) : xsM b a c d = xsM a b c d := by
  have h' : parQ b a c d ≠ 0 := by rw [par_swap1]; grind
  obtain ⟨u1, u2⟩ := xsM_on h'
  obtain ⟨v1, v2⟩ := xsM_on h
  rw [cr_flip] at u1
  exact xs_uniq h (by grind) u2 v1 v2
theorem xsM_2 (a b c d : Pt) (h : parQ a b c d ≠ 0) : xsM a b d c = xsM a b c d := by
  have h' : parQ a b d c ≠ 0 := by rw [par_swap2]; grind
  obtain ⟨u1, u2⟩ := xsM_on h'
  obtain ⟨v1, v2⟩ := xsM_on h
  rw [cr_flip] at u2
  exact xs_uniq h u1 (by grind) v1 v2
theorem xsM_S (a b c d : Pt) (h : parQ a b c d ≠ 0) : xsM c d a b = xsM a b c d := by
  have h' : parQ c d a b ≠ 0 := by rw [par_swapS]; grind
  obtain ⟨u1, u2⟩ := xsM_on h'
  obtain ⟨v1, v2⟩ := xsM_on h
  exact xs_uniq h u2 u1 v1 v2
theorem meet_1 (a b c d : Pt) : meetM b a c d = meetM a b c d := by
  unfold meetM
  have e1 := tn_flip a b c
  have e2 := tn_flip a b d
  have e3 : sharedM b a c d = sharedM a b c d := by unfold sharedM; rw [(lo_comm b a).1, (lo_comm b a).2]
  have c1 : (tn b a c = 0 ∧ tn b a d = 0) ↔ (tn a b c = 0 ∧ tn a b d = 0) := by rw [e1, e2]; omega
  have c2 : (tn b a c * tn b a d > 0 ∨ tn c d b * tn c d a > 0) ↔ (tn a b c * tn a b d > 0 ∨ tn c d a * tn c d b > 0) := by
    rw [e1, e2, Int.neg_mul_neg, Int.mul_comm (tn c d b)]
  simp only [c1, c2, e3]
  by_cases h1 : tn a b c = 0 ∧ tn a b d = 0
  · rw [if_pos h1, if_pos h1]
  · rw [if_neg h1, if_neg h1]
    by_cases h2 : tn a b c * tn a b d > 0 ∨ tn c d a * tn c d b > 0
    · rw [if_pos h2, if_pos h2]
    · rw [if_neg h2, if_neg h2, xsM_1 a b c d (par_ne h1 h2)]
theorem meet_2 (a b c d : Pt) : meetM a b d c = meetM a b c d := by
  unfold meetM
  have e1 := tn_flip c d a
  have e2 := tn_flip c d b
  have e3 : sharedM a b d c = sharedM a b c d := by unfold sharedM; rw [(lo_comm d c).1, (lo_comm d c).2]
  have c1 : (tn a b d = 0 ∧ tn a b c = 0) ↔ (tn a b c = 0 ∧ tn a b d = 0) := And.comm
  have c2 : (tn a b d * tn a b c > 0 ∨ tn d c a * tn d c b > 0) ↔ (tn a b c * tn a b d > 0 ∨ tn c d a * tn c d b > 0) := by
    rw [e1, e2, Int.neg_mul_neg, Int.mul_comm (tn a b d)]
  simp only [c1, c2, e3]
  by_cases h1 : tn a b c = 0 ∧ tn a b d = 0
  · rw [if_pos h1, if_pos h1]
  · rw [if_neg h1, if_neg h1]
    by_cases h2 : tn a b c * tn a b d > 0 ∨ tn c d a * tn c d b > 0
    · rw [if_pos h2, if_pos h2]
    · rw [if_neg h2, if_neg h2, xsM_2 a b c d (par_ne h1 h2)]
theorem col_S {a b c d : Pt} (hab : a ≠ b) (h : tn a b c = 0 ∧ tn a b d = 0) : tn c d a = 0 ∧ tn c d b = 0 := by
  rw [tn_zero, tn_zero] at *
  unfold crQ at *
  obtain ⟨h1, h2⟩ := h
  by_cases hx : b.x - a.x = 0
  · have hy : b.y - a.y ≠ 0 := fun z => hab (Pt.eq_of (by grind) (by grind))
    have e1 : c.x - a.x = 0 := by
      have : (b.y - a.y) * (c.x - a.x) = 0 := by rw [hx] at h1; grind
      rcases Rat.mul_eq_zero.mp this with z | z
      · exact absurd z hy
      · exact z
    have e2 : d.x - a.x = 0 := by
      have : (b.y - a.y) * (d.x - a.x) = 0 := by rw [hx] at h2; grind
      rcases Rat.mul_eq_zero.mp this with z | z
      · exact absurd z hy
      · exact z
    constructor <;> grind
  · have e1 : (b.x - a.x) * ((d.x - c.x) * (a.y - c.y) - (d.y - c.y) * (a.x - c.x)) = 0 := by grind
    have e2 : (b.x - a.x) * ((d.x - c.x) * (b.y - c.y) - (d.y - c.y) * (b.x - c.x)) = 0 := by grind
    constructor
    · rcases Rat.mul_eq_zero.mp e1 with z | z
      · exact absurd z hx
      · exact z
    · rcases Rat.mul_eq_zero.mp e2 with z | z
      · exact absurd z hx
      · exact z
theorem meet_S {a b c d : Pt} (hab : a ≠ b) (hcd : c ≠ d) : meetM c d a b = meetM a b c d := by
  unfold meetM
  have e3 : sharedM c d a b = sharedM a b c d := by unfold sharedM; rw [mx_comm, mn_comm]
  have c1 : (tn c d a = 0 ∧ tn c d b = 0) ↔ (tn a b c = 0 ∧ tn a b d = 0) := ⟨col_S hcd, col_S hab⟩
  have c2 : (tn c d a * tn c d b > 0 ∨ tn a b c * tn a b d > 0) ↔ (tn a b c * tn a b d > 0 ∨ tn c d a * tn c d b > 0) := Or.comm
  simp only [c1, c2, e3]
  by_cases h1 : tn a b c = 0 ∧ tn a b d = 0
  · rw [if_pos h1, if_pos h1]
  · rw [if_neg h1, if_neg h1]
    by_cases h2 : tn a b c * tn a b d > 0 ∨ tn c d a * tn c d b > 0
    · rw [if_pos h2, if_pos h2]
    · rw [if_neg h2, if_neg h2, xsM_S a b c d (par_ne h1 h2)]
end Py
namespace Py
open PySem hiding start
open L2
theorem tn_end (a b : Pt) : tn a b a = 0 ∧ tn a b b = 0 := by
  rw [tn_zero, tn_zero]
  unfold crQ
  constructor <;> grind
/-- what is shared along a line lies on both sides -/
theorem shared_on {a b c d : Pt} (hab : a ≠ b) (hcd : c ≠ d) (h : tn a b c = 0 ∧ tn a b d = 0) : ∀ p ∈ sharedM a b c d, onS p a b = true ∧ onS p c d = true := by
  have h' := col_S hab h
  have on0 : ∀ p, (p = a ∨ p = b ∨ p = c ∨ p = d) → tn a b p = 0 ∧ tn c d p = 0 := fun p hp => by
    rcases hp with rfl | rfl | rfl | rfl
    · exact ⟨(tn_end _ _).1, h'.1⟩
    · exact ⟨(tn_end _ _).2, h'.2⟩
    · exact ⟨h.1, (tn_end _ _).1⟩
    · exact ⟨h.2, (tn_end _ _).2⟩
  have isEnd : ∀ p, (p = mx (ptLo a b) (ptLo c d) ∨ p = mn (ptHi a b) (ptHi c d)) → (p = a ∨ p = b ∨ p = c ∨ p = d) := fun p hp => by
    have l1 := lo_or a b
    have l2 := lo_or c d
    have m1 := mx_or (ptLo a b) (ptLo c d)
    have m2 := mn_or (ptHi a b) (ptHi c d)
    rcases hp with rfl | rfl
    · rcases m1 with m | m <;> rw [m]
      · rcases l1 with ⟨e, _⟩ | ⟨e, _⟩ <;> rw [e] <;> simp
      · rcases l2 with ⟨e, _⟩ | ⟨e, _⟩ <;> rw [e] <;> simp
    · rcases m2 with m | m <;> rw [m]
      · rcases l1 with ⟨_, e⟩ | ⟨_, e⟩ <;> rw [e] <;> simp
      · rcases l2 with ⟨_, e⟩ | ⟨_, e⟩ <;> rw [e] <;> simp
  intro p hp
  unfold sharedM at hp
  by_cases z : ahd (mn (ptHi a b) (ptHi c d)) (mx (ptLo a b) (ptLo c d)) = true
  · simp only [z, if_true] at hp; cases hp
  · have hle : ale (mx (ptLo a b) (ptLo c d)) (mn (ptHi a b) (ptHi c d)) := by unfold ale; simpa using z
    have hp' : p = mx (ptLo a b) (ptLo c d) ∨ p = mn (ptHi a b) (ptHi c d) := by
      simp only [z, if_false, Bool.false_eq_true] at hp
      by_cases e : mx (ptLo a b) (ptLo c d) = mn (ptHi a b) (ptHi c d)
      · rw [if_pos e] at hp; exact .inl (List.mem_singleton.mp hp)
      · rw [if_neg e] at hp
        simpa using hp
    obtain ⟨g1, g2⟩ := mx_ge (ptLo a b) (ptLo c d)
    obtain ⟨k1, k2⟩ := mn_le (ptHi a b) (ptHi c d)
    have f : ale (mx (ptLo a b) (ptLo c d)) p ∧ ale p (mn (ptHi a b) (ptHi c d)) := by
      rcases hp' with rfl | rfl
      · exact ⟨ale_refl _, hle⟩
      · exact ⟨hle, ale_refl _⟩
    obtain ⟨o1, o2⟩ := on0 p (isEnd p hp')
    exact ⟨onS_between o1 (ale_trans g1 f.1) (ale_trans f.2 k1), onS_between o2 (ale_trans g2 f.1) (ale_trans f.2 k2)⟩
theorem frac_in {s t : Rat} (h : s - t ≠ 0) (h2 : (0 ≤ s ∧ t ≤ 0) ∨ (s ≤ 0 ∧ 0 ≤ t)) : 0 ≤ s / (s - t) ∧ s / (s - t) ≤ 1 := by
  have e : s = s / (s - t) * (s - t) := by grind
  generalize hq : s / (s - t) = q at *
  rcases h2 with ⟨a, b⟩ | ⟨a, b⟩
  · have p : 0 < s - t := by grind
    constructor
    · by_cases z : 0 ≤ q
      · exact z
      · exfalso
        have := Rat.mul_pos (show 0 < -q by grind) p
        grind
    · by_cases z : q ≤ 1
      · exact z
      · exfalso
        have := Rat.mul_pos (show 0 < q - 1 by grind) p
        grind
  · have p : 0 < t - s := by grind
    constructor
    · by_cases z : 0 ≤ q
      · exact z
      · exfalso
        have := Rat.mul_pos (show 0 < -q by grind) p
        grind
    · by_cases z : q ≤ 1
      · exact z
      · exfalso
        have := Rat.mul_pos (show 0 < q - 1 by grind) p
        grind
theorem opp {a b c d : Pt} (h : ¬ tn a b c * tn a b d > 0) : (0 ≤ crQ a b c ∧ crQ a b d ≤ 0) ∨ (crQ a b c ≤ 0 ∧ 0 ≤ crQ a b d) := by
  unfold tn at h
  rcases sg_cases (crQ a b c) with ⟨h1, e1⟩ | ⟨h1, e1⟩ | ⟨h1, e1⟩
  · rcases sg_cases (crQ a b d) with ⟨h2, e2⟩ | ⟨h2, e2⟩ | ⟨h2, e2⟩
    · rw [e1, e2] at h; exact absurd (by decide) h
    · left; constructor <;> grind
    · left; constructor <;> grind
  · rcases sg_cases (crQ a b d) with ⟨h2, e2⟩ | ⟨h2, e2⟩ | ⟨h2, e2⟩
    · right; constructor <;> grind
    · rw [e1, e2] at h; exact absurd (by decide) h
    · right; constructor <;> grind
  · rcases sg_cases (crQ a b d) with ⟨h2, e2⟩ | ⟨h2, e2⟩ | ⟨h2, e2⟩
    · right; constructor <;> grind
    · left; constructor <;> grind
    · left; constructor <;> grind
/-- the crossing lies on the second side -/
theorem xs_on2 {a b c d : Pt} (hcd : c ≠ d) (hp : parQ a b c d ≠ 0) (h : ¬ tn a b c * tn a b d > 0) : onS (xsM a b c d) c d = true := by
  rw [xsM_eq hp]
  obtain ⟨x1, y1⟩ := xsP_xy hp
  have e := par_eq a b c d
  have e2 : -(crQ a b c) / parQ a b c d = crQ a b c / (crQ a b c - crQ a b d) := by
    have : crQ a b c - crQ a b d = -(parQ a b c d) := by grind
    rw [this]
    grind
  rw [e2] at x1 y1
  rw [onS_along hcd x1 y1]
  exact decide_eq_true (frac_in (by grind) (opp h))
theorem meet_on {a b c d : Pt} (hab : a ≠ b) (hcd : c ≠ d) : ∀ p ∈ meetM a b c d, onS p a b = true ∧ onS p c d = true := by
  intro p hp
  unfold meetM at hp
  by_cases h1 : tn a b c = 0 ∧ tn a b d = 0
  · rw [if_pos h1] at hp
    exact shared_on hab hcd h1 p hp
  · rw [if_neg h1] at hp
    by_cases h2 : tn a b c * tn a b d > 0 ∨ tn c d a * tn c d b > 0
    · rw [if_pos h2] at hp; cases hp
    · rw [if_neg h2] at hp
      rw [List.mem_singleton.mp hp]
      have hp := par_ne h1 h2
      refine ⟨?_, xs_on2 hcd hp fun z => h2 (.inl z)⟩
      rw [← xsM_S a b c d hp]
      exact xs_on2 hab (by rw [par_swapS]; grind) fun z => h2 (.inr z)
theorem meet_form (a b c d : Pt) : meetM a b c d = [] ∨ (∃ p, meetM a b c d = [p]) ∨ ∃ p q, meetM a b c d = [p, q] ∧ ahd p q = true := by
  unfold meetM
  by_cases h1 : tn a b c = 0 ∧ tn a b d = 0
  · rw [if_pos h1]
    unfold sharedM
    by_cases z : ahd (mn (ptHi a b) (ptHi c d)) (mx (ptLo a b) (ptLo c d)) = true
    · simp only [z, if_true]; exact .inl trivial
    · simp only [z, if_false, Bool.false_eq_true]
      by_cases e : mx (ptLo a b) (ptLo c d) = mn (ptHi a b) (ptHi c d)
      · rw [if_pos e]; exact .inr (.inl ⟨_, rfl⟩)
      · rw [if_neg e]
        refine .inr (.inr ⟨_, _, rfl, ?_⟩)
        have := ahd_flip e
        rw [this] at z
        simpa using z
  · rw [if_neg h1]
    by_cases h2 : tn a b c * tn a b d > 0 ∨ tn c d a * tn c d b > 0
    · rw [if_pos h2]; exact .inl rfl
    · rw [if_neg h2]; exact .inr (.inl ⟨_, rfl⟩)
theorem xsM_S' {a b c d : Pt} {n : Nat} (hp : parQ a b c d ≠ 0) (sa : ptS n a) (sb : ptS n b) (sc : ptS n c) (sd : ptS n d) : ptS (4 * n + 3) (xsM a b c d) := by
  rw [xsM_eq hp]
  have u1 := nsub (nmul sa.b sb.c) (nmul sb.b sa.c)
  have u2 := nsub (nmul sb.a sa.c) (nmul sa.a sb.c)
  have u3 := nsub (nmul sa.a sb.b) (nmul sb.a sa.b)
  have v1 := nsub (nmul sc.b sd.c) (nmul sd.b sc.c)
  have v2 := nsub (nmul sd.a sc.c) (nmul sc.a sd.c)
  have v3 := nsub (nmul sc.a sd.b) (nmul sd.a sc.b)
  exact (ptB_by (n := 4 * n + 3) (xs_ne hp) (by omega) (nup (nsub (nmul u2 v3) (nmul v2 u3)) (by omega)) (nup (nsub (nmul u3 v1) (nmul v3 u1)) (by omega)) (nup (nsub (nmul u1 v2) (nmul v1 u2)) (by omega))).S
theorem meet_S4 {a b c d : Pt} {n : Nat} (sa : ptS n a) (sb : ptS n b) (sc : ptS n c) (sd : ptS n d) : ∀ p ∈ meetM a b c d, ptS (4 * n + 3) p := by
  intro p hp
  unfold meetM at hp
  by_cases h1 : tn a b c = 0 ∧ tn a b d = 0
  · rw [if_pos h1] at hp
    have e : ∀ z, (z = mx (ptLo a b) (ptLo c d) ∨ z = mn (ptHi a b) (ptHi c d)) → ptS (4 * n + 3) z := fun z hz => by
      have l1 := lo_or a b
      have l2 := lo_or c d
      have m1 := mx_or (ptLo a b) (ptLo c d)
      have m2 := mn_or (ptHi a b) (ptHi c d)
      have s : ∀ y, (y = a ∨ y = b ∨ y = c ∨ y = d) → ptS (4 * n + 3) y := fun y hy => by
        rcases hy with rfl | rfl | rfl | rfl
        · exact sa.mono (by omega)
        · exact sb.mono (by omega)
        · exact sc.mono (by omega)
        · exact sd.mono (by omega)
      refine s z ?_
      rcases hz with rfl | rfl
      · rcases m1 with m | m <;> rw [m]
        · rcases l1 with ⟨e, _⟩ | ⟨e, _⟩ <;> rw [e] <;> simp
        · rcases l2 with ⟨e, _⟩ | ⟨e, _⟩ <;> rw [e] <;> simp
      · rcases m2 with m | m <;> rw [m]
        · rcases l1 with ⟨_, e⟩ | ⟨_, e⟩ <;> rw [e] <;> simp
        · rcases l2 with ⟨_, e⟩ | ⟨_, e⟩ <;> rw [e] <;> simp
    unfold sharedM at hp
    by_cases z : ahd (mn (ptHi a b) (ptHi c d)) (mx (ptLo a b) (ptLo c d)) = true
    · simp only [z, if_true] at hp; cases hp
    · simp only [z, if_false, Bool.false_eq_true] at hp
      by_cases e2 : mx (ptLo a b) (ptLo c d) = mn (ptHi a b) (ptHi c d)
      · rw [if_pos e2] at hp; exact e p (.inl (List.mem_singleton.mp hp))
      · rw [if_neg e2] at hp
        exact e p (by simpa using hp)
  · rw [if_neg h1] at hp
    by_cases h2 : tn a b c * tn a b d > 0 ∨ tn c d a * tn c d b > 0
    · rw [if_pos h2] at hp; cases hp
    · rw [if_neg h2] at hp
      rw [List.mem_singleton.mp hp]
      exact xsM_S' (par_ne h1 h2) sa sb sc sd
theorem ptBy_self (p : Pt) : ptBy p.a p.b p.c p.c_ne = p := ptBy_eq p.c_ne rfl rfl
end Py

set_option Elab.async false
set_option linter.all false
set_option autoImplicit false
set_option maxRecDepth 100000
set_option maxHeartbeats 4000000
namespace Py
open PySem hiding start
open L2
open Evl (Ex ex_rd ex_l ex_t fresh_back)
open Classical
section
variable {K : PySem.W.Frag} {c : Ctx K} {ρ : Rho} {k : Dv → Prop} {ta tb te : TE}
theorem dpa_append' {G : Hp} : ∀ {vs us : List V} {xs ys : List PyData}, DpAll K G vs xs → DpAll K G us ys → DpAll K G (vs ++ us) (xs ++ ys)
  | _, _, _, _, .nil, h => h
  | _, _, _, _, .cons a b, h => .cons a (dpa_append' b h)
theorem dpa_len' {G : Hp} : ∀ {vs : List V} {xs : List PyData}, DpAll K G vs xs → vs.length = xs.length
  | _, _, .nil => rfl
  | _, _, .cons _ b => congrArg (· + 1) (dpa_len' b)
theorem wf_catOwn {k : List PyData → Prop} {i : Nat} {l : Addr} {xs : List PyData} (h : ρ[i]? = some (.own l xs)) (ht : Wf c tb ρ fun ys => xs.length + ys.length ≤ 100000 ∧ k (xs ++ ys)) : Wf c (tOp (rAddU K) (tVar i) tb) ρ k := fun σ H Q o q => by
  obtain ⟨vs, e1, h1, d1⟩ := o.own h
  refine ⟨_, e1, ht σ H _ o fun l2 vs2 ys H1 n2 g2 o1 s1 d2 ⟨hl, hk⟩ => ?_⟩
  have h1' : H1 l = some (.lst vs) := (s1.own l ⟨xs, List.mem_of_getElem? h⟩).trans h1
  refine .inr (.inr (.inl ⟨l, l2, vs, vs2, rfl, rfl, h1', g2, Evl.sz_of (by rw [dpa_len' d1, dpa_len' d2]; exact hl), fun p hp => ?_⟩))
  obtain ⟨o2, e2⟩ := o1.new (o := .lst (vs ++ vs2)) hp
  have nv : vis c ρ H1 p = none := by
    unfold vis
    rw [hid_neg (o1.nh hp)]; exact hp
  have hp0 : H p = none := by
    cases z : H p with
    | none => rfl
    | some ob =>
      exfalso
      by_cases hh : Hid c ρ p
      · exact o1.nh hp hh
      · have := s1.ex p ob (by unfold vis; rw [hid_neg hh]; exact z)
        rw [nv] at this; cases this
  have up : Ex (vis c ρ H1) (hid (· = p) (vis c ρ (upd H1 p (.lst (vs ++ vs2))))) := fun a u ha => by
    have na : a ≠ p := fun z => by subst z; rw [nv] at ha; cases ha
    exact (hid_neg (L := fun x => x = p) na).trans (e2.ex a u ha)
  exact q p _ _ _ hp0 upd_same o2 (s1.trans e2) (dpa_append' (dpa_mono (s1.ex.trans up) _ _ d1) (dpa_mono (hid_sub.trans up) _ _ d2)) hk
end
end Py

set_option Elab.async false
set_option linter.all false
set_option autoImplicit false
set_option maxRecDepth 100000
set_option maxHeartbeats 4000000
namespace Py
open PySem hiding start
open L2
open Evl (Ex ex_rd ex_l ex_t fresh_back)
open Classical
section
variable {K : PySem.W.Frag} {c c' : Ctx K} {ρ : Rho} {E : DE} {k : Dv → Prop} {ta tb te ti : TE}
/-! ### small rules -/
theorem rv_eqB {a b : Bool} (h : k (.d (.bool (decide (a = b))))) : Rv c (rEqD K) ρ (.d (.bool a)) (.d (.bool b)) k := rv_eqD rfl rfl (by
  have e : PyData.eqv (.bool a) (.bool b) = decide (a = b) := by cases a <;> cases b <;> rfl
  rw [e]; exact h)
theorem rv_neB {a b : Bool} (h : k (.d (.bool (!decide (a = b))))) : Rv c (rNeD K) ρ (.d (.bool a)) (.d (.bool b)) k := rv_neD rfl rfl (by
  have e : PyData.eqv (.bool a) (.bool b) = decide (a = b) := by cases a <;> cases b <;> rfl
  rw [e]; exact h)
def rIsNn : R2 := fun x y H Q => y = .non ∧ Q (.bl (decide (x = .non))) H
def rNotNn : R2 := fun x y H Q => y = .non ∧ Q (.bl (!decide (x = .non))) H
theorem op_isNn {X : Cx} : OpR X (compareOp .Is) rIsNn := op_isN
theorem op_notNn {X : Cx} : OpR X (compareOp .IsNot) rNotNn := op_notN
def nonD : PyData → Bool
  | .none => true
  | _ => false
theorem rv_isN {d : PyData} (h : k (.d (.bool (nonD d)))) : Rv c rIsNn ρ (.d d) (.d .none) k := fun σ H v u Q o d1 d2 q => by
  refine ⟨dp_non d2, q.val o (x := .d _) (?_ : Dp K _ _ (.bool (nonD d))) h⟩
  change Dp _ _ _ _ at d1
  have e : decide (v = V.non) = nonD d := by cases d1 <;> first | rfl | exact decide_eq_false (by intro z; cases z)
  rw [e]; exact Dp.bl _
theorem rv_notN {d : PyData} (h : k (.d (.bool (!nonD d)))) : Rv c rNotNn ρ (.d d) (.d .none) k := fun σ H v u Q o d1 d2 q => by
  refine ⟨dp_non d2, q.val o (x := .d _) (?_ : Dp K _ _ (.bool (!nonD d))) h⟩
  change Dp _ _ _ _ at d1
  have e : decide (v = V.non) = nonD d := by cases d1 <;> first | rfl | exact decide_eq_false (by intro z; cases z)
  rw [e]; exact Dp.bl _
theorem op_inq (K : PySem.W.Frag) {X : Cx} (h : X.K = K := by rfl) : OpR X (compareOp .In) (rIn K false) := h ▸ op_in_seq
theorem op_niq (K : PySem.W.Frag) {X : Cx} (h : X.K = K := by rfl) : OpR X (compareOp .NotIn) (rIn K true) := h ▸ op_notIn_seq
theorem inV_ints {i : Int} : ∀ {ns : List Int}, inV (.int i) (ns.map V.int) = decide (i ∈ ns)
  | [] => by simp [inV]
  | n :: ns => by
    have ih := inV_ints (i := i) (ns := ns)
    unfold inV at *
    rw [List.map_cons, List.any_cons, ih]
    have e : eqV (.int n) (.int i) = decide (n = i) := by show (n == i) = _; by_cases z : n = i <;> simp [z]
    rw [e]
    by_cases z : n = i
    · subst z; simp
    · have z' : i ≠ n := fun q => z q.symm
      simp [z, z']
theorem flat_ints : ∀ {ns : List Int}, (ns.map V.int).all flatV = true
  | [] => rfl
  | _ :: ns => by rw [List.map_cons, List.all_cons, flat_ints (ns := ns)]; rfl
theorem rv_inI {i : Int} {ns : List Int} (h : k (.d (.bool (decide (i ∈ ns))))) : Rv c (rIn K false) ρ (.d (.int i)) (.d (.list (ns.map .int))) k := fun σ H v u Q o d1 d2 q => by
  obtain rfl := dp_int d1
  change Dp _ _ _ _ at d2
  cases d2 with
  | lst hs ha =>
    have e := dpa_ints ha
    subst e
    refine ⟨_, _, rfl, .inl (ex_l hid_sub hs), rfl, flat_ints, ?_⟩
    rw [if_neg Bool.false_ne_true, inV_ints]
    exact q.val o (x := .d _) (Dp.bl _) h
theorem rv_niI {i : Int} {ns : List Int} (h : k (.d (.bool (!decide (i ∈ ns))))) : Rv c (rIn K true) ρ (.d (.int i)) (.d (.list (ns.map .int))) k := fun σ H v u Q o d1 d2 q => by
  obtain rfl := dp_int d1
  change Dp _ _ _ _ at d2
  cases d2 with
  | lst hs ha =>
    have e := dpa_ints ha
    subst e
    refine ⟨_, _, rfl, .inl (ex_l hid_sub hs), rfl, flat_ints, ?_⟩
    rw [if_pos rfl, inV_ints]
    exact q.val o (x := .d _) (Dp.bl _) h
/-! ### a list of one's own changes -/
theorem Ok.chg {σ : L2.St} {H : Hp} (o : Ok c ρ σ H) {i : Nat} {l : Addr} {xs xs' : List PyData} {vs' : List V} (h : ρ[i]? = some (.own l xs)) (d : DpAll K (vis c ρ H) vs' xs') : Ok c (ρ.set i (.own l xs')) σ (upd H l (.lst vs')) := by
  obtain ⟨vs, e1, h1, d1⟩ := o.own h
  have ol : Owns ρ l := ⟨xs, List.mem_of_getElem? h⟩
  have nl : ¬ c.L l := (o.ob l ol).2
  have ow1 : ∀ a, Owns (ρ.set i (.own l xs')) a → Owns ρ a := fun a z => by
    rcases owns_set z with q | ⟨ys, q⟩
    · exact q
    · cases q; exact ol
  have ev : Ex (vis c ρ H) (vis c (ρ.set i (.own l xs')) (upd H l (.lst vs'))) := fun b ob z => by
    obtain ⟨n1, z⟩ := hid_some z
    have nb : b ≠ l := fun q => n1 (.inr (q ▸ ol))
    exact (hid_neg fun q => n1 (q.imp id (ow1 b))).trans ((upd_ne nb).trans z)
  refine ⟨c.loc _ _ (fun a z => upd_ne fun q => nl (q ▸ z)) (tp_lst h1) o.w, (o.base.trans ev).trans vis_out, fun a z => o.ob a (ow1 a z), fun j s hs => ?_, fun j j' a ys zs hs hs' => ?_, by simp [o.len]⟩
  · rcases List_set_get hs with ⟨rfl, rfl, _⟩ | ⟨ne, hs⟩
    · exact ⟨some (.ref l), e1, _, rfl, upd_same, vs', rfl, dpa_mono ev _ _ d⟩
    · obtain ⟨u, q, z⟩ := o.sl j s hs
      refine ⟨u, q, ?_⟩
      cases s with
      | un => trivial
      | val y => obtain ⟨w, e1, e2⟩ := z; exact ⟨w, e1, dv_mono ev e2⟩
      | own m ys =>
        obtain ⟨ws, e1, e2, e3⟩ := z
        have nm : m ≠ l := fun q => ne (o.one i j l xs ys h (q ▸ hs))
        exact ⟨ws, e1, (upd_ne nm).trans e2, own_mono ev _ _ e3⟩
  · rcases List_set_get hs with ⟨r1, q1, _⟩ | ⟨ne, hs⟩
    · rcases List_set_get hs' with ⟨r2, q2, _⟩ | ⟨ne', hs'⟩
      · exact r1.symm.trans r2
      · cases q1
        exact (r1.symm.trans (o.one i j' l xs _ h hs'))
    · rcases List_set_get hs' with ⟨r2, q2, _⟩ | ⟨ne', hs'⟩
      · cases q2
        exact ((o.one i j l xs _ h hs).symm.trans r2)
      · exact o.one _ _ _ _ _ hs hs'
theorem dpa_single {G : Hp} {v : V} {d : PyData} (h : Dp K G v d) : DpAll K G [v] [d] := .cons h .nil
theorem dpa_rev {G : Hp} : ∀ {vs : List V} {ds : List PyData}, DpAll K G vs ds → DpAll K G vs.reverse ds.reverse
  | _, _, .nil => .nil
  | _, _, .cons h t => by
    rw [List.reverse_cons, List.reverse_cons]
    exact dpa_app (dpa_rev t) (.cons h .nil)
/-- xs[j] op= n -/
theorem ws_augOwn {f : Int → Int → Int} {i : Nat} {l : Addr} {xs : List PyData} (h : ρ[i]? = some (.own l xs)) (ht : We c ti ρ fun z => ∃ j n old, z = .d (.int j) ∧ ixN xs.length j = some n ∧ xs[n]? = some (.int old) ∧
    We c te ρ fun y => ∃ m, y = .d (.int m) ∧ E.nx (ρ.set i (.own l (xs.set n (.int (f old m)))))) : Ws c (tAugS (tVar i) ti te (rIxL K) (ipI f) rSetL) ρ E := fun D σ H e o => by
  obtain ⟨vs, e1, h1, d1⟩ := o.own h
  have ol : Owns ρ l := ⟨xs, List.mem_of_getElem? h⟩
  refine ⟨_, e1, ht σ H _ o fun v z H1 o1 s1 dz ⟨j, n, old, hz, hn, ho, hm⟩ => ?_⟩
  subst hz
  obtain rfl := dp_int dz
  have h1' : H1 l = some (.lst vs) := (s1.own l ol).trans h1
  have ha : atI xs j = some (.int old) := by unfold atI; rw [hn]; exact ho
  obtain ⟨w, e2, e3⟩ := dpa_atI (dpa_mono s1.ex _ _ d1) ha
  obtain rfl := dp_int e3
  refine ⟨l, vs, j, _, rfl, rfl, .inl (.inl h1'), e2, hm σ H1 _ o1 fun u y H2 o2 s2 dy ⟨m, hy, n2⟩ => ?_⟩
  subst hy
  obtain rfl := dp_int dy
  have h2 : H2 l = some (.lst vs) := (s2.own l ol).trans h1'
  refine ⟨_, _, rfl, rfl, l, vs, j, n, rfl, rfl, h2, by rw [dpa_len d1]; exact hn, e.nx _ _ _ (o2.chg h ?_) n2⟩
  exact dpa_set (Dp.int _) n (dpa_mono (s1.ex.trans s2.ex) _ _ d1)
/-- xs[j] = e -/
theorem ws_setOwn {i : Nat} {l : Addr} {xs : List PyData} (h : ρ[i]? = some (.own l xs)) (ht : We c te ρ fun y => ∃ d, y = .d d ∧ We c ti ρ fun z => ∃ j n, z = .d (.int j) ∧ ixN xs.length j = some n ∧ E.nx (ρ.set i (.own l (xs.set n d)))) :
    Ws c (tAsg te (gSub (tVar i) ti rSetL)) ρ E := fun D σ H e o => by
  obtain ⟨vs, e1, h1, d1⟩ := o.own h
  have ol : Owns ρ l := ⟨xs, List.mem_of_getElem? h⟩
  refine ht σ H _ o fun v y H1 o1 s1 dy ⟨d, hy, hi⟩ => ⟨_, e1, hi σ H1 _ o1 fun u z H2 o2 s2 dz ⟨j, n, hz, hn, n2⟩ => ?_⟩
  subst hy hz
  obtain rfl := dp_int dz
  have h2 : H2 l = some (.lst vs) := (s2.own l ol).trans ((s1.own l ol).trans h1)
  refine ⟨l, vs, j, n, rfl, rfl, h2, by rw [dpa_len d1]; exact hn, e.nx _ _ _ (o2.chg h ?_) n2⟩
  exact dpa_set (dp_mono s2.ex _ _ dy) n (dpa_mono (s1.ex.trans s2.ex) _ _ d1)
theorem ws_revOwn {i : Nat} {l : Addr} {xs : List PyData} (h : ρ[i]? = some (.own l xs)) (n : E.nx (ρ.set i (.own l xs.reverse))) : Ws c (tDrop (tBM0 K "list" rReverse (tVar i))) ρ E := fun D σ H e o => by
  obtain ⟨vs, e1, h1, d1⟩ := o.own h
  exact ⟨_, e1, .inl ⟨rfl, _, .inl (.inl h1)⟩, l, vs, rfl, rfl, h1, e.nx _ _ _ (o.chg h (dpa_rev d1)) n⟩
theorem ws_clearOwn {i : Nat} {l : Addr} {xs : List PyData} (h : ρ[i]? = some (.own l xs)) (n : E.nx (ρ.set i (.own l (.l [])))) : Ws c (tDrop (tBM0 K "list" rClear (tVar i))) ρ E := fun D σ H e o => by
  obtain ⟨vs, e1, h1, d1⟩ := o.own h
  exact ⟨_, e1, .inl ⟨rfl, _, .inl (.inl h1)⟩, l, vs, rfl, rfl, h1, e.nx _ _ _ (o.chg h .nil) n⟩
def rInsert : V → List V → Hp → VK → Prop := fun x vs H Q => ∃ (l : Addr) (xs : List V) (i : Int) (y : V), x = .ref l ∧ vs = [.int i, y] ∧ H l = some (.lst xs) ∧ xs.length < sizeLine ∧ 0 ≤ i ∧ i < 2 ^ 63 ∧ Q .non (upd H l (.lst (xs.take i.toNat ++ [y] ++ xs.drop i.toNat)))
theorem mt_insert1 {X : Cx} : MtR X "list.insert" rInsert := mt_insert
theorem ws_insOwn {i : Nat} {l : Addr} {xs : List PyData} {t : TA} (h : ρ[i]? = some (.own l xs)) (hz : xs.length < 100000) (ht : Wa c t ρ fun ys => ∃ j d, ys = [.d (.int j), .d d] ∧ 0 ≤ j ∧ j < 2 ^ 63 ∧ E.nx (ρ.set i (.own l (xs.take j.toNat ++ [d] ++ xs.drop j.toNat)))) :
    Ws c (tDrop (tBM K "list" rInsert (tVar i) t)) ρ E := fun D σ H e o => by
  obtain ⟨vs, e1, h1, d1⟩ := o.own h
  have ol : Owns ρ l := ⟨xs, List.mem_of_getElem? h⟩
  refine ⟨_, e1, .inl ⟨rfl, _, .inl (.inl h1)⟩, ht σ H _ o fun us ys H1 o1 s1 dy ⟨j, d, hy, j0, j1, n⟩ => ?_⟩
  subst hy
  cases dy with
  | cons a1 a2 =>
  cases a2 with
  | cons a2 a3 =>
  cases a3
  obtain rfl := dp_int a1
  have h1' : H1 l = some (.lst vs) := (s1.own l ol).trans h1
  have d1' := dpa_mono s1.ex _ _ d1
  exact ⟨l, vs, j, _, rfl, rfl, h1', Evl.sz_lt (by rw [dpa_len d1]; exact hz), j0, j1, e.nx _ _ _ (o1.chg h (dpa_app (dpa_app (dpa_take _ d1') (.cons a2 .nil)) (dpa_drop _ d1'))) n⟩
end
/-! ### bounds by themselves -/
theorem nsubm {a b : Int} {n m : Nat} (ha : a.natAbs < 2 ^ n) (hb : b.natAbs < 2 ^ m) : (a - b).natAbs < 2 ^ (max n m + 1) := nsub (nup ha (Nat.le_max_left ..)) (nup hb (Nat.le_max_right ..))
theorem naddm {a b : Int} {n m : Nat} (ha : a.natAbs < 2 ^ n) (hb : b.natAbs < 2 ^ m) : (a + b).natAbs < 2 ^ (max n m + 1) := nadd (nup ha (Nat.le_max_left ..)) (nup hb (Nat.le_max_right ..))
theorem nnegm {a : Int} {n : Nat} (ha : a.natAbs < 2 ^ n) : (-a).natAbs < 2 ^ n := by rw [Int.natAbs_neg]; exact ha
theorem nlitN (n : Nat) : (@OfNat.ofNat Int n (@instOfNat n)).natAbs < 2 ^ (n.log2 + 1) := Nat.lt_log2_self
theorem nlit (i : Int) : i.natAbs < 2 ^ (i.natAbs.log2 + 1) := Nat.lt_log2_self
end Py

set_option Elab.async false
set_option linter.all false
set_option autoImplicit false
set_option exponentiation.threshold 20000
namespace Py
open PySem hiding start
open L2
/-! ### what two sides share, whole -/
theorem onS_iff {p a b : Pt} : onS p a b = true ↔ tn a b p = 0 ∧ ale (ptLo a b) p ∧ ale p (ptHi a b) := by
  unfold onS ptLo ptHi ale
  by_cases h : tn a b p = 0
  · rw [if_neg (by simpa using h)]
    by_cases z : ahd b a = true
    · rw [if_pos z, if_pos z, if_pos z]; simp [h]
    · rw [if_neg z, if_neg z, if_neg z]; simp [h]
  · rw [if_pos h]; simp [h]
def touchM (a b c d : Pt) : Bool :=
  if onS a c d || onS b c d || onS c a b || onS d a b then true
  else if 0 ≤ tn a b c * tn a b d then false else decide (tn c d a * tn c d b < 0)
def partM (a b c d : Pt) : List Pt :=
  if mx (ptLo c d) (ptLo a b) = mn (ptHi a b) (ptHi c d) then [mx (ptLo c d) (ptLo a b)] else [mx (ptLo c d) (ptLo a b), mn (ptHi a b) (ptHi c d)]
theorem lo_ends (a b : Pt) : (ale (ptLo a b) a ∧ ale (ptLo a b) b) ∧ ale a (ptHi a b) ∧ ale b (ptHi a b) := by
  have h := lo_le a b
  rcases lo_or a b with ⟨e1, e2⟩ | ⟨e1, e2⟩ <;> rw [e1, e2] at h ⊢
  · exact ⟨⟨ale_refl _, h⟩, h, ale_refl _⟩
  · exact ⟨⟨h, ale_refl _⟩, ale_refl _, h⟩
theorem touch_no {a b c d : Pt} (hab : a ≠ b) (hcd : c ≠ d) (h : touchM a b c d = false) : meetM a b c d = [] := by
  unfold touchM at h
  by_cases t : (onS a c d || onS b c d || onS c a b || onS d a b) = true
  · rw [if_pos t] at h; cases h
  rw [if_neg t] at h
  simp only [Bool.or_eq_true, not_or, Bool.not_eq_true] at t
  obtain ⟨⟨⟨n1, n2⟩, n3⟩, n4⟩ := t
  by_cases h1 : tn a b c = 0 ∧ tn a b d = 0
  · unfold meetM
    rw [if_pos h1]
    unfold sharedM
    obtain ⟨z1, z2⟩ := col_S hab h1
    by_cases z : ahd (mn (ptHi a b) (ptHi c d)) (mx (ptLo a b) (ptLo c d)) = true
    · simp only [z, if_true]
    · exfalso
      have hle : ale (mx (ptLo a b) (ptLo c d)) (mn (ptHi a b) (ptHi c d)) := by unfold ale; simpa using z
      obtain ⟨g1, g2⟩ := mx_ge (ptLo a b) (ptLo c d)
      obtain ⟨k1, k2⟩ := mn_le (ptHi a b) (ptHi c d)
      rcases mx_or (ptLo a b) (ptLo c d) with e | e <;> rw [e] at hle g1 g2
      · rcases lo_or a b with ⟨q, _⟩ | ⟨q, _⟩ <;> rw [q] at hle g2
        · rw [onS_iff.mpr ⟨z1, g2, ale_trans hle k2⟩] at n1; cases n1
        · rw [onS_iff.mpr ⟨z2, g2, ale_trans hle k2⟩] at n2; cases n2
      · rcases lo_or c d with ⟨q, _⟩ | ⟨q, _⟩ <;> rw [q] at hle g1
        · rw [onS_iff.mpr ⟨h1.1, g1, ale_trans hle k1⟩] at n3; cases n3
        · rw [onS_iff.mpr ⟨h1.2, g1, ale_trans hle k1⟩] at n4; cases n4
  · by_cases h2 : tn a b c * tn a b d > 0 ∨ tn c d a * tn c d b > 0
    · unfold meetM
      rw [if_neg h1, if_pos h2]
    · exfalso
      have hm := meet_on hab hcd (xsM a b c d) (by unfold meetM; rw [if_neg h1, if_neg h2]; simp)
      have hp := par_ne h1 h2
      obtain ⟨x1, x2⟩ := xsM_on hp
      have un : ∀ p, crQ a b p = 0 → crQ c d p = 0 → onS p a b = true ∧ onS p c d = true := fun p q1 q2 => by
        have := xs_uniq hp q1 q2 x1 x2
        rw [this]; exact hm
      have ends := tn_end a b
      have ends' := tn_end c d
      by_cases h3 : tn a b c * tn a b d = 0
      · rcases Int.mul_eq_zero.mp h3 with q | q
        · rw [(un c (tn_zero.mp q) (tn_zero.mp ends'.1)).1] at n3; cases n3
        · rw [(un d (tn_zero.mp q) (tn_zero.mp ends'.2)).1] at n4; cases n4
      · by_cases h4 : tn c d a * tn c d b = 0
        · rcases Int.mul_eq_zero.mp h4 with q | q
          · rw [(un a (tn_zero.mp ends.1) (tn_zero.mp q)).2] at n1; cases n1
          · rw [(un b (tn_zero.mp ends.2) (tn_zero.mp q)).2] at n2; cases n2
        · rw [if_neg (by omega)] at h
          have := of_decide_eq_false h
          omega
theorem mx_le {p q r : Pt} (h1 : ale p r) (h2 : ale q r) : ale (mx p q) r := by rcases mx_or p q with e | e <;> rw [e] <;> assumption
theorem le_mn {p q r : Pt} (h1 : ale r p) (h2 : ale r q) : ale r (mn p q) := by rcases mn_or p q with e | e <;> rw [e] <;> assumption
theorem touch_along {a b c d : Pt} (h : touchM a b c d = true) (h1 : tn a b c = 0 ∧ tn a b d = 0) : meetM a b c d = partM a b c d := by
  have hle : ale (mx (ptLo a b) (ptLo c d)) (mn (ptHi a b) (ptHi c d)) := by
    unfold touchM at h
    have key : ∀ p, ale (ptLo a b) p → ale p (ptHi a b) → ale (ptLo c d) p → ale p (ptHi c d) → ale (mx (ptLo a b) (ptLo c d)) (mn (ptHi a b) (ptHi c d)) := fun p q1 q2 q3 q4 => ale_trans (mx_le q1 q3) (le_mn q2 q4)
    obtain ⟨⟨l1, l2⟩, l3, l4⟩ := lo_ends a b
    obtain ⟨⟨m1, m2⟩, m3, m4⟩ := lo_ends c d
    by_cases t : (onS a c d || onS b c d || onS c a b || onS d a b) = true
    · simp only [Bool.or_eq_true] at t
      rcases t with ((t | t) | t) | t
      · obtain ⟨_, u, v⟩ := onS_iff.mp t; exact key a l1 l3 u v
      · obtain ⟨_, u, v⟩ := onS_iff.mp t; exact key b l2 l4 u v
      · obtain ⟨_, u, v⟩ := onS_iff.mp t; exact key c u v m1 m3
      · obtain ⟨_, u, v⟩ := onS_iff.mp t; exact key d u v m2 m4
    · rw [if_neg t, h1.1, h1.2] at h
      simp at h
  unfold meetM
  rw [if_pos h1]
  unfold sharedM partM
  have z : ahd (mn (ptHi a b) (ptHi c d)) (mx (ptLo a b) (ptLo c d)) = false := hle
  rw [mx_comm (ptLo c d)]
  simp only [z, if_false, Bool.false_eq_true]
theorem on_t {c d p : Pt} (hcd : c ≠ d) (h : crQ c d p = 0) : ∃ t : Rat, p.x = c.x + (d.x - c.x) * t ∧ p.y = c.y + (d.y - c.y) * t := by
  unfold crQ at h
  by_cases z : d.x - c.x = 0
  · have hy : d.y - c.y ≠ 0 := fun z2 => hcd (by
      refine Pt.eq_of ?_ ?_ <;> grind)
    refine ⟨(p.y - c.y) / (d.y - c.y), ?_, ?_⟩
    · have : (d.y - c.y) * (p.x - c.x) = 0 := by grind
      rcases Rat.mul_eq_zero.mp this with q | q
      · exact absurd q hy
      · grind
    · have : (p.y - c.y) / (d.y - c.y) * (d.y - c.y) = p.y - c.y := by grind
      grind
  · refine ⟨(p.x - c.x) / (d.x - c.x), ?_, ?_⟩
    · have : (p.x - c.x) / (d.x - c.x) * (d.x - c.x) = p.x - c.x := by grind
      grind
    · have e : (p.x - c.x) / (d.x - c.x) * (d.x - c.x) = p.x - c.x := by grind
      generalize (p.x - c.x) / (d.x - c.x) = t at *
      have : (d.x - c.x) * (p.y - (c.y + (d.y - c.y) * t)) = 0 := by grind
      rcases Rat.mul_eq_zero.mp this with q | q
      · exact absurd q z
      · grind
theorem on_mid {u v c d p : Pt} (hcd : c ≠ d) (h : onS p c d = true) (h0 : crQ u v p = 0) : ¬ tn u v c * tn u v d > 0 := by
  obtain ⟨h1, _, _⟩ := onS_iff.mp h
  obtain ⟨t, x1, y1⟩ := on_t hcd (tn_zero.mp h1)
  rw [onS_along hcd x1 y1] at h
  obtain ⟨t0, t1⟩ := of_decide_eq_true h
  have e : crQ u v p = crQ u v c + (crQ u v d - crQ u v c) * t := by unfold crQ; rw [x1, y1]; grind
  rw [h0] at e
  unfold tn
  intro hh
  rcases sg_cases (crQ u v c) with ⟨a1, e1⟩ | ⟨a1, e1⟩ | ⟨a1, e1⟩ <;> rcases sg_cases (crQ u v d) with ⟨a2, e2⟩ | ⟨a2, e2⟩ | ⟨a2, e2⟩ <;> rw [e1, e2] at hh
  all_goals first
    | (exact absurd hh (by decide))
    | skip
  · have p1 : 0 ≤ crQ u v c * (1 - t) := Rat.mul_nonneg (by grind) (by grind)
    by_cases z : t = 1
    · subst z; grind
    · have : 0 < crQ u v c * (1 - t) := Rat.mul_pos a1 (by grind)
      have : 0 ≤ crQ u v d * t := Rat.mul_nonneg (by grind) (by grind)
      grind
  · have a1 : 0 < -(crQ u v c) := by grind
    have a2 : 0 < -(crQ u v d) := by grind
    by_cases z : t = 1
    · subst z; grind
    · have : 0 < -(crQ u v c) * (1 - t) := Rat.mul_pos a1 (by grind)
      have : 0 ≤ -(crQ u v d) * t := Rat.mul_nonneg (by grind) (by grind)
      grind
theorem touch_cross {a b c d : Pt} (hab : a ≠ b) (hcd : c ≠ d) (h : touchM a b c d = true) (h1 : ¬ (tn a b c = 0 ∧ tn a b d = 0)) : meetM a b c d = [xsM a b c d] := by
  have ends := tn_end a b
  have ends' := tn_end c d
  have n : ¬ (tn a b c * tn a b d > 0 ∨ tn c d a * tn c d b > 0) := by
    unfold touchM at h
    by_cases t : (onS a c d || onS b c d || onS c a b || onS d a b) = true
    · simp only [Bool.or_eq_true] at t
      rcases t with ((t | t) | t) | t
      · have q := (onS_iff.mp t).1
        have := on_mid (u := a) (v := b) hcd t (tn_zero.mp ends.1)
        rw [q]; omega
      · have q := (onS_iff.mp t).1
        have := on_mid (u := a) (v := b) hcd t (tn_zero.mp ends.2)
        rw [q]; omega
      · have q := (onS_iff.mp t).1
        have := on_mid (u := c) (v := d) hab t (tn_zero.mp ends'.1)
        rw [q]; omega
      · have q := (onS_iff.mp t).1
        have := on_mid (u := c) (v := d) hab t (tn_zero.mp ends'.2)
        rw [q]; omega
    · rw [if_neg t] at h
      by_cases z : 0 ≤ tn a b c * tn a b d
      · rw [if_pos z] at h; cases h
      · rw [if_neg z] at h
        have := of_decide_eq_true h
        omega
  unfold meetM
  rw [if_neg h1, if_neg n]
theorem tn_small (a b c : Pt) : (tn a b c).natAbs < 2 ^ 2 := by
  unfold tn
  rcases sg_cases (crQ a b c) with ⟨_, h⟩ | ⟨_, h⟩ | ⟨_, h⟩ <;> rw [h] <;> decide
end Py

set_option Elab.async false
set_option linter.all false
set_option autoImplicit false
set_option maxRecDepth 100000
set_option maxHeartbeats 4000000
namespace Py
open PySem hiding start
open PySem.Spec PyProof.Rows
open L2
open Classical
/-! ### zip over lists and tuples, mixed -/
def SqB (K : PySem.W.Frag) (t : Bool) (H : Hp) (a : Addr) (xs : List V) : Prop := match t with | true => SqT K H a xs | false => SqL K H a xs
def IterB (t : Bool) (h : Heap) (it a : Addr) (i : Nat) : Prop := match t with | true => h.IsTupleIter it a i | false => h.IsListIter it a i
def SeqB (t : Bool) (h : Heap) (a : Addr) (its : Array Value) : Prop := match t with | true => h.IsTuple a its | false => h.IsList a its
def iterO (t : Bool) (a : Addr) : Obj := match t with | true => { cls := .type "tuple_iterator", data := .fields #[.ref a, .int 0 0] } | false => { cls := .type "list_iterator", data := .fields #[.ref a, .int 0 0] }
def ItzB (K : PySem.W.Frag) (t1 t2 : Bool) (a b : Addr) : It :=
  ⟨fun i H => ∃ (xs ys : List V) (x y : V), SqB K t1 H a xs ∧ SqB K t2 H b ys ∧ xs[i]? = some x ∧ ys[i]? = some y,
    fun i H v H' => ∃ T x y, v = .ref T ∧ H T = none ∧ H' = upd H T (.tup [x, y]) ∧ (∀ xs, SqB K t1 H a xs → xs[i]? = some x) ∧ ∀ ys, SqB K t2 H b ys → ys[i]? = some y,
    fun i H => ∃ xs ys : List V, SqB K t1 H a xs ∧ SqB K t2 H b ys ∧ ((xs.length = i ∧ i ≤ ys.length) ∨ (ys.length = i ∧ i ≤ xs.length))⟩
theorem drawsB {prog : Program} {w : World} {A : Around} (t : Bool) (hh : A.handled = none) (it a : Addr) (hne : a ≠ it) (items : Array Value) :
    Draws prog w A it [it, a] items.size (fun i v => items[i]? = some v) (fun i h => IterB t h it a i ∧ SeqB t h a items) := by
  cases t
  · exact Draws.list hh it a hne items
  · exact Draws.tuple hh it a hne items
theorem beginsB (t : Bool) (a : Addr) (items : Array Value) : Begins (.ref a) (iterO t a) fun h => SeqB t h a items := by
  cases t
  · exact begins_list a items
  · exact begins_tuple a items
theorem seqB {X : Cx} {pins : List (Addr × Obj)} {σ : L2.St} {H : Hp} {s : Shared} (I : Inv X pins σ H s) {t : Bool} {a : Addr} {xs : List V} (h : SqB X.K t H a xs) :
    ∃ its : List Value, Vals xs its ∧ SeqB t s.heap a its.toArray ∧ a < s.heap.objs.size := by
  cases t
  · obtain ⟨its, rv, p, _⟩ := I.list h
    exact ⟨its, rv, p.isList, p.lt⟩
  · obtain ⟨its, rv, p, _⟩ := I.tuple h
    obtain ⟨o, ho, _⟩ := id p
    exact ⟨its, rv, p, Heap.lt_size ho⟩
theorem iterB_at {t : Bool} {h h' : Heap} {it a : Addr} {i : Nat} (x : IterB t h it a i) (k : ∀ o, h.get? it = some o → h'.get? it = some o) : IterB t h' it a i := by
  cases t
  · exact Heap.IsListIter.at x k
  · exact Heap.IsTupleIter.at x k
theorem iterB_obj {t : Bool} {h : Heap} {it a : Addr} {i : Nat} (x : IterB t h it a i) : ∃ o, h.get? it = some o ∧ ∀ v, o.data ≠ .cell v := by
  cases t
  · obtain ⟨o, e, _, d⟩ := x; exact ⟨o, e, fun v q => by rw [d] at q; cases q⟩
  · obtain ⟨o, e, _, d⟩ := x; exact ⟨o, e, fun v q => by rw [d] at q; cases q⟩
theorem iterB_new {t : Bool} {h : Heap} {it a : Addr} (x : h.get? it = some (iterO t a)) : IterB t h it a 0 := by
  cases t
  · exact ⟨_, x, rfl, rfl⟩
  · exact ⟨_, x, rfl, rfl⟩
theorem sqB_inj {X : Cx} {pins : List (Addr × Obj)} {σ : L2.St} {H : Hp} {s : Shared} (I : Inv X pins σ H s) {t : Bool} {a : Addr} {xs ys : List V} (h : SqB X.K t H a xs) (h' : SqB X.K t H a ys) : xs = ys := by
  cases t
  · exact I.list_inj h h'
  · exact I.tuple_inj h h'
theorem sep_of {z TI TO i1 i2 a b : Addr} (D : ZipApart z TI TO i1 i2 a b) : ZipSep2 z TI TO i1 i2 [i1, a] [i2, b] where
  TIz := D.TIz
  TOz := D.TOz
  TITO := D.TITO
  TIi1 := D.TIi1
  mem1 := by simp
  zf1 := by simp only [List.mem_cons, List.not_mem_nil, or_false, not_or]; exact ⟨D.i1z.symm, D.l1z.symm⟩
  Tf1 := by simp only [List.mem_cons, List.not_mem_nil, or_false, not_or]; exact ⟨D.TOi1, D.l1TO.symm⟩
  TIi2 := D.TIi2
  mem2 := by simp
  zf2 := by simp only [List.mem_cons, List.not_mem_nil, or_false, not_or]; exact ⟨D.i2z.symm, D.l2z.symm⟩
  Tf2 := by simp only [List.mem_cons, List.not_mem_nil, or_false, not_or]; exact ⟨D.TOi2, D.l2TO.symm⟩
  sep1_2 := by simp only [List.mem_cons, List.not_mem_nil, or_false, not_or]; exact ⟨D.i12, D.l2i1.symm⟩
  sep2_1 := by simp only [List.mem_cons, List.not_mem_nil, or_false, not_or]; exact ⟨D.i12.symm, D.l1i2.symm⟩
theorem turn_zipB {P : Program} {w : World} {K : PySem.W.Frag} {elts : List Expr} {kk : Nat} {tpos : Pos} {a b z TI TO i1 i2 : Addr} (t1 t2 : Bool) (D : ZipApart z TI TO i1 i2 a b) :
    Turn P w K (.Tuple elts kk tpos) (ItzB K t1 t2 a b) [z, TI, TO, i1, i2] z (fun i h => IsZip h z TI TO .none ∧ IsPair h TI (.ref i1) (.ref i2) ∧ (∃ x y, IsPair h TO x y) ∧ IterB t1 h i1 a i ∧ IterB t2 h i2 b i) where
  mem := by simp
  obj := fun i h st c hc => by
    obtain ⟨hz, hTI, ⟨x, y, hTO⟩, h1, h2⟩ := st
    have e' : c = z ∨ c = TI ∨ c = TO ∨ c = i1 ∨ c = i2 := by simpa using hc
    rcases e' with q | q | q | q | q
    · rw [q]; exact ⟨_, hz, fun v q => nomatch q⟩
    · rw [q]; exact ⟨_, hTI, fun v q => nomatch q⟩
    · rw [q]; exact ⟨_, hTO, fun v q => nomatch q⟩
    · rw [q]; exact iterB_obj h1
    · rw [q]; exact iterB_obj h2
  keep := fun i h h' st k => by
    obtain ⟨hz, hTI, ⟨x, y, hTO⟩, h1, h2⟩ := st
    exact ⟨k z (by simp) _ hz, k TI (by simp) _ hTI, ⟨x, y, k TO (by simp) _ hTO⟩, iterB_at h1 fun o q => k i1 (by simp) o q, iterB_at h2 fun o q => k i2 (by simp) o q⟩
  item := by
    intro X hP hw hK hc i pins s σ H E I hf st hg
    subst hP hw hK
    obtain ⟨hz, hTI, ⟨x0, y0, hTO⟩, h1, h2⟩ := st
    obtain ⟨xs, ys, x, y, hqx, hqy, hx, hy⟩ := hg
    obtain ⟨its, rv, p, _⟩ := seqB I hqx
    obtain ⟨its2, rv2, p2, _⟩ := seqB I hqy
    obtain ⟨u, hu, ru⟩ := rv.get hx
    obtain ⟨u2, hu2, ru2⟩ := rv2.get hy
    have hzl : z < s.heap.objs.size := Heap.lt_size hz
    have hl1 : i < its.toArray.size := by simpa using (List.getElem?_eq_some_iff.mp hu).1
    have hl2 : i < its2.toArray.size := by simpa using (List.getElem?_eq_some_iff.mp hu2).1
    have D1 := drawsB (prog := X.prog) (w := X.w) (A := X.A.in1) t1 (show X.A.in1.handled = none from I.ok.hd hc) i1 a D.l1i1 its.toArray
    have D2 := drawsB (prog := X.prog) (w := X.w) (A := X.A.in1) t2 (show X.A.in1.handled = none from I.ok.hd hc) i2 b D.l2i2 its2.toArray
    refine wpAny_pyNext_zipD2_item (sep_of D) D1 D2 hz hTI hTO ⟨h1, p⟩ ⟨h2, p2⟩ hl1 hl2 fun v1 v2 h' tk w1 w2 z' TO' g1 g2 hT hsz hk => ?_
    have e1 : v1 = u := by simpa [hu] using w1.symm
    have e2 : v2 = u2 := by simpa [hu2] using w2.symm
    subst e1 e2
    refine ⟨_, rfl, wpAny_letOwnedTupleGo_zip (s := { s with heap := h', toks := tk }) z' fun h'' z'' sb => ?_⟩
    have hT2 : h''.get? s.heap.objs.size = some { cls := .type "tuple", data := .seq #[v1, v2] } := (sb.2 _ (Nat.ne_of_gt hzl)).trans hT
    have new : ObjOk X.prog X.w (upd H s.heap.objs.size (.tup [x, y])) h'' s.heap.objs.size (.tup [x, y]) :=
      ⟨by show 2 ≤ sizeLine; decide, [v1, v2], .cons ru (.cons ru2 .nil), ⟨_, hT2, rfl, _, rfl⟩⟩
    have I1 : Inv X pins σ (upd H s.heap.objs.size (.tup [x, y])) { s with heap := h'', toks := tk } :=
      I.turnedNew (t' := tk) (ch := [z, TI, TO, i1, i2]) (fun c o hb q => (sb.2 c (fun q' => hb (by simp [q']))).trans (hk c o (fun q' => hb (by simp [q'])) (fun q' => hb (by simp [q'])) (fun q' => hb (by simp [q'])) (fun q' => hb (by simp [q'])) q)) hf (Nat.le_refl _) new
    refine ⟨.ref s.heap.objs.size, _, I1, rfl, ⟨_, x, y, rfl, I.hok.fresh (Nat.le_refl _), rfl, fun l hl => by rw [sqB_inj I hl hqx]; exact hx, fun l hl => by rw [sqB_inj I hl hqy]; exact hy⟩, ⟨z'', ?_, ⟨v1, v2, ?_⟩, ?_, ?_⟩, fun c hcm => ?_⟩
    · exact (sb.2 _ D.TIz).trans (hk _ _ D.TIz D.TITO D.TIi1 D.TIi2 hTI)
    · exact (sb.2 _ D.TOz).trans TO'
    · exact iterB_at g1.1 fun o q => (sb.2 _ D.i1z).trans q
    · exact iterB_at g2.1 fun o q => (sb.2 _ D.i2z).trans q
    · have hlt : c < s.heap.objs.size := by
        have e' : c = z ∨ c = TI ∨ c = TO ∨ c = i1 ∨ c = i2 := by simpa using hcm
        rcases e' with q | q | q | q | q
        · rw [q]; exact hzl
        · rw [q]; exact Heap.lt_size hTI
        · rw [q]; exact Heap.lt_size hTO
        · rw [q]; obtain ⟨_, e1, _⟩ := iterB_obj h1; exact Heap.lt_size e1
        · rw [q]; obtain ⟨_, e2, _⟩ := iterB_obj h2; exact Heap.lt_size e2
      rw [upd_ne (Nat.ne_of_lt hlt)]
      exact (hf c hcm).1
  done := by
    intro X hP hw hK hc i pins s σ H E I hf st hg
    subst hP hw hK
    obtain ⟨hz, hTI, ⟨x0, y0, hTO⟩, h1, h2⟩ := st
    obtain ⟨xs, ys, hqx, hqy, hend⟩ := hg
    obtain ⟨its, rv, p, _⟩ := seqB I hqx
    obtain ⟨its2, rv2, p2, _⟩ := seqB I hqy
    have l1 := rv.length
    have l2 := rv2.length
    have D1 := drawsB (prog := X.prog) (w := X.w) (A := X.A.in1) t1 (show X.A.in1.handled = none from I.ok.hd hc) i1 a D.l1i1 its.toArray
    have D2 := drawsB (prog := X.prog) (w := X.w) (A := X.A.in1) t2 (show X.A.in1.handled = none from I.ok.hd hc) i2 b D.l2i2 its2.toArray
    refine wpAny_pyNext_zipD2_end (sep_of D) D1 D2 hz hTI hTO ⟨h1, p⟩ ⟨h2, p2⟩ (by simp; omega) (by simp; omega) (by simp; omega) fun h' tk hk => ⟨rfl, I.turnedL (t' := tk) (ch := [z, TI, TO, i1, i2]) (fun c o hb q =>
      hk c o (fun q' => hb (by simp [q'])) (fun q' => hb (by simp [q'])) (fun q' => hb (by simp [q'])) (fun q' => hb (by simp [q'])) q) hf⟩
  self := fun A i s Q E st h => wpAny_pyIter_zip st.1 h
def iZipU (K : PySem.W.Frag) (ta : TA) : TI := fun σ H R => ta σ H fun vs H1 => ∃ t1 t2 a b xs ys, vs = [.ref a, .ref b] ∧ SqB K t1 H1 a xs ∧ SqB K t2 H1 b ys ∧ R (ItzB K t1 t2 a b) H1
theorem pi_zipU {X : Cx} {e e2 : Expr} {ta : TA} {p pos tpos : Pos} {elts : List Expr} {kk : Nat} (hg : Gl X "zip") (hm : X.mg "zip" = none) (ha : PA X [e, e2] ta)
    (hs : starEach [e, e2] X.env = (false, eval e X.env) :: starEach [e2] X.env := by rfl) (hpl : (backTo pos (starEach [e2] X.env)).any (·.1) = false := by rfl) :
    PI X (.Tuple elts kk tpos) (.Call (.Name "zip" p) [e, e2] [] pos) (iZipU X.K ta) := by
  refine ⟨fun pins s σ H R I h => ?_⟩
  refine Call_ (ld_blt I hg hm PyProof.Rows.boot_zip (PyProof.Rows.callWith_type1 (thn (ha.run pos pins s σ H _ I h) fun us s1 ⟨vs, H1, I1, r1, q1⟩ => ?_) hs hpl))
  obtain ⟨t1, t2, a, b, xs, ys, ex, hqx, hqy, q⟩ := q1
  subst ex
  cases r1 with
  | cons r rr =>
    cases rr with
    | cons r' rr =>
      cases rr
      cases r
      cases r'
      have fresh5 : ∀ c, c ∈ [s1.heap.objs.size + 4, s1.heap.objs.size + 2, s1.heap.objs.size + 3, s1.heap.objs.size, s1.heap.objs.size + 1] → FpOk X pins H1 c := fun c hcm => by
        have e' : c = s1.heap.objs.size + 4 ∨ c = s1.heap.objs.size + 2 ∨ c = s1.heap.objs.size + 3 ∨ c = s1.heap.objs.size ∨ c = s1.heap.objs.size + 1 := by simpa using hcm
        have hle : s1.heap.objs.size ≤ c := by
          rcases e' with z | z | z | z | z
          · rw [z]; exact Nat.le_add_right _ _
          · rw [z]; exact Nat.le_add_right _ _
          · rw [z]; exact Nat.le_add_right _ _
          · rw [z]; exact Nat.le_refl _
          · rw [z]; exact Nat.le_add_right _ _
        exact I1.fpOk hle (I1.hok.fresh hle)
      obtain ⟨its, rv, p1, l1⟩ := seqB I1 hqx
      obtain ⟨its2, rv2, p2, l2⟩ := seqB I1 hqy
      refine zip_begins2 (beginsB t1 a its.toArray) (beginsB t2 b its2.toArray) p1 p2 fun h' hz hTI hTO h1 h2 hsz hk => wpAny_pyIter_zip hz ?_
      have I2 : Inv X pins σ H1 { s1 with heap := h' } := I1.kept (t' := s1.toks) hk
      exact ⟨s1.heap.objs.size + 4, [s1.heap.objs.size + 4, s1.heap.objs.size + 2, s1.heap.objs.size + 3, s1.heap.objs.size, s1.heap.objs.size + 1], _, _, H1, rfl, I2, turn_zipB t1 t2 (PySem.W.ktu_apart s1.heap.objs.size a b l1 l2), ⟨hz, hTI, ⟨_, _, hTO⟩, iterB_new h1, iterB_new h2⟩, fresh5, q⟩
end Py

set_option Elab.async false
set_option linter.all false
set_option autoImplicit false
set_option maxRecDepth 100000
set_option maxHeartbeats 4000000
namespace Py
open PySem hiding start
open L2
open Evl (Ex ex_rd ex_l ex_t fresh_back)
open Classical
theorem lc_zipB {K : PySem.W.Frag} (t1 t2 : Bool) {a b : Addr} {xs ys : List V} {g : TG} {tt : TT} {te : TE} {vs : List Nat} {σ : L2.St} {H1 : Hp} {D : Addr} {Qd : Hp → Prop} (he : xs.length = ys.length) (Pv : Nat → Hp → Prop) (h0 : Pv 0 (upd H1 D (.lst []))) (hl : ∀ i H, i ≤ xs.length → Pv i H → SqB K t1 H a xs ∧ SqB K t2 H b ys)
    (hs : ∀ i x y T H, xs[i]? = some x → ys[i]? = some y → Pv i H → H T = none → g (.ref T) (L2.wipe σ vs) (upd H T (.tup [x, y])) fun σ2 H2 => L2.wipe σ2 vs = L2.wipe σ vs ∧ tt σ2 H2 fun b H3 =>
      if b = true then te σ2 H3 fun y H4 => ∃ acc, H4 D = some (.lst acc) ∧ acc.length < sizeLine ∧ Pv (i + 1) (upd H4 D (.lst (acc ++ [y]))) else Pv (i + 1) H3) (hd : ∀ H, Pv xs.length H → Qd H) :
    ∃ W : Nat → Nat → Hp → Prop, (∃ m, W 0 m (upd H1 D (.lst []))) ∧ ∀ i m H, W i m H →
      ((ItzB K t1 t2 a b).stop i H ∧ Qd H) ∨ ((ItzB K t1 t2 a b).go i H ∧ ∃ Nx : Hp → Prop, (∀ H', Nx H' → ∃ m', m' < m ∧ W (i + 1) m' H') ∧ ∀ x H', (ItzB K t1 t2 a b).yld i H x H' → g x (L2.wipe σ vs) H' fun σ2 H2 => L2.wipe σ2 vs = L2.wipe σ vs ∧ tt σ2 H2 fun b H3 =>
        if b = true then te σ2 H3 fun y H4 => ∃ acc, H4 D = some (.lst acc) ∧ acc.length < sizeLine ∧ Nx (upd H4 D (.lst (acc ++ [y]))) else Nx H3) := by
  refine ⟨fun i m H => m = xs.length - i ∧ i ≤ xs.length ∧ Pv i H, ⟨xs.length, by simp, Nat.zero_le _, h0⟩, ?_⟩
  rintro i m H ⟨rfl, hi, p⟩
  obtain ⟨q1, q2⟩ := hl i H hi p
  by_cases hlt : i < xs.length
  · have hlt2 : i < ys.length := by omega
    refine .inr ⟨⟨xs, ys, xs[i], ys[i], q1, q2, by simp [hlt], by simp [hlt2]⟩, Pv (i + 1), fun H' p' => ⟨xs.length - (i + 1), by omega, rfl, hlt, p'⟩, fun x H' y => ?_⟩
    obtain ⟨T, x', y', rfl, hT, rfl, f1, f2⟩ := y
    exact hs i x' y' T H (f1 xs q1) (f2 ys q2) p hT
  · have e : i = xs.length := by omega
    subst e
    exact .inl ⟨⟨xs, ys, q1, q2, .inl ⟨rfl, by omega⟩⟩, hd H p⟩
def sqD (t : Bool) (xs : List PyData) : PyData := match t with | true => .tuple xs | false => .list xs
theorem exB {K : PySem.W.Frag} {G G' : Hp} {t : Bool} {a : Addr} {xs : List V} (e : Ex G G') (h : SqB K t G a xs) : SqB K t G' a xs := by
  cases t
  · exact ex_l e h
  · exact ex_t e h
theorem sqD_inv {K : PySem.W.Frag} {G : Hp} {v : V} {t : Bool} {xs : List PyData} (h : Dp K G v (sqD t xs)) : ∃ a us, v = .ref a ∧ SqB K t G a us ∧ DpAll K G us xs := by
  cases t
  · cases h with
    | lst hs ha => exact ⟨_, _, rfl, hs, ha⟩
  · cases h with
    | tup hs ha => exact ⟨_, _, rfl, hs, ha⟩
section
variable {K : PySem.W.Frag} {c c' : Ctx K} {ρ : Rho} {E : DE} {ta tb te : TE} {t u tb' : TS} {tc : TT}
theorem wf_lcZ {tl : TA} {g : TG} {tt : TT} {vs : List Nat} {k : List PyData → Prop} (js : List Nat) (hj : ∀ i ∈ js, i ∈ vs) (hw : (vs.all fun v => (ρ[v]?.map isOwn) == some false) = true) (h : Wa c tl ρ fun zs => ∃ t1 t2 xs ys, zs = [.d (sqD t1 xs), .d (sqD t2 ys)] ∧ xs.length = ys.length ∧ xs.length ≤ 100000 ∧ ∃ P : Nat → List PyData → Prop, P 0 [] ∧
    (∀ c' : Ctx K, Le c c' → ∀ i x y acc, xs[i]? = some x → ys[i]? = some y → acc.length ≤ i → P i acc → Wg c' g js (.d (.tuple [x, y])) (wipeR ρ vs) fun ρ2 => Wt c' tt ρ2 fun b => (b = true → We c' te ρ2 fun y => ∃ d, y = .d d ∧ P (i + 1) (acc ++ [d])) ∧ (b = false → P (i + 1) acc)) ∧
    ∀ acc, acc.length ≤ xs.length → P xs.length acc → k acc) : Wf c (tLc (iZipU K tl) g tt te vs) ρ k := fun σ H Q o q =>
  h σ H _ o fun us zs H1 o1 e1 d1 ⟨t1, t2, xs, ys, hx, hl0, hz, P, p0, ps, pd⟩ => by
    subst hx
    cases d1 with
    | cons dA dr =>
    cases dr with
    | cons dB dn =>
    cases dn
    obtain ⟨a1, us1, rfl, hs1, ha1⟩ := sqD_inv dA
    obtain ⟨a2, us2, rfl, hs2, ha2⟩ := sqD_inv dB
    refine ⟨t1, t2, a1, a2, us1, us2, rfl, exB hid_sub hs1, exB hid_sub hs2, fun D hD => ?_⟩
    have nD : ¬ Hid c ρ D := o1.nh hD
    have nDL : ¬ c.L D := fun z => nD (.inl z)
    -- what stood ahead of the list, for all turns
    let B1 : Hp := vis c ρ H1
    have bB : Ex c.B B1 := o1.base
    have B1D : B1 D = none := hid_none hD
    have own0 : ∀ a, Owns ρ a → B1 a = none := fun a z => hid_pos (.inr z)
    let Pv : Nat → Hp → Prop := fun i H' => ∃ (ws : List V) (acc : List PyData), H' D = some (.lst ws) ∧ Ok (c.at B1) ρ σ H' ∧ Stp c ρ H1 H' ∧ DpAll K (hid (· = D) (vis c ρ H')) ws acc ∧ acc.length ≤ i ∧ P i acc
    have hH0 : H D = none := by
      cases z : H D with
      | none => rfl
      | some ob =>
        have := e1.ex D ob (by unfold vis; rw [hid_neg nD]; exact z)
        rw [vis, hid_none hD] at this; cases this
    refine lc_zipB (K := K) t1 t2 (a := a1) (b := a2) (xs := us1) (ys := us2) (by rw [dpa_len ha1, dpa_len ha2]; exact hl0) Pv ?_ ?_ ?_ ?_
    · obtain ⟨o2, e2⟩ := o1.new (o := .lst []) hD
      have o2' : Ok (c.at B1) ρ σ (upd H1 D (.lst [])) := ⟨o2.w, e2.ex.trans vis_out, fun l z => ⟨own0 l z, (o2.ob l z).2⟩, o2.sl, o2.one, o2.len⟩
      exact ⟨[], [], upd_same, o2', e2, .nil, Nat.le_refl 0, p0⟩
    · rintro i H' _ ⟨ws, acc, _, o', _, _, _, _⟩
      exact ⟨exB hid_sub (exB o'.b hs1), exB hid_sub (exB o'.b hs2)⟩
    · rintro i x1 y1 T H' hx1 hy1 ⟨ws, acc, hD', o', s', dacc, hl, p'⟩ hT
      obtain ⟨dx, hdx, ddx⟩ := dpa_get' ha1 hx1
      obtain ⟨dy, hdy, ddy⟩ := dpa_get' ha2 hy1
      have hi : i < 100000 := by
        have := (List.getElem?_eq_some_iff.mp hdx).1
        omega
      -- the context of this turn
      let B2 : Hp := hid (· = D) (vis c ρ H')
      have bB2 : Ex B1 B2 := fun b ob z => by
        have nb : b ≠ D := fun q => by rw [q, B1D] at z; cases z
        exact (hid_neg (L := fun x => x = D) nb).trans (s'.ex b ob z)
      let c2 : Ctx K := c.hide D (.lst ws) B2
      have le : Le c c2 := le_hide nDL (bB.trans bB2)
      have visE : ∀ (ρ2 : Rho) (H2 : Hp), Ex (vis c2 ρ2 H2) (hid (· = D) (vis c ρ2 H2)) := fun ρ2 H2 b ob z => by
        obtain ⟨n1, z⟩ := hid_some z
        have nb : b ≠ D := fun q => n1 (.inl (.inr q))
        refine (hid_neg (L := fun x => x = D) nb).trans ((hid_neg fun q => n1 (q.imp .inl id)).trans z)
      have visE' : ∀ (ρ2 : Rho) (H2 : Hp), Ex (hid (· = D) (vis c ρ2 H2)) (vis c2 ρ2 H2) := fun ρ2 H2 b ob z => by
        obtain ⟨nb, z⟩ := hid_some z
        obtain ⟨n1, z⟩ := hid_some z
        refine (hid_neg fun q => ?_).trans z
        rcases q with (q | q) | q
        · exact n1 (.inl q)
        · exact nb q
        · exact n1 (.inr q)
      have oD : ∀ (l : Addr), Owns ρ l → l ≠ D := fun l z q => nD (.inr (q ▸ z))
      have slots : ∀ (j : Nat) (s : Slot), ρ[j]? = some s → ∃ ob, σ[j]? = some ob ∧ SlotOk K (vis c2 ρ H') H' ob s := fun j s hs' => by
        obtain ⟨u1, q1, z1⟩ := (o1.clean s' hD j s hs')
        refine ⟨u1, q1, ?_⟩
        cases s with
        | un => trivial
        | val y => obtain ⟨w, w1, w2⟩ := z1; exact ⟨w, w1, dv_mono (visE' ρ H') w2⟩
        | own l ys => obtain ⟨w, w1, w2, w3⟩ := z1; exact ⟨w, w1, w2, own_mono (visE' ρ H') _ _ w3⟩
      have o2 : Ok c2 ρ σ H' := ⟨⟨o'.w, hD'⟩, (visE' ρ H').trans vis_out, fun l z => ⟨(show hid (· = D) (vis c ρ H') l = none from hid_none' (hid_pos (Or.inr z))), fun q => q.elim (o'.ob l z).2 (oD l z)⟩, slots, o'.one, o'.len⟩
      have o3 : Ok c2 (wipeR ρ vs) (L2.wipe σ vs) H' := o2.wipe vs
      have ev : Ex (vis c2 ρ H') (vis c2 (wipeR ρ vs) H') := hid_less fun b z => z.imp id owns_wipe
      have up : Ex B1 (vis c2 (wipeR ρ vs) H') := (Evl.Ex.trans bB2 (visE' ρ H')).trans ev
      obtain ⟨o3n, e3n⟩ := o3.new (o := .tup [x1, y1]) hT
      have dd2 : Dp K (vis c2 (wipeR ρ vs) (upd H' T (.tup [x1, y1]))) (.ref T) (.tuple [dx, dy]) := dp_tup (vis_upd (o3.nh hT)) (.cons (dp_mono (up.trans e3n.ex) _ _ ddx) (.cons (dp_mono (up.trans e3n.ex) _ _ ddy) .nil))
      refine ps c2 le i dx dy acc hdx hdy hl p' (L2.wipe σ vs) _ (.ref T) _ o3n dd2 fun ρ4 σ4 o4 a4 l4 b4 b4' w4 => ⟨wipe_eq hj a4 l4, ?_⟩
      refine w4 σ4 _ _ o4 fun b H5 o5 s5n z5 => ?_
      have s4 : Stp c2 ρ4 H' (upd H' T (.tup [x1, y1])) := ⟨hid_ex (Ex.new hT), fun a z => upd_ne fun q => o3.nh hT (.inr (q ▸ b4' a z))⟩
      have s5 : Stp c2 ρ4 H' H5 := s4.trans s5n
      -- what is the same again once the element is told
      have back : ∀ H6, Ok c2 ρ4 σ4 H6 → Stp c2 ρ4 H' H6 → H6 D = some (.lst ws) ∧ (∀ a, Owns ρ a → H6 a = H' a) ∧ Ex (vis c2 ρ H') (vis c2 ρ H6) := fun H6 o6 s6 => by
        refine ⟨o6.w.2, fun a z => s6.own a (b4 a (owns_wipe' hw z).1), fun b ob z => ?_⟩
        · obtain ⟨n1, z⟩ := hid_some z
          have n2 : ¬ Hid c2 ρ4 b := fun q => n1 (q.imp id fun q => owns_wipe (b4' b q))
          have := s6.ex b ob (by unfold vis; rw [hid_neg n2]; exact z)
          unfold vis
          rw [hid_neg n1]
          exact (hid_some this).2
      cases b with
      | false =>
        rw [if_neg Bool.false_ne_true]
        obtain ⟨hD5, ow5, ex5⟩ := back H5 o5 s5
        have exA : Ex (vis c ρ H') (vis c ρ H5) := fun b ob z => by
          by_cases nb : b = D
          · subst nb
            unfold vis at *
            rw [hid_neg nD] at *
            rw [hD'] at z
            rw [hD5]; exact z
          · have := ex5 b ob (visE' ρ H' b ob ((hid_neg (L := fun x => x = D) nb).trans z))
            exact hid_sub b ob (visE ρ H5 b ob this)
        have stp : Stp c ρ H' H5 := ⟨exA, ow5⟩
        refine ⟨ws, acc, hD5, o'.grow o5.w.1 exA ow5, s'.trans stp, dpa_mono (fun b ob z => visE ρ H5 b ob (ex5 b ob (visE' ρ H' b ob z))) _ _ dacc, Nat.le_succ_of_le hl, z5.2 rfl⟩
      | true =>
        rw [if_pos rfl]
        refine z5.1 rfl σ4 H5 _ o5 fun v6 y6 H6 o6 s6 d6 ⟨d, hy6, p6⟩ => ?_
        subst hy6
        obtain ⟨hD6, ow6, ex6⟩ := back H6 o6 (s5.trans s6)
        refine ⟨ws, hD6, ?_, ?_⟩
        · have w1 := dpa_len dacc
          exact Evl.sz_lt (by omega)
        · -- the list has one more
          have ow7 : ∀ a, Owns ρ a → upd H6 D (.lst (ws ++ [v6])) a = H' a := fun a z => (upd_ne (oD a z)).trans (ow6 a z)
          have e67 : Ex (hid (· = D) (vis c ρ H6)) (hid (· = D) (vis c ρ (upd H6 D (.lst (ws ++ [v6]))))) := fun b ob z => by
            obtain ⟨nb, z⟩ := hid_some z
            obtain ⟨n1, z⟩ := hid_some z
            refine (hid_neg (L := fun x => x = D) nb).trans ((hid_neg n1).trans ((upd_ne nb).trans z))
          have exB : Ex (hid (· = D) (vis c ρ H')) (hid (· = D) (vis c ρ (upd H6 D (.lst (ws ++ [v6]))))) := fun b ob z => e67 b ob (visE ρ H6 b ob (ex6 b ob (visE' ρ H' b ob z)))
          have w7 : c.W (upd H6 D (.lst (ws ++ [v6]))) := c.loc _ _ (fun a z => upd_ne fun q => nDL (q ▸ z)) (tp_lst hD6) o6.w.1
          have o7 : Ok (c.at B1) ρ σ (upd H6 D (.lst (ws ++ [v6]))) := by
            refine ⟨w7, fun b ob z => ?_, o'.ob, fun j s hs' => ?_, o'.one, o'.len⟩
            · have := exB b ob (bB2 b ob z)
              exact vis_out b ob (hid_sub b ob this)
            · obtain ⟨u1, q1, z1⟩ := (o1.clean s' hD j s hs')
              refine ⟨u1, q1, ?_⟩
              cases s with
              | un => trivial
              | val y => obtain ⟨w, w1, w2⟩ := z1; exact ⟨w, w1, dv_mono (exB.trans hid_sub) w2⟩
              | own l ys =>
                obtain ⟨w, w1, w2, w3⟩ := z1
                exact ⟨w, w1, (ow7 l ⟨ys, List.mem_of_getElem? hs'⟩).trans w2, own_mono (exB.trans hid_sub) _ _ w3⟩
          refine ⟨ws ++ [v6], acc ++ [d], upd_same, o7, ⟨fun b ob z => ?_, fun a z => (ow7 a z).trans (s'.own a z)⟩, ?_, by simp; omega, p6⟩
          · have nb : b ≠ D := fun q => by subst q; rw [vis, hid_none hD] at z; cases z
            have := exB b ob ((hid_neg (L := fun x => x = D) nb).trans (s'.ex b ob z))
            exact hid_sub b ob this
          · refine dpa_app (dpa_mono exB _ _ dacc) (.cons (dp_mono (fun b ob z => ?_) _ _ d6) .nil)
            -- what the element is made of
            have z0 := visE ρ4 H6 b ob z
            obtain ⟨nb, z1⟩ := hid_some z0
            obtain ⟨n1, z2⟩ := hid_some z1
            refine e67 b ob ((hid_neg (L := fun x => x = D) nb).trans ((hid_neg fun q => ?_).trans z2))
            rcases q with q | q
            · exact n1 (.inl q)
            · exact n1 (.inr (b4 b (owns_wipe' hw q).1))
    · rintro H' ⟨ws, acc, hD', o', s', dacc, hl, p'⟩
      rw [dpa_len ha1] at *
      exact q D ws acc H' hH0 hD' (ok_at bB o') (e1.trans s') dacc (pd acc hl p')
def rMaxI : List V → Hp → VK → Prop := fun xs H Q => ∃ i j, xs = [.int i, .int j] ∧ Q (.int (if j > i then j else i)) H
theorem call_maxI {X : Cx} (hc : X.calm = true) : CallR X (.builtin "max") rMaxI := call_max2 hc
theorem rc_maxI {k : Dv → Prop} {i j : Int} (h : k (.d (.int (if j > i then j else i)))) : Rc c rMaxI ρ [.d (.int i), .d (.int j)] k := fun σ H vs Q o d q => by
  cases d with
  | cons d1 d2 =>
  cases d2 with
  | cons d2 d3 =>
  cases d3
  obtain rfl := dp_int d1
  obtain rfl := dp_int d2
  exact ⟨i, j, rfl, q.val o (x := .d _) (Dp.int _) h⟩
end
end Py

set_option Elab.async false
set_option linter.all false
set_option autoImplicit false
set_option exponentiation.threshold 20000
namespace Py
open PySem hiding start
open L2
/-! ### where a point lies, and how large it then is -/
def xyB (N : Rat) (p : Pt) : Prop := (-N ≤ p.x ∧ p.x ≤ N) ∧ -N ≤ p.y ∧ p.y ≤ N
theorem mulB {u v A B : Rat} (hu : -A ≤ u ∧ u ≤ A) (hv : -B ≤ v ∧ v ≤ B) : -(A * B) ≤ u * v ∧ u * v ≤ A * B := by
  have h1 := Rat.mul_nonneg (show 0 ≤ A - u by grind) (show 0 ≤ B + v by grind)
  have h2 := Rat.mul_nonneg (show 0 ≤ A + u by grind) (show 0 ≤ B - v by grind)
  have h3 := Rat.mul_nonneg (show 0 ≤ A - u by grind) (show 0 ≤ B - v by grind)
  have h4 := Rat.mul_nonneg (show 0 ≤ A + u by grind) (show 0 ≤ B + v by grind)
  constructor <;> grind
theorem alongB {N x y l : Rat} (hx : -N ≤ x ∧ x ≤ N) (hy : -N ≤ y ∧ y ≤ N) (hl : -5 ≤ l ∧ l ≤ 5) : -(11 * N) ≤ x + (y - x) * l ∧ x + (y - x) * l ≤ 11 * N := by
  have := mulB (u := y - x) (v := l) (A := 2 * N) (B := 5) (by grind) hl
  constructor <;> grind
theorem topB {n : Nat} {a c : Int} {x : Rat} (h : (a : Rat) = x * (c : Rat)) (hc : 0 < c) (hx : -((2 ^ n : Nat) : Rat) ≤ x ∧ x ≤ ((2 ^ n : Nat) : Rat)) : a.natAbs ≤ 2 ^ n * c.natAbs := by
  have hc' : (0 : Rat) ≤ (c : Rat) := by exact_mod_cast (show 0 ≤ c by omega)
  have h1 := Rat.mul_nonneg (show 0 ≤ ((2 ^ n : Nat) : Rat) - x by grind) hc'
  have h2 := Rat.mul_nonneg (show 0 ≤ ((2 ^ n : Nat) : Rat) + x by grind) hc'
  have h3 : (a : Rat) ≤ ((2 ^ n : Nat) : Rat) * (c : Rat) := by grind
  have h4 : -(((2 ^ n : Nat) : Rat) * (c : Rat)) ≤ (a : Rat) := by grind
  have h3 : a ≤ ((2 ^ n : Nat) : Int) * c := by exact_mod_cast h3
  have h4 : -(((2 ^ n : Nat) : Int) * c) ≤ a := by exact_mod_cast h4
  have e : ((2 ^ n * c.natAbs : Nat) : Int) = ((2 ^ n : Nat) : Int) * c := by
    rw [Int.natCast_mul, Int.natAbs_of_nonneg (by omega)]
  omega
theorem xyB_S {n m : Nat} {p : Pt} (h : xyB ((2 ^ n : Nat) : Rat) p) (hc : p.c.natAbs < 2 ^ m) : ptS (n + m) p := by
  have key : ∀ a : Int, a.natAbs ≤ 2 ^ n * p.c.natAbs → a.natAbs < 2 ^ (n + m) := fun a ha => by
    refine Nat.lt_of_le_of_lt ha ?_
    rw [Nat.pow_add]
    exact Nat.mul_lt_mul_of_pos_left hc (Nat.two_pow_pos n)
  exact ⟨key _ (topB p.xc p.pos h.1), key _ (topB p.yc p.pos h.2), nup hc (by omega)⟩
theorem quoB {n : Nat} {a c : Int} {x : Rat} (h : (a : Rat) = x * (c : Rat)) (hc : 0 < c) (ha : a.natAbs < 2 ^ n) : -((2 ^ n : Nat) : Rat) ≤ x ∧ x ≤ ((2 ^ n : Nat) : Rat) := by
  have hc' : (0 : Rat) ≤ (c : Rat) - 1 := by
    have : (1 : Rat) ≤ (c : Rat) := by exact_mod_cast (show 1 ≤ c by omega)
    grind
  have a1 : (a : Rat) ≤ ((2 ^ n : Nat) : Rat) := by exact_mod_cast (show a ≤ ((2 ^ n : Nat) : Int) by omega)
  have a2 : -((2 ^ n : Nat) : Rat) ≤ (a : Rat) := by
    have z : ((2 ^ n : Nat) : Rat) ≥ ((-a : Int) : Rat) := by exact_mod_cast (show -a ≤ ((2 ^ n : Nat) : Int) by omega)
    rw [Rat.intCast_neg] at z
    grind
  have n0 : (0 : Rat) ≤ ((2 ^ n : Nat) : Rat) := by exact_mod_cast Nat.zero_le _
  generalize ((2 ^ n : Nat) : Rat) = N at *
  constructor
  · by_cases z : -N ≤ x
    · exact z
    · exfalso
      have := Rat.mul_nonneg (show 0 ≤ -x by grind) hc'
      grind
  · by_cases z : x ≤ N
    · exact z
    · exfalso
      have := Rat.mul_nonneg (show 0 ≤ x by grind) hc'
      grind
theorem xyB_of {n : Nat} {p : Pt} (h : ptS n p) : xyB ((2 ^ n : Nat) : Rat) p := ⟨quoB p.xc p.pos h.a, quoB p.yc p.pos h.b⟩
theorem xyB_mono {M N : Rat} {p : Pt} (h : xyB M p) (e : M ≤ N) : xyB N p := by
  unfold xyB at *
  obtain ⟨⟨h1, h2⟩, h3, h4⟩ := h
  refine ⟨⟨?_, ?_⟩, ?_, ?_⟩ <;> grind
theorem xyB_along {N l : Rat} {p q r : Pt} (hp : xyB N p) (hq : xyB N q) (hl : -5 ≤ l ∧ l ≤ 5) (hx : r.x = p.x + (q.x - p.x) * l) (hy : r.y = p.y + (q.y - p.y) * l) : xyB (11 * N) r := by
  unfold xyB
  rw [hx, hy]
  exact ⟨alongB hp.1 hq.1 hl, alongB hp.2 hq.2 hl⟩
theorem xyB_other {N : Rat} {q r : Pt} (h : xyB N q) (n1 : 1 ≤ N) (e : r = q ∨ (r.x = q.x + 1 ∧ r.y = q.y)) : xyB (2 * N) r := by
  rcases e with rfl | ⟨e1, e2⟩
  · exact xyB_mono h (by grind)
  · unfold xyB at *
    rw [e1, e2]
    obtain ⟨⟨h1, h2⟩, h3, h4⟩ := h
    refine ⟨⟨?_, ?_⟩, ?_, ?_⟩ <;> grind
theorem lamB {s t : Int} (ht : 0 < t) (h1 : -(5 * t) ≤ s) (h2 : s ≤ 5 * t) : -5 ≤ (s : Rat) / (t : Rat) ∧ (s : Rat) / (t : Rat) ≤ 5 := by
  have t0 : (0 : Rat) < (t : Rat) := by exact_mod_cast ht
  have e : (s : Rat) / (t : Rat) * (t : Rat) = (s : Rat) := by grind
  have g2 : (s : Rat) ≤ 5 * (t : Rat) := by exact_mod_cast h2
  have g1 : ((-s : Int) : Rat) ≤ 5 * (t : Rat) := by exact_mod_cast (show -s ≤ 5 * t by omega)
  rw [Rat.intCast_neg] at g1
  generalize (s : Rat) / (t : Rat) = q at *
  constructor
  · by_cases z : -5 ≤ q
    · exact z
    · exfalso
      have := Rat.mul_pos (show 0 < -5 - q by grind) t0
      grind
  · by_cases z : q ≤ 5
    · exact z
    · exfalso
      have := Rat.mul_pos (show 0 < q - 5 by grind) t0
      grind
theorem powB (n : Nat) : ((2 ^ (n + 8) : Nat) : Rat) = 256 * ((2 ^ n : Nat) : Rat) := by
  rw [Nat.pow_add, Rat.natCast_mul, Rat.mul_comm]
  rfl
theorem powB1 (n : Nat) : (1 : Rat) ≤ ((2 ^ n : Nat) : Rat) := by exact_mod_cast Nat.one_le_two_pow
theorem powB_mono {m n : Nat} (h : m ≤ n) : ((2 ^ m : Nat) : Rat) ≤ ((2 ^ n : Nat) : Rat) := by exact_mod_cast Nat.pow_le_pow_right (by decide) h
def sdD (s : Pt × Pt) : PyData := .tuple [ptD s.1, ptD s.2]
end Py
namespace Py
open PySem hiding start
open L2
def sdAll (n : Nat) (ss : List (Pt × Pt)) : Prop := ∀ s ∈ ss, s.1 ≠ s.2 ∧ xyB ((2 ^ n : Nat) : Rat) s.1 ∧ xyB ((2 ^ n : Nat) : Rat) s.2 ∧ s.1.c.natAbs < 2 ^ 600 ∧ s.2.c.natAbs < 2 ^ 600
end Py

set_option Elab.async false
set_option linter.all false
set_option autoImplicit false
set_option maxRecDepth 100000
namespace Py
open PySem hiding start
open L2
/-! ### common points of two sides -/
theorem line_two {a b c d r : Pt} (hcd : c ≠ d) (hr : r ≠ c) (h1 : crQ c d r = 0) (h2 : crQ a b c = 0) (h3 : crQ a b r = 0) : crQ a b d = 0 := by
  obtain ⟨t, x1, y1⟩ := on_t hcd h1
  have e : crQ a b r = crQ a b c + (crQ a b d - crQ a b c) * t := by unfold crQ; rw [x1, y1]; grind
  by_cases z : t = 0
  · subst z
    exact absurd (Pt.eq_of (by grind) (by grind)) hr
  · rw [h2, h3] at e
    have : crQ a b d * t = 0 := by grind
    rcases Rat.mul_eq_zero.mp this with q | q
    · exact q
    · exact absurd q z
theorem touch_iff {a b c d : Pt} (hab : a ≠ b) (hcd : c ≠ d) : touchM a b c d = true ↔ ∃ r, onS r a b = true ∧ onS r c d = true := by
  constructor
  · intro h
    have hne : meetM a b c d ≠ [] := by
      by_cases h1 : tn a b c = 0 ∧ tn a b d = 0
      · rw [touch_along h h1]; unfold partM; split <;> simp
      · rw [touch_cross hab hcd h h1]; simp
    obtain ⟨r, hr⟩ := List.exists_mem_of_ne_nil _ hne
    exact ⟨r, meet_on hab hcd r hr⟩
  · rintro ⟨r, r1, r2⟩
    cases ht : touchM a b c d with
    | true => rfl
    | false =>
      exfalso
      have hm := touch_no hab hcd ht
      unfold touchM at ht
      by_cases t : (onS a c d || onS b c d || onS c a b || onS d a b) = true
      · rw [if_pos t] at ht; cases ht
      rw [if_neg t] at ht
      simp only [Bool.or_eq_true, not_or, Bool.not_eq_true] at t
      obtain ⟨⟨⟨n1, n2⟩, n3⟩, n4⟩ := t
      obtain ⟨i1, l1, u1⟩ := onS_iff.mp r1
      obtain ⟨i2, l2, u2⟩ := onS_iff.mp r2
      have c1 := tn_zero.mp i1
      have c2 := tn_zero.mp i2
      have nc : r ≠ c := fun z => by subst z; rw [r1] at n3; cases n3
      have nd : r ≠ d := fun z => by subst z; rw [r1] at n4; cases n4
      have na : r ≠ a := fun z => by subst z; rw [r2] at n1; cases n1
      have nb : r ≠ b := fun z => by subst z; rw [r2] at n2; cases n2
      have col : tn a b c = 0 ∧ tn a b d = 0 := by
        have m1 := on_mid hcd r2 c1
        have m2 := on_mid hab r1 c2
        have z : tn a b c * tn a b d = 0 ∨ tn c d a * tn c d b = 0 := by
          by_cases g : 0 ≤ tn a b c * tn a b d
          · left; omega
          · rw [if_neg g] at ht
            have := of_decide_eq_false ht
            right; omega
        have fl : crQ d c r = 0 := by rw [cr_flip, c2]; grind
        have fl2 : crQ b a r = 0 := by rw [cr_flip, c1]; grind
        rcases z with z | z
        · rcases Int.mul_eq_zero.mp z with q | q
          · exact ⟨q, tn_zero.mpr (line_two hcd nc c2 (tn_zero.mp q) c1)⟩
          · exact ⟨tn_zero.mpr (line_two (Ne.symm hcd) nd fl (tn_zero.mp q) c1), q⟩
        · rcases Int.mul_eq_zero.mp z with q | q
          · exact col_S hcd ⟨q, tn_zero.mpr (line_two hab na c1 (tn_zero.mp q) c2)⟩
          · exact col_S hcd ⟨tn_zero.mpr (line_two (Ne.symm hab) nb fl2 (tn_zero.mp q) c2), q⟩
      unfold meetM at hm
      rw [if_pos col] at hm
      unfold sharedM at hm
      have h5 : ale (mx (ptLo a b) (ptLo c d)) (mn (ptHi a b) (ptHi c d)) := ale_trans (mx_le l1 l2) (le_mn u1 u2)
      have h6 : ahd (mn (ptHi a b) (ptHi c d)) (mx (ptLo a b) (ptLo c d)) = false := h5
      simp only [h6, if_false, Bool.false_eq_true] at hm
      split at hm <;> cases hm
theorem onS_t {a b r : Pt} (hab : a ≠ b) : onS r a b = true ↔ ∃ t : Rat, 0 ≤ t ∧ t ≤ 1 ∧ r.x = a.x + (b.x - a.x) * t ∧ r.y = a.y + (b.y - a.y) * t := by
  constructor
  · intro h
    obtain ⟨t, x1, y1⟩ := on_t hab (tn_zero.mp (onS_iff.mp h).1)
    rw [onS_along hab x1 y1] at h
    obtain ⟨t0, t1⟩ := of_decide_eq_true h
    exact ⟨t, t0, t1, x1, y1⟩
  · rintro ⟨t, t0, t1, x1, y1⟩
    rw [onS_along hab x1 y1]
    exact decide_eq_true ⟨t0, t1⟩
/-! ### a border with its end left out -/
def bmetM (p q l h : Pt) : Bool := touchM p q l h && (!onS h p q || (decide (tn p q l = 0) && (ahd p h || ahd q h)))
theorem bmet_iff {p q l h : Pt} (hpq : p ≠ q) (hlh : ahd l h = true) : bmetM p q l h = true ↔ ∃ r, onS r p q = true ∧ onS r l h = true ∧ r ≠ h := by
  have nlh : l ≠ h := fun z => by subst z; rw [ahd_irr] at hlh; cases hlh
  have lo : ptLo l h = l ∧ ptHi l h = h := by
    have z : ahd h l = false := by rw [ahd_flip nlh, hlh]; rfl
    unfold ptLo ptHi
    rw [z]; exact ⟨rfl, rfl⟩
  unfold bmetM
  rw [Bool.and_eq_true, touch_iff hpq nlh]
  constructor
  · rintro ⟨⟨r, r1, r2⟩, h2⟩
    by_cases ho : onS h p q = true
    · rw [ho] at h2
      simp only [Bool.not_true, Bool.false_or, Bool.and_eq_true, decide_eq_true_eq, Bool.or_eq_true] at h2
      obtain ⟨h0, h3⟩ := h2
      obtain ⟨i1, l1, u1⟩ := onS_iff.mp ho
      -- the end that is ahead
      have hl : ahd (ptLo p q) h = true := by
        obtain ⟨⟨e1, e2⟩, _, _⟩ := lo_ends p q
        rcases ale_iff.mp l1 with z | z
        · rcases h3 with h3 | h3
          · rw [z] at e1; unfold ale at e1; rw [h3] at e1; cases e1
          · rw [z] at e2; unfold ale at e2; rw [h3] at e2; cases e2
        · exact z
      have hm : ahd (mx l (ptLo p q)) h = true := by
        rcases mx_or l (ptLo p q) with z | z <;> rw [z] <;> assumption
      obtain ⟨g1, g2⟩ := mx_ge l (ptLo p q)
      obtain ⟨z1, z2⟩ := col_S hpq ⟨h0, i1⟩
      have zc : ∀ u v w : Pt, tn u v w = 0 → crQ u v w = 0 := fun u v w => tn_zero.mp
      have cm : tn p q (mx l (ptLo p q)) = 0 ∧ tn l h (mx l (ptLo p q)) = 0 := by
        rcases mx_or l (ptLo p q) with z | z <;> rw [z]
        · exact ⟨h0, (tn_end l h).1⟩
        · rcases lo_or p q with ⟨q1, _⟩ | ⟨q1, _⟩ <;> rw [q1]
          · exact ⟨(tn_end p q).1, z1⟩
          · exact ⟨(tn_end p q).2, z2⟩
      refine ⟨mx l (ptLo p q), onS_iff.mpr ⟨cm.1, g2, ale_trans (ale_of hm) u1⟩, onS_iff.mpr ⟨cm.2, by rw [lo.1]; exact g1, by rw [lo.2]; exact ale_of hm⟩, fun z => ?_⟩
      rw [z, ahd_irr] at hm; cases hm
    · exact ⟨r, r1, r2, fun z => ho (z ▸ r1)⟩
  · rintro ⟨r, r1, r2, rn⟩
    refine ⟨⟨r, r1, r2⟩, ?_⟩
    by_cases ho : onS h p q = true
    · rw [ho]
      simp only [Bool.not_true, Bool.false_or, Bool.and_eq_true, decide_eq_true_eq, Bool.or_eq_true]
      obtain ⟨i1, l1, u1⟩ := onS_iff.mp ho
      obtain ⟨i2, l2, u2⟩ := onS_iff.mp r1
      obtain ⟨i3, l3, u3⟩ := onS_iff.mp r2
      rw [lo.2] at u3
      have hrh : ahd r h = true := by
        rcases ale_iff.mp u3 with z | z
        · exact absurd z rn
        · exact z
      constructor
      · have c3 : crQ h l r = 0 := by rw [cr_flip, tn_zero.mp i3]; grind
        exact tn_zero.mpr (line_two (Ne.symm nlh) rn c3 (tn_zero.mp i1) (tn_zero.mp i2))
      · have : ahd (ptLo p q) h = true := by
          rcases ale_iff.mp l2 with z | z
          · rw [z]; exact hrh
          · exact ahd_trans z hrh
        rcases lo_or p q with ⟨q1, _⟩ | ⟨q1, _⟩ <;> rw [q1] at this
        · exact .inl this
        · exact .inr this
    · simp [ho]
/-! ### a cell: a box without its right and upper borders -/
structure Bx where
  xl : Rat
  xh : Rat
  yl : Rat
  yh : Rat
  hx : xl < xh
  hy : yl < yh
def inQ (B : Bx) (p : Pt) : Prop := (B.xl ≤ p.x ∧ p.x < B.xh) ∧ B.yl ≤ p.y ∧ p.y < B.yh
instance (B : Bx) (p : Pt) : Decidable (inQ B p) := by unfold inQ; infer_instance
def meetsQ (B : Bx) (p q : Pt) : Prop := ∃ r, onS r p q = true ∧ inQ B r
def Bx.ll (B : Bx) : Pt := ptOf B.xl B.yl
def Bx.lh (B : Bx) : Pt := ptOf B.xl B.yh
def Bx.hl (B : Bx) : Pt := ptOf B.xh B.yl
def Bx.hh (B : Bx) : Pt := ptOf B.xh B.yh
theorem left_iff (B : Bx) {r : Pt} : onS r B.ll B.lh = true ↔ r.x = B.xl ∧ B.yl ≤ r.y ∧ r.y ≤ B.yh := by
  obtain ⟨x1, y1⟩ := ptOf_x B.xl B.yl
  obtain ⟨x2, y2⟩ := ptOf_x B.xl B.yh
  have hy := B.hy
  have ne : B.ll ≠ B.lh := fun z => by
    have := congrArg Pt.y z
    unfold Bx.ll Bx.lh at this
    rw [y1, y2] at this
    grind
  rw [onS_t ne]
  unfold Bx.ll Bx.lh
  rw [x1, y1, x2, y2]
  constructor
  · rintro ⟨t, t0, t1, rx, ry⟩
    have m1 := Rat.mul_nonneg (show 0 ≤ B.yh - B.yl by grind) t0
    have m2 := Rat.mul_nonneg (show 0 ≤ B.yh - B.yl by grind) (show 0 ≤ 1 - t by grind)
    refine ⟨by grind, by grind, by grind⟩
  · rintro ⟨rx, r0, r1⟩
    have hd : B.yh - B.yl ≠ 0 := by grind
    have e : (r.y - B.yl) / (B.yh - B.yl) * (B.yh - B.yl) = r.y - B.yl := by grind
    generalize (r.y - B.yl) / (B.yh - B.yl) = t at *
    refine ⟨t, ?_, ?_, by grind, by grind⟩
    · by_cases z : 0 ≤ t
      · exact z
      · have := Rat.mul_pos (show 0 < -t by grind) (show 0 < B.yh - B.yl by grind); grind
    · by_cases z : t ≤ 1
      · exact z
      · have := Rat.mul_pos (show 0 < t - 1 by grind) (show 0 < B.yh - B.yl by grind); grind
theorem low_iff (B : Bx) {r : Pt} : onS r B.ll B.hl = true ↔ r.y = B.yl ∧ B.xl ≤ r.x ∧ r.x ≤ B.xh := by
  obtain ⟨x1, y1⟩ := ptOf_x B.xl B.yl
  obtain ⟨x2, y2⟩ := ptOf_x B.xh B.yl
  have hx := B.hx
  have ne : B.ll ≠ B.hl := fun z => by
    have := congrArg Pt.x z
    unfold Bx.ll Bx.hl at this
    rw [x1, x2] at this
    grind
  rw [onS_t ne]
  unfold Bx.ll Bx.hl
  rw [x1, y1, x2, y2]
  constructor
  · rintro ⟨t, t0, t1, rx, ry⟩
    have m1 := Rat.mul_nonneg (show 0 ≤ B.xh - B.xl by grind) t0
    have m2 := Rat.mul_nonneg (show 0 ≤ B.xh - B.xl by grind) (show 0 ≤ 1 - t by grind)
    refine ⟨by grind, by grind, by grind⟩
  · rintro ⟨rx, r0, r1⟩
    have hd : B.xh - B.xl ≠ 0 := by grind
    have e : (r.x - B.xl) / (B.xh - B.xl) * (B.xh - B.xl) = r.x - B.xl := by grind
    generalize (r.x - B.xl) / (B.xh - B.xl) = t at *
    refine ⟨t, ?_, ?_, by grind, by grind⟩
    · by_cases z : 0 ≤ t
      · exact z
      · have := Rat.mul_pos (show 0 < -t by grind) (show 0 < B.xh - B.xl by grind); grind
    · by_cases z : t ≤ 1
      · exact z
      · have := Rat.mul_pos (show 0 < t - 1 by grind) (show 0 < B.xh - B.xl by grind); grind
theorem ll_lh (B : Bx) : ahd B.ll B.lh = true := by
  obtain ⟨x1, y1⟩ := ptOf_x B.xl B.yl
  obtain ⟨x2, y2⟩ := ptOf_x B.xl B.yh
  unfold ahd Bx.ll Bx.lh
  rw [x1, y1, x2, y2, if_pos rfl]
  exact decide_eq_true B.hy
theorem ll_hl (B : Bx) : ahd B.ll B.hl = true := by
  obtain ⟨x1, y1⟩ := ptOf_x B.xl B.yl
  obtain ⟨x2, y2⟩ := ptOf_x B.xh B.yl
  have := B.hx
  unfold ahd Bx.ll Bx.hl
  rw [x1, y1, x2, y2, if_neg (by grind)]
  exact decide_eq_true B.hx
/-! through the inside -/
theorem seg_mid {u v l h : Rat} (lh : l < h) (h1 : ¬ (u ≤ l ∧ v ≤ l)) (h2 : ¬ (h ≤ u ∧ h ≤ v)) : ∃ t : Rat, 0 ≤ t ∧ t ≤ 1 ∧ l < u + (v - u) * t ∧ u + (v - u) * t < h := by
  by_cases a : l < u ∧ u < h
  · exact ⟨0, by grind, by grind, by grind, by grind⟩
  by_cases b : l < v ∧ v < h
  · exact ⟨1, by grind, by grind, by grind, by grind⟩
  have hne : v - u ≠ 0 := by grind
  have e : ((l + h) / 2 - u) / (v - u) * (v - u) = (l + h) / 2 - u := by grind
  generalize ((l + h) / 2 - u) / (v - u) = t at *
  refine ⟨t, ?_, ?_, by grind, by grind⟩
  · by_cases z : 0 ≤ t
    · exact z
    · by_cases w : 0 < v - u
      · have := Rat.mul_pos (show 0 < -t by grind) w; grind
      · have := Rat.mul_pos (show 0 < -t by grind) (show 0 < u - v by grind); grind
  · by_cases z : t ≤ 1
    · exact z
    · by_cases w : 0 < v - u
      · have := Rat.mul_pos (show 0 < t - 1 by grind) w; grind
      · have := Rat.mul_pos (show 0 < t - 1 by grind) (show 0 < u - v by grind); grind
theorem convex {u d l h s t m : Rat} (a : l < u + d * s ∧ u + d * s < h) (b : l < u + d * t ∧ u + d * t < h) (m1 : s ≤ m) (m2 : m ≤ t) : l < u + d * m ∧ u + d * m < h := by
  by_cases w : 0 ≤ d
  · have := Rat.mul_nonneg w (show 0 ≤ m - s by grind)
    have := Rat.mul_nonneg w (show 0 ≤ t - m by grind)
    constructor <;> grind
  · have := Rat.mul_nonneg (show 0 ≤ -d by grind) (show 0 ≤ m - s by grind)
    have := Rat.mul_nonneg (show 0 ≤ -d by grind) (show 0 ≤ t - m by grind)
    constructor <;> grind
theorem helly {A B C : Rat → Prop} (cA : ∀ s m t, A s → A t → s ≤ m → m ≤ t → A m) (cB : ∀ s m t, B s → B t → s ≤ m → m ≤ t → B m) (cC : ∀ s m t, C s → C t → s ≤ m → m ≤ t → C m)
    {x y z : Rat} (hx : A x ∧ B x) (hy : A y ∧ C y) (hz : B z ∧ C z) : ∃ m, A m ∧ B m ∧ C m := by
  rcases Rat.le_total (a := x) (b := y) with h1 | h1 <;> rcases Rat.le_total (a := y) (b := z) with h2 | h2 <;> rcases Rat.le_total (a := x) (b := z) with h3 | h3
  · exact ⟨y, hy.1, cB x y z hx.2 hz.1 h1 h2, hy.2⟩
  · exact ⟨y, hy.1, cB x y z hx.2 hz.1 h1 h2, hy.2⟩
  · exact ⟨z, cA x z y hx.1 hy.1 h3 h2, hz.1, hz.2⟩
  · exact ⟨x, hx.1, hx.2, cC z x y hz.2 hy.2 h3 h1⟩
  · exact ⟨x, hx.1, hx.2, cC y x z hy.2 hz.2 h1 h3⟩
  · exact ⟨z, cA y z x hy.1 hx.1 h2 h3, hz.1, hz.2⟩
  · exact ⟨y, hy.1, cB z y x hz.1 hx.2 h2 h1, hy.2⟩
  · exact ⟨y, hy.1, cB z y x hz.1 hx.2 h2 h1, hy.2⟩
def lnF (p q : Pt) (x y : Rat) : Rat := (q.x - p.x) * (y - p.y) - (q.y - p.y) * (x - p.x)
theorem lnF_cr (p q r : Pt) : crQ p q r = lnF p q r.x r.y := rfl
theorem lnF_of (p q : Pt) (x y : Rat) : crQ p q (ptOf x y) = lnF p q x y := by rw [lnF_cr, (ptOf_x x y).1, (ptOf_x x y).2]
theorem unit_frac {u v : Rat} (hu : 0 < u) (hv : 0 < v) : 0 < u / (u + v) ∧ u / (u + v) < 1 ∧ u / (u + v) * (u + v) = u := by
  have hd : u + v ≠ 0 := by grind
  have e : u / (u + v) * (u + v) = u := by grind
  have hp : 0 < u + v := by grind
  generalize u / (u + v) = t at *
  refine ⟨?_, ?_, e⟩
  · by_cases z : 0 < t
    · exact z
    · have := Rat.mul_nonneg (show 0 ≤ -t by grind) (show 0 ≤ u + v by grind); grind
  · by_cases z : t < 1
    · exact z
    · have := Rat.mul_nonneg (show 0 ≤ t - 1 by grind) (show 0 ≤ u + v by grind); grind
theorem inner_pt {l h m X lam : Rat} (lm : l < m) (mh : m < h) (h1 : l ≤ X) (h2 : X ≤ h) (l0 : 0 < lam) (l1 : lam < 1) : l < m + (X - m) * lam ∧ m + (X - m) * lam < h := by
  have a1 := Rat.mul_nonneg (show 0 ≤ X - l by grind) (show 0 ≤ lam by grind)
  have a2 := Rat.mul_pos (show 0 < m - l by grind) (show 0 < 1 - lam by grind)
  have a3 := Rat.mul_nonneg (show 0 ≤ h - X by grind) (show 0 ≤ lam by grind)
  have a4 := Rat.mul_pos (show 0 < h - m by grind) (show 0 < 1 - lam by grind)
  constructor <;> grind
def inOpen (B : Bx) (x y : Rat) : Prop := (B.xl < x ∧ x < B.xh) ∧ B.yl < y ∧ y < B.yh
theorem zero_in (B : Bx) {p q : Pt} {X Y X' Y' : Rat} (h1 : B.xl ≤ X ∧ X ≤ B.xh) (h2 : B.yl ≤ Y ∧ Y ≤ B.yh) (h3 : B.xl ≤ X' ∧ X' ≤ B.xh) (h4 : B.yl ≤ Y' ∧ Y' ≤ B.yh) (f1 : 0 < lnF p q X Y) (f2 : lnF p q X' Y' < 0) : ∃ x y, inOpen B x y ∧ lnF p q x y = 0 := by
  have hx := B.hx
  have hy := B.hy
  have m1 : B.xl < (B.xl + B.xh) / 2 ∧ (B.xl + B.xh) / 2 < B.xh := by constructor <;> grind
  have m2 : B.yl < (B.yl + B.yh) / 2 ∧ (B.yl + B.yh) / 2 < B.yh := by constructor <;> grind
  generalize (B.xl + B.xh) / 2 = mx at *
  generalize (B.yl + B.yh) / 2 = my at *
  have lin : ∀ (x y lam : Rat), lnF p q (mx + (x - mx) * lam) (my + (y - my) * lam) = lnF p q mx my + (lnF p q x y - lnF p q mx my) * lam := fun x y lam => by unfold lnF; grind
  by_cases z : lnF p q mx my = 0
  · exact ⟨mx, my, ⟨m1, m2⟩, z⟩
  by_cases z1 : 0 < lnF p q mx my
  · obtain ⟨a, b, e⟩ := unit_frac z1 (show 0 < -(lnF p q X' Y') by grind)
    generalize lnF p q mx my / (lnF p q mx my + -(lnF p q X' Y')) = lam at *
    exact ⟨_, _, ⟨inner_pt m1.1 m1.2 h3.1 h3.2 a b, inner_pt m2.1 m2.2 h4.1 h4.2 a b⟩, by rw [lin X' Y' lam]; grind⟩
  · obtain ⟨a, b, e⟩ := unit_frac (show 0 < -(lnF p q mx my) by grind) f1
    generalize -(lnF p q mx my) / (-(lnF p q mx my) + lnF p q X Y) = lam at *
    exact ⟨_, _, ⟨inner_pt m1.1 m1.2 h1.1 h1.2 a b, inner_pt m2.1 m2.2 h2.1 h2.2 a b⟩, by rw [lin X Y lam]; grind⟩
def thrM (B : Bx) (p q : Pt) : Prop := ((tn p q B.ll = 1 ∨ tn p q B.hl = 1 ∨ tn p q B.lh = 1 ∨ tn p q B.hh = 1) ∧ (tn p q B.ll = -1 ∨ tn p q B.hl = -1 ∨ tn p q B.lh = -1 ∨ tn p q B.hh = -1)) ∧
  (¬ (p.x ≤ B.xl ∧ q.x ≤ B.xl) ∧ ¬ (B.xh ≤ p.x ∧ B.xh ≤ q.x)) ∧ ¬ (p.y ≤ B.yl ∧ q.y ≤ B.yl) ∧ ¬ (B.yh ≤ p.y ∧ B.yh ≤ q.y)
theorem sg_one {q : Rat} : (sg q = 1 ↔ 0 < q) ∧ (sg q = -1 ↔ q < 0) := by
  rcases sg_cases q with ⟨a, e⟩ | ⟨a, e⟩ | ⟨a, e⟩ <;> rw [e]
  · exact ⟨⟨fun _ => a, fun _ => rfl⟩, ⟨fun h => absurd h (by decide), fun h => by grind⟩⟩
  · exact ⟨⟨fun h => absurd h (by decide), fun h => by grind⟩, ⟨fun _ => a, fun _ => rfl⟩⟩
  · subst a
    exact ⟨⟨fun h => absurd h (by decide), fun h => by grind⟩, ⟨fun h => absurd h (by decide), fun h => by grind⟩⟩
theorem sgn3 (d : Rat) : 0 < d ∨ 0 < -d ∨ d = 0 := by
  by_cases a : 0 < d
  · exact .inl a
  · by_cases b : d = 0
    · exact .inr (.inr b)
    · exact .inr (.inl (by grind))
theorem corners {dx dy a1 a2 a3 a4 : Rat} (h1 : 0 < a1) (h2 : 0 < a2) (h3 : 0 < a3) (h4 : 0 < a4) (hd : dx ≠ 0 ∨ dy ≠ 0) :
    (0 < dx * -a2 + dy * a4 ∨ 0 < dx * -a2 + dy * -a3 ∨ 0 < dx * a1 + dy * a4 ∨ 0 < dx * a1 + dy * -a3) ∧ (dx * -a2 + dy * a4 < 0 ∨ dx * -a2 + dy * -a3 < 0 ∨ dx * a1 + dy * a4 < 0 ∨ dx * a1 + dy * -a3 < 0) := by
  rcases sgn3 dx with d1 | d1 | d1 <;> rcases sgn3 dy with d2 | d2 | d2
  · have m1 := Rat.mul_pos d1 h1; have m2 := Rat.mul_pos d1 h2; have m3 := Rat.mul_pos d2 h3; have m4 := Rat.mul_pos d2 h4
    exact ⟨.inr (.inr (.inl (by grind))), .inr (.inl (by grind))⟩
  · have m1 := Rat.mul_pos d1 h1; have m2 := Rat.mul_pos d1 h2; have m3 := Rat.mul_pos d2 h3; have m4 := Rat.mul_pos d2 h4
    exact ⟨.inr (.inr (.inr (by grind))), .inl (by grind)⟩
  · subst d2
    have m1 := Rat.mul_pos d1 h1; have m2 := Rat.mul_pos d1 h2
    exact ⟨.inr (.inr (.inr (by grind))), .inl (by grind)⟩
  · have m1 := Rat.mul_pos d1 h1; have m2 := Rat.mul_pos d1 h2; have m3 := Rat.mul_pos d2 h3; have m4 := Rat.mul_pos d2 h4
    exact ⟨.inl (by grind), .inr (.inr (.inr (by grind)))⟩
  · have m1 := Rat.mul_pos d1 h1; have m2 := Rat.mul_pos d1 h2; have m3 := Rat.mul_pos d2 h3; have m4 := Rat.mul_pos d2 h4
    exact ⟨.inr (.inl (by grind)), .inr (.inr (.inl (by grind)))⟩
  · subst d2
    have m1 := Rat.mul_pos d1 h1; have m2 := Rat.mul_pos d1 h2
    exact ⟨.inl (by grind), .inr (.inr (.inr (by grind)))⟩
  · subst d1
    have m3 := Rat.mul_pos d2 h3; have m4 := Rat.mul_pos d2 h4
    exact ⟨.inl (by grind), .inr (.inr (.inr (by grind)))⟩
  · subst d1
    have m3 := Rat.mul_pos d2 h3; have m4 := Rat.mul_pos d2 h4
    exact ⟨.inr (.inr (.inr (by grind))), .inl (by grind)⟩
  · exact absurd hd (by rw [d1, d2]; simp)
theorem thr_iff (B : Bx) {p q : Pt} (hpq : p ≠ q) : thrM B p q ↔ ∃ r, onS r p q = true ∧ inOpen B r.x r.y := by
  have hx := B.hx
  have hy := B.hy
  have t1 : ∀ x y, (tn p q (ptOf x y) = 1 ↔ 0 < lnF p q x y) ∧ (tn p q (ptOf x y) = -1 ↔ lnF p q x y < 0) := fun x y => by
    unfold tn
    rw [lnF_of]; exact sg_one
  unfold thrM Bx.ll Bx.lh Bx.hl Bx.hh
  simp only [(t1 _ _).1, (t1 _ _).2]
  constructor
  · rintro ⟨⟨c1, c2⟩, ⟨k1, k2⟩, k3, k4⟩
    have P : ∃ X Y, (B.xl ≤ X ∧ X ≤ B.xh) ∧ (B.yl ≤ Y ∧ Y ≤ B.yh) ∧ 0 < lnF p q X Y := by
      rcases c1 with h | h | h | h
      · exact ⟨_, _, ⟨by grind, by grind⟩, ⟨by grind, by grind⟩, h⟩
      · exact ⟨_, _, ⟨by grind, by grind⟩, ⟨by grind, by grind⟩, h⟩
      · exact ⟨_, _, ⟨by grind, by grind⟩, ⟨by grind, by grind⟩, h⟩
      · exact ⟨_, _, ⟨by grind, by grind⟩, ⟨by grind, by grind⟩, h⟩
    have N : ∃ X Y, (B.xl ≤ X ∧ X ≤ B.xh) ∧ (B.yl ≤ Y ∧ Y ≤ B.yh) ∧ lnF p q X Y < 0 := by
      rcases c2 with h | h | h | h
      · exact ⟨_, _, ⟨by grind, by grind⟩, ⟨by grind, by grind⟩, h⟩
      · exact ⟨_, _, ⟨by grind, by grind⟩, ⟨by grind, by grind⟩, h⟩
      · exact ⟨_, _, ⟨by grind, by grind⟩, ⟨by grind, by grind⟩, h⟩
      · exact ⟨_, _, ⟨by grind, by grind⟩, ⟨by grind, by grind⟩, h⟩
    obtain ⟨X, Y, a1, a2, a3⟩ := P
    obtain ⟨X', Y', b1, b2, b3⟩ := N
    obtain ⟨x, y, io, f0⟩ := zero_in B a1 a2 b1 b2 a3 b3
    obtain ⟨t0, ex, ey⟩ := on_t hpq (show crQ p q (ptOf x y) = 0 by rw [lnF_of]; exact f0)
    rw [(ptOf_x x y).1] at ex
    rw [(ptOf_x x y).2] at ey
    unfold inOpen at io
    rw [ex, ey] at io
    obtain ⟨tx, u1, u2, u3, u4⟩ := seg_mid hx k1 k2
    obtain ⟨ty, v1, v2, v3, v4⟩ := seg_mid hy k3 k4
    obtain ⟨m, ⟨m1, m2⟩, m3, m4⟩ := helly (A := fun t => 0 ≤ t ∧ t ≤ 1) (B := fun t => B.xl < p.x + (q.x - p.x) * t ∧ p.x + (q.x - p.x) * t < B.xh) (C := fun t => B.yl < p.y + (q.y - p.y) * t ∧ p.y + (q.y - p.y) * t < B.yh)
      (fun s m t h1 h2 h3 h4 => ⟨by grind, by grind⟩) (fun s m t h1 h2 h3 h4 => convex h1 h2 h3 h4) (fun s m t h1 h2 h3 h4 => convex h1 h2 h3 h4)
      (x := tx) (y := ty) (z := t0) ⟨⟨u1, u2⟩, u3, u4⟩ ⟨⟨v1, v2⟩, v3, v4⟩ io
    refine ⟨ptOf (p.x + (q.x - p.x) * m) (p.y + (q.y - p.y) * m), (onS_t hpq).mpr ⟨m, m1, m2, (ptOf_x _ _).1, (ptOf_x _ _).2⟩, ?_⟩
    unfold inOpen
    rw [(ptOf_x _ _).1, (ptOf_x _ _).2]
    exact ⟨m3, m4⟩
  · rintro ⟨r, ho, ⟨x1, x2⟩, y1, y2⟩
    have f0 : lnF p q r.x r.y = 0 := tn_zero.mp (onS_iff.mp ho).1
    obtain ⟨t, t0, t1, ex, ey⟩ := (onS_t hpq).mp ho
    have lin : ∀ X Y, lnF p q X Y = (q.x - p.x) * (Y - r.y) + (q.y - p.y) * (r.x - X) := fun X Y => by unfold lnF at *; grind
    simp only [lin]
    have two : ∀ {u v l h : Rat}, (u ≤ l ∧ v ≤ l) → l < u + (v - u) * t → False := fun {u v l h} ⟨a, b⟩ c => by
      have := Rat.mul_nonneg (show 0 ≤ l - v by grind) t0
      have := Rat.mul_nonneg (show 0 ≤ l - u by grind) (show 0 ≤ 1 - t by grind)
      grind
    have two' : ∀ {u v l h : Rat}, (l ≤ u ∧ l ≤ v) → u + (v - u) * t < l → False := fun {u v l h} ⟨a, b⟩ c => by
      have := Rat.mul_nonneg (show 0 ≤ v - l by grind) t0
      have := Rat.mul_nonneg (show 0 ≤ u - l by grind) (show 0 ≤ 1 - t by grind)
      grind
    have kk : (¬ (p.x ≤ B.xl ∧ q.x ≤ B.xl) ∧ ¬ (B.xh ≤ p.x ∧ B.xh ≤ q.x)) ∧ ¬ (p.y ≤ B.yl ∧ q.y ≤ B.yl) ∧ ¬ (B.yh ≤ p.y ∧ B.yh ≤ q.y) :=
      ⟨⟨fun z => two (h := 0) z (by grind), fun z => two' (h := 0) z (by grind)⟩, fun z => two (h := 0) z (by grind), fun z => two' (h := 0) z (by grind)⟩
    refine ⟨?_, kk⟩
    have hd : q.x - p.x ≠ 0 ∨ q.y - p.y ≠ 0 := by
      by_cases z : q.x - p.x = 0
      · right; intro z2; exact hpq (Pt.eq_of (by grind) (by grind))
      · exact .inl z
    generalize q.x - p.x = dx at *
    generalize q.y - p.y = dy at *
    obtain ⟨g1, g2⟩ := corners (dx := dx) (dy := dy) (show 0 < B.yh - r.y by grind) (show 0 < r.y - B.yl by grind) (show 0 < B.xh - r.x by grind) (show 0 < r.x - B.xl by grind) hd
    have e1 : B.yl - r.y = -(r.y - B.yl) := by grind
    have e2 : r.x - B.xh = -(B.xh - r.x) := by grind
    rw [e1, e2]
    exact ⟨g1, g2⟩
/-- what the law's own asks -/
def lawMeets (B : Bx) (p q : Pt) : Prop := ((inQ B p ∨ inQ B q) ∨ bmetM p q B.ll B.lh = true ∨ bmetM p q B.ll B.hl = true) ∨ thrM B p q
theorem law_meets (B : Bx) {p q : Pt} (hpq : p ≠ q) : lawMeets B p q ↔ meetsQ B p q := by
  unfold lawMeets
  rw [bmet_iff hpq (ll_lh B), bmet_iff hpq (ll_hl B), thr_iff B hpq]
  simp only [left_iff, low_iff]
  obtain ⟨xl1, yl1⟩ := ptOf_x B.xl B.yh
  obtain ⟨xl2, yl2⟩ := ptOf_x B.xh B.yl
  have hx := B.hx
  have hy := B.hy
  have ep : onS p p q = true := (onS_t hpq).mpr ⟨0, by grind, by grind, by grind, by grind⟩
  have eq : onS q p q = true := (onS_t hpq).mpr ⟨1, by grind, by grind, by grind, by grind⟩
  constructor
  · rintro (((h | h) | ⟨r, r1, ⟨r2, r3, r4⟩, r5⟩ | ⟨r, r1, ⟨r2, r3, r4⟩, r5⟩) | ⟨r, r1, ⟨r2, r3⟩, r4, r5⟩)
    · exact ⟨p, ep, h⟩
    · exact ⟨q, eq, h⟩
    · refine ⟨r, r1, ⟨by grind, by grind⟩, r3, ?_⟩
      by_cases z : r.y = B.yh
      · exact absurd (Pt.eq_of (by unfold Bx.lh; rw [xl1]; exact r2) (by unfold Bx.lh; rw [yl1]; exact z)) r5
      · grind
    · refine ⟨r, r1, ⟨r3, ?_⟩, by grind, by grind⟩
      by_cases z : r.x = B.xh
      · exact absurd (Pt.eq_of (by unfold Bx.hl; rw [xl2]; exact z) (by unfold Bx.hl; rw [yl2]; exact r2)) r5
      · grind
    · exact ⟨r, r1, ⟨by grind, r3⟩, by grind, r5⟩
  · rintro ⟨r, r1, ⟨a1, a2⟩, b1, b2⟩
    by_cases z1 : r.x = B.xl
    · refine .inl (.inr (.inl ⟨r, r1, ⟨z1, b1, by grind⟩, fun z => ?_⟩))
      have := congrArg Pt.y z
      unfold Bx.lh at this
      rw [yl1] at this
      grind
    by_cases z2 : r.y = B.yl
    · refine .inl (.inr (.inr ⟨r, r1, ⟨z2, a1, by grind⟩, fun z => ?_⟩))
      have := congrArg Pt.x z
      unfold Bx.hl at this
      rw [xl2] at this
      grind
    · exact .inr ⟨r, r1, ⟨by grind, a2⟩, by grind, b2⟩
theorem meetsQ_flip (B : Bx) {p q : Pt} (hpq : p ≠ q) : meetsQ B q p ↔ meetsQ B p q := by
  unfold meetsQ
  simp only [onS_flip hpq]
end Py

set_option Elab.async false
set_option linter.all false
set_option autoImplicit false
set_option maxRecDepth 100000
set_option exponentiation.threshold 20000
namespace Py
open PySem hiding start
open L2
/-! ### a number over another one, in any terms -/
structure BdOk (n : Nat) (d : PyData) (r : Rat) : Prop where
  ex : ∃ t b : Int, d = .tuple [.int t, .int b] ∧ 0 < b ∧ (t : Rat) = r * (b : Rat) ∧ t.natAbs < 2 ^ n ∧ b.natAbs < 2 ^ n
structure BorOk (n : Nat) (d : PyData) (r : Rat) (o : Bool) : Prop where
  ex : ∃ e, d = .tuple [e, .bool o] ∧ BdOk n e r
def inLo (r : Rat) (o : Bool) (t : Rat) : Prop := if o then r < t else r ≤ t
def inHi (r : Rat) (o : Bool) (t : Rat) : Prop := if o then t < r else t ≤ r
theorem sign_mul {u d : Rat} (hd : 0 < d) : (0 < u * d ↔ 0 < u) ∧ (u * d = 0 ↔ u = 0) ∧ (u * d < 0 ↔ u < 0) := by
  rcases sgn3 u with h | h | h
  · have := Rat.mul_pos h hd
    refine ⟨⟨fun _ => h, fun _ => this⟩, ⟨fun z => by grind, fun z => by grind⟩, fun z => by grind, fun z => by grind⟩
  · have := Rat.mul_pos h hd
    refine ⟨⟨fun z => by grind, fun z => by grind⟩, ⟨fun z => by grind, fun z => by grind⟩, fun z => by grind, fun z => by grind⟩
  · subst h
    refine ⟨⟨fun z => by grind, fun z => by grind⟩, ⟨fun z => by grind, fun z => by grind⟩, fun z => by grind, fun z => by grind⟩
theorem int_sign {i : Int} {u d : Rat} (hd : 0 < d) (h : (i : Rat) = u * d) : (0 < i ↔ 0 < u) ∧ (i = 0 ↔ u = 0) ∧ (i < 0 ↔ u < 0) := by
  obtain ⟨h1, h2, h3⟩ := sign_mul (u := u) hd
  rw [← h] at h1 h2 h3
  refine ⟨⟨fun z => h1.mp (by exact_mod_cast z), fun z => by exact_mod_cast h1.mpr z⟩, ⟨fun z => h2.mp (by exact_mod_cast z), fun z => by exact_mod_cast h2.mpr z⟩, fun z => h3.mp (by exact_mod_cast z), fun z => by exact_mod_cast h3.mpr z⟩
theorem gap_sign {t b t' b' : Int} {r r' : Rat} (hb : 0 < b) (hb' : 0 < b') (h : (t : Rat) = r * b) (h' : (t' : Rat) = r' * b') : (0 < t * b' - t' * b ↔ r' < r) ∧ (t * b' - t' * b = 0 ↔ r = r') ∧ (t * b' - t' * b < 0 ↔ r < r') := by
  have e : ((t * b' - t' * b : Int) : Rat) = (r - r') * ((b : Rat) * (b' : Rat)) := by
    simp only [Rat.intCast_sub, Rat.intCast_mul]
    rw [h, h']; grind
  have hp : (0 : Rat) < (b : Rat) * (b' : Rat) := Rat.mul_pos (by exact_mod_cast hb) (by exact_mod_cast hb')
  obtain ⟨h1, h2, h3⟩ := int_sign hp e
  rw [h1, h2, h3]
  refine ⟨⟨fun z => by grind, fun z => by grind⟩, ⟨fun z => by grind, fun z => by grind⟩, fun z => by grind, fun z => by grind⟩
theorem lo_two {r r' : Rat} {o o' : Bool} (t : Rat) : (r = r' → (inLo r (o || o') t ↔ inLo r o t ∧ inLo r' o' t)) ∧ (r' < r → (inLo r o t ↔ inLo r o t ∧ inLo r' o' t)) ∧ (r < r' → (inLo r' o' t ↔ inLo r o t ∧ inLo r' o' t)) := by
  unfold inLo
  refine ⟨fun z => ?_, fun z => ?_, fun z => ?_⟩
  · subst z
    cases o <;> cases o' <;> simp <;> grind
  · cases o <;> cases o' <;> simp <;> grind
  · cases o <;> cases o' <;> simp <;> grind
theorem hi_two {r r' : Rat} {o o' : Bool} (t : Rat) : (r = r' → (inHi r (o || o') t ↔ inHi r o t ∧ inHi r' o' t)) ∧ (r' < r → (inHi r' o' t ↔ inHi r o t ∧ inHi r' o' t)) ∧ (r < r' → (inHi r o t ↔ inHi r o t ∧ inHi r' o' t)) := by
  unfold inHi
  refine ⟨fun z => ?_, fun z => ?_, fun z => ?_⟩
  · subst z
    cases o <;> cases o' <;> simp <;> grind
  · cases o <;> cases o' <;> simp <;> grind
  · cases o <;> cases o' <;> simp <;> grind
theorem lo_hi {r r' : Rat} {o o' : Bool} : (∃ t, inLo r o t ∧ inHi r' o' t) ↔ ¬ (r' < r ∨ (r = r' ∧ (o || o') = true)) := by
  unfold inLo inHi
  constructor
  · rintro ⟨t, h1, h2⟩ z
    rcases z with z | ⟨z, z2⟩
    · cases o <;> cases o' <;> simp at h1 h2 <;> grind
    · subst z
      cases o <;> cases o' <;> simp at h1 h2 z2 <;> grind
  · intro h
    by_cases z : r = r'
    · subst z
      have : (o || o') = false := by
        cases e : (o || o') with
        | false => rfl
        | true => exact absurd (.inr ⟨rfl, e⟩) h
      obtain ⟨rfl, rfl⟩ : o = false ∧ o' = false := by cases o <;> cases o' <;> simp_all
      exact ⟨r, by simp, by simp⟩
    · have : r < r' := by
        have : ¬ r' < r := fun q => h (.inl q)
        grind
      refine ⟨(r + r') / 2, ?_, ?_⟩
      · cases o <;> simp <;> grind
      · cases o' <;> simp <;> grind
/-! ### the cell's borders along a side -/
theorem div_lo {e d r t : Rat} (h : r * d = e) : (0 < d → ((r ≤ t ↔ e ≤ d * t) ∧ (t < r ↔ d * t < e))) ∧ (d < 0 → ((t ≤ r ↔ e ≤ d * t) ∧ (r < t ↔ d * t < e))) := by
  refine ⟨fun hd => ?_, fun hd => ?_⟩
  · obtain ⟨h1, h2, h3⟩ := sign_mul (u := t - r) hd
    have e1 : (t - r) * d = d * t - e := by grind
    rw [e1] at h1 h2 h3
    refine ⟨⟨fun z => ?_, fun z => ?_⟩, fun z => ?_, fun z => ?_⟩ <;> grind
  · obtain ⟨h1, h2, h3⟩ := sign_mul (u := t - r) (d := -d) (by grind)
    have e1 : (t - r) * -d = e - d * t := by grind
    rw [e1] at h1 h2 h3
    refine ⟨⟨fun z => ?_, fun z => ?_⟩, fun z => ?_, fun z => ?_⟩ <;> grind
/-- the numbers that the borders are made of -/
theorem bord_q {a b i pa pc qa qc : Int} {x y l h : Rat} (hb : 0 < b) (hp : 0 < pc) (hq : 0 < qc) (hx : (pa : Rat) = x * pc) (hy : (qa : Rat) = y * qc) (hl : l * (2 * (b : Rat)) = (2 * (i : Rat) - 1) * (a : Rat)) (hh : h * (2 * (b : Rat)) = (2 * (i : Rat) + 1) * (a : Rat)) :
    ((qa * pc - pa * qc : Int) : Rat) = (y - x) * ((pc : Rat) * (qc : Rat)) ∧ (((2 * i - 1) * a * pc - 2 * b * pa : Int) : Rat) = (l - x) * (2 * (b : Rat) * (pc : Rat)) ∧ (((2 * i - 1) * a * pc - 2 * b * pa + 2 * a * pc : Int) : Rat) = (h - x) * (2 * (b : Rat) * (pc : Rat)) := by
  have e2 : ((2 : Int) : Rat) = 2 := rfl
  have e1 : ((1 : Int) : Rat) = 1 := rfl
  simp only [Rat.intCast_sub, Rat.intCast_mul, Rat.intCast_add, e1, e2]
  rw [hx, hy]
  refine ⟨by grind, ?_, ?_⟩
  · have : (2 * (i : Rat) - 1) * (a : Rat) * (pc : Rat) = l * (2 * (b : Rat)) * (pc : Rat) := by rw [hl]
    grind
  · have : (2 * (i : Rat) + 1) * (a : Rat) * (pc : Rat) = h * (2 * (b : Rat)) * (pc : Rat) := by rw [hh]
    grind
def cellB (i j : Int) (w : Rat) (hw : 0 < w) : Bx where
  xl := (2 * (i : Rat) - 1) / 2 * w
  xh := (2 * (i : Rat) + 1) / 2 * w
  yl := (2 * (j : Rat) - 1) / 2 * w
  yh := (2 * (j : Rat) + 1) / 2 * w
  hx := by grind
  hy := by grind
theorem wab {a b : Int} (ha : 0 < a) (hb : 0 < b) : 0 < (a : Rat) / (b : Rat) := q_div_pos (by exact_mod_cast ha) (by exact_mod_cast hb)
theorem wab_mul {a b : Int} (hb : 0 < b) : (a : Rat) / (b : Rat) * (b : Rat) = (a : Rat) := by
  have : (b : Rat) ≠ 0 := by exact_mod_cast (show b ≠ 0 by omega)
  grind
noncomputable def cellOf (i j a b : Int) (ha : 0 < a) (hb : 0 < b) : Bx := cellB i j ((a : Rat) / (b : Rat)) (wab ha hb)
theorem cell_lh {i j a b : Int} (ha : 0 < a) (hb : 0 < b) : ((cellOf i j a b ha hb).xl * (2 * (b : Rat)) = (2 * (i : Rat) - 1) * (a : Rat) ∧ (cellOf i j a b ha hb).xh * (2 * (b : Rat)) = (2 * (i : Rat) + 1) * (a : Rat)) ∧
    (cellOf i j a b ha hb).yl * (2 * (b : Rat)) = (2 * (j : Rat) - 1) * (a : Rat) ∧ (cellOf i j a b ha hb).yh * (2 * (b : Rat)) = (2 * (j : Rat) + 1) * (a : Rat) := by
  have e := wab_mul (a := a) hb
  unfold cellOf cellB
  refine ⟨⟨?_, ?_⟩, ?_, ?_⟩ <;> (show _ / 2 * ((a : Rat) / (b : Rat)) * (2 * (b : Rat)) = _; generalize (a : Rat) / (b : Rat) = w at *; grind)
/-- on the way -/
def wayX (u v t : Rat) : Rat := u + (v - u) * t
def inStrip (l h u v t : Rat) : Prop := l ≤ wayX u v t ∧ wayX u v t < h
theorem meetsQ_t (B : Bx) {p q : Pt} (hpq : p ≠ q) : meetsQ B p q ↔ ∃ t, (0 ≤ t ∧ t ≤ 1) ∧ inStrip B.xl B.xh p.x q.x t ∧ inStrip B.yl B.yh p.y q.y t := by
  unfold meetsQ inStrip wayX inQ
  constructor
  · rintro ⟨r, ho, h1, h2⟩
    obtain ⟨t, t0, t1, ex, ey⟩ := (onS_t hpq).mp ho
    rw [ex] at h1
    rw [ey] at h2
    exact ⟨t, ⟨t0, t1⟩, h1, h2⟩
  · rintro ⟨t, ⟨t0, t1⟩, h1, h2⟩
    refine ⟨ptOf (p.x + (q.x - p.x) * t) (p.y + (q.y - p.y) * t), (onS_t hpq).mpr ⟨t, t0, t1, (ptOf_x _ _).1, (ptOf_x _ _).2⟩, ?_⟩
    rw [(ptOf_x _ _).1, (ptOf_x _ _).2]
    exact ⟨h1, h2⟩
open Classical in
noncomputable def meetsB (B : Bx) (p q : Pt) : Bool := decide (meetsQ B p q)
open Classical in
theorem meetsB_t {B : Bx} {p q : Pt} (h : meetsQ B p q) : meetsB B p q = true := by unfold meetsB; exact decide_eq_true h
open Classical in
theorem meetsB_f {B : Bx} {p q : Pt} (h : ¬ meetsQ B p q) : meetsB B p q = false := by unfold meetsB; exact decide_eq_false h
/-- two borders of the shares of the way -/
def strip_lo (l h u v : Rat) (r1 r2 : Rat) (o1 o2 : Bool) : Prop := ∀ t, 0 ≤ t → t ≤ 1 → (inLo r1 o1 t ∧ inHi r2 o2 t ↔ inStrip l h u v t)
theorem strip_up {l h u v r1 r2 : Rat} (hd : 0 < v - u) (h1 : r1 * (v - u) = l - u) (h2 : r2 * (v - u) = h - u) : strip_lo l h u v r1 r2 false true := fun t _ _ => by
  unfold inLo inHi inStrip wayX
  have a := ((div_lo (t := t) h1).1 hd).1
  have b := ((div_lo (t := t) h2).1 hd).2
  simp only [Bool.false_eq_true, if_false, if_true]
  rw [a, b]
  constructor
  · rintro ⟨z1, z2⟩; constructor <;> grind
  · rintro ⟨z1, z2⟩; constructor <;> grind
theorem strip_down {l h u v r1 r2 : Rat} (hd : v - u < 0) (h1 : r1 * (v - u) = l - u) (h2 : r2 * (v - u) = h - u) : strip_lo l h u v r2 r1 true false := fun t _ _ => by
  unfold inLo inHi inStrip wayX
  have a := ((div_lo (t := t) h1).2 hd).1
  have b := ((div_lo (t := t) h2).2 hd).2
  simp only [Bool.false_eq_true, if_false, if_true]
  rw [a, b]
  constructor
  · rintro ⟨z1, z2⟩; constructor <;> grind
  · rintro ⟨z1, z2⟩; constructor <;> grind
theorem share_q {t b : Int} {u d m : Rat} (hm : 0 < m) (hd : d ≠ 0) (ht : (t : Rat) = u * m) (hb : (b : Rat) = d * m) : (t : Rat) = u / d * (b : Rat) := by
  rw [ht, hb]
  have : u / d * d = u := by grind
  grind
end Py
namespace Py
open PySem hiding start
open L2
theorem sub_sign {u v : Rat} : (0 < v - u ↔ u < v) ∧ (v - u = 0 ↔ u = v) ∧ (v - u < 0 ↔ v < u) := by
  refine ⟨⟨fun z => by grind, fun z => by grind⟩, ⟨fun z => by grind, fun z => by grind⟩, fun z => by grind, fun z => by grind⟩
/-- near, far and change of a side and a cell -/
structure Bord (a b i pa pc qa qc : Int) (l h u v : Rat) : Prop where
  c0 : qa * pc - pa * qc = 0 ↔ v - u = 0
  cp : qa * pc - pa * qc > 0 ↔ 0 < v - u
  np : (2 * i - 1) * a * pc - 2 * b * pa > 0 ↔ u < l
  fn : (2 * i - 1) * a * pc - 2 * b * pa + 2 * a * pc ≤ 0 ↔ h ≤ u
  s1 : v - u ≠ 0 → ((((2 * i - 1) * a * pc - 2 * b * pa) * qc : Int) : Rat) = (l - u) / (v - u) * ((2 * b * (qa * pc - pa * qc) : Int) : Rat)
  s2 : v - u ≠ 0 → ((((2 * i - 1) * a * pc - 2 * b * pa + 2 * a * pc) * qc : Int) : Rat) = (h - u) / (v - u) * ((2 * b * (qa * pc - pa * qc) : Int) : Rat)
theorem bord_ok {a b i pa pc qa qc : Int} {x y l h : Rat} (hb : 0 < b) (hp : 0 < pc) (hq : 0 < qc) (hx : (pa : Rat) = x * pc) (hy : (qa : Rat) = y * qc) (hl : l * (2 * (b : Rat)) = (2 * (i : Rat) - 1) * (a : Rat)) (hh : h * (2 * (b : Rat)) = (2 * (i : Rat) + 1) * (a : Rat)) : Bord a b i pa pc qa qc l h x y := by
  obtain ⟨e1, e2, e3⟩ := bord_q hb hp hq hx hy hl hh
  have pp : (0 : Rat) < (pc : Rat) := by exact_mod_cast hp
  have qp : (0 : Rat) < (qc : Rat) := by exact_mod_cast hq
  have bp : (0 : Rat) < (b : Rat) := by exact_mod_cast hb
  have m1 : (0 : Rat) < (pc : Rat) * (qc : Rat) := Rat.mul_pos pp qp
  have m2 : (0 : Rat) < 2 * (b : Rat) * (pc : Rat) := Rat.mul_pos (by grind) pp
  have m3 : (0 : Rat) < 2 * (b : Rat) * ((pc : Rat) * (qc : Rat)) := Rat.mul_pos (by grind) m1
  obtain ⟨g1, g2, g3⟩ := int_sign m1 e1
  obtain ⟨k1, k2, k3⟩ := int_sign m2 e2
  obtain ⟨j1, j2, j3⟩ := int_sign m2 e3
  have i2 : ((2 : Int) : Rat) = 2 := rfl
  refine ⟨g2, g1, k1.trans sub_sign.1, ?_, fun hd => ?_, fun hd => ?_⟩
  · constructor
    · intro z
      by_cases w : h ≤ x
      · exact w
      · have := j1.mpr (show 0 < h - x by grind); omega
    · intro z
      by_cases w : (2 * i - 1) * a * pc - 2 * b * pa + 2 * a * pc ≤ 0
      · exact w
      · have := j1.mp (by omega); grind
  · refine share_q (m := 2 * (b : Rat) * ((pc : Rat) * (qc : Rat))) m3 hd ?_ ?_
    · rw [Rat.intCast_mul, e2]; grind
    · rw [Rat.intCast_mul, e1, Rat.intCast_mul, i2]; grind
  · refine share_q (m := 2 * (b : Rat) * ((pc : Rat) * (qc : Rat))) m3 hd ?_ ?_
    · rw [Rat.intCast_mul, e3]; grind
    · rw [Rat.intCast_mul, e1, Rat.intCast_mul, i2]; grind
theorem strip_no {l h u v : Rat} (hd : v - u = 0) (z : u < l ∨ h ≤ u) (t : Rat) : ¬ inStrip l h u v t := by
  unfold inStrip wayX
  rw [hd]
  rintro ⟨a, b⟩
  rcases z with z | z <;> grind
theorem strip_all {l h u v : Rat} (hd : v - u = 0) (z1 : ¬ u < l) (z2 : ¬ h ≤ u) : strip_lo l h u v 0 1 false false := fun t t0 t1 => by
  unfold inStrip wayX inLo inHi
  rw [hd]
  simp only [Bool.false_eq_true, if_false]
  constructor
  · intro _; constructor <;> grind
  · intro _; exact ⟨t0, t1⟩
theorem div_mul' {e d : Rat} (hd : d ≠ 0) : e / d * d = e := by grind
theorem strip_of {a b i pa pc qa qc : Int} {l h u v : Rat} (B : Bord a b i pa pc qa qc l h u v) (hd : ¬ qa * pc - pa * qc = 0) :
    (qa * pc - pa * qc > 0 → strip_lo l h u v ((l - u) / (v - u)) ((h - u) / (v - u)) false true) ∧ (¬ qa * pc - pa * qc > 0 → strip_lo l h u v ((h - u) / (v - u)) ((l - u) / (v - u)) true false) := by
  have hne : v - u ≠ 0 := fun z => hd (B.c0.mpr z)
  refine ⟨fun z => strip_up (B.cp.mp z) (div_mul' hne) (div_mul' hne), fun z => strip_down ?_ (div_mul' hne) (div_mul' hne)⟩
  have : ¬ 0 < v - u := fun w => z (B.cp.mpr w)
  grind
theorem bd_share {n : Nat} {t b t' b' : Int} {r : Rat} (h : (t : Rat) = r * (b : Rat)) (hb : 0 < b') (e : (t' = t ∧ b' = b) ∨ (t' = -t ∧ b' = -b)) (nt : t.natAbs < 2 ^ n) (nb : b.natAbs < 2 ^ n) : BdOk n (.tuple [.int t', .int b']) r := by
  rcases e with ⟨rfl, rfl⟩ | ⟨rfl, rfl⟩
  · exact ⟨_, _, rfl, hb, h, nt, nb⟩
  · exact ⟨_, _, rfl, hb, by rw [Rat.intCast_neg, Rat.intCast_neg, h]; grind, by omega, by omega⟩
theorem bd_lit {n : Nat} (h : 0 < n) : BdOk n (.tuple [.int 0, .int 1]) 0 ∧ BdOk n (.tuple [.int 1, .int 1]) 1 := by
  have : 2 ^ 1 ≤ 2 ^ n := Nat.pow_le_pow_right (by decide) h
  exact ⟨⟨0, 1, rfl, by decide, by simp, by show 0 < _; omega, by show 1 < _; omega⟩, ⟨1, 1, rfl, by decide, by simp, by show 1 < _; omega, by show 1 < _; omega⟩⟩
end Py
namespace Py
open PySem hiding start
open L2
/-- in the cell, by the law's own numbers -/
theorem inside_int {a b z pa pc : Int} {x l h : Rat} (hb : 0 < b) (hp : 0 < pc) (hx : (pa : Rat) = x * pc) (hl : l * (2 * (b : Rat)) = (2 * (z : Rat) - 1) * (a : Rat)) (hh : h * (2 * (b : Rat)) = (2 * (z : Rat) + 1) * (a : Rat)) :
    (2 * b * pa < (2 * z - 1) * (a * pc) ↔ x < l) ∧ ((2 * z + 1) * (a * pc) ≤ 2 * b * pa ↔ h ≤ x) := by
  have pp : (0 : Rat) < (pc : Rat) := by exact_mod_cast hp
  have bp : (0 : Rat) < (b : Rat) := by exact_mod_cast hb
  have m2 : (0 : Rat) < 2 * (b : Rat) * (pc : Rat) := Rat.mul_pos (by grind) pp
  have i2 : ((2 : Int) : Rat) = 2 := rfl
  have i1 : ((1 : Int) : Rat) = 1 := rfl
  have e1 : ((2 * b * pa - (2 * z - 1) * (a * pc) : Int) : Rat) = (x - l) * (2 * (b : Rat) * (pc : Rat)) := by
    simp only [Rat.intCast_sub, Rat.intCast_mul, i1, i2]
    rw [hx]
    have : (2 * (z : Rat) - 1) * (a : Rat) * (pc : Rat) = l * (2 * (b : Rat)) * (pc : Rat) := by rw [hl]
    grind
  have e2 : ((2 * b * pa - (2 * z + 1) * (a * pc) : Int) : Rat) = (x - h) * (2 * (b : Rat) * (pc : Rat)) := by
    simp only [Rat.intCast_sub, Rat.intCast_mul, Rat.intCast_add, i1, i2]
    rw [hx]
    have : (2 * (z : Rat) + 1) * (a : Rat) * (pc : Rat) = h * (2 * (b : Rat)) * (pc : Rat) := by rw [hh]
    grind
  obtain ⟨g1, g2, g3⟩ := int_sign m2 e1
  obtain ⟨k1, k2, k3⟩ := int_sign m2 e2
  refine ⟨⟨fun w => ?_, fun w => ?_⟩, ⟨fun w => ?_, fun w => ?_⟩⟩
  · have := g3.mp (by omega); grind
  · have := g3.mpr (show x - l < 0 by grind); omega
  · by_cases q : h ≤ x
    · exact q
    · have := k3.mpr (show x - h < 0 by grind); omega
  · by_cases q : (2 * z + 1) * (a * pc) ≤ 2 * b * pa
    · exact q
    · have := k3.mp (by omega); grind
/-- the corners by their numbers -/
theorem corner_eq {x y : Rat} {q : Pt} {b : Int} {u v : Rat} (hb : 0 < b) (h1 : q.x * (2 * (b : Rat)) = u) (h2 : q.y * (2 * (b : Rat)) = v) (e1 : x * (2 * (b : Rat)) = u) (e2 : y * (2 * (b : Rat)) = v) : q = ptOf x y := by
  have bp : (0 : Rat) < 2 * (b : Rat) := by
    have : (0 : Rat) < (b : Rat) := by exact_mod_cast hb
    grind
  have c : ∀ {s t : Rat}, s * (2 * (b : Rat)) = t * (2 * (b : Rat)) → s = t := fun {s t} h => by
    have : (s - t) * (2 * (b : Rat)) = 0 := by grind
    rcases Rat.mul_eq_zero.mp this with z | z <;> grind
  exact Pt.eq_of ((c (h1.trans e1.symm)).trans (ptOf_x x y).1.symm) ((c (h2.trans e2.symm)).trans (ptOf_x x y).2.symm)
theorem gcd_le1 {t b : Int} (ht : 0 < t) (hb : 0 < b) : 0 < (Int.gcd b t : Int) ∧ (0 < t.fdiv (Int.gcd b t : Int) ∧ t.fdiv (Int.gcd b t : Int) ≤ t) ∧ 0 < b.fdiv (Int.gcd b t : Int) ∧ b.fdiv (Int.gcd b t : Int) ≤ b := by
  have g0 : 0 < (Int.gcd b t : Int) := by
    have : Int.gcd b t ≠ 0 := fun z => by have := (Int.gcd_eq_zero_iff.mp z).1; omega
    omega
  have key : ∀ z : Int, 0 < z → (Int.gcd b t : Int) ∣ z → 0 < z.fdiv (Int.gcd b t : Int) ∧ z.fdiv (Int.gcd b t : Int) ≤ z := fun z hz hd => by
    obtain ⟨m, hm⟩ := hd
    generalize (Int.gcd b t : Int) = g at *
    have e : z.fdiv g = m := by rw [hm]; exact Int.mul_fdiv_cancel_left m (by omega)
    rw [e]
    have mp : 0 < m := by
      by_cases q : 0 < m
      · exact q
      · have : g * m ≤ 0 := Int.mul_nonpos_of_nonneg_of_nonpos (by omega) (by omega)
        omega
    refine ⟨mp, ?_⟩
    have : 1 * m ≤ g * m := Int.mul_le_mul_of_nonneg_right (by omega) (by omega)
    omega
  exact ⟨g0, key t ht (Int.gcd_dvd_right ..), key b hb (Int.gcd_dvd_left ..)⟩
instance (B : Bx) (p q : Pt) : Decidable (thrM B p q) := by unfold thrM; infer_instance
instance (B : Bx) (p q : Pt) : Decidable (lawMeets B p q) := by unfold lawMeets; infer_instance
def tnsOf (B : Bx) (p q : Pt) : List Int := [tn p q B.ll, tn p q B.hl, tn p q B.lh, tn p q B.hh]
theorem mem_tns {B : Bx} {p q : Pt} {s : Int} : s ∈ tnsOf B p q ↔ (tn p q B.ll = s ∨ tn p q B.hl = s ∨ tn p q B.lh = s ∨ tn p q B.hh = s) := by
  unfold tnsOf
  simp only [List.mem_cons, List.not_mem_nil, or_false]
  constructor
  · rintro (h | h | h | h) <;> simp [← h]
  · rintro (h | h | h | h) <;> simp [← h]
end Py
namespace Py
open PySem hiding start
open L2
theorem inside_int2 {a b z pa pc : Int} {x l h : Rat} (hb : 0 < b) (hp : 0 < pc) (hx : (pa : Rat) = x * pc) (hl : l * (2 * (b : Rat)) = (2 * (z : Rat) - 1) * (a : Rat)) (hh : h * (2 * (b : Rat)) = (2 * (z : Rat) + 1) * (a : Rat)) :
    (2 * b * pa ≤ (2 * z - 1) * a * pc ↔ x ≤ l) ∧ ((2 * z + 1) * a * pc ≤ 2 * b * pa ↔ h ≤ x) := by
  refine ⟨?_, by rw [Int.mul_assoc (2 * z + 1)]; exact (inside_int hb hp hx hl hh).2⟩
  have pp : (0 : Rat) < (pc : Rat) := by exact_mod_cast hp
  have bp : (0 : Rat) < (b : Rat) := by exact_mod_cast hb
  have m2 : (0 : Rat) < 2 * (b : Rat) * (pc : Rat) := Rat.mul_pos (by grind) pp
  have i2 : ((2 : Int) : Rat) = 2 := rfl
  have i1 : ((1 : Int) : Rat) = 1 := rfl
  have e1 : ((2 * b * pa - (2 * z - 1) * a * pc : Int) : Rat) = (x - l) * (2 * (b : Rat) * (pc : Rat)) := by
    simp only [Rat.intCast_sub, Rat.intCast_mul, i1, i2]
    rw [hx]
    have : (2 * (z : Rat) - 1) * (a : Rat) * (pc : Rat) = l * (2 * (b : Rat)) * (pc : Rat) := by rw [hl]
    grind
  obtain ⟨g1, g2, g3⟩ := int_sign m2 e1
  constructor
  · intro w
    by_cases q : x ≤ l
    · exact q
    · have := g1.mpr (show 0 < x - l by grind); omega
  · intro w
    by_cases q : 2 * b * pa ≤ (2 * z - 1) * a * pc
    · exact q
    · have := g1.mp (by omega); grind
end Py
namespace Py
open PySem hiding start
open L2
theorem meetsB_flip (B : Bx) {p q : Pt} (hpq : p ≠ q) : meetsB B q p = meetsB B p q := by
  have h := meetsQ_flip B hpq
  by_cases z : meetsQ B p q
  · rw [meetsB_t z, meetsB_t (h.mpr z)]
  · rw [meetsB_f z, meetsB_f (fun w => z (h.mp w))]
theorem ptBy_inj {u v u' v' d : Int} (hd : d ≠ 0) (h : ptBy u v d hd = ptBy u' v' d hd) : u = u' ∧ v = v' := by
  obtain ⟨x1, y1⟩ := ptBy_x (a := u) (b := v) hd
  obtain ⟨x2, y2⟩ := ptBy_x (a := u') (b := v') hd
  have ex := congrArg Pt.x h
  have ey := congrArg Pt.y h
  rw [x1, x2] at ex
  rw [y1, y2] at ey
  have k : ∀ {s t : Int}, Rat.divInt s d = Rat.divInt t d → s = t := fun {s t} e => by
    have := (Rat.divInt_eq_divInt_iff hd hd).mp e
    exact Int.eq_of_mul_eq_mul_right hd this
  exact ⟨k ex, k ey⟩
end Py
namespace Py
open PySem hiding start
abbrev tupI (i j : Int) : PyData := .tuple [.int i, .int j]
end Py

set_option Elab.async false
set_option linter.all false
set_option autoImplicit false
set_option maxRecDepth 100000
set_option maxHeartbeats 4000000
namespace Py
open PySem hiding start
open L2
open Evl (Ex ex_rd ex_l ex_t fresh_back)
open Classical
/-! ### what stands behind a statement that never goes on -/
def tDead (t : TS) : TS := fun D σ H => t { D with nx := fun _ _ => False } σ H
theorem pss_dead {X : Cx} {st : Stmt} {rest : List Stmt} {t : TS} (h1 : PS X st t) : PSs X (st :: rest) (tDead t) := by
  refine ⟨fun pins s σ H D I h => ?_⟩
  refine wpAny_execs_cons (thn (h1.run pins s σ H { D with nx := fun _ _ => False } I h) fun f s1 q => ?_)
  cases f with
  | next =>
    obtain ⟨σ', H', I', q⟩ := q
    exact q.elim
  | ret v => exact q
  | brk => exact q
  | cont => exact q
section
variable {K : PySem.W.Frag} {c c' : Ctx K} {ρ : Rho} {E : DE} {k : Dv → Prop} {ta tb te ti : TE} {t : TS}
theorem ws_dead (h : Ws c t ρ { E with nx := fun _ => False }) : Ws c (tDead t) ρ E := fun D σ H e o => h _ σ H (e.next (f := fun _ => False) (g := fun _ _ => False) (fun _ _ _ _ z => z)) o
/-- {} as a thing -/
theorem we_dnewT (h : ∀ p, k (.r (.ref p))) : We c tDNewT ρ k := fun σ H Q o q p hp => by
  obtain ⟨o2, e2⟩ := o.new (o := .dT []) hp
  exact q _ (.r _) _ o2 e2 rfl (h p)
/-! ### slices -/
def cutD (xs : List PyData) (lo hi : Option Int) : List PyData := (xs.drop (HT.sIx xs.length 0 lo)).take (HT.sIx xs.length xs.length hi - HT.sIx xs.length 0 lo)
theorem dpa_cut {G : Hp} {vs : List V} {xs : List PyData} (h : DpAll K G vs xs) (lo hi : Option Int) : DpAll K G (cutV vs lo hi) (cutD xs lo hi) := by
  unfold cutV cutD
  rw [dpa_len h]
  exact dpa_take _ (dpa_drop _ h)
def Wo (c : Ctx K) (to : TO) (ρ : Rho) (k : Option Int → Prop) : Prop := ∀ σ H (Q : Option Int → Hp → Prop), Ok c ρ σ H → (∀ i H', Ok c ρ σ H' → Stp c ρ H H' → k i → Q i H') → to σ H Q
theorem wo_none {k : Option Int → Prop} (h : k none) : Wo c tNoPart ρ k := fun σ H Q o q => q none H o (Stp.refl _) h
theorem wo_some {k : Option Int → Prop} (h : We c te ρ fun x => ∃ i, x = .d (.int i) ∧ k (some i)) : Wo c (tPart te) ρ k := fun σ H Q o q => h σ H _ o fun v x H1 o1 e1 d1 ⟨i, hx, hk⟩ => by
  subst hx
  exact ⟨i, dp_int d1, q _ H1 o1 e1 hk⟩
/-- a new list of some of what stands in the heap that is seen -/
theorem Ok.fresh {σ : L2.St} {H0 H1 : Hp} (o : Ok c ρ σ H1) (s : Stp c ρ H0 H1) {p : Addr} {vs : List V} {xs : List PyData} (hp : H1 p = none) (d : DpAll K (vis c ρ H1) vs xs) :
    H0 p = none ∧ Ok c ρ σ (upd H1 p (.lst vs)) ∧ Stp c ρ H0 (upd H1 p (.lst vs)) ∧ DpAll K (hid (· = p) (vis c ρ (upd H1 p (.lst vs)))) vs xs := by
  obtain ⟨o2, e2⟩ := o.new (o := .lst vs) hp
  have nv : vis c ρ H1 p = none := by unfold vis; rw [hid_neg (o.nh hp)]; exact hp
  have hp0 : H0 p = none := by
    cases z : H0 p with
    | none => rfl
    | some ob =>
      exfalso
      by_cases hh : Hid c ρ p
      · exact o.nh hp hh
      · have := s.ex p ob (by unfold vis; rw [hid_neg hh]; exact z)
        rw [nv] at this; cases this
  have up : Ex (vis c ρ H1) (hid (· = p) (vis c ρ (upd H1 p (.lst vs)))) := fun a u ha => by
    have na : a ≠ p := fun z => by subst z; rw [nv] at ha; cases ha
    exact (hid_neg (L := fun x => x = p) na).trans (e2.ex a u ha)
  exact ⟨hp0, o2, s.trans e2, dpa_mono up _ _ d⟩
theorem wf_slice {k : List PyData → Prop} {tl th : TO} (h : We c te ρ fun x => Wo c tl ρ fun lo => Wo c th ρ fun hi => ∃ xs, x = .d (.list xs) ∧ k (cutD xs lo hi)) : Wf c (tSl (rSlL K) te tl th) ρ k := fun σ H Q o q =>
  h σ H _ o fun v x H1 o1 e1 d1 h1 => h1 σ H1 _ o1 fun lo H2 o2 e2 h2 => h2 σ H2 _ o2 fun hi H3 o3 e3 ⟨xs, hx, hk⟩ => by
    subst hx
    have d3 : Dp K (vis c ρ H3) v (.list xs) := dp_mono (e2.trans e3).ex _ _ d1
    cases d3 with
    | @lst a vs _ _ hs ha =>
      refine ⟨a, vs, rfl, ex_l hid_sub hs, fun p hp => ?_⟩
      obtain ⟨h0, o4, s4, d4⟩ := o3.fresh ((e1.trans e2).trans e3) hp (dpa_cut ha lo hi)
      exact q p _ _ _ h0 upd_same o4 s4 d4 hk
theorem wf_sliceOwn {k : List PyData → Prop} {tl th : TO} {i : Nat} {l : Addr} {xs : List PyData} (h : ρ[i]? = some (.own l xs)) (ht : Wo c tl ρ fun lo => Wo c th ρ fun hi => k (cutD xs lo hi)) : Wf c (tSl (rSlL K) (tVar i) tl th) ρ k := fun σ H Q o q => by
  obtain ⟨vs, e1, h1, d1⟩ := o.own h
  have ol : Owns ρ l := ⟨xs, List.mem_of_getElem? h⟩
  refine ⟨_, e1, ht σ H _ o fun lo H2 o2 e2 h2 => h2 σ H2 _ o2 fun hi H3 o3 e3 hk => ?_⟩
  have h3 : H3 l = some (.lst vs) := (e3.own l ol).trans ((e2.own l ol).trans h1)
  refine ⟨l, vs, rfl, .inl (.inl h3), fun p hp => ?_⟩
  obtain ⟨h0, o4, s4, d4⟩ := o3.fresh (e2.trans e3) hp (dpa_cut (dpa_mono (e2.trans e3).ex _ _ d1) lo hi)
  exact q p _ _ _ h0 upd_same o4 s4 d4 hk
theorem wf_revL {k : List PyData → Prop} (h : We c te ρ fun x => ∃ xs, x = .d (.list xs) ∧ k xs.reverse) : Wf c (tRevL K te) ρ k := fun σ H Q o q => h σ H _ o fun v x H1 o1 e1 d1 ⟨xs, hx, hk⟩ => by
  subst hx
  change Dp _ _ _ _ at d1
  cases d1 with
  | @lst a vs _ _ hs ha =>
    refine ⟨a, vs, rfl, ex_l hid_sub hs, fun p hp => ?_⟩
    obtain ⟨h0, o4, s4, d4⟩ := o1.fresh e1 hp (dpa_rev ha)
    exact q p _ _ _ h0 upd_same o4 s4 d4 hk
theorem wf_revOwn {k : List PyData → Prop} {i : Nat} {l : Addr} {xs : List PyData} (h : ρ[i]? = some (.own l xs)) (hk : k xs.reverse) : Wf c (tRevL K (tVar i)) ρ k := fun σ H Q o q => by
  obtain ⟨vs, e1, h1, d1⟩ := o.own h
  refine ⟨_, e1, l, vs, rfl, .inl (.inl h1), fun p hp => ?_⟩
  obtain ⟨h0, o4, s4, d4⟩ := o.fresh (Stp.refl _) hp (dpa_rev d1)
  exact q p _ _ _ h0 upd_same o4 s4 d4 hk
/-! ### results that are new lists -/
theorem ws_retF {i : Nat} {l : Addr} {xs : List PyData} (h : ρ[i]? = some (.own l xs)) (k : c.B l = none → ¬ c.L l → E.rt (.f l xs)) : Ws c (tRet (tVar i)) ρ E := fun D σ H e o => by
  obtain ⟨vs, q, h1, d1⟩ := o.own h
  have ol : Owns ρ l := ⟨xs, List.mem_of_getElem? h⟩
  obtain ⟨b1, nl⟩ := o.ob l ol
  refine ⟨_, q, e.rt _ (.f l xs) H o.w o.b ⟨rfl, vs, (hid_neg nl).trans h1, dpa_mono (fun a u z => ?_) _ _ d1⟩ (k b1 nl)⟩
  obtain ⟨n, z⟩ := hid_some z
  have na : a ≠ l := fun q => n (.inr (q ▸ ol))
  exact (hid_neg (L := fun x => x = l) na).trans ((hid_neg fun q => n (.inl q)).trans z)
theorem ws_retWf (h : Wf c te ρ fun xs => ∀ l, c.B l = none → ¬ c.L l → E.rt (.f l xs)) : Ws c (tRet te) ρ E := fun D σ H e o => h σ H _ o fun l vs xs H1 n1 h1 o1 s1 d1 k1 => by
  have nl : ¬ c.L l := fun z => o.nh n1 (.inl z)
  have b1 : c.B l = none := by
    cases z : c.B l with
    | none => rfl
    | some ob =>
      have := (hid_some (o.b l ob z)).2
      rw [n1] at this; cases this
  refine e.rt _ (.f l xs) H1 o1.w o1.b ⟨rfl, vs, (hid_neg nl).trans h1, dpa_mono (hid_ex vis_out) _ _ d1⟩ (k1 l b1 nl)
/-- a call whose result is a new list -/
theorem wf_callF {P : PT0 K} {k : List PyData → Prop} {X : XK} {t : TA} (h : Wa c t ρ fun xs => ∀ c' : Ctx K, Le c c' → P c' xs (fun x => ∃ l ys, x = .f l ys ∧ c'.B l = none ∧ ¬ c'.L l ∧ k ys) fun _ => False) : Wf c (tCall (spD K P) [] X t) ρ k := fun σ H Q o q =>
  h σ H _ o fun vs xs H1 o1 e1 d1 h1 => by
    rw [List.append_nil]
    refine ⟨c.shut ρ H1 o1.w fun a z => o1.mut z, xs, _, _, ⟨o1.w, fun _ _ => rfl⟩, rfl, d1, h1 _ o1.le, fun v y H' w b dv ky => ?_, fun cls H' w b kx => kx.elim⟩
    obtain ⟨l, ys, rfl, bl, nl, hk⟩ := ky
    obtain ⟨rfl, us, hl, da⟩ := dv
    have s : Stp c ρ H1 H' := ⟨b, w.2⟩
    have nl : ¬ Hid c ρ l := nl
    have h1l : H1 l = none := by
      have z : hid (Hid c ρ) H1 l = none := bl
      rw [hid_neg nl] at z; exact z
    have h0l : H l = none := by
      cases z : H l with
      | none => rfl
      | some ob =>
        have := (hid_some (e1.ex l ob (by unfold vis; rw [hid_neg nl]; exact z))).2
        rw [h1l] at this; cases this
    exact q l us ys H' h0l (hid_some hl).2 (o1.grow w.1 b w.2) (e1.trans s) da hk
end
end Py

set_option Elab.async false
set_option linter.all false
set_option autoImplicit false
set_option maxRecDepth 100000
set_option maxHeartbeats 4000000
namespace Py
open PySem hiding start
open L2
open Evl (Ex ex_rd ex_l ex_t fresh_back)
open Classical
/-! ### isinstance(e, (C1, C2, ..)) of the error that a suite holds -/
def rIsXT (K : PySem.W.Frag) (a : Addr) (cls : Value) (d : Option Addr) : List V → Hp → VK → Prop := fun xs H Q => ∃ (D tp : Addr) (cs : List V) (us : List Value) (b : Bool), cls = .ref D ∧ d = none ∧ ExcC K D ∧ xs = [.ref a, .ref tp] ∧ H tp = some (.tup cs) ∧ Paired ClsV cs us ∧ PySem.W.kitAny K (.ref D) us = some b ∧ Q (.bl b) H
theorem call_isXT {X : Cx} {a : Addr} {oe : Obj} {cls : Value} {d : Option Addr} {pn : List (Addr × Obj)} (hz : Zc cls d oe) (hf : ∃ vs, oe.data = .fields vs) : CallR (X.suite a ((a, oe) :: pn)) (.builtin "isinstance") (rIsXT X.K a cls d) := by
  intro pins s σ H xs us Q I r h
  obtain ⟨D, tp, cs, ws, b, rfl, rfl, C, rfl, hT, k, e, q⟩ := h
  cases r with
  | cons rx rr =>
    cases rr with
    | cons rt rr =>
      cases rr
      cases rx
      cases rt
      obtain ⟨hget, _⟩ := I.pin (a, oe) (List.mem_append.mpr (.inl List.mem_cons_self))
      obtain ⟨vs, hv⟩ := hf
      have J : PySem.W.InstAt s.heap a oe D none := by
        obtain ⟨oc, od, oda, osl⟩ := oe
        obtain ⟨h1, h2⟩ := hz
        dsimp only at h1 h2 hv
        subst h1 h2 hv
        exact ⟨hget, rfl, rfl, trivial⟩
      obtain ⟨_, its, rv, o, h1, h2, n, h3⟩ := (show ObjOk _ _ H s.heap tp (.tup cs) from I.hok tp _ hT)
      have e3 := ClsV.all k rv
      subst e3
      obtain ⟨oc, od, dt, sl⟩ := o
      simp only at h2 h3
      subst h2 h3
      exact PySem.W.kia_tup (PySem.W.handS_kitx_exc C.hg C.hk C.hs C.hd C.ha C.hn C.ht C.hm) I.kIn J h1 e (fun z => nomatch z) fun tk => ⟨.bl b, H, I.kept (t' := tk) fun _ _ z => z, rfl, q⟩
theorem call_isXTs (K : PySem.W.Frag) {X : Cx} {a : Addr} {oe : Obj} {cls : Value} {d : Option Addr} {pn : List (Addr × Obj)} (hz : Zc cls d oe) (hf : ∃ vs, oe.data = .fields vs) (h : X.K = K := by rfl) : CallR (X.suite a ((a, oe) :: pn)) (.builtin "isinstance") (rIsXT K a cls d) := h ▸ call_isXT hz hf
section
variable {K : PySem.W.Frag} {c c' : Ctx K} {ρ : Rho} {E : DE} {k : Dv → Prop} {ta tb te ti : TE} {t : TS}
theorem dva_raw {G : Hp} : ∀ {us : List V} {vs : List V}, DvAll K G vs (us.map Dv.r) → vs = us
  | [], _, .nil => rfl
  | u :: us, _, .cons h t => by
    have e := dva_raw t
    have h : _ = u := h
    rw [e, h]
theorem we_isXT {a D : Addr} {ts : TA} {b : Bool} {cvs : List Value} (C : ExcC K D) (hb : PySem.W.kitAny K (.ref D) cvs = some b) (h : We c te ρ fun x => x = .r (.ref a) ∧ Wa c ts ρ fun ys => ∃ us : List V, ys = us.map Dv.r ∧ us.length ≤ 100000 ∧ Paired ClsV us cvs ∧ k (.d (.bool b))) :
    We c (tCB (rIsXT K a (.ref D) none) (tCons te (tCons (tTup ts) tNil))) ρ k := fun σ H Q o q => h σ H _ o fun v x H1 o1 e1 d1 ⟨hx, h1⟩ => by
  subst hx
  obtain rfl : v = .ref a := d1
  refine h1 σ H1 _ o1 fun vs ys H2 o2 e2 d2 ⟨us, hy, hz, hp, hk⟩ => ?_
  subst hy
  obtain rfl := dva_raw d2
  refine ⟨Evl.sz_of hz, fun p hp' => ?_⟩
  obtain ⟨o3, e3⟩ := o2.new (o := .tup vs) hp'
  exact ⟨D, p, vs, cvs, b, rfl, rfl, C, rfl, upd_same, hp, hb, q _ (.d (.bool b)) _ o3 ((e1.trans e2).trans e3) (Dp.bl b) hk⟩
end
/-! ### the cells of points -/
theorem fdiv_iff {a b u : Int} (hb : 0 < b) : a.fdiv b = u ↔ u * b ≤ a ∧ a < (u + 1) * b := by
  have h := Int.mul_fdiv_add_fmod a b
  have h1 := Int.fmod_nonneg_of_pos a hb
  have h2 := Int.fmod_lt_of_pos a hb
  constructor
  · rintro rfl
    have e1 : a.fdiv b * b = b * a.fdiv b := Int.mul_comm _ _
    have e2 : (a.fdiv b + 1) * b = b * a.fdiv b + b := by rw [Int.add_mul, Int.mul_comm, Int.one_mul]
    omega
  · rintro ⟨g1, g2⟩
    generalize a.fdiv b = q at *
    have lt1 : q < u + 1 := Int.lt_of_mul_lt_mul_right (show q * b < (u + 1) * b by rw [Int.mul_comm q b]; omega) (by omega)
    have lt2 : u < q + 1 := Int.lt_of_mul_lt_mul_right (show u * b < (q + 1) * b by rw [Int.add_mul, Int.mul_comm q b, Int.one_mul]; omega) (by omega)
    omega
def colI (a c s t : Int) : Int := (2 * a * t + c * s).fdiv (2 * c * s)
theorem colI_in {a c s t : Int} (hc : 0 < c) (hs : 0 < s) : (2 * colI a c s t - 1) * (s * c) ≤ 2 * t * a ∧ 2 * t * a < (2 * colI a c s t + 1) * (s * c) := by
  have hp : 0 < 2 * c * s := Int.mul_pos (by omega) hs
  obtain ⟨h1, h2⟩ := (fdiv_iff (a := 2 * a * t + c * s) (u := colI a c s t) hp).mp rfl
  generalize colI a c s t = u at *
  have e0 : 2 * a * t = 2 * t * a := by rw [Int.mul_right_comm]
  have e1 : u * (2 * c * s) = 2 * u * (s * c) := by grind
  have e2 : (u + 1) * (2 * c * s) = 2 * u * (s * c) + 2 * (s * c) := by grind
  have e3 : c * s = s * c := Int.mul_comm _ _
  have e4 : (2 * u - 1) * (s * c) = 2 * u * (s * c) - s * c := by grind
  have e5 : (2 * u + 1) * (s * c) = 2 * u * (s * c) + s * c := by grind
  generalize s * c = m at *
  omega
theorem colI_mid {a c s t i : Int} (hc : 0 < c) (hs : 0 < s) (h : a * t = i * s * c) : colI a c s t = i := by
  have hp : 0 < 2 * c * s := Int.mul_pos (by omega) hs
  unfold colI
  rw [fdiv_iff hp]
  have hm : 0 < s * c := Int.mul_pos hs hc
  have e1 : 2 * a * t = 2 * (i * (s * c)) := by rw [Int.mul_assoc, h, Int.mul_assoc]
  have e2 : i * (2 * c * s) = 2 * (i * (s * c)) := by grind
  have e3 : (i + 1) * (2 * c * s) = 2 * (i * (s * c)) + 2 * (s * c) := by grind
  have e4 : c * s = s * c := Int.mul_comm _ _
  rw [e1, e2, e3, e4]
  omega
end Py
namespace Py
open PySem hiding start
open L2
theorem rv_eqP {K : PySem.W.Frag} {c : Py.Ctx K} {ρ : Rho} {k : Dv → Prop} {p q : Pt} (h : k (.d (.bool (decide (p = q))))) : Rv c (rEqD K) ρ (.d (ptD p)) (.d (ptD q)) k := rv_eqD ((shp_pt (n := 0) p).shaped (by decide)) ((shp_pt (n := 0) q).shaped (by decide)) (by rw [eqv_pt]; exact h)
theorem rv_neP {K : PySem.W.Frag} {c : Py.Ctx K} {ρ : Rho} {k : Dv → Prop} {p q : Pt} (h : k (.d (.bool (!decide (p = q))))) : Rv c (rNeD K) ρ (.d (ptD p)) (.d (ptD q)) k := rv_neD ((shp_pt (n := 0) p).shaped (by decide)) ((shp_pt (n := 0) q).shaped (by decide)) (by rw [eqv_pt]; exact h)
theorem rv_neT2 {K : PySem.W.Frag} {c : Py.Ctx K} {ρ : Rho} {k : Dv → Prop} {i j u v : Int} (h : k (.d (.bool (!decide (i = u ∧ j = v))))) : Rv c (rNeD K) ρ (.d (tupI i j)) (.d (tupI u v)) k := rv_neD (shaped_ints (as := [i, j]) (Nat.le_of_ble_eq_true rfl)) (shaped_ints (as := [u, v]) (Nat.le_of_ble_eq_true rfl)) (by
  have e := eqv_ints [i, j] [u, v]
  rw [show PyData.eqv (tupI i j) (tupI u v) = decide ([i, j] = [u, v]) from e]
  have e2 : decide ([i, j] = [u, v]) = decide (i = u ∧ j = v) := by simp
  rw [e2]; exact h)
theorem fdiv_small {a b : Int} (hb : 0 < b) : (a.fdiv b).natAbs ≤ a.natAbs := by
  obtain ⟨h1, h2⟩ := (fdiv_iff (a := a) (u := a.fdiv b) hb).mp rfl
  generalize a.fdiv b = u at *
  by_cases z : 0 ≤ u
  · have : u * 1 ≤ u * b := Int.mul_le_mul_of_nonneg_left (by omega) z
    omega
  · have : (-(u + 1)) * 1 ≤ (-(u + 1)) * b := Int.mul_le_mul_of_nonneg_left (by omega) (by omega)
    have e : (-(u + 1)) * b = -((u + 1) * b) := Int.neg_mul ..
    omega
end Py

set_option Elab.async false
set_option linter.all false
set_option autoImplicit false
set_option maxRecDepth 100000
set_option maxHeartbeats 4000000
namespace Py
open PySem hiding start
open L2
open Evl (Ex ex_rd ex_l ex_t fresh_back)
open Classical
/-! ### what never changes -/
def noL (H : Hp) : Hp := fun a => match H a with
  | some o => if isMut o = true then none else some o
  | none => none
theorem noL_some {H : Hp} {a : Addr} {o : HO} (h : noL H a = some o) : H a = some o ∧ isMut o = false := by
  unfold noL at h
  cases z : H a with
  | none => rw [z] at h; cases h
  | some u =>
    rw [z] at h
    cases m : isMut u with
    | true => simp only [m, if_true] at h; cases h
    | false =>
      simp only [m, Bool.false_eq_true, if_false] at h
      cases h
      exact ⟨rfl, m⟩
theorem noL_of {H : Hp} {a : Addr} {o : HO} (h : H a = some o) (m : isMut o = false) : noL H a = some o := by
  unfold noL
  rw [h]
  simp only [m, Bool.false_eq_true, if_false]
theorem noL_tp {H H' : Hp} (t : Tp H H') : Ex (noL H) (noL H') := fun a o h => by
  obtain ⟨h1, m⟩ := noL_some h
  exact noL_of (t a o h1 m) m
/-! data without lists -/
mutual
def flatD : PyData → Bool
  | .none => true
  | .bool _ => true
  | .int _ => true
  | .str _ => true
  | .tuple ds => flatDs ds
  | _ => false
def flatDs : List PyData → Bool
  | [] => true
  | d :: ds => flatD d && flatDs ds
end
mutual
theorem dp_noL {K : PySem.W.Frag} {G : Hp} : ∀ (d : PyData) (v : V), flatD d = true → Dp K G v d → Dp K (noL G) v d
  | .none, _, _, h => by cases h; exact .non
  | .bool _, _, _, h => by cases h; exact .bl _
  | .int _, _, _, h => by cases h; exact .int _
  | .str _, _, _, h => by cases h; exact .str _
  | .list ds, _, f, h => by cases f
  | .tuple ds, _, f, h => by
    cases h with
    | @tup _ _ _ hp hs ha => exact dp_tup (noL_of hp rfl) (dpa_noL ds _ f ha)
  | .dict _, _, f, _ => by cases f
theorem dpa_noL {K : PySem.W.Frag} {G : Hp} : ∀ (ds : List PyData) (vs : List V), flatDs ds = true → DpAll K G vs ds → DpAll K (noL G) vs ds
  | [], _, _, h => by cases h; exact .nil
  | d :: ds, _, f, h => by
    have f : (flatD d && flatDs ds) = true := f
    rw [Bool.and_eq_true] at f
    cases h with
    | cons h1 h2 => exact .cons (dp_noL d _ f.1 h1) (dpa_noL ds _ f.2 h2)
end
theorem flatDs_all {ds : List PyData} (h : ∀ d ∈ ds, flatD d = true) : flatDs ds = true := by
  induction ds with
  | nil => rfl
  | cons d ds ih => show (flatD d && flatDs ds) = true; rw [h d (by simp), ih fun e he => h e (by simp [he])]; rfl
theorem flatDs_mem {ds : List PyData} (h : flatDs ds = true) : ∀ d ∈ ds, flatD d = true := by
  induction ds with
  | nil => intro d hd; cases hd
  | cons e ds ih =>
    have h : (flatD e && flatDs ds) = true := h
    rw [Bool.and_eq_true] at h
    intro d hd
    rcases List.mem_cons.mp hd with rfl | hd
    · exact h.1
    · exact ih h.2 d hd
theorem flat_pt (p : Pt) : flatD (ptD p) = true := rfl
theorem flat_pts (ps : List Pt) : flatDs (ps.map ptD) = true := flatDs_all fun d hd => by
  obtain ⟨p, _, rfl⟩ := List.mem_map.mp hd
  rfl
section
variable {K : PySem.W.Frag} {c c' : Ctx K} {ρ : Rho} {E : DE} {k : Dv → Prop} {ta tb te ti : TE} {t : TS}
theorem Ok.noL {σ : L2.St} {H : Hp} (o : Ok c ρ σ H) : Ex (noL H) (vis c ρ H) := fun a u h => by
  obtain ⟨h1, m⟩ := noL_some h
  unfold vis
  rw [hid_neg]
  · exact h1
  · intro z
    obtain ⟨u', e, m'⟩ := o.mut z
    rw [h1] at e; cases e
    rw [m] at m'; cases m'
/-- a list of one's own shown to what is evaluated: the answer is no list -/
theorem we_share {i : Nat} {l : Addr} {xs : List PyData} (h : ρ[i]? = some (.own l xs)) (ht : We c te (ρ.set i (.val (.d (.list xs)))) fun x => ∃ d, x = .d d ∧ flatD d = true ∧ k (.d d)) : We c te ρ k := fun σ H Q o q => by
  have ol : Owns ρ l := ⟨xs, List.mem_of_getElem? h⟩
  refine ht σ H _ (o.freeze h) fun v x H1 of1 sf1 df ⟨d, hx, fl, hk⟩ => ?_
  subst hx
  have nlc : ¬ c.L l := (o.ob l ol).2
  have lt : ∀ a, Owns (ρ.set i (.val (.d (.list xs)))) a → Owns ρ a := fun a z => owns_less z
  have nl : ¬ Hid c (ρ.set i (.val (.d (.list xs)))) l := fun z => z.elim nlc fun ⟨ys, z⟩ => by
    obtain ⟨j, hj, e'⟩ := List.mem_iff_getElem.mp z
    have z' : (ρ.set i (.val (.d (.list xs))))[j]? = some (Slot.own l ys) := by rw [List.getElem?_eq_getElem hj, e']
    rcases List_set_get z' with ⟨_, q, _⟩ | ⟨ne, z'⟩
    · cases q
    · exact ne (o.one i j l xs ys h z')
  obtain ⟨vs, _, h1, _⟩ := o.own h
  have hl : H1 l = H l := by
    have := sf1.ex l _ (show vis c _ H l = some (.lst vs) from (hid_neg nl).trans h1)
    rw [h1]; exact (hid_some this).2
  have gt : ∀ a, Owns ρ a → a = l ∨ Owns (ρ.set i (.val (.d (.list xs)))) a := fun a ⟨ys, z⟩ => by
    obtain ⟨j, hj, e'⟩ := List.mem_iff_getElem.mp z
    by_cases q : i = j
    · subst q
      have : some (Slot.own a ys) = some (Slot.own l xs) := by rw [← h, List.getElem?_eq_getElem hj, e']
      cases this; exact .inl rfl
    · exact .inr ⟨ys, List.mem_of_getElem? (i := j) (by rw [List.getElem?_set_ne q, List.getElem?_eq_getElem hj, e'])⟩
  have ow : ∀ a, Owns ρ a → H1 a = H a := fun a z => (gt a z).elim (fun q => by rw [q]; exact hl) (sf1.own a)
  have ex : Ex (vis c ρ H) (vis c ρ H1) := fun b u z => by
    obtain ⟨n1, z⟩ := hid_some z
    have := sf1.ex b u ((hid_neg fun q => n1 (q.imp id (lt b))).trans z)
    exact (hid_neg n1).trans (hid_some this).2
  have o1 : Ok c ρ σ H1 := o.grow of1.w ex ow
  refine q v (.d d) H1 o1 ⟨ex, ow⟩ ?_ hk
  have dd : Dp K (vis c (ρ.set i (.val (.d (.list xs)))) H1) v d := df
  exact dp_mono o1.noL _ _ (dp_noL d v fl (dp_mono hid_sub _ _ dd))
/-- a comprehension over a list that is known to the context alone -/
theorem wf_lcH {tl : TE} {g : TG} {tt : TT} {vs : List Nat} {k : List PyData → Prop} (js : List Nat) (hj : ∀ i ∈ js, i ∈ vs) (hw : (vs.all fun v => (ρ[v]?.map isOwn) == some false) = true) (h : We c tl ρ fun x => ∃ (a : Addr) (us : List V) (xs : List PyData), x = .r (.ref a) ∧ (∀ H, c.W H → H a = some (.lst us)) ∧ DpAll K c.B us xs ∧ xs.length ≤ 100000 ∧ ∃ P : Nat → List PyData → Prop, P 0 [] ∧
    (∀ c' : Ctx K, Le c c' → ∀ i x acc, xs[i]? = some x → acc.length ≤ i → P i acc → Wg c' g js (.d x) (wipeR ρ vs) fun ρ2 => Wt c' tt ρ2 fun b => (b = true → We c' te ρ2 fun y => ∃ d, y = .d d ∧ P (i + 1) (acc ++ [d])) ∧ (b = false → P (i + 1) acc)) ∧
    ∀ acc, acc.length ≤ xs.length → P xs.length acc → k acc) : Wf c (tLc (iList K tl) g tt te vs) ρ k := fun σ H Q o q =>
  h σ H _ o fun v x H1 o1 e1 d1 ⟨a, us, xs, hx, hA, ha0, hz, P, p0, ps, pd⟩ => by
    subst hx
    obtain rfl : v = .ref a := d1
    refine ⟨a, rfl, ⟨us, .inl (.inl (hA H1 o1.w))⟩, fun D hD => ?_⟩
    have nD : ¬ Hid c ρ D := o1.nh hD
    have nDL : ¬ c.L D := fun z => nD (.inl z)
    -- what stood ahead of the list, for all turns
    let B1 : Hp := vis c ρ H1
    have bB : Ex c.B B1 := o1.base
    have ha : DpAll K B1 us xs := dpa_mono bB _ _ ha0
    have B1D : B1 D = none := hid_none hD
    have own0 : ∀ a, Owns ρ a → B1 a = none := fun a z => hid_pos (.inr z)
    let Pv : Nat → Hp → Prop := fun i H' => ∃ (ws : List V) (acc : List PyData), H' D = some (.lst ws) ∧ Ok (c.at B1) ρ σ H' ∧ Stp c ρ H1 H' ∧ DpAll K (hid (· = D) (vis c ρ H')) ws acc ∧ acc.length ≤ i ∧ P i acc
    have hH0 : H D = none := by
      cases z : H D with
      | none => rfl
      | some ob =>
        have := e1.ex D ob (by unfold vis; rw [hid_neg nD]; exact z)
        rw [vis, hid_none hD] at this; cases this
    refine lc_list (K := K) (a := a) (xs := us) Pv ?_ ?_ ?_ ?_
    · obtain ⟨o2, e2⟩ := o1.new (o := .lst []) hD
      have o2' : Ok (c.at B1) ρ σ (upd H1 D (.lst [])) := ⟨o2.w, e2.ex.trans vis_out, fun l z => ⟨own0 l z, (o2.ob l z).2⟩, o2.sl, o2.one, o2.len⟩
      exact ⟨[], [], upd_same, o2', e2, .nil, Nat.le_refl 0, p0⟩
    · rintro i H' _ ⟨ws, acc, _, o', _, _, _, _⟩
      exact .inl (.inl (hA H' o'.w))
    · rintro i y H' hy ⟨ws, acc, hD', o', s', dacc, hl, p'⟩
      obtain ⟨d, hd, dd⟩ := dpa_get' ha hy
      have hi : i < 100000 := by
        have := (List.getElem?_eq_some_iff.mp hd).1
        omega
      -- the context of this turn
      let B2 : Hp := hid (· = D) (vis c ρ H')
      have bB2 : Ex B1 B2 := fun b ob z => by
        have nb : b ≠ D := fun q => by rw [q, B1D] at z; cases z
        exact (hid_neg (L := fun x => x = D) nb).trans (s'.ex b ob z)
      let c2 : Ctx K := c.hide D (.lst ws) B2
      have le : Le c c2 := le_hide nDL (bB.trans bB2)
      have visE : ∀ (ρ2 : Rho) (H2 : Hp), Ex (vis c2 ρ2 H2) (hid (· = D) (vis c ρ2 H2)) := fun ρ2 H2 b ob z => by
        obtain ⟨n1, z⟩ := hid_some z
        have nb : b ≠ D := fun q => n1 (.inl (.inr q))
        refine (hid_neg (L := fun x => x = D) nb).trans ((hid_neg fun q => n1 (q.imp .inl id)).trans z)
      have visE' : ∀ (ρ2 : Rho) (H2 : Hp), Ex (hid (· = D) (vis c ρ2 H2)) (vis c2 ρ2 H2) := fun ρ2 H2 b ob z => by
        obtain ⟨nb, z⟩ := hid_some z
        obtain ⟨n1, z⟩ := hid_some z
        refine (hid_neg fun q => ?_).trans z
        rcases q with (q | q) | q
        · exact n1 (.inl q)
        · exact nb q
        · exact n1 (.inr q)
      have oD : ∀ (l : Addr), Owns ρ l → l ≠ D := fun l z q => nD (.inr (q ▸ z))
      have slots : ∀ (j : Nat) (s : Slot), ρ[j]? = some s → ∃ ob, σ[j]? = some ob ∧ SlotOk K (vis c2 ρ H') H' ob s := fun j s hs' => by
        obtain ⟨u1, q1, z1⟩ := (o1.clean s' hD j s hs')
        refine ⟨u1, q1, ?_⟩
        cases s with
        | un => trivial
        | val y => obtain ⟨w, w1, w2⟩ := z1; exact ⟨w, w1, dv_mono (visE' ρ H') w2⟩
        | own l ys => obtain ⟨w, w1, w2, w3⟩ := z1; exact ⟨w, w1, w2, own_mono (visE' ρ H') _ _ w3⟩
      have o2 : Ok c2 ρ σ H' := ⟨⟨o'.w, hD'⟩, (visE' ρ H').trans vis_out, fun l z => ⟨(show hid (· = D) (vis c ρ H') l = none from hid_none' (hid_pos (Or.inr z))), fun q => q.elim (o'.ob l z).2 (oD l z)⟩, slots, o'.one, o'.len⟩
      have o3 : Ok c2 (wipeR ρ vs) (L2.wipe σ vs) H' := o2.wipe vs
      have ev : Ex (vis c2 ρ H') (vis c2 (wipeR ρ vs) H') := hid_less fun b z => z.imp id owns_wipe
      have dd2 : Dp K (vis c2 (wipeR ρ vs) H') y d := dp_mono ((Evl.Ex.trans bB2 (visE' ρ H')).trans ev) _ _ dd
      refine ps c2 le i d acc hd hl p' (L2.wipe σ vs) H' y _ o3 dd2 fun ρ4 σ4 o4 a4 l4 b4 b4' w4 => ⟨wipe_eq hj a4 l4, ?_⟩
      refine w4 σ4 H' _ o4 fun b H5 o5 s5 z5 => ?_
      -- what is the same again once the element is told
      have back : ∀ H6, Ok c2 ρ4 σ4 H6 → Stp c2 ρ4 H' H6 → H6 D = some (.lst ws) ∧ (∀ a, Owns ρ a → H6 a = H' a) ∧ Ex (vis c2 ρ H') (vis c2 ρ H6) := fun H6 o6 s6 => by
        refine ⟨o6.w.2, fun a z => s6.own a (b4 a (owns_wipe' hw z).1), fun b ob z => ?_⟩
        · obtain ⟨n1, z⟩ := hid_some z
          have n2 : ¬ Hid c2 ρ4 b := fun q => n1 (q.imp id fun q => owns_wipe (b4' b q))
          have := s6.ex b ob (by unfold vis; rw [hid_neg n2]; exact z)
          unfold vis
          rw [hid_neg n1]
          exact (hid_some this).2
      cases b with
      | false =>
        rw [if_neg Bool.false_ne_true]
        obtain ⟨hD5, ow5, ex5⟩ := back H5 o5 s5
        have exA : Ex (vis c ρ H') (vis c ρ H5) := fun b ob z => by
          by_cases nb : b = D
          · subst nb
            unfold vis at *
            rw [hid_neg nD] at *
            rw [hD'] at z
            rw [hD5]; exact z
          · have := ex5 b ob (visE' ρ H' b ob ((hid_neg (L := fun x => x = D) nb).trans z))
            exact hid_sub b ob (visE ρ H5 b ob this)
        have stp : Stp c ρ H' H5 := ⟨exA, ow5⟩
        refine ⟨ws, acc, hD5, o'.grow o5.w.1 exA ow5, s'.trans stp, dpa_mono (fun b ob z => visE ρ H5 b ob (ex5 b ob (visE' ρ H' b ob z))) _ _ dacc, Nat.le_succ_of_le hl, z5.2 rfl⟩
      | true =>
        rw [if_pos rfl]
        refine z5.1 rfl σ4 H5 _ o5 fun v6 y6 H6 o6 s6 d6 ⟨d, hy6, p6⟩ => ?_
        subst hy6
        obtain ⟨hD6, ow6, ex6⟩ := back H6 o6 (s5.trans s6)
        refine ⟨ws, hD6, ?_, ?_⟩
        · have w1 := dpa_len dacc
          exact Evl.sz_lt (by omega)
        · -- the list has one more
          have ow7 : ∀ a, Owns ρ a → upd H6 D (.lst (ws ++ [v6])) a = H' a := fun a z => (upd_ne (oD a z)).trans (ow6 a z)
          have e67 : Ex (hid (· = D) (vis c ρ H6)) (hid (· = D) (vis c ρ (upd H6 D (.lst (ws ++ [v6]))))) := fun b ob z => by
            obtain ⟨nb, z⟩ := hid_some z
            obtain ⟨n1, z⟩ := hid_some z
            refine (hid_neg (L := fun x => x = D) nb).trans ((hid_neg n1).trans ((upd_ne nb).trans z))
          have exB : Ex (hid (· = D) (vis c ρ H')) (hid (· = D) (vis c ρ (upd H6 D (.lst (ws ++ [v6]))))) := fun b ob z => e67 b ob (visE ρ H6 b ob (ex6 b ob (visE' ρ H' b ob z)))
          have w7 : c.W (upd H6 D (.lst (ws ++ [v6]))) := c.loc _ _ (fun a z => upd_ne fun q => nDL (q ▸ z)) (tp_lst hD6) o6.w.1
          have o7 : Ok (c.at B1) ρ σ (upd H6 D (.lst (ws ++ [v6]))) := by
            refine ⟨w7, fun b ob z => ?_, o'.ob, fun j s hs' => ?_, o'.one, o'.len⟩
            · have := exB b ob (bB2 b ob z)
              exact vis_out b ob (hid_sub b ob this)
            · obtain ⟨u1, q1, z1⟩ := (o1.clean s' hD j s hs')
              refine ⟨u1, q1, ?_⟩
              cases s with
              | un => trivial
              | val y => obtain ⟨w, w1, w2⟩ := z1; exact ⟨w, w1, dv_mono (exB.trans hid_sub) w2⟩
              | own l ys =>
                obtain ⟨w, w1, w2, w3⟩ := z1
                exact ⟨w, w1, (ow7 l ⟨ys, List.mem_of_getElem? hs'⟩).trans w2, own_mono (exB.trans hid_sub) _ _ w3⟩
          refine ⟨ws ++ [v6], acc ++ [d], upd_same, o7, ⟨fun b ob z => ?_, fun a z => (ow7 a z).trans (s'.own a z)⟩, ?_, by simp; omega, p6⟩
          · have nb : b ≠ D := fun q => by subst q; rw [vis, hid_none hD] at z; cases z
            have := exB b ob ((hid_neg (L := fun x => x = D) nb).trans (s'.ex b ob z))
            exact hid_sub b ob this
          · refine dpa_app (dpa_mono exB _ _ dacc) (.cons (dp_mono (fun b ob z => ?_) _ _ d6) .nil)
            -- what the element is made of
            have z0 := visE ρ4 H6 b ob z
            obtain ⟨nb, z1⟩ := hid_some z0
            obtain ⟨n1, z2⟩ := hid_some z1
            refine e67 b ob ((hid_neg (L := fun x => x = D) nb).trans ((hid_neg fun q => ?_).trans z2))
            rcases q with q | q
            · exact n1 (.inl q)
            · exact n1 (.inr (b4 b (owns_wipe' hw q).1))
    · rintro H' ⟨ws, acc, hD', o', s', dacc, hl, p'⟩
      rw [dpa_len ha] at *
      exact q D ws acc H' hH0 hD' (ok_at bB o') (e1.trans s') dacc (pd acc hl p')
/-! ### a call that is shown no list but the one it is handed: what it tells is new -/
structure DarkAt (c : Ctx K) (a : Addr) (xs : List PyData) : Prop where
  ex : ∃ vs, (∀ H, c.W H → H a = some (.lst vs)) ∧ DpAll K c.B vs xs
def Dk (c : Ctx K) (ρ : Rho) (H : Hp) (a : Addr) : Prop := Hid c ρ a ∨ ∃ o, H a = some o ∧ isMut o = true
noncomputable def Ctx.dark (c : Ctx K) (ρ : Rho) (H : Hp) (w : c.W H) (dom : ∀ a, Hid c ρ a → ∃ o, H a = some o ∧ isMut o = true) : Ctx K where
  B := hid (Dk c ρ H) H
  L := Dk c ρ H
  W := fun H' => c.W H' ∧ ∀ a, ¬ c.L a → (∃ o, H a = some o ∧ isMut o = true) → H' a = H a
  loc := fun H1 H2 e t h => ⟨c.loc H1 H2 (fun a ha => e a (.inl (.inl ha))) t h.1, fun a na hm => (e a (.inr hm)).trans (h.2 a na hm)⟩
  dom := fun H1 h a ha => by
    by_cases z : c.L a
    · exact c.dom H1 h.1 a z
    · have hm : ∃ o, H a = some o ∧ isMut o = true := ha.elim (dom a) id
      rw [h.2 a z hm]; exact hm
theorem wf_callDark {P : PT0 K} {k : List PyData → Prop} {X : XK} {i : Nat} {xs : List PyData} (h : ρ[i]? = some (.val (.d (.list xs)))) (hf : flatDs xs = true)
    (ht : ∀ (c' : Ctx K) a, DarkAt c' a xs → P c' [.r (.ref a)] (fun y => ∃ ys, y = .d (.list ys) ∧ flatDs ys = true ∧ k ys) fun _ => False) : Wf c (tCall (spD K P) [] X (tCons (tVar i) tNil)) ρ k := fun σ H Q o q => by
  obtain ⟨u, e, v, rfl, d⟩ := o.sl i _ h
  refine ⟨v, e, ?_⟩
  show spD K P ([v] ++ []) H Q X
  rw [List.append_nil]
  change Dp _ _ _ _ at d
  cases d with
  | @lst a vs _ hp hs ha =>
  obtain ⟨na, hA⟩ := hid_some hp
  have up : Ex (noL (vis c ρ H)) (hid (Dk c ρ H) H) := fun b u z => by
    obtain ⟨z1, m⟩ := noL_some z
    obtain ⟨n1, z2⟩ := hid_some z1
    refine (hid_neg ?_).trans z2
    rintro (w | ⟨u', e', m'⟩)
    · exact n1 w
    · rw [z2] at e'; cases e'
      rw [m] at m'; cases m'
  have nca : ¬ c.L a := fun z => na (.inl z)
  refine ⟨c.dark ρ H o.w fun b z => o.mut z, [.r (.ref a)], _, _, ⟨o.w, fun _ _ _ => rfl⟩, rfl, .cons rfl .nil, ht _ a ⟨vs, fun H' w => (w.2 a nca ⟨_, hA, rfl⟩).trans hA, dpa_mono up _ _ (dpa_noL xs vs hf ha)⟩, fun v y H' w b dv ky => ?_, fun _ _ _ _ z => z.elim⟩
  obtain ⟨ys, rfl, fl, hk⟩ := ky
  change Dp _ _ _ _ at dv
  cases dv with
  | @lst l us _ hp' hs' ha' =>
  obtain ⟨nl, hl⟩ := hid_some hp'
  have hl0 : H l = none := by
    cases z : H l with
    | none => rfl
    | some ob =>
      cases m : isMut ob with
      | true => exact absurd (.inr ⟨ob, z, m⟩) nl
      | false =>
        have := (hid_some (b l ob ((hid_neg nl).trans z))).2
        rw [hl] at this; cases this; cases m
  have ex : Ex (vis c ρ H) (vis c ρ H') := fun a' u z => by
    obtain ⟨n1, z⟩ := hid_some z
    refine (hid_neg n1).trans ?_
    cases m : isMut u with
    | true => exact (w.2 a' (fun q => n1 (.inl q)) ⟨u, z, m⟩).trans z
    | false =>
      refine (hid_some (b a' u ((hid_neg ?_).trans z))).2
      rintro (q | ⟨u', e', m'⟩)
      · exact n1 q
      · rw [z] at e'; cases e'
        rw [m] at m'; cases m'
  have ow : ∀ a', Owns ρ a' → H' a' = H a' := fun a' z => w.2 a' (o.ob a' z).2 (o.mut (.inr z))
  have o' : Ok c ρ σ H' := o.grow w.1 ex ow
  refine q l us ys H' hl0 hl o' ⟨ex, ow⟩ (dpa_mono (fun a' u z => ?_) _ _ (dpa_noL ys us fl ha')) hk
  obtain ⟨z1, m⟩ := noL_some z
  obtain ⟨n1, z2⟩ := hid_some z1
  have ne : a' ≠ l := fun q => by subst q; rw [hl] at z2; cases z2; cases m
  exact (hid_neg (L := fun x => x = l) ne).trans ((hid_neg fun q => n1 (.inl q)).trans z2)
end
end Py

set_option Elab.async false
set_option linter.all false
set_option autoImplicit false
set_option maxRecDepth 100000
set_option maxHeartbeats 4000000
namespace Py
open PySem hiding start
open L2
open Evl (Ex ex_rd ex_l ex_t fresh_back)
open Classical
/-! ### larger powers, ranges with a step -/
def CPowX (i j : Int) : Prop := 0 ≤ j ∧ (Builtin.Int.intBits i : Int) * j ≤ 2 ^ 27
theorem op_powX {X : Cx} : OpR X (binaryOp .Pow) (rI CPowX fun i j => .int (i ^ j.toNat)) := opI fun i j _ _ _ _ _ hc q => PyProof.Rows.pow_int hc.1 hc.2 q
theorem rg2 {m : Int} {n : Nat} (h0 : 0 ≤ m) (h1 : m < 2 ^ 60) (hn : n = ((m + 1) / 2).toNat) : RgC 0 m 2 n := by
  have e : Builtin.Range.rangeSize 0 m 2 = n := by
    rw [PyProof.Rows.rangeSize_pos (by decide) h0, hn]
    rw [show m + 2 - 1 = m + 1 by omega]
    omega
  refine ⟨by decide, by decide, ?_, e⟩
  unfold Builtin.Range.small
  rw [e]
  simp only [Builtin.Range.rangeFitsLong, Bool.and_eq_true, Bool.or_eq_true, decide_eq_true_eq, beq_iff_eq, show (2 : Int) > 0 by decide, if_true]
  omega
theorem lc_rangeC {lo st : Int} {n : Nat} {g : TG} {tt : TT} {te : TE} {vs : List Nat} {σ : L2.St} {H1 : Hp} {D : Addr} {Qd : Hp → Prop} (Pv : Nat → Hp → Prop) (h0 : Pv 0 (upd H1 D (.lst [])))
    (hs : ∀ i H, i < n → Pv i H → g (.int (lo + (i : Nat) * st)) (wipe σ vs) H fun σ2 H2 => wipe σ2 vs = wipe σ vs ∧ tt σ2 H2 fun b H3 =>
      if b = true then te σ2 H3 fun y H4 => ∃ acc, H4 D = some (.lst acc) ∧ acc.length < sizeLine ∧ Pv (i + 1) (upd H4 D (.lst (acc ++ [y]))) else Pv (i + 1) H3) (hd : ∀ H, Pv n H → Qd H) :
    ∃ W : Nat → Nat → Hp → Prop, (∃ m, W 0 m (upd H1 D (.lst []))) ∧ ∀ i m H, W i m H →
      ((Itc lo st n).stop i H ∧ Qd H) ∨ ((Itc lo st n).go i H ∧ ∃ Nx : Hp → Prop, (∀ H', Nx H' → ∃ m', m' < m ∧ W (i + 1) m' H') ∧ ∀ x H', (Itc lo st n).yld i H x H' → g x (wipe σ vs) H' fun σ2 H2 => wipe σ2 vs = wipe σ vs ∧ tt σ2 H2 fun b H3 =>
        if b = true then te σ2 H3 fun y H4 => ∃ acc, H4 D = some (.lst acc) ∧ acc.length < sizeLine ∧ Nx (upd H4 D (.lst (acc ++ [y]))) else Nx H3) := by
  refine ⟨fun i m H => m = n - i ∧ i ≤ n ∧ Pv i H, ⟨n, by simp, Nat.zero_le _, h0⟩, ?_⟩
  rintro i m H ⟨rfl, hi, p⟩
  by_cases hlt : i < n
  · refine .inr ⟨hlt, Pv (i + 1), fun H' p' => ⟨n - (i + 1), by omega, rfl, hlt, p'⟩, fun x H' y => ?_⟩
    obtain ⟨e, y⟩ := y
    subst e y
    exact hs i _ hlt p
  · have e : i = n := by omega
    subst e
    exact .inl ⟨Nat.le_refl _, hd H p⟩
section
variable {K : PySem.W.Frag} {c c' : Ctx K} {ρ : Rho} {E : DE} {ta : TA} {tb te : TE} {t u tb' : TS} {tc : TT}
/-- a comprehension over range(0, m, 2) -/
theorem wf_lcR3 {ta : TA} {g : TG} {tt : TT} {vs : List Nat} {k : List PyData → Prop} (js : List Nat) (hj : ∀ i ∈ js, i ∈ vs) (hw : (vs.all fun v => (ρ[v]?.map isOwn) == some false) = true) (h : Wa c ta ρ fun ys => ∃ (m : Int) (n : Nat), ys = [.d (.int 0), .d (.int m), .d (.int 2)] ∧ 0 ≤ m ∧ m < 2 ^ 60 ∧ n = ((m + 1) / 2).toNat ∧ n ≤ 100000 ∧ ∃ P : Nat → List PyData → Prop, P 0 [] ∧
    (∀ c' : Ctx K, Le c c' → ∀ (i : Nat) (acc : List PyData), i < n → acc.length ≤ i → P i acc → Wg c' g js (.d (.int ((i : Int) * 2))) (wipeR ρ vs) fun ρ2 => Wt c' tt ρ2 fun b => (b = true → We c' te ρ2 fun y => ∃ d, y = .d d ∧ P (i + 1) (acc ++ [d])) ∧ (b = false → P (i + 1) acc)) ∧
    ∀ acc, acc.length ≤ n → P n acc → k acc) : Wf c (tLc (iRng3 ta) g tt te vs) ρ k := fun σ H Q o q =>
  h σ H _ o fun vvs ys H1 o1 e1 d1 ⟨m, n, hx, hm0, hm1, hn, hz, P, p0, ps, pd⟩ => by
    subst hx
    cases d1 with
    | cons dn d1 =>
    cases d1 with
    | cons dm d1 =>
    cases d1 with
    | cons dc d1 =>
    cases d1
    obtain rfl := dp_int dn
    obtain rfl := dp_int dm
    obtain rfl := dp_int dc
    refine ⟨0, m, 2, n, rfl, rg2 hm0 hm1 hn, fun D hD => ?_⟩
    have nD : ¬ Hid c ρ D := o1.nh hD
    have nDL : ¬ c.L D := fun z => nD (.inl z)
    -- what stood ahead of the list, for all turns
    let B1 : Hp := vis c ρ H1
    have bB : Ex c.B B1 := o1.base
    have B1D : B1 D = none := hid_none hD
    have own0 : ∀ a, Owns ρ a → B1 a = none := fun a z => hid_pos (.inr z)
    let Pv : Nat → Hp → Prop := fun i H' => ∃ (ws : List V) (acc : List PyData), H' D = some (.lst ws) ∧ Ok (c.at B1) ρ σ H' ∧ Stp c ρ H1 H' ∧ DpAll K (hid (· = D) (vis c ρ H')) ws acc ∧ acc.length ≤ i ∧ P i acc
    have hH0 : H D = none := by
      cases z : H D with
      | none => rfl
      | some ob =>
        have := e1.ex D ob (by unfold vis; rw [hid_neg nD]; exact z)
        rw [vis, hid_none hD] at this; cases this
    refine lc_rangeC (lo := 0) (st := 2) (n := n) Pv ?_ ?_ ?_
    · obtain ⟨o2, e2⟩ := o1.new (o := .lst []) hD
      have o2' : Ok (c.at B1) ρ σ (upd H1 D (.lst [])) := ⟨o2.w, e2.ex.trans vis_out, fun l z => ⟨own0 l z, (o2.ob l z).2⟩, o2.sl, o2.one, o2.len⟩
      exact ⟨[], [], upd_same, o2', e2, .nil, Nat.le_refl 0, p0⟩
    · rintro i H' hin ⟨ws, acc, hD', o', s', dacc, hl, p'⟩
      have hi : i < 100000 := by omega
      rw [Int.zero_add]
      -- the context of this turn
      let B2 : Hp := hid (· = D) (vis c ρ H')
      have bB2 : Ex B1 B2 := fun b ob z => by
        have nb : b ≠ D := fun q => by rw [q, B1D] at z; cases z
        exact (hid_neg (L := fun x => x = D) nb).trans (s'.ex b ob z)
      let c2 : Ctx K := c.hide D (.lst ws) B2
      have le : Le c c2 := le_hide nDL (bB.trans bB2)
      have visE : ∀ (ρ2 : Rho) (H2 : Hp), Ex (vis c2 ρ2 H2) (hid (· = D) (vis c ρ2 H2)) := fun ρ2 H2 b ob z => by
        obtain ⟨n1, z⟩ := hid_some z
        have nb : b ≠ D := fun q => n1 (.inl (.inr q))
        refine (hid_neg (L := fun x => x = D) nb).trans ((hid_neg fun q => n1 (q.imp .inl id)).trans z)
      have visE' : ∀ (ρ2 : Rho) (H2 : Hp), Ex (hid (· = D) (vis c ρ2 H2)) (vis c2 ρ2 H2) := fun ρ2 H2 b ob z => by
        obtain ⟨nb, z⟩ := hid_some z
        obtain ⟨n1, z⟩ := hid_some z
        refine (hid_neg fun q => ?_).trans z
        rcases q with (q | q) | q
        · exact n1 (.inl q)
        · exact nb q
        · exact n1 (.inr q)
      have oD : ∀ (l : Addr), Owns ρ l → l ≠ D := fun l z q => nD (.inr (q ▸ z))
      have slots : ∀ (j : Nat) (s : Slot), ρ[j]? = some s → ∃ ob, σ[j]? = some ob ∧ SlotOk K (vis c2 ρ H') H' ob s := fun j s hs' => by
        obtain ⟨u1, q1, z1⟩ := (o1.clean s' hD j s hs')
        refine ⟨u1, q1, ?_⟩
        cases s with
        | un => trivial
        | val y => obtain ⟨w, w1, w2⟩ := z1; exact ⟨w, w1, dv_mono (visE' ρ H') w2⟩
        | own l ys => obtain ⟨w, w1, w2, w3⟩ := z1; exact ⟨w, w1, w2, own_mono (visE' ρ H') _ _ w3⟩
      have o2 : Ok c2 ρ σ H' := ⟨⟨o'.w, hD'⟩, (visE' ρ H').trans vis_out, fun l z => ⟨(show hid (· = D) (vis c ρ H') l = none from hid_none' (hid_pos (Or.inr z))), fun q => q.elim (o'.ob l z).2 (oD l z)⟩, slots, o'.one, o'.len⟩
      have o3 : Ok c2 (wipeR ρ vs) (L2.wipe σ vs) H' := o2.wipe vs
      have ev : Ex (vis c2 ρ H') (vis c2 (wipeR ρ vs) H') := hid_less fun b z => z.imp id owns_wipe
      have dd2 : Dp K (vis c2 (wipeR ρ vs) H') (V.int ((i : Int) * 2)) (.int ((i : Int) * 2)) := Dp.int _
      refine ps c2 le i acc hin hl p' (L2.wipe σ vs) H' _ _ o3 dd2 fun ρ4 σ4 o4 a4 l4 b4 b4' w4 => ⟨wipe_eq hj a4 l4, ?_⟩
      refine w4 σ4 H' _ o4 fun b H5 o5 s5 z5 => ?_
      -- what is the same again once the element is told
      have back : ∀ H6, Ok c2 ρ4 σ4 H6 → Stp c2 ρ4 H' H6 → H6 D = some (.lst ws) ∧ (∀ a, Owns ρ a → H6 a = H' a) ∧ Ex (vis c2 ρ H') (vis c2 ρ H6) := fun H6 o6 s6 => by
        refine ⟨o6.w.2, fun a z => s6.own a (b4 a (owns_wipe' hw z).1), fun b ob z => ?_⟩
        · obtain ⟨n1, z⟩ := hid_some z
          have n2 : ¬ Hid c2 ρ4 b := fun q => n1 (q.imp id fun q => owns_wipe (b4' b q))
          have := s6.ex b ob (by unfold vis; rw [hid_neg n2]; exact z)
          unfold vis
          rw [hid_neg n1]
          exact (hid_some this).2
      cases b with
      | false =>
        rw [if_neg Bool.false_ne_true]
        obtain ⟨hD5, ow5, ex5⟩ := back H5 o5 s5
        have exA : Ex (vis c ρ H') (vis c ρ H5) := fun b ob z => by
          by_cases nb : b = D
          · subst nb
            unfold vis at *
            rw [hid_neg nD] at *
            rw [hD'] at z
            rw [hD5]; exact z
          · have := ex5 b ob (visE' ρ H' b ob ((hid_neg (L := fun x => x = D) nb).trans z))
            exact hid_sub b ob (visE ρ H5 b ob this)
        have stp : Stp c ρ H' H5 := ⟨exA, ow5⟩
        refine ⟨ws, acc, hD5, o'.grow o5.w.1 exA ow5, s'.trans stp, dpa_mono (fun b ob z => visE ρ H5 b ob (ex5 b ob (visE' ρ H' b ob z))) _ _ dacc, Nat.le_succ_of_le hl, z5.2 rfl⟩
      | true =>
        rw [if_pos rfl]
        refine z5.1 rfl σ4 H5 _ o5 fun v6 y6 H6 o6 s6 d6 ⟨d, hy6, p6⟩ => ?_
        subst hy6
        obtain ⟨hD6, ow6, ex6⟩ := back H6 o6 (s5.trans s6)
        refine ⟨ws, hD6, ?_, ?_⟩
        · have w1 := dpa_len dacc
          exact Evl.sz_lt (by omega)
        · -- the list has one more
          have ow7 : ∀ a, Owns ρ a → upd H6 D (.lst (ws ++ [v6])) a = H' a := fun a z => (upd_ne (oD a z)).trans (ow6 a z)
          have e67 : Ex (hid (· = D) (vis c ρ H6)) (hid (· = D) (vis c ρ (upd H6 D (.lst (ws ++ [v6]))))) := fun b ob z => by
            obtain ⟨nb, z⟩ := hid_some z
            obtain ⟨n1, z⟩ := hid_some z
            refine (hid_neg (L := fun x => x = D) nb).trans ((hid_neg n1).trans ((upd_ne nb).trans z))
          have exB : Ex (hid (· = D) (vis c ρ H')) (hid (· = D) (vis c ρ (upd H6 D (.lst (ws ++ [v6]))))) := fun b ob z => e67 b ob (visE ρ H6 b ob (ex6 b ob (visE' ρ H' b ob z)))
          have w7 : c.W (upd H6 D (.lst (ws ++ [v6]))) := c.loc _ _ (fun a z => upd_ne fun q => nDL (q ▸ z)) (tp_lst hD6) o6.w.1
          have o7 : Ok (c.at B1) ρ σ (upd H6 D (.lst (ws ++ [v6]))) := by
            refine ⟨w7, fun b ob z => ?_, o'.ob, fun j s hs' => ?_, o'.one, o'.len⟩
            · have := exB b ob (bB2 b ob z)
              exact vis_out b ob (hid_sub b ob this)
            · obtain ⟨u1, q1, z1⟩ := (o1.clean s' hD j s hs')
              refine ⟨u1, q1, ?_⟩
              cases s with
              | un => trivial
              | val y => obtain ⟨w, w1, w2⟩ := z1; exact ⟨w, w1, dv_mono (exB.trans hid_sub) w2⟩
              | own l ys =>
                obtain ⟨w, w1, w2, w3⟩ := z1
                exact ⟨w, w1, (ow7 l ⟨ys, List.mem_of_getElem? hs'⟩).trans w2, own_mono (exB.trans hid_sub) _ _ w3⟩
          refine ⟨ws ++ [v6], acc ++ [d], upd_same, o7, ⟨fun b ob z => ?_, fun a z => (ow7 a z).trans (s'.own a z)⟩, ?_, by simp; omega, p6⟩
          · have nb : b ≠ D := fun q => by subst q; rw [vis, hid_none hD] at z; cases z
            have := exB b ob ((hid_neg (L := fun x => x = D) nb).trans (s'.ex b ob z))
            exact hid_sub b ob this
          · refine dpa_app (dpa_mono exB _ _ dacc) (.cons (dp_mono (fun b ob z => ?_) _ _ d6) .nil)
            -- what the element is made of
            have z0 := visE ρ4 H6 b ob z
            obtain ⟨nb, z1⟩ := hid_some z0
            obtain ⟨n1, z2⟩ := hid_some z1
            refine e67 b ob ((hid_neg (L := fun x => x = D) nb).trans ((hid_neg fun q => ?_).trans z2))
            rcases q with q | q
            · exact n1 (.inl q)
            · exact n1 (.inr (b4 b (owns_wipe' hw q).1))
    · rintro H' ⟨ws, acc, hD', o', s', dacc, hl, p'⟩
      exact q D ws acc H' hH0 hD' (ok_at bB o') (e1.trans s') dacc (pd acc hl p')
end
section
variable {K : PySem.W.Frag} {c c' : Ctx K} {ρ : Rho} {E : DE} {ta : TA} {tb te : TE} {t u tb' : TS} {tc : TT}
def IsI (y : Dv) (k : Int → Prop) : Prop := ∃ m, y = .d (.int m) ∧ k m
theorem isI_mk {m : Int} {k : Int → Prop} (h : k m) : IsI (.d (.int m)) k := ⟨m, rfl, h⟩
/-- n op= e -/
theorem ws_aug {i : Nat} {f : Int → Int → Int} {x : Int} (h : ρ[i]? = some (.val (.d (.int x)))) (ht : We c te ρ fun y => IsI y fun m => E.nx (ρ.set i (.val (.d (.int (f x m)))))) : Ws c (tAug i te (ipI f)) ρ E := fun D σ H e o => by
  obtain ⟨u, q, v, rfl, d⟩ := o.sl i _ h
  obtain rfl := dp_int d
  refine ⟨_, q, ht σ H _ o fun y z H1 o1 e1 d1 ⟨m, hz, n⟩ => ?_⟩
  subst hz
  obtain rfl := dp_int d1
  exact ⟨x, m, rfl, rfl, e.nx _ _ _ (o1.put (x := .d (.int (f x m))) (Dp.int _) i) n⟩
theorem pe_toK0 (K : PySem.W.Frag) {X : Cx} {e : Expr} {T : String} {r : V → List V → Hp → VK → Prop} {to : TE} (h : X.K = K) (hp : PE X e (tBM0 X.K T r to)) : PE X e (tBM0 K T r to) := h ▸ hp
end
/-! ### rows of points in order, each once -/
def Asc : List Pt → Prop
  | [] => True
  | p :: r => (∀ q ∈ r, ahd p q = true) ∧ Asc r
theorem asc_uniq : ∀ {l r : List Pt}, Asc l → Asc r → (∀ p, p ∈ l ↔ p ∈ r) → l = r
  | [], [], _, _, _ => rfl
  | [], q :: r, _, _, h => by have := (h q).mpr (by simp); cases this
  | p :: l, [], _, _, h => by have := (h p).mp (by simp); cases this
  | p :: l, q :: r, hl, hr, h => by
    have e : p = q := by
      rcases List.mem_cons.mp ((h p).mp (by simp)) with z | z
      · exact z
      rcases List.mem_cons.mp ((h q).mpr (by simp)) with w | w
      · exact w.symm
      have := ahd_trans (hl.1 q w) (hr.1 p z)
      rw [ahd_irr] at this; cases this
    subst e
    congr 1
    refine asc_uniq hl.2 hr.2 fun s => ⟨fun hs => ?_, fun hs => ?_⟩
    · rcases List.mem_cons.mp ((h s).mp (by simp [hs])) with z | z
      · subst z
        have := hl.1 s hs
        rw [ahd_irr] at this; cases this
      · exact z
    · rcases List.mem_cons.mp ((h s).mpr (by simp [hs])) with z | z
      · subst z
        have := hr.1 s hs
        rw [ahd_irr] at this; cases this
      · exact z
theorem asc_append {a b : List Pt} : Asc (a ++ b) ↔ Asc a ∧ Asc b ∧ ∀ x ∈ a, ∀ y ∈ b, ahd x y = true := by
  induction a with
  | nil => simp [Asc]
  | cons p a ih =>
    show ((∀ q ∈ a ++ b, ahd p q = true) ∧ Asc (a ++ b)) ↔ ((∀ q ∈ a, ahd p q = true) ∧ Asc a) ∧ _
    rw [ih]
    constructor
    · rintro ⟨h1, h2, h3, h4⟩
      refine ⟨⟨fun q hq => h1 q (by simp [hq]), h2⟩, h3, fun x hx y hy => ?_⟩
      rcases List.mem_cons.mp hx with rfl | hx
      · exact h1 y (by simp [hy])
      · exact h4 x hx y hy
    · rintro ⟨⟨h1, h2⟩, h3, h4⟩
      refine ⟨fun q hq => ?_, h2, h3, fun x hx y hy => h4 x (by simp [hx]) y hy⟩
      rcases List.mem_append.mp hq with hq | hq
      · exact h1 q hq
      · exact h4 p (by simp) q hq
def skipEq (p : Pt) : List Pt → List Pt
  | [] => []
  | q :: r => if q = p then r else q :: r
/-- those that are ahead of p, and the rest -/
def aheadOf (p : Pt) (r : List Pt) : List Pt := r.takeWhile fun q => ahd q p
def restOf (p : Pt) (r : List Pt) : List Pt := r.dropWhile fun q => ahd q p
def mergeM : List Pt → List Pt → List Pt
  | [], r => r
  | p :: l, r => aheadOf p r ++ p :: mergeM l (skipEq p (restOf p r))
theorem cut_of (p : Pt) (r : List Pt) : aheadOf p r ++ restOf p r = r := List.takeWhile_append_dropWhile ..
theorem mem_ahead {p q : Pt} : ∀ {r : List Pt}, q ∈ aheadOf p r → ahd q p = true
  | [], h => by cases h
  | s :: r, h => by
    unfold aheadOf at h
    rw [List.takeWhile_cons] at h
    split at h
    · rename_i hs
      rcases List.mem_cons.mp h with rfl | h
      · exact hs
      · exact mem_ahead (r := r) h
    · cases h
theorem rest_head {p q : Pt} {s : List Pt} : ∀ {r : List Pt}, restOf p r = q :: s → ahd q p = false
  | [], h => by cases h
  | t :: r, h => by
    unfold restOf at h
    rw [List.dropWhile_cons] at h
    split at h
    · exact rest_head (r := r) h
    · rename_i hs
      cases h
      simpa using hs
/-- what is left behind p lies behind it -/
theorem skip_spec {p : Pt} {r : List Pt} (h : Asc r) : Asc (skipEq p (restOf p r)) ∧ (∀ q ∈ skipEq p (restOf p r), ahd p q = true) ∧ ∀ q, q ∈ r ↔ q ∈ aheadOf p r ∨ (q = p ∧ p ∈ r) ∨ q ∈ skipEq p (restOf p r) := by
  have hc := cut_of p r
  have h' : Asc (aheadOf p r ++ restOf p r) := by rw [hc]; exact h
  obtain ⟨h1, h2, h3⟩ := asc_append.mp h'
  have hm : ∀ q, q ∈ r ↔ q ∈ aheadOf p r ∨ q ∈ restOf p r := fun q => by rw [← List.mem_append, hc]
  cases hr : restOf p r with
  | nil =>
    rw [hr] at hm
    refine ⟨trivial, fun q hq => (by cases hq), fun q => ?_⟩
    rw [hm]
    constructor
    · rintro (z | z)
      · exact .inl z
      · cases z
    · rintro (z | ⟨rfl, z⟩ | z)
      · exact .inl z
      · exact (hm q).mp z
      · cases z
  | cons s t =>
    rw [hr] at h2 hm
    have hs := rest_head hr
    by_cases e : s = p
    · subst e
      have ee : skipEq s (s :: t) = t := if_pos rfl
      rw [ee]
      refine ⟨h2.2, fun q hq => h2.1 q hq, fun q => ?_⟩
      rw [hm]
      constructor
      · rintro (z | z)
        · exact .inl z
        · rcases List.mem_cons.mp z with rfl | z
          · exact .inr (.inl ⟨rfl, (hm q).mpr (.inr (by simp))⟩)
          · exact .inr (.inr z)
      · rintro (z | ⟨rfl, z⟩ | z)
        · exact .inl z
        · exact .inr (by simp)
        · exact .inr (by simp [z])
    · have hp : ahd p s = true := by rw [ahd_flip e, hs]; rfl
      have ee : skipEq p (s :: t) = s :: t := if_neg e
      rw [ee]
      refine ⟨h2, fun q hq => ?_, fun q => ?_⟩
      · rcases List.mem_cons.mp hq with rfl | hq
        · exact hp
        · exact ahd_trans hp (h2.1 q hq)
      · rw [hm]
        constructor
        · rintro (z | z)
          · exact .inl z
          · exact .inr (.inr z)
        · rintro (z | ⟨rfl, z⟩ | z)
          · exact .inl z
          · exact (hm q).mp z
          · exact .inr z
theorem merge_spec : ∀ {l r : List Pt}, Asc l → Asc r → Asc (mergeM l r) ∧ ∀ q, q ∈ mergeM l r ↔ q ∈ l ∨ q ∈ r
  | [], r, _, hr => ⟨hr, fun q => by simp [mergeM]⟩
  | p :: l, r, hl, hr => by
    obtain ⟨s1, s2, s3⟩ := skip_spec (p := p) hr
    obtain ⟨m1, m2⟩ := merge_spec (l := l) hl.2 s1
    have ha : Asc (aheadOf p r) := (asc_append.mp (by rw [cut_of]; exact hr : Asc (aheadOf p r ++ restOf p r))).1
    have hb : ∀ y ∈ mergeM l (skipEq p (restOf p r)), ahd p y = true := fun y hy => by
      rcases (m2 y).mp hy with z | z
      · exact hl.1 y z
      · exact s2 y z
    refine ⟨asc_append.mpr ⟨ha, ⟨hb, m1⟩, fun x hx y hy => ?_⟩, fun q => ?_⟩
    · have hx := mem_ahead hx
      rcases List.mem_cons.mp hy with rfl | hy
      · exact hx
      · exact ahd_trans hx (hb y hy)
    · show q ∈ aheadOf p r ++ p :: mergeM l (skipEq p (restOf p r)) ↔ _
      rw [List.mem_append, List.mem_cons, m2, List.mem_cons, s3 q]
      constructor
      · rintro (z | z | z | z)
        · exact .inr (.inl z)
        · exact .inl (.inl z)
        · exact .inl (.inr z)
        · exact .inr (.inr (.inr z))
      · rintro ((z | z) | z | ⟨z, _⟩ | z)
        · exact .inr (.inl z)
        · exact .inr (.inr (.inl z))
        · exact .inl z
        · exact .inr (.inl z)
        · exact .inr (.inr (.inr z))
theorem ahead_step {p : Pt} {r : List Pt} {n : Nat} {q : Pt} (h : r[n]? = some q) (ha : ahd q p = true) : aheadOf p (r.drop n) = q :: aheadOf p (r.drop (n + 1)) ∧ restOf p (r.drop n) = restOf p (r.drop (n + 1)) := by
  have e : r.drop n = q :: r.drop (n + 1) := by
    obtain ⟨hn, hq⟩ := List.getElem?_eq_some_iff.mp h
    rw [← hq]; exact List.drop_eq_getElem_cons hn
  unfold aheadOf restOf
  rw [e, List.takeWhile_cons, List.dropWhile_cons, if_pos ha, if_pos ha]
  exact ⟨rfl, rfl⟩
theorem ahead_stop {p : Pt} {r : List Pt} {n : Nat} (h : ∀ q, r[n]? = some q → ahd q p = false) : aheadOf p (r.drop n) = [] ∧ restOf p (r.drop n) = r.drop n := by
  cases z : r.drop n with
  | nil => exact ⟨rfl, rfl⟩
  | cons q s =>
    have hq : r[n]? = some q := by
      have := congrArg (fun l => l[0]?) z
      simpa using this
    have := h q hq
    unfold aheadOf restOf
    rw [List.takeWhile_cons, List.dropWhile_cons, this]
    exact ⟨rfl, rfl⟩
end Py
namespace Py
open PySem hiding start
open L2
/-! ### rows made one, two by two -/
abbrev lsD (r : List Pt) : PyData := .list (r.map ptD)
theorem at_nat {xs : List PyData} {n : Nat} (h : n < xs.length) : atI xs (n : Int) = some xs[n] := by
  unfold atI ixN
  rw [if_pos (by omega), if_pos (by omega)]
  show xs[n]? = _
  rw [List.getElem?_eq_getElem h]
theorem at_last {xs : List PyData} (h : xs ≠ []) : atI xs (-1) = some (xs[xs.length - 1]'(by have := List.length_pos_iff.mpr h; omega)) := by
  have hl := List.length_pos_iff.mpr h
  unfold atI ixN
  rw [if_neg (by omega), if_pos (by omega)]
  show xs[_]? = _
  rw [show (-1 + (xs.length : Int)).toNat = xs.length - 1 by omega, List.getElem?_eq_getElem (by omega)]
def twosI (rs : List (List Pt)) (n : Nat) : List (List Pt) := (List.range n).map fun j => mergeM (rs[2 * j]!) (rs[2 * j + 1]!)
def twosM (rs : List (List Pt)) : List (List Pt) := twosI rs (rs.length / 2) ++ (if rs.length % 2 = 1 then [rs[rs.length - 1]!] else [])
theorem twosM_len (rs : List (List Pt)) : (twosM rs).length = rs.length / 2 + rs.length % 2 := by
  unfold twosM twosI
  rw [List.length_append, List.length_map, List.length_range]
  split
  · rw [List.length_singleton]; omega
  · rw [List.length_nil]; omega
structure RowsOf (rs : List (List Pt)) (ps : List Pt) : Prop where
  asc : ∀ R ∈ rs, Asc R
  mem : ∀ q, (∃ R ∈ rs, q ∈ R) ↔ q ∈ ps
theorem mem_get {α : Type} [Inhabited α] {l : List α} {x : α} : x ∈ l ↔ ∃ i, i < l.length ∧ l[i]! = x := by
  rw [List.mem_iff_getElem]
  constructor
  · rintro ⟨i, h, e⟩; exact ⟨i, h, by rw [getElem!_pos l i h]; exact e⟩
  · rintro ⟨i, h, e⟩; exact ⟨i, h, by rw [getElem!_pos l i h] at e; exact e⟩
theorem rows_twos {rs : List (List Pt)} {ps : List Pt} (h : RowsOf rs ps) : RowsOf (twosM rs) ps := by
  have ms : ∀ i, i < rs.length → Asc rs[i]! := fun i hi => h.asc _ (mem_get.mpr ⟨i, hi, rfl⟩)
  have mp := fun j (hj : j < rs.length / 2) => merge_spec (ms (2 * j) (by omega)) (ms (2 * j + 1) (by omega))
  refine ⟨fun R hR => ?_, fun q => ?_⟩
  · unfold twosM twosI at hR
    rcases List.mem_append.mp hR with hR | hR
    · obtain ⟨j, hj, rfl⟩ := List.mem_map.mp hR
      exact (mp j (List.mem_range.mp hj)).1
    · split at hR
      · rw [List.mem_singleton.mp hR]; exact ms _ (by omega)
      · cases hR
  · rw [← h.mem]
    constructor
    · rintro ⟨R, hR, hq⟩
      unfold twosM twosI at hR
      rcases List.mem_append.mp hR with hR | hR
      · obtain ⟨j, hj, rfl⟩ := List.mem_map.mp hR
        have hj := List.mem_range.mp hj
        rcases ((mp j hj).2 q).mp hq with z | z
        · exact ⟨_, mem_get.mpr ⟨2 * j, by omega, rfl⟩, z⟩
        · exact ⟨_, mem_get.mpr ⟨2 * j + 1, by omega, rfl⟩, z⟩
      · split at hR
        · rw [List.mem_singleton.mp hR] at hq
          exact ⟨_, mem_get.mpr ⟨rs.length - 1, by omega, rfl⟩, hq⟩
        · cases hR
    · rintro ⟨R, hR, hq⟩
      obtain ⟨i, hi, rfl⟩ := mem_get.mp hR
      unfold twosM twosI
      by_cases z : i / 2 < rs.length / 2
      · refine ⟨_, List.mem_append_left _ (List.mem_map.mpr ⟨i / 2, List.mem_range.mpr z, rfl⟩), ((mp (i / 2) z).2 q).mpr ?_⟩
        have : i = 2 * (i / 2) ∨ i = 2 * (i / 2) + 1 := by omega
        rcases this with e | e
        · rw [← e]; exact .inl hq
        · rw [← e]; exact .inr hq
      · have e : i = rs.length - 1 := by omega
        refine ⟨rs[rs.length - 1]!, List.mem_append_right _ ?_, e ▸ hq⟩
        rw [if_pos (by omega)]; simp
theorem asc_nodup : ∀ {l : List Pt}, Asc l → l.Nodup
  | [], _ => List.nodup_nil
  | p :: l, h => List.nodup_cons.mpr ⟨fun z => (by have := h.1 p z; rw [ahd_irr] at this; cases this), asc_nodup h.2⟩
theorem nodup_le : ∀ {l r : List Pt}, l.Nodup → (∀ q ∈ l, q ∈ r) → l.length ≤ r.length
  | [], _, _, _ => Nat.zero_le _
  | p :: l, r, h, hs => by
    have hp := hs p (by simp)
    obtain ⟨n1, n2⟩ := List.nodup_cons.mp h
    have := nodup_le (l := l) (r := r.erase p) n2 fun q hq => by
      have ne : q ≠ p := fun z => n1 (z ▸ hq)
      exact (List.mem_erase_of_ne ne).mpr (hs q (by simp [hq]))
    rw [List.length_erase_of_mem hp] at this
    have := List.length_pos_of_mem hp
    show l.length + 1 ≤ _
    omega
theorem rows_len {rs : List (List Pt)} {ps : List Pt} (h : RowsOf rs ps) : ∀ R ∈ rs, R.length ≤ ps.length := fun R hR => nodup_le (asc_nodup (h.asc R hR)) fun q hq => (h.mem q).mp ⟨R, hR, hq⟩
theorem rows_ones (ps : List Pt) : RowsOf (ps.map fun p => [p]) ps := by
  refine ⟨fun R hR => ?_, fun q => ?_⟩
  · obtain ⟨p, _, rfl⟩ := List.mem_map.mp hR
    exact ⟨fun q hq => (by cases hq), trivial⟩
  · constructor
    · rintro ⟨R, hR, hq⟩
      obtain ⟨p, hp, rfl⟩ := List.mem_map.mp hR
      rw [List.mem_singleton.mp hq]; exact hp
    · intro hq
      exact ⟨[q], List.mem_map.mpr ⟨q, hq, rfl⟩, by simp⟩
theorem shp_ls {n : Nat} {r : List Pt} (h : r.length ≤ 100000) : Shp (n + 2) (lsD r) := shp_mapL (fun p _ => shp_pt p) h
end Py
namespace Py
open PySem hiding start
open L2
theorem wt_split {K : PySem.W.Frag} {c : Ctx K} {ρ : Rho} {t : TT} {A B : Prop} (b0 : Bool) (h : Wt c t ρ fun b => b = b0) (h1 : b0 = true → A) (h2 : b0 = false → B) : Wt c t ρ fun b => (b = true → A) ∧ (b = false → B) := fun σ H Q o q => h σ H Q o fun b H1 o1 e1 eb => q b H1 o1 e1 ⟨fun z => h1 (eb ▸ z), fun z => h2 (eb ▸ z)⟩
end Py
namespace Py
open PySem hiding start
open L2
def midM (p q : Pt) : Pt := ptBy (p.a * q.c + q.a * p.c) (p.b * q.c + q.b * p.c) (2 * p.c * q.c) (by have := cc_pos p q; rw [Int.mul_assoc]; omega)
theorem mid_c (p q : Pt) : 0 < 2 * p.c * q.c := by have := cc_pos p q; rw [Int.mul_assoc]; omega
theorem mid_xy (p q : Pt) : (midM p q).x = (p.x + q.x) / 2 ∧ (midM p q).y = (p.y + q.y) / 2 := by
  obtain ⟨x1, y1⟩ := ptBy_x (a := p.a * q.c + q.a * p.c) (b := p.b * q.c + q.b * p.c) (c := 2 * p.c * q.c) (by have := mid_c p q; omega)
  unfold midM
  rw [x1, y1, divInt_q, divInt_q]
  have pc := p.cq
  have qc := q.cq
  have i2 : ((2 : Int) : Rat) = 2 := rfl
  simp only [Rat.intCast_add, Rat.intCast_mul, i2]
  rw [p.xc, q.xc, p.yc, q.yc]
  constructor <;> grind
theorem by_c_le {a b d : Int} (hd : d ≠ 0) : (ptBy a b d hd).c.natAbs ≤ d.natAbs := by
  obtain ⟨a', b', c', h1, h2, h3, h4, h5, h6, _⟩ := by3_facts (a := a) (b := b) hd
  exact fdiv_le h3 h6
theorem insert_eq {p : Pt} {acc : List Pt} {n : Nat} (h1 : acc.take n = aheadOf p acc) (h2 : acc.drop n = restOf p acc) (h : ∀ q, acc[n]? = some q → q ≠ p) : acc.take n ++ [p] ++ acc.drop n = mergeM [p] acc := by
  show _ = aheadOf p acc ++ p :: skipEq p (restOf p acc)
  rw [h1, h2, List.append_assoc]
  congr 1
  show p :: restOf p acc = p :: skipEq p (restOf p acc)
  congr 1
  rw [← h2]
  cases z : acc.drop n with
  | nil => rfl
  | cons q s =>
    have hq : acc[n]? = some q := by
      have := congrArg (fun l => l[0]?) z
      simpa using this
    exact (if_neg (h q hq)).symm
theorem insert_same {p : Pt} {acc : List Pt} {n : Nat} (h1 : acc.take n = aheadOf p acc) (h2 : acc.drop n = restOf p acc) (h : acc[n]? = some p) : acc = mergeM [p] acc := by
  show acc = aheadOf p acc ++ p :: skipEq p (restOf p acc)
  have e : restOf p acc = p :: acc.drop (n + 1) := by
    rw [← h2]
    obtain ⟨hn, hq⟩ := List.getElem?_eq_some_iff.mp h
    have := List.drop_eq_getElem_cons hn
    rw [hq] at this; exact this
  rw [e, skipEq, if_pos rfl]
  have := cut_of p acc
  rw [e] at this
  exact this.symm
/-- what a row of the law holds -/
def rowQ (p : Pt) : Prop := xyB ((2 ^ 201 : Nat) : Rat) p ∧ p.c.natAbs < 2 ^ 262
theorem rowQ.S {p : Pt} (h : rowQ p) : ptS 463 p := xyB_S h.1 h.2
theorem rowQ_mix {p q : Pt} (hp : rowQ p) (hq : rowQ q) (h1 : p.c < 10 ^ 60) (h2 : q.c.natAbs < 2 ^ 61) (hd : p.c * q.c ≠ 0) : rowQ (ptBy (p.a * q.c) (q.b * p.c) (p.c * q.c) hd) := by
  obtain ⟨x1, y1⟩ := ptBy_x (a := p.a * q.c) (b := q.b * p.c) hd
  have pc := p.cq
  have qc := q.cq
  have ex : (ptBy (p.a * q.c) (q.b * p.c) (p.c * q.c) hd).x = p.x := by
    rw [x1, divInt_q]
    simp only [Rat.intCast_mul]
    rw [p.xc]; grind
  have ey : (ptBy (p.a * q.c) (q.b * p.c) (p.c * q.c) hd).y = q.y := by
    rw [y1, divInt_q]
    simp only [Rat.intCast_mul]
    rw [q.yc]; grind
  have pp := p.pos
  refine ⟨?_, Nat.lt_of_le_of_lt (by_c_le hd) (nup (nmul (show p.c.natAbs < 2 ^ 200 by omega) h2) (by decide))⟩
  unfold xyB
  rw [ex, ey]
  exact ⟨hp.1.1, hq.1.2⟩
theorem rowQ_mid {p q : Pt} (hp : rowQ p) (hq : rowQ q) (h1 : p.c < 10 ^ 60) (h2 : q.c.natAbs < 2 ^ 61) : rowQ (midM p q) := by
  obtain ⟨ex, ey⟩ := mid_xy p q
  have pp := p.pos
  refine ⟨?_, Nat.lt_of_le_of_lt (by_c_le _) (nup (nmul (show (2 * p.c).natAbs < 2 ^ 201 by omega) h2) (by decide))⟩
  obtain ⟨⟨a1, a2⟩, a3, a4⟩ := hp.1
  obtain ⟨⟨b1, b2⟩, b3, b4⟩ := hq.1
  unfold xyB
  rw [ex, ey]
  refine ⟨⟨by grind, by grind⟩, by grind, by grind⟩
end Py
namespace Py
open PySem hiding start
open L2
theorem rv_powX {K : PySem.W.Frag} {c : Ctx K} {ρ : Rho} {k : Dv → Prop} {i j : Int} (hc : CPowX i j) (h : k (.d (.int (i ^ j.toNat)))) : Rv c (rI CPowX fun i j => .int (i ^ j.toNat)) ρ (.d (.int i)) (.d (.int j)) k := rv_I (f := fun i j => i ^ j.toNat) hc h
end Py
namespace Py
open PySem hiding start
open L2
theorem wt_any {K : PySem.W.Frag} {c : Ctx K} {ρ : Rho} {t : TT} {A B : Prop} (h : Wt c t ρ fun _ => True) (h1 : A) (h2 : B) : Wt c t ρ fun b => (b = true → A) ∧ (b = false → B) := fun σ H Q o q => h σ H Q o fun b H1 o1 e1 _ => q b H1 o1 e1 ⟨fun _ => h1, fun _ => h2⟩
end Py
namespace Py
open PySem hiding start
open L2
theorem Wf.imp {K : PySem.W.Frag} {c : Ctx K} {ρ : Rho} {te : TE} {k k' : List PyData → Prop} (h : Wf c te ρ k) (hk : ∀ xs, k xs → k' xs) : Wf c te ρ k' := fun σ H Q o q => h σ H Q o fun l vs xs H' n g o' s d kx => q l vs xs H' n g o' s d (hk xs kx)
end Py

set_option Elab.async false
set_option linter.all false
set_option autoImplicit false
set_option maxRecDepth 100000
set_option maxHeartbeats 4000000
namespace Py
open PySem hiding start
open L2
open Evl (Ex ex_rd ex_l ex_t fresh_back)
open Classical
/-! ### a list that is lent: the context knows that it holds what I says -/
theorem noL_hid {L : Addr → Prop} {H : Hp} : Ex (noL (hid L H)) (noL H) := fun a o h => by
  obtain ⟨h1, m⟩ := noL_some h
  exact noL_of (hid_some h1).2 m
theorem upd_self {H : Hp} {l : Addr} {o : HO} (h : H l = some o) : upd H l o = H := by
  funext a
  by_cases z : a = l
  · subst z; rw [upd_same, h]
  · rw [upd_ne z]
structure Lent {K : PySem.W.Frag} (c : Ctx K) (p l : Addr) (I : List PyData → Prop) : Prop where
  ex : ∃ (ls : Addr) (ns : List Int), (c.L p ∧ c.L ls ∧ c.L l) ∧ (l ≠ p ∧ l ≠ ls) ∧
    (∀ H, c.W H → HandAt H p ls ns ∧ ∃ vs ys, H l = some (.lst vs) ∧ DpAll K (noL H) vs ys ∧ flatDs ys = true ∧ I ys) ∧
    (∀ H H', c.W H → HandAt H' p ls ns → (∀ a, a ≠ p → H' a = H a) → c.W H') ∧
    (∀ H H' vs ys, c.W H → H' l = some (.lst vs) → DpAll K (noL H') vs ys → flatDs ys = true → I ys → (∀ a, a ≠ l → H' a = H a) → c.W H')
section
variable {K : PySem.W.Frag} {c c' : Ctx K} {ρ : Rho} {E : DE} {k : Dv → Prop} {ta : TA} {tb te : TE} {t u tb' : TS} {p l : Addr} {I : List PyData → Prop}
theorem Lent.hand (h : Lent c p l I) : HandIn c p := by
  obtain ⟨ls, ns, ⟨h1, h2, h3⟩, _, h4, h5, _⟩ := h.ex
  exact ⟨h1, ls, ns, h2, fun H w => (h4 H w).1, h5⟩
theorem tp_put {H H' : Hp} {q : Addr} {us : List V} (h : H q = some (.lst us)) (hk : ∀ a, a ≠ q → H' a = H a) : Tp H H' := fun a o e m => by
  by_cases z : a = q
  · subst z; rw [h] at e; cases e; cases m
  · exact (hk a z).trans e
theorem HandAt.lst {H : Hp} {p l : Addr} {ns : List Int} (h : HandAt H p l ns) : ∃ us, H p = some (.lst us) := by
  obtain ⟨⟨_, _, _, _, _, h, _⟩, _, _⟩ := h
  exact ⟨_, h⟩
theorem Lent.le (h : Lent c p l I) (e : Le c c') : Lent c' p l I := by
  obtain ⟨ls, ns, ⟨h1, h2, h3⟩, h0, h4, h5, h6⟩ := h.ex
  refine ⟨ls, ns, ⟨e.L _ h1, e.L _ h2, e.L _ h3⟩, h0, fun H w => h4 H (e.W H w), fun H H' w ha hk => ?_, fun H H' vs ys w hl hd hf hI hk => ?_⟩
  · obtain ⟨us, hu⟩ := (h4 H (e.W H w)).1.lst
    exact e.F H H' w (h5 H H' (e.W H w) ha hk) (fun a _ na => hk a fun z => na (z ▸ h1)) (tp_put hu hk)
  · obtain ⟨_, us, _, hu, _⟩ := h4 H (e.W H w)
    exact e.F H H' w (h6 H H' vs ys (e.W H w) hl hd hf hI hk) (fun a _ na => hk a fun z => na (z ▸ h3)) (tp_put hu hk)
def Ctx.lend (c : Ctx K) (l : Addr) (I : List PyData → Prop) : Ctx K where
  B := c.B
  L := fun a => c.L a ∨ a = l
  W := fun H => c.W H ∧ ∃ vs ys, H l = some (.lst vs) ∧ DpAll K (noL H) vs ys ∧ flatDs ys = true ∧ I ys
  loc := fun H H' e t ⟨w, vs, ys, h1, h2, h3⟩ => ⟨c.loc H H' (fun a ha => e a (.inl ha)) t w, vs, ys, (e l (.inr rfl)).trans h1, dpa_mono (noL_tp t) _ _ h2, h3⟩
  dom := fun H ⟨w, vs, ys, h1, _⟩ a ha => ha.elim (c.dom H w a) fun z => by rw [z]; exact ⟨_, h1, rfl⟩
theorem own_other {σ : L2.St} {H : Hp} (o : Ok c ρ σ H) {i : Nat} {xs : List PyData} (h : ρ[i]? = some (.own l xs)) {s : Slot} (hs : isOwn s = false) {a : Addr} (z : Owns (ρ.set i s) a) : Owns ρ a ∧ a ≠ l := by
  obtain ⟨ys, z⟩ := z
  obtain ⟨j, hj, e⟩ := List.mem_iff_getElem.mp z
  have z' : (ρ.set i s)[j]? = some (Slot.own a ys) := by rw [List.getElem?_eq_getElem hj, e]
  rcases List_set_get z' with ⟨_, q, _⟩ | ⟨ne, z'⟩
  · subst q; cases hs
  · refine ⟨⟨ys, List.mem_of_getElem? z'⟩, fun q => ne ?_⟩
    subst q
    exact o.one i j _ xs ys h z'
theorem ws_lend {i : Nat} {xs : List PyData} (I : List PyData → Prop) (h : ρ[i]? = some (.own l xs)) (HI : HandIn c p) (hf : flatDs xs = true) (hI : I xs)
    (ht : ∀ c2, Le c c2 → Lent c2 p l I → Ws c2 t (ρ.set i (.val (.r (.ref l)))) ⟨fun ρ' => ρ'[i]? = some (.val (.r (.ref l))) ∧ ∀ ys, flatDs ys = true → I ys → E.nx (ρ'.set i (.own l ys)), E.rt, fun _ => False, fun _ => False⟩) : Ws c t ρ E := fun D σ H e o => by
  obtain ⟨vs, e1, h1, d1⟩ := o.own h
  have ol : Owns ρ l := ⟨xs, List.mem_of_getElem? h⟩
  obtain ⟨bl, nl⟩ := o.ob l ol
  obtain ⟨ls, ns, cls, hW, put⟩ := HI.ex
  have hil : i < ρ.length := (List.getElem?_eq_some_iff.mp h).1
  have lpn : l ≠ p := fun z => nl (z ▸ HI.L)
  have lln : l ≠ ls := fun z => nl (z ▸ cls)
  have le : Le c (c.lend l I) := ⟨fun a ha => .inl ha, fun H w => w.1, fun H H' w w' e t => by
    obtain ⟨_, vs, ys, g1, g2, g3⟩ := w
    exact ⟨w', vs, ys, (e l (.inr rfl) nl).trans g1, dpa_mono (noL_tp t) _ _ g2, g3⟩, Evl.Ex.refl _⟩
  have lent : Lent (c.lend l I) p l I := ⟨ls, ns, ⟨.inl HI.L, .inl cls, .inr rfl⟩, ⟨lpn, lln⟩, fun H w => ⟨hW H w.1, w.2⟩, fun H H' w ha hk => by
    obtain ⟨us, hu⟩ := (hW H w.1).lst
    obtain ⟨w0, vs, ys, g1, g2, g3⟩ := w
    exact ⟨put H H' w0 ha hk, vs, ys, (hk l lpn).trans g1, dpa_mono (noL_tp (tp_put hu hk)) _ _ g2, g3⟩, fun H H' vs ys w hl hd hf hI hk => by
    obtain ⟨w0, us, _, g1, _⟩ := w
    exact ⟨c.loc H H' (fun a ha => hk a fun z => nl (z ▸ ha)) (tp_put g1 hk) w0, vs, ys, hl, hd, hf, hI⟩⟩
  let ρ2 : Rho := ρ.set i (.val (.r (.ref l)))
  have iff : ∀ a, Hid (c.lend l I) ρ2 a → Hid c ρ a := fun a z => by
    rcases z with (z | z) | z
    · exact .inl z
    · exact .inr (z ▸ ol)
    · exact .inr (own_other o h rfl z).1
  have o2 : Ok (c.lend l I) ρ2 σ H := by
    refine ⟨⟨o.w, vs, xs, h1, dpa_mono noL_hid _ _ (dpa_noL xs vs hf d1), hf, hI⟩, fun a ob z => ?_, fun a z => ?_, fun j s hs => ?_, fun j j' a ys zs hs hs' => ?_, by show σ.length = (ρ.set i _).length; simp [o.len]⟩
    · obtain ⟨n, z'⟩ := hid_some (o.b a ob z)
      refine (hid_neg ?_).trans z'
      rintro (w | w)
      · exact n w
      · have z : c.B a = some ob := z
        rw [w, bl] at z; cases z
    · obtain ⟨z1, ne⟩ := own_other o h rfl z
      exact ⟨(o.ob a z1).1, fun w => w.elim (o.ob a z1).2 ne⟩
    · rcases List_set_get hs with ⟨rfl, rfl, _⟩ | ⟨ne, hs⟩
      · exact ⟨_, e1, .ref l, rfl, rfl⟩
      · obtain ⟨u, q, z⟩ := o.sl j s hs
        refine ⟨u, q, ?_⟩
        have ev : Ex (vis c ρ H) (vis (c.lend l I) ρ2 H) := hid_less iff
        cases s with
        | un => trivial
        | val y => obtain ⟨w, e1, e2⟩ := z; exact ⟨w, e1, dv_mono ev e2⟩
        | own m ys => obtain ⟨ws, e1, e2, e3⟩ := z; exact ⟨ws, e1, e2, own_mono ev _ _ e3⟩
    · rcases List_set_get hs with ⟨_, q, _⟩ | ⟨_, hs⟩
      · cases q
      · rcases List_set_get hs' with ⟨_, q, _⟩ | ⟨_, hs'⟩
        · cases q
        · exact o.one _ _ _ _ _ hs hs'
  refine ht (c.lend l I) le lent D σ H ⟨fun ρ' σ' H' o' ⟨hi, hn⟩ => ?_, fun v x H' w b dv hx => e.rt v x H' w.1 (b.trans (hid_less le.L)) (dv_mono (hid_less le.L) dv) hx, fun _ _ _ _ z => z.elim, fun _ _ _ _ z => z.elim⟩ o2
  obtain ⟨w', vs', ys, g1, g2, g3, g4⟩ := o'.w
  refine e.nx (ρ'.set i (.own l ys)) σ' H' ?_ (hn ys g3 g4)
  have hil' : i < ρ'.length := (List.getElem?_eq_some_iff.mp hi).1
  have hid2 : ∀ a, Hid c (ρ'.set i (.own l ys)) a → Hid (c.lend l I) ρ' a := fun a z => by
    rcases z with z | z
    · exact .inl (.inl z)
    · rcases owns_set z with z | ⟨zs, q⟩
      · exact .inr z
      · cases q; exact .inl (.inr rfl)
  have ev : Ex (vis (c.lend l I) ρ' H') (vis c (ρ'.set i (.own l ys)) H') := hid_less hid2
  refine ⟨w', fun a ob z => hid_less (fun b hb => .inl hb) a ob (o'.b a ob z), fun a z => ?_, fun j s hs => ?_, fun j j' a us zs hs hs' => ?_, by simp [o'.len]⟩
  · rcases owns_set z with z | ⟨zs, q⟩
    · exact ⟨(o'.ob a z).1, fun w => (o'.ob a z).2 (.inl w)⟩
    · cases q; exact ⟨bl, nl⟩
  · rcases List_set_get hs with ⟨rfl, rfl, _⟩ | ⟨ne, hs⟩
    · obtain ⟨u, q, v, rfl, dv⟩ := o'.sl i _ hi
      have dv : v = .ref l := dv
      subst dv
      exact ⟨_, q, _, rfl, g1, vs', rfl, dpa_mono (o'.noL.trans ev) _ _ g2⟩
    · obtain ⟨u, q, z⟩ := o'.sl j s hs
      refine ⟨u, q, ?_⟩
      cases s with
      | un => trivial
      | val y => obtain ⟨w, e1, e2⟩ := z; exact ⟨w, e1, dv_mono ev e2⟩
      | own m ys => obtain ⟨ws, e1, e2, e3⟩ := z; exact ⟨ws, e1, e2, own_mono ev _ _ e3⟩
  · have no : ∀ {j : Nat} {us : OwnC}, ρ'[j]? = some (.own l us) → False := fun hj => (o'.ob l ⟨_, List.mem_of_getElem? hj⟩).2 (.inr rfl)
    rcases List_set_get hs with ⟨r1, q1, _⟩ | ⟨ne, hs⟩
    · cases q1
      rcases List_set_get hs' with ⟨r2, q2, _⟩ | ⟨ne', hs'⟩
      · exact r1.symm.trans r2
      · exact (no hs').elim
    · rcases List_set_get hs' with ⟨r2, q2, _⟩ | ⟨ne', hs'⟩
      · cases q2; exact (no hs).elim
      · exact o'.one _ _ _ _ _ hs hs'
/-- the context without a lent list -/
def Ctx.unl (c : Ctx K) (l : Addr) (vs : List V) : Ctx K where
  B := c.B
  L := fun a => c.L a ∧ a ≠ l
  W := fun H => c.W (upd H l (.lst vs))
  loc := fun H H' e t w => c.loc _ _ (fun a ha => by
      by_cases z : a = l
      · subst z; rw [upd_same, upd_same]
      · rw [upd_ne z, upd_ne z]; exact e a ⟨ha, z⟩) (fun a o h m => by
      by_cases z : a = l
      · subst z; rw [upd_same] at h ⊢; exact h
      · rw [upd_ne z] at h ⊢; exact t a o h m) w
  dom := fun H w a ha => by
    have := c.dom _ w a ha.1
    rw [upd_ne ha.2] at this; exact this
theorem Lent.unl (N : Lent c p l I) (vs : List V) : HandIn (c.unl l vs) p := by
  obtain ⟨ls, ns, ⟨h1, h2, h3⟩, ⟨n1, n2⟩, h4, h5, h6⟩ := N.ex
  refine ⟨⟨h1, n1.symm⟩, ls, ns, ⟨h2, n2.symm⟩, fun H w => ?_, fun H H' w ha hk => ?_⟩
  · obtain ⟨⟨⟨i, pool, left, a, b, g, r⟩, g2, g3⟩, _⟩ := h4 _ w
    rw [upd_ne n1.symm] at g
    rw [upd_ne n2.symm] at g2
    exact ⟨⟨i, pool, left, a, b, g, r⟩, g2, g3⟩
  · obtain ⟨⟨i, pool, left, a, b, g, r⟩, g2, g3⟩ := ha
    refine h5 _ _ w ⟨⟨i, pool, left, a, b, (upd_ne n1.symm).trans g, r⟩, (upd_ne n2.symm).trans g2, g3⟩ fun a na => ?_
    by_cases z : a = l
    · subst z; rw [upd_same, upd_same]
    · rw [upd_ne z, upd_ne z]; exact hk a na
theorem Ok.unl {σ : L2.St} {H : Hp} (o : Ok c ρ σ H) (N : Lent c p l I) {i : Nat} (h : ρ[i]? = some (.val (.r (.ref l)))) {vs : List V} {ys : List PyData} (hl : H l = some (.lst vs)) (hd : DpAll K (Py.noL H) vs ys) :
    Ok (c.unl l vs) (ρ.set i (.own l ys)) σ H ∧ ∀ H', vis (c.unl l vs) (ρ.set i (.own l ys)) H' = vis c ρ H' := by
  obtain ⟨ls, ns, ⟨h1, h2, h3⟩, ⟨n1, n2⟩, h4, h5, h6⟩ := N.ex
  have hil : i < ρ.length := (List.getElem?_eq_some_iff.mp h).1
  have keep : ∀ a, Owns ρ a → Owns (ρ.set i (.own l ys)) a := fun a z => owns_keep (by rw [h]; rfl) z
  have same : ∀ a, Hid (c.unl l vs) (ρ.set i (.own l ys)) a ↔ Hid c ρ a := fun a => by
    constructor
    · rintro (z | z)
      · exact .inl z.1
      · rcases owns_set z with z | ⟨zs, q⟩
        · exact .inr z
        · cases q; exact .inl h3
    · rintro (z | z)
      · by_cases q : a = l
        · subst q
          exact .inr ⟨ys, List.mem_of_getElem? (i := i) (List.getElem?_set_self hil)⟩
        · exact .inl ⟨z, q⟩
      · exact .inr (keep a z)
  have sv : ∀ H', vis (c.unl l vs) (ρ.set i (.own l ys)) H' = vis c ρ H' := fun H' => by
    unfold vis
    congr 1
    funext a
    exact propext (same a)
  have bl : c.B l = none := by
    cases z : c.B l with
    | none => rfl
    | some ob => exact absurd h3 (hid_some (o.b l ob z)).1
  have no : ∀ {j : Nat} {us : OwnC}, ρ[j]? = some (.own l us) → False := fun hj => (o.ob l ⟨_, List.mem_of_getElem? hj⟩).2 h3
  refine ⟨⟨by show c.W (upd H l (.lst vs)); rw [upd_self hl]; exact o.w, fun a ob z => hid_less (fun b hb => hb.1) a ob (o.b a ob z), fun a z => ?_, fun j s hs => ?_, fun j j' a us zs hs hs' => ?_, by simp [o.len]⟩, sv⟩
  · rcases owns_set z with z | ⟨zs, q⟩
    · exact ⟨(o.ob a z).1, fun w => (o.ob a z).2 w.1⟩
    · cases q; exact ⟨bl, fun w => w.2 rfl⟩
  · rw [sv H]
    rcases List_set_get hs with ⟨rfl, rfl, _⟩ | ⟨ne, hs⟩
    · obtain ⟨u, q, v, rfl, dv⟩ := o.sl i _ h
      have dv : v = .ref l := dv
      subst dv
      exact ⟨_, q, _, rfl, hl, vs, rfl, dpa_mono o.noL _ _ hd⟩
    · exact o.sl j s hs
  · rcases List_set_get hs with ⟨r1, q1, _⟩ | ⟨ne, hs⟩
    · cases q1
      rcases List_set_get hs' with ⟨r2, q2, _⟩ | ⟨ne', hs'⟩
      · exact r1.symm.trans r2
      · exact (no hs').elim
    · rcases List_set_get hs' with ⟨r2, q2, _⟩ | ⟨ne', hs'⟩
      · cases q2; exact (no hs).elim
      · exact o.one _ _ _ _ _ hs hs'
/-- back into the context -/
theorem Ok.back {σ : L2.St} {H : Hp} {vs0 : List V} {i : Nat} {ys : List PyData} (N : Lent c p l I) (bl : c.B l = none) (o : Ok (c.unl l vs0) ρ σ H) (h : ρ[i]? = some (.own l ys)) (hf : flatDs ys = true) (hI : I ys) : Ok c (ρ.set i (.val (.r (.ref l)))) σ H := by
  obtain ⟨ls, ns, ⟨h1, h2, h3⟩, ⟨n1, n2⟩, h4, h5, h6⟩ := N.ex
  obtain ⟨vs, e1, hl, d1⟩ := o.own h
  have w : c.W H := h6 _ H vs ys o.w hl (dpa_mono noL_hid _ _ (dpa_noL ys vs hf d1)) hf hI fun a na => (upd_ne na).symm
  have ev : Ex (vis (c.unl l vs0) ρ H) (vis c (ρ.set i (.val (.r (.ref l)))) H) := hid_less fun a z => by
    rcases z with z | z
    · by_cases q : a = l
      · subst q; exact .inr ⟨ys, List.mem_of_getElem? h⟩
      · exact .inl ⟨z, q⟩
    · exact .inr (own_other o h rfl z).1
  refine ⟨w, fun a ob z => ?_, fun a z => ?_, fun j s hs => ?_, fun j j' a us zs hs hs' => ?_, by simp [o.len]⟩
  · obtain ⟨n, z'⟩ := hid_some (o.b a ob z)
    refine (hid_neg fun q => ?_).trans z'
    by_cases r : a = l
    · subst r; rw [bl] at z; cases z
    · exact n ⟨q, r⟩
  · obtain ⟨z1, ne⟩ := own_other o h rfl z
    exact ⟨(o.ob a z1).1, fun q => (o.ob a z1).2 ⟨q, ne⟩⟩
  · rcases List_set_get hs with ⟨rfl, rfl, _⟩ | ⟨ne, hs⟩
    · exact ⟨_, e1, .ref l, rfl, rfl⟩
    · obtain ⟨u, q, z⟩ := o.sl j s hs
      refine ⟨u, q, ?_⟩
      cases s with
      | un => trivial
      | val y => obtain ⟨w, e1, e2⟩ := z; exact ⟨w, e1, dv_mono ev e2⟩
      | own m ys => obtain ⟨ws, e1, e2, e3⟩ := z; exact ⟨ws, e1, e2, own_mono ev _ _ e3⟩
  · rcases List_set_get hs with ⟨_, q, _⟩ | ⟨_, hs⟩
    · cases q
    · rcases List_set_get hs' with ⟨_, q, _⟩ | ⟨_, hs'⟩
      · cases q
      · exact o.one _ _ _ _ _ hs hs'
theorem lent_b {σ : L2.St} {H : Hp} (o : Ok c ρ σ H) (N : Lent c p l I) : c.B l = none := by
  obtain ⟨ls, ns, ⟨h1, h2, h3⟩, _⟩ := N.ex
  cases z : c.B l with
  | none => rfl
  | some ob => exact absurd h3 (hid_some (o.b l ob z)).1
/-- a lent list is one's own within a statement -/
theorem ws_take {i : Nat} (h : ρ[i]? = some (.val (.r (.ref l)))) (N : Lent c p l I)
    (ht : ∀ (c2 : Ctx K) ys, HandIn c2 p → flatDs ys = true → I ys → Ws c2 t (ρ.set i (.own l ys)) ⟨fun ρ' => ∃ ys' : List PyData, ρ'[i]? = some (.own l ys') ∧ flatDs ys' = true ∧ I ys' ∧ E.nx (ρ'.set i (.val (.r (.ref l)))), fun _ => False, fun _ => False, fun _ => False⟩) : Ws c t ρ E := fun D σ H e o => by
  have bl := lent_b o N
  obtain ⟨ls, ns, _, _, h4, _, _⟩ := N.ex
  obtain ⟨_, vs, ys, hl, hd, hf, hI⟩ := h4 H o.w
  refine ht (c.unl l vs) ys (N.unl vs) hf hI D σ H ⟨fun ρ' σ' H' o' ⟨ys', g1, g2, g3, g4⟩ => ?_, fun _ _ _ _ _ _ z => z.elim, fun _ _ _ _ z => z.elim, fun _ _ _ _ z => z.elim⟩ (o.unl N h hl hd).1
  exact e.nx _ σ' H' (Ok.back N bl o' g1 g2 g3) g4
/-- a lent list is one's own while an expression is evaluated -/
theorem we_pin {i : Nat} (h : ρ[i]? = some (.val (.r (.ref l)))) (N : Lent c p l I) (ht : ∀ (c2 : Ctx K) ys, HandIn c2 p → flatDs ys = true → I ys → We c2 te (ρ.set i (.own l ys)) k) : We c te ρ k := fun σ H Q o q => by
  have bl := lent_b o N
  obtain ⟨ls, ns, _, _, h4, _, _⟩ := N.ex
  obtain ⟨_, vs, ys, hl, hd, hf, hI⟩ := h4 H o.w
  obtain ⟨o2, sv⟩ := o.unl N h hl hd
  have hil : i < ρ.length := (List.getElem?_eq_some_iff.mp h).1
  have gi : (ρ.set i (.own l ys))[i]? = some (.own l ys) := List.getElem?_set_self hil
  refine ht (c.unl l vs) ys (N.unl vs) hf hI σ H Q o2 fun v x H' o' s' d' kx => ?_
  have hl' : H' l = some (.lst vs) := (s'.own l ⟨ys, List.mem_of_getElem? gi⟩).trans hl
  have o3 := Ok.back N bl o' gi hf hI
  have e : (ρ.set i (.own l ys)).set i (.val (.r (.ref l))) = ρ := by
    rw [List.set_set]
    apply List.ext_getElem?
    intro j
    by_cases z : i = j
    · subst z; rw [List.getElem?_set_self hil, h]
    · rw [List.getElem?_set_ne z]
  rw [e] at o3
  refine q v x H' o3 ⟨?_, fun a z => s'.own a (owns_keep (by rw [h]; rfl) z)⟩ (by rw [sv] at d'; exact d') kx
  have := s'.ex
  rw [sv, sv] at this
  exact this
end
end Py

set_option Elab.async false
set_option linter.all false
set_option autoImplicit false
set_option maxRecDepth 100000
namespace Py
open PySem hiding start
open L2
/-! ### how often rings go round a point -/
def undM (u v p : Pt) : Int := if u.x ≤ p.x ∧ ¬ v.x ≤ p.x ∧ tn u v p = 1 then 1 else if v.x ≤ p.x ∧ ¬ u.x ≤ p.x ∧ tn u v p = -1 then -1 else 0
theorem und_flip (u v p : Pt) : undM v u p = -undM u v p := by
  have e := tn_flip u v p
  unfold undM
  rw [e]
  rcases sg_cases (crQ u v p) with ⟨_, h⟩ | ⟨_, h⟩ | ⟨_, h⟩ <;> (have h : tn u v p = _ := h; rw [h])
  all_goals by_cases a : u.x ≤ p.x <;> by_cases b : v.x ≤ p.x <;> simp [a, b]
def fA (w p : Pt) : Int := if w.x ≤ p.x ∧ w.y < p.y then 1 else 0
theorem und_bool (a b a' b' : Bool) (s : Int) (hs : s = 1 ∨ s = -1 ∨ s = 0) (h0 : a ≠ b ∨ a' ≠ b' → s ≠ 0)
    (h1 : a = true → a' = false → b = false → b' = false → s = 1) (h2 : a = true → a' = false → b = true → b' = true → s = -1) (h3 : a = true → a' = true → b = false → b' = true → s = -1) (h4 : a = false → a' = true → b = false → b' = false → s = -1)
    (h5 : b = true → b' = false → a = false → a' = false → s = -1) (h6 : b = true → b' = false → a = true → a' = true → s = 1) (h7 : b = true → b' = true → a = false → a' = true → s = 1) (h8 : b = false → b' = true → a = false → a' = false → s = 1) :
    (if a = true ∧ ¬ b = true ∧ s = 1 then (1 : Int) else if b = true ∧ ¬ a = true ∧ s = -1 then -1 else 0) - (if a' = true ∧ ¬ b' = true ∧ s = 1 then (1 : Int) else if b' = true ∧ ¬ a' = true ∧ s = -1 then -1 else 0) = (if a = true ∧ ¬ a' = true then (1 : Int) else 0) - (if b = true ∧ ¬ b' = true then (1 : Int) else 0) := by
  cases a <;> cases b <;> cases a' <;> cases b' <;> rcases hs with rfl | rfl | rfl <;> first | decide | (exfalso; first | exact (h0 (by decide)) rfl | exact absurd (h1 rfl rfl rfl rfl) (by decide) | exact absurd (h2 rfl rfl rfl rfl) (by decide) | exact absurd (h3 rfl rfl rfl rfl) (by decide) | exact absurd (h4 rfl rfl rfl rfl) (by decide) | exact absurd (h5 rfl rfl rfl rfl) (by decide) | exact absurd (h6 rfl rfl rfl rfl) (by decide) | exact absurd (h7 rfl rfl rfl rfl) (by decide) | exact absurd (h8 rfl rfl rfl rfl) (by decide))
theorem cr_rel (u v p : Pt) : crQ u v p = (u.x - p.x) * (v.y - p.y) - (u.y - p.y) * (v.x - p.x) := by unfold crQ; grind
theorem cr_adj {a b c d : Rat} :
    (a ≤ 0 → b < 0 → 0 < c → d < 0 → 0 < a * d - b * c) ∧ (a ≤ 0 → b < 0 → c ≤ 0 → 0 ≤ d → a * d - b * c ≤ 0) ∧ (a ≤ 0 → 0 ≤ b → 0 < c → 0 ≤ d → a * d - b * c ≤ 0) ∧ (0 < a → 0 ≤ b → 0 < c → d < 0 → a * d - b * c < 0) := by
  refine ⟨fun h1 h2 h3 h4 => ?_, fun h1 h2 h3 h4 => ?_, fun h1 h2 h3 h4 => ?_, fun h1 h2 h3 h4 => ?_⟩
  · have := Rat.mul_nonneg (show 0 ≤ -a by grind) (show 0 ≤ -d by grind)
    have := Rat.mul_pos (show 0 < -b by grind) h3
    grind
  · have := Rat.mul_nonneg (show 0 ≤ -a by grind) h4
    have := Rat.mul_nonneg (show 0 ≤ -b by grind) (show 0 ≤ -c by grind)
    grind
  · have := Rat.mul_nonneg (show 0 ≤ -a by grind) h4
    have := Rat.mul_nonneg h2 (show 0 ≤ c by grind)
    grind
  · have := Rat.mul_pos h1 (show 0 < -d by grind)
    have := Rat.mul_nonneg h2 (show 0 ≤ c by grind)
    grind
theorem cross_ne {a b c d : Rat} (N : ∀ t : Rat, 0 ≤ t → t ≤ 1 → a + (c - a) * t = 0 → b + (d - b) * t = 0 → False) (h : a ≤ 0 ∧ 0 < c ∨ c ≤ 0 ∧ 0 < a) : a * d - b * c ≠ 0 := fun z => by
  have hd : c - a ≠ 0 := by rcases h with h | h <;> grind
  have e : -a / (c - a) * (c - a) = -a := by grind
  generalize -a / (c - a) = t at *
  have hy : b + (d - b) * t = 0 := by
    have : (c - a) * (b + (d - b) * t) = 0 := by grind
    rcases Rat.mul_eq_zero.mp this with q | q
    · exact absurd q hd
    · exact q
  have t01 : 0 ≤ t ∧ t ≤ 1 := by
    rcases h with ⟨h1, h2⟩ | ⟨h1, h2⟩
    · constructor
      · by_cases q : 0 ≤ t
        · exact q
        · have := Rat.mul_pos (show 0 < -t by grind) (show 0 < c - a by grind); grind
      · by_cases q : t ≤ 1
        · exact q
        · have := Rat.mul_pos (show 0 < t - 1 by grind) (show 0 < c - a by grind); grind
    · constructor
      · by_cases q : 0 ≤ t
        · exact q
        · have := Rat.mul_pos (show 0 < -t by grind) (show 0 < a - c by grind); grind
      · by_cases q : t ≤ 1
        · exact q
        · have := Rat.mul_pos (show 0 < t - 1 by grind) (show 0 < a - c by grind); grind
  exact N t t01.1 t01.2 (by grind) hy
theorem und_quarter {u v p : Pt} (huv : u ≠ v) (hp : onS p u v = false) : undM u v p - undM u.quarter v.quarter p.quarter = fA u p - fA v p := by
  obtain ⟨q1, q2⟩ := quarter_xy u
  obtain ⟨q3, q4⟩ := quarter_xy v
  obtain ⟨q5, q6⟩ := quarter_xy p
  have N : ∀ t : Rat, 0 ≤ t → t ≤ 1 → (u.x - p.x) + ((v.x - p.x) - (u.x - p.x)) * t = 0 → (u.y - p.y) + ((v.y - p.y) - (u.y - p.y)) * t = 0 → False := fun t t0 t1 ex ey => by
    have : onS p u v = true := (onS_t huv).mpr ⟨t, t0, t1, by grind, by grind⟩
    rw [hp] at this; cases this
  have c0 : crQ u v p = (u.x - p.x) * (v.y - p.y) - (u.y - p.y) * (v.x - p.x) := cr_rel u v p
  have s1 := (sg_one (q := crQ u v p)).1
  have s2 := (sg_one (q := crQ u v p)).2
  have K1 := cross_ne (a := u.x - p.x) (b := u.y - p.y) (c := v.x - p.x) (d := v.y - p.y) N
  have K2 := cross_ne (a := u.y - p.y) (b := u.x - p.x) (c := v.y - p.y) (d := v.x - p.x) (fun t t0 t1 e1 e2 => N t t0 t1 e2 e1)
  obtain ⟨a1, a2, a3, a4⟩ := cr_adj (a := u.x - p.x) (b := u.y - p.y) (c := v.x - p.x) (d := v.y - p.y)
  obtain ⟨b1, b2, b3, b4⟩ := cr_adj (a := v.x - p.x) (b := v.y - p.y) (c := u.x - p.x) (d := u.y - p.y)
  have B := und_bool (decide (u.x ≤ p.x)) (decide (v.x ≤ p.x)) (decide (p.y ≤ u.y)) (decide (p.y ≤ v.y)) (tn u v p)
  have hs : tn u v p = 1 ∨ tn u v p = -1 ∨ tn u v p = 0 := by
    rcases sg_cases (crQ u v p) with ⟨_, h⟩ | ⟨_, h⟩ | ⟨_, h⟩
    · exact .inl h
    · exact .inr (.inl h)
    · exact .inr (.inr h)
  have nz : decide (u.x ≤ p.x) ≠ decide (v.x ≤ p.x) ∨ decide (p.y ≤ u.y) ≠ decide (p.y ≤ v.y) → crQ u v p ≠ 0 := fun h z => by
    rw [c0] at z
    rcases h with h | h
    · refine K1 ?_ z
      by_cases x1 : u.x ≤ p.x <;> by_cases x2 : v.x ≤ p.x <;> simp [x1, x2] at h
      · left; constructor <;> grind
      · right; constructor <;> grind
    · have z' : (u.y - p.y) * (v.x - p.x) - (u.x - p.x) * (v.y - p.y) = 0 := by grind
      by_cases x1 : p.y ≤ u.y <;> by_cases x2 : p.y ≤ v.y <;> simp [x1, x2] at h
      · by_cases y0 : u.y - p.y = 0
        · exact N 0 (by grind) (by grind) (by
            have : (u.x - p.x) * (v.y - p.y) = 0 := by grind
            rcases Rat.mul_eq_zero.mp this with q | q <;> grind) (by grind)
        · exact K2 (.inr ⟨by grind, by grind⟩) z'
      · by_cases y0 : v.y - p.y = 0
        · exact N 1 (by grind) (by grind) (by
            have : (u.y - p.y) * (v.x - p.x) = 0 := by grind
            rcases Rat.mul_eq_zero.mp this with q | q <;> grind) (by grind)
        · exact K2 (.inl ⟨by grind, by grind⟩) z'
  have hz : decide (u.x ≤ p.x) ≠ decide (v.x ≤ p.x) ∨ decide (p.y ≤ u.y) ≠ decide (p.y ≤ v.y) → tn u v p ≠ 0 := fun h z => nz h (tn_zero.mp z)
  have t1 : tn u v p = 1 ↔ 0 < crQ u v p := s1
  have t2 : tn u v p = -1 ↔ crQ u v p < 0 := s2
  have B := B hs hz
    (fun h1 h2 h3 h4 => t1.mpr (by rw [c0]; exact a1 (by have := of_decide_eq_true h1; grind) (by have := of_decide_eq_false h2; grind) (by have := of_decide_eq_false h3; grind) (by have := of_decide_eq_false h4; grind)))
    (fun h1 h2 h3 h4 => t2.mpr (by
      have n := nz (.inr (by rw [h2, h4]; decide))
      have := a2 (by have := of_decide_eq_true h1; grind) (by have := of_decide_eq_false h2; grind) (by have := of_decide_eq_true h3; grind) (by have := of_decide_eq_true h4; grind)
      rw [← c0] at this; grind))
    (fun h1 h2 h3 h4 => t2.mpr (by
      have n := nz (.inl (by rw [h1, h3]; decide))
      have := a3 (by have := of_decide_eq_true h1; grind) (by have := of_decide_eq_true h2; grind) (by have := of_decide_eq_false h3; grind) (by have := of_decide_eq_true h4; grind)
      rw [← c0] at this; grind))
    (fun h1 h2 h3 h4 => t2.mpr (by rw [c0]; exact a4 (by have := of_decide_eq_false h1; grind) (by have := of_decide_eq_true h2; grind) (by have := of_decide_eq_false h3; grind) (by have := of_decide_eq_false h4; grind)))
    (fun h1 h2 h3 h4 => t2.mpr (by rw [c0]; have := b1 (by have := of_decide_eq_true h1; grind) (by have := of_decide_eq_false h2; grind) (by have := of_decide_eq_false h3; grind) (by have := of_decide_eq_false h4; grind); grind))
    (fun h1 h2 h3 h4 => t1.mpr (by
      have n := nz (.inr (by rw [h2, h4]; decide))
      have := b2 (by have := of_decide_eq_true h1; grind) (by have := of_decide_eq_false h2; grind) (by have := of_decide_eq_true h3; grind) (by have := of_decide_eq_true h4; grind)
      rw [c0] at n ⊢; grind))
    (fun h1 h2 h3 h4 => t1.mpr (by
      have n := nz (.inl (by rw [h1, h3]; decide))
      have := b3 (by have := of_decide_eq_true h1; grind) (by have := of_decide_eq_true h2; grind) (by have := of_decide_eq_false h3; grind) (by have := of_decide_eq_true h4; grind)
      rw [c0] at n ⊢; grind))
    (fun h1 h2 h3 h4 => t1.mpr (by rw [c0]; have := b4 (by have := of_decide_eq_false h1; grind) (by have := of_decide_eq_true h2; grind) (by have := of_decide_eq_false h3; grind) (by have := of_decide_eq_false h4; grind); grind))
  have n1 : (u.quarter.x ≤ p.quarter.x) ↔ p.y ≤ u.y := by rw [q1, q5]; constructor <;> (intro h; grind)
  have n2 : (v.quarter.x ≤ p.quarter.x) ↔ p.y ≤ v.y := by rw [q3, q5]; constructor <;> (intro h; grind)
  have m1 : (u.y < p.y) ↔ ¬ p.y ≤ u.y := by constructor <;> (intro h; grind)
  have m2 : (v.y < p.y) ↔ ¬ p.y ≤ v.y := by constructor <;> (intro h; grind)
  unfold undM fA
  rw [tn_quarter]
  simp only [n1, n2, m1, m2]
  simp only [decide_eq_true_eq] at B
  exact B
/-- the sides of a closed row -/
def sideL (ps : List Pt) : List (Pt × Pt) := (List.range ps.length).map fun k => (ps[k]!, ps[(k + 1) % ps.length]!)
def sidesM (rs : List (List Pt)) : List (Pt × Pt) := rs.flatMap sideL
def roundsM (rs : List (List Pt)) (p : Pt) : Int := ((sidesM rs).map fun s => undM s.1 s.2 p).sum
end Py

set_option Elab.async false
set_option linter.all false
set_option autoImplicit false
set_option maxRecDepth 100000
set_option maxHeartbeats 4000000
namespace Py
open PySem hiding start
open L2
open Evl (Ex ex_rd ex_l ex_t fresh_back)
open Classical
/-! ### for k, x in enumerate(list) -/
theorem for_enum {K : PySem.W.Frag} {a : Addr} {xs : List V} {g : TG} {tb : TS} {D : Ends} {σ : L2.St} {H : Hp} (Pv : Nat → L2.St → Hp → Prop) (h0 : Pv 0 σ H) (hl : ∀ i σ H, i ≤ xs.length → Pv i σ H → SqL K H a xs)
    (hs : ∀ i x T σ H, xs[i]? = some x → Pv i σ H → H T = none → g (.ref T) σ (upd H T (.tup [.int (i : Nat), x])) fun σ2 H2 => tb { D with nx := Pv (i + 1), ct := Pv (i + 1), bk := D.nx } σ2 H2) (hd : ∀ σ H, Pv xs.length σ H → D.nx σ H) :
    ∃ W : Nat → Nat → L2.St → Hp → Prop, (∃ m, W 0 m σ H) ∧ ∀ i m σ H, W i m σ H →
      ((Ite K a).stop i H ∧ D.nx σ H) ∨ ((Ite K a).go i H ∧ ∃ N : L2.St → Hp → Prop, (∀ σ' H', N σ' H' → ∃ m', m' < m ∧ W (i + 1) m' σ' H') ∧ ∀ x H', (Ite K a).yld i H x H' → g x σ H' fun σ2 H2 => tb { D with nx := N, ct := N, bk := D.nx } σ2 H2) := by
  refine ⟨fun i m σ H => m = xs.length - i ∧ i ≤ xs.length ∧ Pv i σ H, ⟨xs.length, by simp, Nat.zero_le _, h0⟩, ?_⟩
  rintro i m σ H ⟨rfl, hi, p⟩
  have q := hl i σ H hi p
  by_cases hlt : i < xs.length
  · refine .inr ⟨⟨xs, xs[i], q, by simp [hlt]⟩, Pv (i + 1), fun σ' H' p' => ⟨xs.length - (i + 1), by omega, rfl, hlt, p'⟩, fun x H' y => ?_⟩
    obtain ⟨T, x', rfl, hT, rfl, f⟩ := y
    exact hs i x' T σ H (f xs q) p hT
  · have e : i = xs.length := by omega
    subst e
    exact .inl ⟨⟨xs, q, Nat.le_refl _⟩, hd σ H p⟩
section
variable {K : PySem.W.Frag} {c c' : Ctx K} {ρ : Rho} {E : DE} {k : Dv → Prop} {ta : TA} {tb te : TE} {t u tb' : TS}
theorem ws_forE {tl : TA} {g : TG} (js : List Nat) (h : Wa c tl ρ fun zs => ∃ xs, zs = [.d (.list xs)] ∧ ∃ P : Nat → Rho → Prop, P 0 ρ ∧
    (∀ c' : Ctx K, Le c c' → ∀ i x ρ', xs[i]? = some x → P i ρ' → Wg c' g js (.d (.tuple [.int i, x])) ρ' fun ρ2 => Ws c' tb' ρ2 { E with nx := P (i + 1), ct := P (i + 1), bk := E.nx }) ∧ ∀ ρ', P xs.length ρ' → E.nx ρ') : Ws c (tFor (iEnum K tl) g tb') ρ E := fun D σ H e o =>
  h σ H _ o fun us zs H1 o1 e1 d1 ⟨xs, hx, P, p0, ps, pd⟩ => by
    subst hx
    cases d1 with
    | cons dA dn =>
    cases dn
    change Dp _ _ _ _ at dA
    cases dA with
    | @lst a vs _ _ hs ha =>
      have b1 : Ex c.B (vis c ρ H1) := o1.base
      have le : Le c (c.at (vis c ρ H1)) := le_at b1
      have sq : ∀ {ρ' σ' H'}, Ok (c.at (vis c ρ H1)) ρ' σ' H' → SqL K H' a vs := fun o' => ex_l hid_sub (ex_l o'.b hs)
      refine ⟨a, vs, rfl, ex_l hid_sub hs, for_enum (K := K) (a := a) (xs := vs) (fun i σ' H' => ∃ ρ', Ok (c.at (vis c ρ H1)) ρ' σ' H' ∧ P i ρ') ⟨ρ, o1.at', p0⟩ (fun i σ' H' _ ⟨ρ', o', _⟩ => sq o') ?_ ?_⟩
      · rintro i y T σ' H' hy ⟨ρ', o', p'⟩ hT
        obtain ⟨d, hd, dd⟩ := dpa_get' ha hy
        obtain ⟨on, en⟩ := o'.new (o := .tup [.int (i : Nat), y]) hT
        have dd2 : Dp K (vis (c.at (vis c ρ H1)) ρ' (upd H' T (.tup [.int (i : Nat), y]))) (.ref T) (.tuple [.int (i : Nat), d]) :=
          dp_tup (vis_upd (o'.nh hT)) (.cons (.int _) (.cons (dp_mono (o'.base.trans en.ex) _ _ dd) .nil))
        refine ps _ le i d ρ' hd p' σ' _ _ _ on dd2 fun ρ2 σ2 o2 _ _ _ _ w => ?_
        exact w { D with nx := fun σ' H' => ∃ ρ', Ok (c.at (vis c ρ H1)) ρ' σ' H' ∧ P (i + 1) ρ', ct := fun σ' H' => ∃ ρ', Ok (c.at (vis c ρ H1)) ρ' σ' H' ∧ P (i + 1) ρ', bk := D.nx } σ2 _ ((e.at' b1).loop fun ρ σ H o p => ⟨ρ, o, p⟩) o2
      · rintro σ' H' ⟨ρ', o', p'⟩
        rw [dpa_len ha] at p'
        exact e.nx ρ' σ' H' (ok_at b1 o') (pd ρ' p')
end
/-! ### the sides as data, and sums of whole numbers -/

theorem sideL_len (ps : List Pt) : (sideL ps).length = ps.length := by simp [sideL]
theorem sideL_get {ps : List Pt} {k : Nat} (h : k < ps.length) : (sideL ps)[k]? = some (ps[k]!, ps[(k + 1) % ps.length]!) := by
  unfold sideL
  rw [List.getElem?_map, List.getElem?_range h]; rfl
theorem at_next {ps : List Pt} {k : Nat} (h : k < ps.length) : atI (ps.map ptD) (((k : Int) + 1).fmod (ps.length : Int)) = some (ptD ps[(k + 1) % ps.length]!) := by
  have e : ((k : Int) + 1).fmod (ps.length : Int) = (((k + 1) % ps.length : Nat) : Int) := by
    rw [Int.fmod_eq_emod_of_nonneg _ (by omega)]; rfl
  rw [e]
  exact at_cur (Nat.mod_lt _ (by omega))
theorem mem_next {ps : List Pt} {k : Nat} (h : k < ps.length) : ps[(k + 1) % ps.length]! ∈ ps := by
  have h2 : (k + 1) % ps.length < ps.length := Nat.mod_lt _ (by omega)
  rw [getElem!_pos ps _ h2]; exact List.getElem_mem h2
def sumI (zs : List Int) : Int := zs.foldl (· + ·) 0
theorem foldl_add (zs : List Int) (a : Int) : zs.foldl (· + ·) a = a + zs.sum := by
  induction zs generalizing a with
  | nil => simp
  | cons z zs ih => rw [List.foldl_cons, ih, List.sum_cons]; omega
theorem undM_abs (u v p : Pt) : (undM u v p).natAbs ≤ 1 := by unfold undM; split <;> (try split) <;> simp
theorem sum_abs {zs : List Int} (h : ∀ z ∈ zs, z.natAbs ≤ 1) : zs.sum.natAbs ≤ zs.length := by
  induction zs with
  | nil => simp
  | cons z zs ih =>
    rw [List.sum_cons, List.length_cons]
    have := ih fun y hy => h y (by simp [hy])
    have := h z (by simp)
    omega
end Py

set_option Elab.async false
set_option linter.all false
set_option autoImplicit false
set_option maxRecDepth 100000
set_option maxHeartbeats 4000000
namespace Py
open PySem hiding start
open L2
open Evl (Ex ex_rd ex_l ex_t fresh_back)
open Classical
/-! ### a list of one's own that is walked -/
section
variable {K : PySem.W.Frag} {c c' : Ctx K} {ρ : Rho} {E : DE} {k : Dv → Prop} {ta : TA} {tb te : TE} {t u tb' : TS}
theorem ws_forOwn {i : Nat} {l : Addr} {xs : List PyData} {g : TG} (js : List Nat) (P : Nat → Rho → Prop) (h : ∀ n ρ', P n ρ' → ρ'[i]? = some (.own l xs)) (h0 : ρ[i]? = some (.own l xs)) (p0 : P 0 ρ)
    (ps : ∀ n x ρ', xs[n]? = some x → P n ρ' → Wg c g js (.d x) ρ' fun ρ2 => Ws c tb' ρ2 { E with nx := P (n + 1), ct := P (n + 1), bk := E.nx }) (pd : ∀ ρ', P xs.length ρ' → E.nx ρ') : Ws c (tFor (iList K (tVar i)) g tb') ρ E := fun D σ H e o => by
  obtain ⟨vs, e1, h1, d1⟩ := o.own h0
  refine ⟨_, e1, l, rfl, ⟨vs, .inl (.inl h1)⟩, fun n m σ' H' => m = xs.length - n ∧ n ≤ xs.length ∧ ∃ ρ', Ok c ρ' σ' H' ∧ P n ρ', ⟨xs.length, rfl, Nat.zero_le _, ρ, o, p0⟩, ?_⟩
  rintro n m σ' H' ⟨rfl, hn, ρ', o', p'⟩
  obtain ⟨ws, q1, q2, q3⟩ := o'.own (h n ρ' p')
  have sq : SqL K H' l ws := .inl (.inl q2)
  have hl := dpa_len q3
  by_cases hlt : n < xs.length
  · have hw : n < ws.length := by omega
    refine .inr ⟨⟨ws, ws[n], sq, by simp [hw]⟩, fun σ2 H2 => ∃ ρ2, Ok c ρ2 σ2 H2 ∧ P (n + 1) ρ2, fun σ2 H2 ⟨ρ2, o2, p2⟩ => ⟨xs.length - (n + 1), by omega, rfl, hlt, ρ2, o2, p2⟩, fun x H2 y => ?_⟩
    obtain ⟨rfl, y⟩ := y
    have hx := y ws sq
    obtain ⟨d, hd, dd⟩ := dpa_get' q3 hx
    refine ps n d ρ' hd p' σ' _ x _ o' dd fun ρ2 σ2 o2 _ _ _ _ w => ?_
    exact w { D with nx := fun σ' H' => ∃ ρ', Ok c ρ' σ' H' ∧ P (n + 1) ρ', ct := fun σ' H' => ∃ ρ', Ok c ρ' σ' H' ∧ P (n + 1) ρ', bk := D.nx } σ2 _ (e.loop fun ρ σ H o p => ⟨ρ, o, p⟩) o2
  · have e2 : n = xs.length := by omega
    subst e2
    exact .inl ⟨⟨ws, sq, by omega⟩, e.nx ρ' σ' H' o' (pd ρ' p')⟩
end
/-! ### sums over range -/
def rsum (n : Nat) (g : Nat → Int) : Int := ((List.range n).map g).sum
theorem rsum_zero (g : Nat → Int) : rsum 0 g = 0 := rfl
theorem rsum_succ (n : Nat) (g : Nat → Int) : rsum (n + 1) g = rsum n g + g n := by
  unfold rsum; rw [List.range_succ, List.map_append, List.sum_append]; simp
theorem rsum_first (n : Nat) (g : Nat → Int) : rsum (n + 1) g = g 0 + rsum n fun k => g (k + 1) := by
  induction n generalizing g with
  | zero => simp [rsum]
  | succ n ih => rw [rsum_succ, ih, rsum_succ n fun k => g (k + 1)]; omega
theorem rsum_congr {n : Nat} {g h : Nat → Int} (e : ∀ k, k < n → g k = h k) : rsum n g = rsum n h := by
  induction n with
  | zero => rfl
  | succ n ih => rw [rsum_succ, rsum_succ, ih fun k hk => e k (by omega), e n (by omega)]
theorem rsum_neg (n : Nat) (g : Nat → Int) : (rsum n fun k => -g k) = -rsum n g := by
  induction n with
  | zero => rfl
  | succ n ih => rw [rsum_succ, rsum_succ, ih]; omega
theorem rsum_sub (n : Nat) (g h : Nat → Int) : (rsum n fun k => g k - h k) = rsum n g - rsum n h := by
  induction n with
  | zero => rfl
  | succ n ih => rw [rsum_succ, rsum_succ, rsum_succ, ih]; omega
theorem rsum_rot (n : Nat) (g : Nat → Int) : (rsum n fun k => g ((k + 1) % n)) = rsum n g := by
  cases n with
  | zero => rfl
  | succ m =>
    rw [rsum_succ, rsum_first m g, Nat.mod_self]
    have : (rsum m fun k => g ((k + 1) % (m + 1))) = rsum m fun k => g (k + 1) := rsum_congr fun k hk => by rw [Nat.mod_eq_of_lt (by omega)]
    omega
theorem rsum_rev (n : Nat) (g : Nat → Int) : (rsum n fun k => g (n - 1 - k)) = rsum n g := by
  induction n generalizing g with
  | zero => rfl
  | succ n ih =>
    rw [rsum_first, rsum_succ, ← ih g]
    have : (rsum n fun k => g (n + 1 - 1 - (k + 1))) = rsum n fun k => g (n - 1 - k) := rsum_congr fun k hk => by rw [show n + 1 - 1 - (k + 1) = n - 1 - k by omega]
    simp only [Nat.add_sub_cancel, Nat.sub_zero] at this ⊢
    omega
/-! ### rounds -/
def ringM (ps : List Pt) (p : Pt) : Int := rsum ps.length fun k => undM ps[k]! ps[(k + 1) % ps.length]! p
theorem ring_eq (ps : List Pt) (p : Pt) : ((sideL ps).map fun s => undM s.1 s.2 p).sum = ringM ps p := by
  unfold sideL ringM rsum
  rw [List.map_map]; rfl
theorem rounds_cons (ps : List Pt) (rs : List (List Pt)) (p : Pt) : roundsM (ps :: rs) p = ringM ps p + roundsM rs p := by
  unfold roundsM sidesM
  rw [List.flatMap_cons, List.map_append, List.sum_append, ring_eq]
theorem rounds_nil (p : Pt) : roundsM [] p = 0 := rfl
theorem rounds_all {rs : List (List Pt)} {f : List Pt → List Pt} {p q : Pt} (z : Int) (h : ∀ ps ∈ rs, ringM (f ps) q = z * ringM ps p) : roundsM (rs.map f) q = z * roundsM rs p := by
  induction rs with
  | nil => simp [rounds_nil]
  | cons ps rs ih =>
    rw [List.map_cons, rounds_cons, rounds_cons, h ps (by simp), ih fun r hr => h r (by simp [hr]), Int.mul_add]
theorem prev_next {n k : Nat} (h : k < n) : ((k + 1) % n + n - 1) % n = k := by
  by_cases e : k + 1 = n
  · rw [e, Nat.mod_self, show 0 + n - 1 = k by omega]; exact Nat.mod_eq_of_lt h
  · rw [Nat.mod_eq_of_lt (show k + 1 < n by omega), show k + 1 + n - 1 = k + n by omega, Nat.add_mod_right]; exact Nat.mod_eq_of_lt h
/-- sides told from the point before -/
theorem ring_back (ps : List Pt) (p : Pt) : (rsum ps.length fun k => undM ps[(k + ps.length - 1) % ps.length]! ps[k]! p) = ringM ps p := by
  unfold ringM
  rw [← rsum_rot]
  refine rsum_congr fun k hk => ?_
  rw [prev_next hk]
theorem ring_rev (ps : List Pt) (p : Pt) : ringM ps.reverse p = -1 * ringM ps p := by
  unfold ringM
  rw [List.length_reverse]
  have e : (rsum ps.length fun k => undM ps.reverse[k]! ps.reverse[(k + 1) % ps.length]! p) = rsum ps.length fun k => (fun j => -(undM ps[ps.length - 1 - j]! ps[(ps.length - 1 - j + 1) % ps.length]! p)) ((k + 1) % ps.length) := by
    refine rsum_congr fun k hk => ?_
    have h2 : (k + 1) % ps.length < ps.length := Nat.mod_lt _ (by omega)
    have r : ∀ j, j < ps.length → ps.reverse[j]! = ps[ps.length - 1 - j]! := fun j hj => by
      rw [getElem!_pos _ _ (by simpa using hj), List.getElem_reverse, getElem!_pos _ _ (by omega)]
    rw [r k hk, r _ h2]
    show undM _ _ p = -(undM _ _ p)
    rw [← und_flip]
    congr 2
    by_cases q : k + 1 = ps.length
    · rw [q, Nat.mod_self, show ps.length - 1 - 0 + 1 = ps.length by omega, Nat.mod_self]; congr 1; omega
    · rw [Nat.mod_eq_of_lt (show k + 1 < ps.length by omega), show ps.length - 1 - (k + 1) + 1 = ps.length - 1 - k by omega, Nat.mod_eq_of_lt (by omega)]
  have r1 := rsum_rot ps.length (fun j => -(undM ps[ps.length - 1 - j]! ps[(ps.length - 1 - j + 1) % ps.length]! p))
  have r2 := rsum_neg ps.length (fun j => undM ps[ps.length - 1 - j]! ps[(ps.length - 1 - j + 1) % ps.length]! p)
  have r3 := rsum_rev ps.length fun j => undM ps[j]! ps[(j + 1) % ps.length]! p
  rw [e, r1, r2, r3]
  omega
theorem und_same (u p : Pt) : undM u u p = 0 := by unfold undM; rw [if_neg (fun h => h.2.1 h.1), if_neg (fun h => h.2.1 h.1)]
theorem ring_quarter {ps : List Pt} {p : Pt} (h : ∀ s ∈ sideL ps, s.1 ≠ s.2 → onS p s.1 s.2 = false) : ringM (ps.map Pt.quarter) p.quarter = ringM ps p := by
  unfold ringM
  rw [List.length_map]
  have z : (rsum ps.length fun k => fA ps[k]! p - fA ps[(k + 1) % ps.length]! p) = 0 := by
    rw [rsum_sub, rsum_rot ps.length fun k => fA ps[k]! p]; omega
  have e : (rsum ps.length fun k => undM ps[k]! ps[(k + 1) % ps.length]! p - undM (ps.map Pt.quarter)[k]! (ps.map Pt.quarter)[(k + 1) % ps.length]! p.quarter) = rsum ps.length fun k => fA ps[k]! p - fA ps[(k + 1) % ps.length]! p := by
    refine rsum_congr fun k hk => ?_
    have h2 : (k + 1) % ps.length < ps.length := Nat.mod_lt _ (by omega)
    have r : ∀ j, j < ps.length → (ps.map Pt.quarter)[j]! = ps[j]!.quarter := fun j hj => by
      rw [getElem!_pos _ _ (by simpa using hj), List.getElem_map, getElem!_pos ps _ hj]
    rw [r k hk, r _ h2]
    by_cases q : ps[k]! = ps[(k + 1) % ps.length]!
    · rw [← q, und_same, und_same]; omega
    · exact und_quarter q (h _ (List.mem_of_getElem? (sideL_get hk)) q)
  rw [rsum_sub, z] at e
  omega
theorem le_int (p q : Pt) : decide (p.a * q.c ≤ q.a * p.c) = decide (p.x ≤ q.x) := by
  have e : ((q.a * p.c - p.a * q.c : Int) : Rat) = (q.x - p.x) * (p.c * q.c) := by
    have h1 := p.xc; have h2 := q.xc
    have e1 : ((q.a * p.c - p.a * q.c : Int) : Rat) = (q.a : Rat) * p.c - p.a * q.c := by rw [Rat.intCast_sub, Rat.intCast_mul, Rat.intCast_mul]
    rw [e1, h1, h2]; grind
  have d : (0 : Rat) < p.c * q.c := Rat.mul_pos p.cqp q.cqp
  have s := sg_int (q := q.x - p.x) d e
  have t := sg_one (q := q.x - p.x)
  by_cases h : p.x ≤ q.x
  · rw [decide_eq_true h, decide_eq_true_eq]
    by_cases w : p.a * q.c ≤ q.a * p.c
    · exact w
    · have : sg (q.x - p.x) = -1 := by rw [s, if_neg (by omega), if_pos (by omega)]
      have := t.2.mp this
      grind
  · rw [decide_eq_false h, decide_eq_false_iff_not]
    intro w
    have n : q.x - p.x < 0 := by grind
    have := t.2.mpr n
    rw [s] at this
    split at this
    · omega
    · split at this <;> omega
end Py

set_option Elab.async false
set_option linter.all false
set_option autoImplicit false
set_option maxRecDepth 100000
set_option maxHeartbeats 4000000
namespace Py
open PySem hiding start
open L2
open Evl (Ex ex_rd ex_l ex_t fresh_back)
open Classical
/-! ### a list that is lent for one call: ys ahead of it, I after it -/
structure Lend2 {K : PySem.W.Frag} (c c' : Ctx K) (p l : Addr) (ys : List PyData) (I : List PyData → Prop) : Prop where
  L : c'.L = c.L
  B : c'.B = c.B
  ex : ∃ (ls : Addr) (ns : List Int), (c.L p ∧ c.L ls ∧ c.L l) ∧ (l ≠ p ∧ l ≠ ls) ∧
    (∀ H, c.W H → HandAt H p ls ns ∧ ∃ vs, H l = some (.lst vs) ∧ DpAll K (noL H) vs ys ∧ flatDs ys = true) ∧
    (∀ H H', c.W H → HandAt H' p ls ns → (∀ a, a ≠ p → H' a = H a) → c.W H') ∧
    (∀ H H' vs zs, c.W H → H' l = some (.lst vs) → DpAll K (noL H') vs zs → flatDs zs = true → I zs → (∀ a, a ≠ l → H' a = H a) → c'.W H')
def Ws2 {K : PySem.W.Frag} (c c' : Ctx K) (t : TS) (ρ : Rho) (E : DE) : Prop := ∀ D σ H, EOk c' E D → Ok c ρ σ H → t D σ H
abbrev PT2 (K : PySem.W.Frag) := Ctx K → Ctx K → List Dv → (Dv → Prop) → Prop
def spD2 (K : PySem.W.Frag) (P : PT2 K) : Sp := fun vs H Q _ => ∃ (c c' : Ctx K) (xs : List Dv) (k : Dv → Prop), c.W H ∧ c.B = hid c.L H ∧ DvAll K c.B vs xs ∧ P c c' xs k ∧
  ∀ v y H', c'.W H' → Ex c'.B (hid c'.L H') → DvOk K (hid c'.L H') v y → k y → Q v H'
def noE (N : Rho → Prop) : DE := ⟨N, fun _ => False, fun _ => False, fun _ => False⟩
section
variable {K : PySem.W.Frag} {c c' : Ctx K} {ρ : Rho} {E : DE} {k : Dv → Prop} {ta : TA} {tb te : TE} {t u tb' : TS} {p l : Addr} {ys : List PyData} {I : List PyData → Prop}
theorem spD2_len {P : PT2 K} {n : Nat} (hp : ∀ (c c' : Ctx K) xs k, P c c' xs k → xs.length = n) : ∀ vs H Q X, spD2 K P vs H Q X → vs.length = n := fun vs H Q X ⟨c, c', xs, k, _, _, d, p, _⟩ => (dva_len d).trans (hp c c' xs k p)
theorem run_spD2 {P : PT2 K} {vs : List V} {H : Hp} {Q : VK} {X : XK} {N : List Str} (h : spD2 K P vs H Q X)
    (hw : ∀ (c c' : Ctx K) xs k, P c c' xs k → xs.length ≤ N.length ∧ Ws2 c c' t (startR N.length xs) ⟨fun _ => k (.d .none), k, fun _ => False, fun _ => False⟩) :
    t { nx := fun _ H' => Q .non H', rt := Q } (start N vs) H := by
  obtain ⟨c, c', xs, k, w, b, d, p, q⟩ := h
  obtain ⟨hl, hw⟩ := hw c c' xs k p
  exact hw _ _ _ ⟨fun ρ σ H' o z => q .non (.d .none) H' o.w o.b Dp.non z, fun v x H w b d z => q v x H w b d z, fun _ _ _ _ z => z.elim, fun _ _ _ _ z => z.elim⟩ (start_ok w b d hl)
theorem ws2_assoc {t1 t2 t3 : TS} (h : Ws2 c c' (tSeq (tSeq t1 t2) t3) ρ E) : Ws2 c c' (tSeq t1 (tSeq t2 t3)) ρ E := h
theorem Ok.unl2 {σ : L2.St} {H : Hp} (o : Ok c ρ σ H) (h3 : c.L l) {i : Nat} (h : ρ[i]? = some (.val (.r (.ref l)))) {vs : List V} {ys : List PyData} (hl : H l = some (.lst vs)) (hd : DpAll K (Py.noL H) vs ys) : Ok (c.unl l vs) (ρ.set i (.own l ys)) σ H := by
  have hil : i < ρ.length := (List.getElem?_eq_some_iff.mp h).1
  have keep : ∀ a, Owns ρ a → Owns (ρ.set i (.own l ys)) a := fun a z => owns_keep (by rw [h]; rfl) z
  have same : ∀ a, Hid (c.unl l vs) (ρ.set i (.own l ys)) a ↔ Hid c ρ a := fun a => by
    constructor
    · rintro (z | z)
      · exact .inl z.1
      · rcases owns_set z with z | ⟨zs, q⟩
        · exact .inr z
        · cases q; exact .inl h3
    · rintro (z | z)
      · by_cases q : a = l
        · subst q
          exact .inr ⟨ys, List.mem_of_getElem? (i := i) (List.getElem?_set_self hil)⟩
        · exact .inl ⟨z, q⟩
      · exact .inr (keep a z)
  have sv : ∀ H', vis (c.unl l vs) (ρ.set i (.own l ys)) H' = vis c ρ H' := fun H' => by
    unfold vis
    congr 1
    funext a
    exact propext (same a)
  have bl : c.B l = none := by
    cases z : c.B l with
    | none => rfl
    | some ob => exact absurd h3 (hid_some (o.b l ob z)).1
  have no : ∀ {j : Nat} {us : OwnC}, ρ[j]? = some (.own l us) → False := fun hj => (o.ob l ⟨_, List.mem_of_getElem? hj⟩).2 h3
  refine ⟨by show c.W (upd H l (.lst vs)); rw [upd_self hl]; exact o.w, fun a ob z => hid_less (fun b hb => hb.1) a ob (o.b a ob z), fun a z => ?_, fun j s hs => ?_, fun j j' a us zs hs hs' => ?_, by simp [o.len]⟩
  · rcases owns_set z with z | ⟨zs, q⟩
    · exact ⟨(o.ob a z).1, fun w => (o.ob a z).2 w.1⟩
    · cases q; exact ⟨bl, fun w => w.2 rfl⟩
  · rw [sv H]
    rcases List_set_get hs with ⟨rfl, rfl, _⟩ | ⟨ne, hs⟩
    · obtain ⟨u, q, v, rfl, dv⟩ := o.sl i _ h
      have dv : v = .ref l := dv
      subst dv
      exact ⟨_, q, _, rfl, hl, vs, rfl, dpa_mono o.noL _ _ hd⟩
    · exact o.sl j s hs
  · rcases List_set_get hs with ⟨r1, q1, _⟩ | ⟨ne, hs⟩
    · cases q1
      rcases List_set_get hs' with ⟨r2, q2, _⟩ | ⟨ne', hs'⟩
      · exact r1.symm.trans r2
      · exact (no hs').elim
    · rcases List_set_get hs' with ⟨r2, q2, _⟩ | ⟨ne', hs'⟩
      · cases q2; exact (no hs).elim
      · exact o.one _ _ _ _ _ hs hs'
theorem Ok.back2 {σ : L2.St} {H : Hp} {vs0 : List V} {i : Nat} {zs : List PyData} (N : Lend2 c c' p l ys I) (bl : c.B l = none) (o : Ok (c.unl l vs0) ρ σ H) (h : ρ[i]? = some (.own l zs)) (hf : flatDs zs = true) (hI : I zs) : Ok c' (ρ.set i (.val (.r (.ref l)))) σ H := by
  obtain ⟨ls, ns, ⟨h1, h2, h3⟩, ⟨n1, n2⟩, h4, h5, h6⟩ := N.ex
  obtain ⟨vs, e1, hl, d1⟩ := o.own h
  have w : c'.W H := h6 _ H vs zs o.w hl (dpa_mono noL_hid _ _ (dpa_noL zs vs hf d1)) hf hI fun a na => (upd_ne na).symm
  have hd : ∀ a, Hid c' (ρ.set i (.val (.r (.ref l)))) a → Hid (c.unl l vs0) ρ a := fun a z => by
    rcases z with z | z
    · rw [N.L] at z
      by_cases q : a = l
      · subst q; exact .inr ⟨zs, List.mem_of_getElem? h⟩
      · exact .inl ⟨z, q⟩
    · exact .inr (own_other o h rfl z).1
  have ev : Ex (vis (c.unl l vs0) ρ H) (vis c' (ρ.set i (.val (.r (.ref l)))) H) := hid_less hd
  refine ⟨w, fun a ob z => ?_, fun a z => ?_, fun j s hs => ?_, fun j j' a us zs hs hs' => ?_, by simp [o.len]⟩
  · rw [N.B] at z
    obtain ⟨n, z'⟩ := hid_some (o.b a ob z)
    refine (hid_neg fun q => ?_).trans z'
    rw [N.L] at q
    by_cases r : a = l
    · subst r; rw [bl] at z; cases z
    · exact n ⟨q, r⟩
  · obtain ⟨z1, ne⟩ := own_other o h rfl z
    refine ⟨?_, fun q => ?_⟩
    · rw [N.B]; exact (o.ob a z1).1
    · rw [N.L] at q; exact (o.ob a z1).2 ⟨q, ne⟩
  · rcases List_set_get hs with ⟨rfl, rfl, _⟩ | ⟨ne, hs⟩
    · exact ⟨_, e1, .ref l, rfl, rfl⟩
    · obtain ⟨u, q, z⟩ := o.sl j s hs
      refine ⟨u, q, ?_⟩
      cases s with
      | un => trivial
      | val y => obtain ⟨w, e1, e2⟩ := z; exact ⟨w, e1, dv_mono ev e2⟩
      | own m ys => obtain ⟨ws, e1, e2, e3⟩ := z; exact ⟨ws, e1, e2, own_mono ev _ _ e3⟩
  · rcases List_set_get hs with ⟨_, q, _⟩ | ⟨_, hs⟩
    · cases q
    · rcases List_set_get hs' with ⟨_, q, _⟩ | ⟨_, hs'⟩
      · cases q
      · exact o.one _ _ _ _ _ hs hs'
theorem Lend2.unl (N : Lend2 c c' p l ys I) (vs : List V) : HandIn (c.unl l vs) p := by
  obtain ⟨ls, ns, ⟨h1, h2, h3⟩, ⟨n1, n2⟩, h4, h5, h6⟩ := N.ex
  refine ⟨⟨h1, n1.symm⟩, ls, ns, ⟨h2, n2.symm⟩, fun H w => ?_, fun H H' w ha hk => ?_⟩
  · obtain ⟨⟨⟨i, pool, left, a, b, g, r⟩, g2, g3⟩, _⟩ := h4 _ w
    rw [upd_ne n1.symm] at g
    rw [upd_ne n2.symm] at g2
    exact ⟨⟨i, pool, left, a, b, g, r⟩, g2, g3⟩
  · obtain ⟨⟨i, pool, left, a, b, g, r⟩, g2, g3⟩ := ha
    refine h5 _ _ w ⟨⟨i, pool, left, a, b, (upd_ne n1.symm).trans g, r⟩, (upd_ne n2.symm).trans g2, g3⟩ fun a na => ?_
    by_cases z : a = l
    · subst z; rw [upd_same, upd_same]
    · rw [upd_ne z, upd_ne z]; exact hk a na
/-- in the def that is lent the list: its own within t -/
theorem ws2_take {i : Nat} (h : ρ[i]? = some (.val (.r (.ref l)))) (N : Lend2 c c' p l ys I) (M : Rho → Prop)
    (ht : ∀ c2 : Ctx K, HandIn c2 p → flatDs ys = true → Ws c2 t (ρ.set i (.own l ys)) (noE fun ρ' => ∃ zs : List PyData, ρ'[i]? = some (.own l zs) ∧ flatDs zs = true ∧ I zs ∧ M (ρ'.set i (.val (.r (.ref l))))))
    (hu : ∀ ρ', M ρ' → Ws c' u ρ' E) : Ws2 c c' (tSeq t u) ρ E := fun D σ H e o => by
  obtain ⟨ls, ns, ⟨h1, h2, h3⟩, n, h4, h5, h6⟩ := N.ex
  obtain ⟨_, vs, hl, hd, hf⟩ := h4 H o.w
  have bl : c.B l = none := by
    cases z : c.B l with
    | none => rfl
    | some ob => exact absurd h3 (hid_some (o.b l ob z)).1
  refine ht (c.unl l vs) (N.unl vs) hf { D with nx := u D } σ H ⟨fun ρ' σ' H' o' ⟨zs, g1, g2, g3, g4⟩ => ?_, fun _ _ _ _ _ _ z => z.elim, fun _ _ _ _ z => z.elim, fun _ _ _ _ z => z.elim⟩ (o.unl2 h3 h hl hd)
  exact hu _ g4 D σ' H' e (Ok.back2 N bl o' g1 g2 g3)
/-! ### the caller -/
noncomputable def Ctx.shut2 (c : Ctx K) (ρ : Rho) (H : Hp) (dom : ∀ a, Hid c ρ a → ∃ o, H a = some o ∧ isMut o = true) : Ctx K where
  B := vis c ρ H
  L := Hid c ρ
  W := fun H' => c.W H' ∧ ∀ a, Owns ρ a → H' a = H a
  loc := fun H1 H2 e t h => ⟨c.loc H1 H2 (fun a ha => e a (.inl ha)) t h.1, fun a ha => (e a (.inr ha)).trans (h.2 a ha)⟩
  dom := fun H1 h a ha => ha.elim (c.dom H1 h.1 a) fun z => by rw [h.2 a z]; exact dom a (.inr z)
theorem Ok.lend {σ : L2.St} {H : Hp} (o : Ok c ρ σ H) {i : Nat} {xs : List PyData} (h : ρ[i]? = some (.own l xs)) (hf : flatDs xs = true) (hI : I xs) : Ok (c.lend l I) (ρ.set i (.val (.r (.ref l)))) σ H := by
  obtain ⟨vs, e1, h1, d1⟩ := o.own h
  have ol : Owns ρ l := ⟨xs, List.mem_of_getElem? h⟩
  obtain ⟨bl, nl⟩ := o.ob l ol
  have iff : ∀ a, Hid (c.lend l I) (ρ.set i (.val (.r (.ref l)))) a → Hid c ρ a := fun a z => by
    rcases z with (z | z) | z
    · exact .inl z
    · exact .inr (z ▸ ol)
    · exact .inr (own_other o h rfl z).1
  have ev : Ex (vis c ρ H) (vis (c.lend l I) (ρ.set i (.val (.r (.ref l)))) H) := hid_less iff
  refine ⟨⟨o.w, vs, xs, h1, dpa_mono noL_hid _ _ (dpa_noL xs vs hf d1), hf, hI⟩, fun a ob z => ?_, fun a z => ?_, fun j s hs => ?_, fun j j' a ys zs hs hs' => ?_, by simp [o.len]⟩
  · obtain ⟨n, z'⟩ := hid_some (o.b a ob z)
    refine (hid_neg ?_).trans z'
    rintro (w | w)
    · exact n w
    · have z : c.B a = some ob := z
      rw [w, bl] at z; cases z
  · obtain ⟨z1, ne⟩ := own_other o h rfl z
    exact ⟨(o.ob a z1).1, fun w => w.elim (o.ob a z1).2 ne⟩
  · rcases List_set_get hs with ⟨rfl, rfl, _⟩ | ⟨ne, hs⟩
    · exact ⟨_, e1, .ref l, rfl, rfl⟩
    · obtain ⟨u, q, z⟩ := o.sl j s hs
      refine ⟨u, q, ?_⟩
      cases s with
      | un => trivial
      | val y => obtain ⟨w, e1, e2⟩ := z; exact ⟨w, e1, dv_mono ev e2⟩
      | own m ys => obtain ⟨ws, e1, e2, e3⟩ := z; exact ⟨ws, e1, e2, own_mono ev _ _ e3⟩
  · rcases List_set_get hs with ⟨_, q, _⟩ | ⟨_, hs⟩
    · cases q
    · rcases List_set_get hs' with ⟨_, q, _⟩ | ⟨_, hs'⟩
      · cases q
      · exact o.one _ _ _ _ _ hs hs'
theorem Ok.unlend {σ : L2.St} {H : Hp} (bl : c.B l = none) (nl : ¬ c.L l) (o : Ok (c.lend l I) ρ σ H) {i : Nat} (hi : ρ[i]? = some (.val (.r (.ref l)))) : ∃ ys, flatDs ys = true ∧ I ys ∧ Ok c (ρ.set i (.own l ys)) σ H := by
  obtain ⟨w', vs', ys, g1, g2, g3, g4⟩ := o.w
  refine ⟨ys, g3, g4, ?_⟩
  have hil' : i < ρ.length := (List.getElem?_eq_some_iff.mp hi).1
  have hid2 : ∀ a, Hid c (ρ.set i (.own l ys)) a → Hid (c.lend l I) ρ a := fun a z => by
    rcases z with z | z
    · exact .inl (.inl z)
    · rcases owns_set z with z | ⟨zs, q⟩
      · exact .inr z
      · cases q; exact .inl (.inr rfl)
  have ev : Ex (vis (c.lend l I) ρ H) (vis c (ρ.set i (.own l ys)) H) := hid_less hid2
  refine ⟨w', fun a ob z => hid_less (fun b hb => .inl hb) a ob (o.b a ob z), fun a z => ?_, fun j s hs => ?_, fun j j' a us zs hs hs' => ?_, by simp [o.len]⟩
  · rcases owns_set z with z | ⟨zs, q⟩
    · exact ⟨(o.ob a z).1, fun w => (o.ob a z).2 (.inl w)⟩
    · cases q; exact ⟨bl, nl⟩
  · rcases List_set_get hs with ⟨rfl, rfl, _⟩ | ⟨ne, hs⟩
    · obtain ⟨u, q, v, rfl, dv⟩ := o.sl i _ hi
      have dv : v = .ref l := dv
      subst dv
      exact ⟨_, q, _, rfl, g1, vs', rfl, dpa_mono (o.noL.trans ev) _ _ g2⟩
    · obtain ⟨u, q, z⟩ := o.sl j s hs
      refine ⟨u, q, ?_⟩
      cases s with
      | un => trivial
      | val y => obtain ⟨w, e1, e2⟩ := z; exact ⟨w, e1, dv_mono ev e2⟩
      | own m ys => obtain ⟨ws, e1, e2, e3⟩ := z; exact ⟨ws, e1, e2, own_mono ev _ _ e3⟩
  · have no : ∀ {j : Nat} {us : OwnC}, ρ[j]? = some (.own l us) → False := fun hj => (o.ob l ⟨_, List.mem_of_getElem? hj⟩).2 (.inr rfl)
    rcases List_set_get hs with ⟨r1, q1, _⟩ | ⟨ne, hs⟩
    · cases q1
      rcases List_set_get hs' with ⟨r2, q2, _⟩ | ⟨ne', hs'⟩
      · exact r1.symm.trans r2
      · exact (no hs').elim
    · rcases List_set_get hs' with ⟨r2, q2, _⟩ | ⟨ne', hs'⟩
      · cases q2; exact (no hs).elim
      · exact o.one _ _ _ _ _ hs hs'
theorem lent_lend (HI : HandIn c p) (nl : ¬ c.L l) : Lent (c.lend l I) p l I := by
  obtain ⟨ls, ns, cls, hW, put⟩ := HI.ex
  have lpn : l ≠ p := fun z => nl (z ▸ HI.L)
  have lln : l ≠ ls := fun z => nl (z ▸ cls)
  exact ⟨ls, ns, ⟨.inl HI.L, .inl cls, .inr rfl⟩, ⟨lpn, lln⟩, fun H w => ⟨hW H w.1, w.2⟩, fun H H' w ha hk => by
    obtain ⟨us, hu⟩ := (hW H w.1).lst
    obtain ⟨w0, vs, ys, g1, g2, g3⟩ := w
    exact ⟨put H H' w0 ha hk, vs, ys, (hk l lpn).trans g1, dpa_mono (noL_tp (tp_put hu hk)) _ _ g2, g3⟩, fun H H' vs ys w hl hd hf hI hk => by
    obtain ⟨w0, us, _, g1, _⟩ := w
    exact ⟨c.loc H H' (fun a ha => hk a fun z => nl (z ▸ ha)) (tp_put g1 hk) w0, vs, ys, hl, hd, hf, hI⟩⟩
theorem lend2_shut (HI : HandIn c p) (nl : ¬ c.L l) {J : List PyData → Prop} (hJ : ∀ zs, J zs → zs = ys) {H : Hp} {d1 : ∀ a, Hid (c.lend l J) ρ a → ∃ o, H a = some o ∧ isMut o = true} {d2 : ∀ a, Hid (c.lend l I) ρ a → ∃ o, H a = some o ∧ isMut o = true}
    (ob : ∀ a, Owns ρ a → ¬ (c.L a ∨ a = l)) : Lend2 ((c.lend l J).shut2 ρ H d1) ((c.lend l I).shut2 ρ H d2) p l ys I := by
  obtain ⟨ls, ns, ⟨h1, h2, h3⟩, ⟨n1, n2⟩, h4, h5, h6⟩ := (lent_lend (I := J) HI nl).ex
  refine ⟨rfl, rfl, ls, ns, ⟨.inl h1, .inl h2, .inl h3⟩, ⟨n1, n2⟩, fun H1 w => ?_, fun H1 H2 w ha hk => ⟨h5 H1 H2 w.1 ha hk, fun a z => (hk a fun q => ob a z (.inl (q ▸ HI.L))).trans (w.2 a z)⟩, fun H1 H2 vs zs w hl hd hf hI hk => ⟨?_, fun a z => (hk a fun q => ob a z (.inr q)).trans (w.2 a z)⟩⟩
  · obtain ⟨g1, vs, zs, g2, g3, g4, g5⟩ := h4 H1 w.1
    obtain rfl := hJ zs g5
    exact ⟨g1, vs, g2, g3, g4⟩
  · obtain ⟨w0, us, _, g1, _⟩ := w.1
    exact ⟨c.loc H1 H2 (fun a ha => hk a fun z => nl (z ▸ ha)) (tp_put g1 hk) w0, vs, zs, hl, hd, hf, hI⟩
theorem ws_appLend {i j : Nat} {li : Addr} {xs : List PyData} {P : PT2 K} {X : XK} (I : List PyData → Prop) (hi : ρ[i]? = some (.own li xs)) (hj : ρ[j]? = some (.own l ys)) (hij : i ≠ j) (HI : HandIn c p) (hf : flatDs ys = true) (hz : xs.length < 100000)
    (ht : ∀ c2 : Ctx K, HandIn c2 p → Wa c2 ta (ρ.set j (.val (.r (.ref l)))) fun zs => ∀ c3 c3' : Ctx K, Lend2 c3 c3' p l ys I → P c3 c3' zs fun y => ∃ d, y = .d d ∧ ∀ ys', flatDs ys' = true → I ys' → E.nx ((ρ.set i (.own li (xs ++ [d]))).set j (.own l ys'))) :
    Ws c (tDrop (tBM K "list" rAppend (tVar i) (tCons (tCall (spD2 K P) [] X ta) tNil))) ρ E := fun D σ H e o => by
  obtain ⟨vs, e1, h1, d1⟩ := o.own hi
  have ol : Owns ρ l := ⟨ys, List.mem_of_getElem? hj⟩
  obtain ⟨bl, nl⟩ := o.ob l ol
  have o2 : Ok (c.lend l (· = ys)) (ρ.set j (.val (.r (.ref l)))) σ H := o.lend hj hf rfl
  have hi2 : (ρ.set j (.val (.r (.ref l))))[i]? = some (.own li xs) := by rw [List.getElem?_set_ne (Ne.symm hij)]; exact hi
  have hjl : j < ρ.length := (List.getElem?_eq_some_iff.mp hj).1
  have hj2 : (ρ.set j (.val (.r (.ref l))))[j]? = some (.val (.r (.ref l))) := List.getElem?_set_self hjl
  refine ⟨_, e1, .inl ⟨rfl, _, .inl (.inl h1)⟩, ?_⟩
  refine ht _ (lent_lend HI nl).hand σ H _ o2 fun ws zs H1 o3 s3 d3 h3 => ?_
  rw [List.append_nil]
  have m2 : ∀ a, Hid (c.lend l I) (ρ.set j (.val (.r (.ref l)))) a → ∃ o, H1 a = some o ∧ isMut o = true := fun a z => o3.mut z
  refine ⟨(c.lend l (· = ys)).shut2 _ H1 fun a z => o3.mut z, (c.lend l I).shut2 _ H1 m2, zs, _, ⟨o3.w, fun _ _ => rfl⟩, rfl, d3, h3 _ _ (lend2_shut HI nl (fun zs h => h) fun a z => (o3.ob a z).2), fun v y H' w b dv ⟨d, hy, hk⟩ => ?_⟩
  subst hy
  have o4 : Ok (c.lend l I) (ρ.set j (.val (.r (.ref l)))) σ H' := by
    refine ⟨w.1, fun a ob z => vis_out (c := c.lend l I) (ρ := ρ.set j (.val (.r (.ref l)))) a ob (b a ob (o3.base a ob z)), fun a z => o3.ob a z, fun n s hs => ?_, o3.one, o3.len⟩
    obtain ⟨u, q, z⟩ := o3.sl n s hs
    refine ⟨u, q, ?_⟩
    cases s with
    | un => trivial
    | val y => obtain ⟨w, e1, e2⟩ := z; exact ⟨w, e1, dv_mono b e2⟩
    | own m ys => obtain ⟨ws, e1, e2, e3⟩ := z; exact ⟨ws, e1, (w.2 m ⟨_, List.mem_of_getElem? hs⟩).trans e2, own_mono b _ _ e3⟩
  have A := ws_app (c := (c.lend l I).at (vis (c.lend l I) (ρ.set j (.val (.r (.ref l)))) H')) (te := fun _ H0 Q0 => Q0 v H0) (E := noE fun ρ' => ρ' = (ρ.set j (.val (.r (.ref l)))).set i (.own li (xs ++ [d]))) hi2 hz (fun σ0 H0 Q0 o0 q0 => q0 v (.d d) H0 o0 (Stp.refl _) (dp_mono o0.base _ _ dv) ⟨d, rfl, rfl⟩) D σ H' ⟨fun ρ' σ' H2 o' z => by
      subst z
      have o5 := ok_at o4.base o'
      obtain ⟨ys', f', i', o6⟩ := o5.unlend bl nl (i := j) (by rw [List.getElem?_set_ne hij]; exact hj2)
      refine e.nx _ σ' H2 o6 ?_
      have := hk ys' f' i'
      rw [List.set_comm _ _ (Ne.symm hij), List.set_set]
      exact this, fun _ _ _ _ _ _ z => z.elim, fun _ _ _ _ z => z.elim, fun _ _ _ _ z => z.elim⟩ o4.at'
  obtain ⟨u, q1, A⟩ := A
  rw [e1] at q1
  cases q1
  exact A.2
end
end Py

set_option Elab.async false
set_option linter.all false
set_option autoImplicit false
set_option maxRecDepth 100000
set_option maxHeartbeats 4000000
namespace Py
open PySem hiding start
open L2
open Classical
/-! ### points whose bottom divides 6 * 2 ^ n -/
def dn (n : Nat) : Int := 6 * 2 ^ n
theorem dn_pos (n : Nat) : 0 < dn n := by unfold dn; have : (0 : Int) < 2 ^ n := Int.pow_pos (by decide); omega
theorem dn_succ (n : Nat) : dn (n + 1) = 2 * dn n := by unfold dn; rw [Int.pow_succ]; omega
theorem dn_q (n : Nat) : (0 : Rat) < (dn n : Rat) := Rat.intCast_pos.mpr (dn_pos n)
structure LoN (n : Nat) (p : Pt) (a b : Int) : Prop where
  x : p.x * (dn n : Rat) = (a : Rat)
  y : p.y * (dn n : Rat) = (b : Rat)
  a : (a.natAbs : Int) ≤ (9 + n) * dn n
  b : (b.natAbs : Int) ≤ (9 + n) * dn n
def Lo (n : Nat) (p : Pt) : Prop := ∃ a b, LoN n p a b
theorem Lo.mk' {n : Nat} {p : Pt} {a b s t : Int} (hx : p.x * (dn (n + 1) : Rat) = (a : Rat)) (hy : p.y * (dn (n + 1) : Rat) = (b : Rat)) (ha : (a.natAbs : Int) ≤ 2 * ((9 + n) * dn n) + 2 * dn n) (hb : (b.natAbs : Int) ≤ 2 * ((9 + n) * dn n) + 2 * dn n) : Lo (n + 1) p := by
  have e : (9 + ((n + 1 : Nat) : Int)) * dn (n + 1) = 2 * ((9 + n) * dn n) + 2 * dn n := by
    rw [dn_succ]
    have : ((n + 1 : Nat) : Int) = n + 1 := by omega
    rw [this]
    generalize dn n = d
    grind
  exact ⟨a, b, hx, hy, by rw [e]; exact ha, by rw [e]; exact hb⟩
theorem two_dn (n : Nat) : (dn (n + 1) : Rat) = 2 * (dn n : Rat) := by rw [dn_succ, Rat.intCast_mul]; rfl
theorem Lo.up {n : Nat} {p : Pt} (h : Lo n p) : Lo (n + 1) p := by
  obtain ⟨a, b, hx, hy, ha, hb⟩ := h
  have d := dn_pos n
  refine Lo.mk' (a := 2 * a) (b := 2 * b) (s := 0) (t := 0) ?_ ?_ (by omega) (by omega)
  · rw [two_dn, Rat.intCast_mul, ← hx]; grind
  · rw [two_dn, Rat.intCast_mul, ← hy]; grind
theorem Lo.le {n m : Nat} {p : Pt} (h : Lo n p) (e : n ≤ m) : Lo m p := by
  obtain ⟨k, rfl⟩ := Nat.le.dest e
  induction k with
  | zero => exact h
  | succ k ih => exact (ih (by omega)).up
theorem Lo.mid {n : Nat} {p q : Pt} (h : Lo n p) (g : Lo n q) : Lo (n + 1) (midM p q) := by
  obtain ⟨a, b, hx, hy, ha, hb⟩ := h
  obtain ⟨a', b', hx', hy', ha', hb'⟩ := g
  obtain ⟨mx, my⟩ := mid_xy p q
  have d := dn_pos n
  refine Lo.mk' (a := a + a') (b := b + b') (s := 0) (t := 0) ?_ ?_ (by omega) (by omega)
  · rw [two_dn, mx, Rat.intCast_add, ← hx, ← hx']; grind
  · rw [two_dn, my, Rat.intCast_add, ← hy, ← hy']; grind
theorem Lo.step {n : Nat} {p : Pt} (h : Lo n p) : Lo (n + 1) (ptBy (p.a + p.c) p.b p.c p.c_ne) ∧ (ptBy (p.a + p.c) p.b p.c p.c_ne).x = p.x + 1 := by
  obtain ⟨a, b, hx, hy, ha, hb⟩ := h
  obtain ⟨mx, my⟩ := ptBy_x (a := p.a + p.c) (b := p.b) p.c_ne
  have cq := p.cq
  have ex : (ptBy (p.a + p.c) p.b p.c p.c_ne).x = p.x + 1 := by rw [mx, divInt_q, Rat.intCast_add, p.xc]; grind
  have ey : (ptBy (p.a + p.c) p.b p.c p.c_ne).y = p.y := my
  have d := dn_pos n
  refine ⟨Lo.mk' (a := 2 * a + 2 * dn n) (b := 2 * b) (s := 0) (t := 0) ?_ ?_ (by omega) (by omega), ex⟩
  · rw [two_dn, ex, Rat.intCast_add, Rat.intCast_mul, Rat.intCast_mul, ← hx]; grind
  · rw [two_dn, ey, Rat.intCast_mul, ← hy]; grind
theorem Lo.fresh {a b c : Int} (a0 : 0 ≤ a) (a1 : a < 9) (b0 : 0 ≤ b) (b1 : b < 9) (c0 : 1 ≤ c) (c1 : c < 4) (hc : c ≠ 0) : Lo 0 (ptBy a b c hc) := by
  obtain ⟨mx, my⟩ := ptBy_x (a := a) (b := b) hc
  have e : dn 0 = 6 := by decide
  have h : c = 1 ∨ c = 2 ∨ c = 3 := by omega
  rcases h with rfl | rfl | rfl
  · refine ⟨a * 6, b * 6, ?_, ?_, by rw [e]; omega, by rw [e]; omega⟩
    · rw [mx, e, divInt_q, Rat.intCast_mul]; show (a : Rat) / 1 * 6 = (a : Rat) * 6; grind
    · rw [my, e, divInt_q, Rat.intCast_mul]; show (b : Rat) / 1 * 6 = (b : Rat) * 6; grind
  · refine ⟨a * 3, b * 3, ?_, ?_, by rw [e]; omega, by rw [e]; omega⟩
    · rw [mx, e, divInt_q, Rat.intCast_mul]; show (a : Rat) / 2 * 6 = (a : Rat) * 3; grind
    · rw [my, e, divInt_q, Rat.intCast_mul]; show (b : Rat) / 2 * 6 = (b : Rat) * 3; grind
  · refine ⟨a * 2, b * 2, ?_, ?_, by rw [e]; omega, by rw [e]; omega⟩
    · rw [mx, e, divInt_q, Rat.intCast_mul]; show (a : Rat) / 3 * 6 = (a : Rat) * 2; grind
    · rw [my, e, divInt_q, Rat.intCast_mul]; show (b : Rat) / 3 * 6 = (b : Rat) * 2; grind
theorem Lo.S {n : Nat} {p : Pt} (h : Lo n p) (hn : n ≤ 200) : ptS 300 p := by
  obtain ⟨a, b, hx, hy, ha, hb⟩ := h.le hn
  have d0 : dn 200 ≠ 0 := by have := dn_pos 200; omega
  have dq := dn_q 200
  have e : ptBy a b (dn 200) d0 = p := ptBy_eq d0 (by rw [divInt_q, ← hx]; generalize (dn 200 : Rat) = d at *; grind) (by rw [divInt_q, ← hy]; generalize (dn 200 : Rat) = d at *; grind)
  rw [← e]
  have k1 : (9 + ((200 : Nat) : Int)) * dn 200 < ((2 ^ 300 : Nat) : Int) := by decide
  have k2 : (dn 200).natAbs < 2 ^ 300 := by decide
  exact (ptB_by d0 (by decide) (by omega) (by omega) k2).S
theorem shp_sd {n : Nat} (s : Pt × Pt) : Shp (n + 2) (sdD s) := shp_tup (fun d hd => by
  rcases List.mem_cons.mp hd with rfl | hd
  · exact shp_pt _
  · rcases List.mem_cons.mp hd with rfl | hd
    · exact shp_pt _
    · cases hd) (Nat.le_of_ble_eq_true rfl)
theorem shp_sds {n : Nat} {L : List (Pt × Pt)} (h : L.length ≤ 100000) : Shp (n + 3) (.list (L.map sdD)) := shp_mapL (fun s _ => shp_sd s) h
theorem sides_len {rs : List (List Pt)} {m n : Nat} (h : ∀ ps ∈ rs, ps.length ≤ m) (hn : rs.length ≤ n) : (sidesM rs).length ≤ n * m := by
  have : (sidesM rs).length ≤ rs.length * m := by
    clear hn
    induction rs with
    | nil => simp [sidesM]
    | cons ps rs ih =>
      have e : sidesM (ps :: rs) = sideL ps ++ sidesM rs := by simp [sidesM]
      have := ih fun q hq => h q (by simp [hq])
      have := h ps (by simp)
      rw [e, List.length_append, sideL_len, List.length_cons, Nat.succ_mul]
      omega
  exact Nat.le_trans this (Nat.mul_le_mul_right _ hn)
theorem sides_take {rs : List (List Pt)} {i : Nat} {ps : List Pt} (h : rs[i]? = some ps) : sidesM (rs.take (i + 1)) = sidesM (rs.take i) ++ sideL ps := by
  unfold sidesM
  rw [List.take_add_one, h]; simp
theorem side_take {ps : List Pt} {k : Nat} (h : k < ps.length) : (sideL ps).take (k + 1) = (sideL ps).take k ++ [(ps[k]!, ps[(k + 1) % ps.length]!)] := by
  rw [List.take_add_one, sideL_get h]; rfl
theorem rounds_take {rs : List (List Pt)} {i : Nat} {ps : List Pt} {p : Pt} (h : rs[i]? = some ps) : roundsM (rs.take (i + 1)) p = roundsM (rs.take i) p + ringM ps p := by
  unfold roundsM
  rw [sides_take h, List.map_append, List.sum_append, ring_eq]
theorem side_mem {rs : List (List Pt)} {s : Pt × Pt} (h : s ∈ sidesM rs) : ∃ ps ∈ rs, s ∈ sideL ps ∧ s.1 ∈ ps ∧ s.2 ∈ ps := by
  obtain ⟨ps, h1, h2⟩ := List.mem_flatMap.mp h
  obtain ⟨k, hk⟩ := List.mem_iff_getElem?.mp h2
  have hlt : k < ps.length := by
    have := (List.getElem?_eq_some_iff.mp hk).1
    rwa [sideL_len] at this
  rw [sideL_get hlt] at hk
  cases hk
  exact ⟨ps, h1, h2, (mem_at hlt).1, mem_next hlt⟩
theorem Lend2.imp {K : PySem.W.Frag} {c c' : Ctx K} {p l : Addr} {ys : List PyData} {I J : List PyData → Prop} (N : Lend2 c c' p l ys I) (h : ∀ ys, J ys → I ys) : Lend2 c c' p l ys J := by
  obtain ⟨ls, ns, h1, h2, h3, h4, h5⟩ := N.ex
  exact ⟨N.L, N.B, ls, ns, h1, h2, h3, h4, fun H H' vs zs w hl hd hf hI => h5 H H' vs zs w hl hd hf (h zs hI)⟩
theorem pe_revLs (K : PySem.W.Frag) {X : Cx} {e : Expr} {te : TE} {k : Nat} {p1 p2 p3 pos : Pos} (he : PE X e te) (h : X.K = K := by rfl) : PE X (.Subscript e (.Slice none none (some (.UnaryOp .USub (.Constant (.int 1) k p1) p2)) p3) pos) (tRevL K te) := h ▸ pe_revL he
theorem mem_sides {rs : List (List Pt)} {ps : List Pt} {s : Pt × Pt} (h : ps ∈ rs) (g : s ∈ sideL ps) : s ∈ sidesM rs := List.mem_flatMap.mpr ⟨ps, h, g⟩
end Py

set_option Elab.async false
set_option linter.all false
set_option autoImplicit false
set_option maxRecDepth 100000
set_option maxHeartbeats 4000000
namespace Py
open PySem hiding start
open L2 PySem.Spec PyProof.Rows
open Evl (Ex ex_rd ex_l ex_t fresh_back)
open Classical
/-! ### list.extend by a tuple -/
theorem ext_tup (l : Addr) (items : Array Value) (n : Nat) (b : Addr) (items2 : Array Value) (n2 : Nat) (dd : Option Addr) (ss : Array (Option Value)) (hs0 : ¬(!items.isEmpty && Builtin.List.listTooLong (items.size + items2.size)) = true) (hs1 : items.size ≤ sizeLine) (hs2 : items.size + items2.size ≤ sizeLine + 1) :
    Meets (Builtin.«list.extend» ⟨[.ref l, .ref b], []⟩) (fun _ R s => s.heap.get? l = some { cls := .type "list", dict := none, data := .seq items n, slots := #[] } ∧ s.heap.get? b = some { cls := .type "tuple", dict := dd, data := .seq items2 n2, slots := ss } ∧ R (.ok (.ret Value.none)) { s with heap := s.heap.update l (Obj.mapSeq fun x => x ++ items2), toks := s.toks }) :=
  .of_wp fun prog w A R s h => by
    obtain ⟨hp, g, d, tk, os⟩ := s; obtain ⟨hl, hb, h⟩ := h; have f1 := AutoSeq1.idx_int; have f2 := AutoSeq1.sub_tuple_tuple; have f3 := AutoSeq1.sub_list_list; have f4 := AutoSeq1.sub_tuple_list; have f5 := AutoSeq1.sub_list_tuple;
    have hz' : (items ++ items2).size ≤ sizeLine + 1 := by rw [Array.size_append]; exact hs2
    wp_walk using (wpAny_updateSeq hl rfl (hz := hs1) (_hz' := hz')), AutoSeq1.wpAny_loadPart' hl, AutoSeq1.wpAny_loadPart' hb; exact ⟨_, rfl, h⟩
def rExtT (K : PySem.W.Frag) : V → List V → Hp → VK → Prop := fun x vs H Q => ∃ l b xs zs, x = .ref l ∧ vs = [.ref b] ∧ H l = some (.lst xs) ∧ SqT K H b zs ∧ xs.length + zs.length ≤ sizeLine ∧ Q .non (upd H l (.lst (xs ++ zs)))
theorem mt_extT (K : PySem.W.Frag) {X : Cx} (h : X.K = K := by rfl) : MtR X "list.extend" (rExtT K) := by
  subst h
  intro pins s σ H x vs v us Q I rx rv h
  obtain ⟨l, b, xs, zs, rfl, rfl, hH, hB, hz, q⟩ := h
  cases rx
  obtain ⟨u, rfl, ru⟩ := rv.one
  cases ru
  obtain ⟨z, its, n, r, hl, e⟩ := I.lstM hH
  obtain ⟨its2, r2, ⟨o2, e2, c2, n2, d2⟩, z2⟩ := I.tuple hB
  have hl2 := r2.length
  obtain ⟨oc, od, dt, sl⟩ := o2
  simp only at c2 d2
  subst c2 d2
  have hsz : its.toArray.size + its2.toArray.size ≤ sizeLine := by rw [List.size_toArray, List.size_toArray]; omega
  have hlong : ¬ (!its.toArray.isEmpty && Builtin.List.listTooLong (its.toArray.size + its2.toArray.size)) = true := by
    rw [notLongL hsz, Bool.and_false]
    exact Bool.false_ne_true
  refine call_meets F.slot_list_extend ⟨_, e, rfl⟩ F.entry_list_extend (F.args_list_extend_2 _ _)
    (ext_tup l its.toArray n b its2.toArray n2 od sl hlong (by rw [List.size_toArray]; omega) (by omega)) ⟨e, e2, ?_⟩
  refine ⟨.non, _, I.lset (its' := its ++ its2) hH e (by simp) (r.append r2) ?_, rfl, q⟩
  rw [List.length_append]
  omega
/-! ### tuples cut and turned about -/
theorem sl_tups (K : PySem.W.Frag) {X : Cx} (h : X.K = K := by rfl) : SlR X (rSlT K) := h ▸ sl_tup
theorem call_tupU (K : PySem.W.Frag) {X : Cx} (h : X.K = K := by rfl) : CallR X (.type "tuple") (fun xs H Q => ∃ p ys, xs = [.ref p] ∧ ((SqL K H p ys ∧ ∀ l, H l = none → Q (.ref l) (upd H l (.tup ys))) ∨ (SqT K H p ys ∧ Q (.ref p) H))) := h ▸ call_tuple_of
def rTupOf (K : PySem.W.Frag) : List V → Hp → VK → Prop := fun xs H Q => ∃ p ys, xs = [.ref p] ∧ ((SqL K H p ys ∧ ∀ l, H l = none → Q (.ref l) (upd H l (.tup ys))) ∨ (SqT K H p ys ∧ Q (.ref p) H))
theorem call_tups (K : PySem.W.Frag) {X : Cx} (h : X.K = K := by rfl) : CallR X (.type "tuple") (rTupOf K) := call_tupU K h
theorem pg_lsts (K : PySem.W.Frag) {X : Cx} {es : List Expr} {k : Nat} {t : TGs} {n : Nat} {pos : Pos} (hc : X.calm = true) (h0 : PGs X es t) (hn : (assignEach es X.env).length = n := by rfl) (hst : (assignEach es X.env).findIdx? (·.1) = none := by rfl) (h : X.K = K := by rfl) : PG X (.Tuple es k pos) (gLst K n t) := by
  subst h
  exact pg_lst hc h0 hn hst
section
variable {K : PySem.W.Frag} {c c' : Ctx K} {ρ : Rho} {E : DE} {k : Dv → Prop} {ta : TA} {tb te tf : TE} {t u : TS} {p l : Addr} {ys : List PyData} {I : List PyData → Prop}
theorem ws_extT {i : Nat} {xs : List PyData} (h : ρ[i]? = some (.own l xs)) (ht : We c te ρ fun y => ∃ ds, y = .d (.tuple ds) ∧ xs.length + ds.length ≤ 100000 ∧ E.nx (ρ.set i (.own l (xs ++ ds)))) :
    Ws c (tDrop (tBM K "list" (rExtT K) (tVar i) (tCons te tNil))) ρ E := fun D σ H e o => by
  obtain ⟨vs, e1, h1, d1⟩ := o.own h
  refine ⟨_, e1, .inl ⟨rfl, _, .inl (.inl h1)⟩, ht σ H _ o fun v y H1 o1 s1 dy ⟨ds, hy, hz, n⟩ => ?_⟩
  subst hy
  have ol : Owns ρ l := ⟨xs, List.mem_of_getElem? h⟩
  have h1' : H1 l = some (.lst vs) := (s1.own l ol).trans h1
  change Dp _ _ _ _ at dy
  cases dy with
  | @tup b us _ _ hs ha =>
    refine ⟨l, b, vs, us, rfl, rfl, h1', ex_t hid_sub hs, Evl.sz_of (by rw [dpa_len d1, dpa_len ha]; exact hz), e.nx _ σ _ (o1.chg h (dpa_app (dpa_mono s1.ex _ _ d1) ha)) n⟩
theorem we_slT {tl th : TO} (h : We c te ρ fun x => Wo c tl ρ fun lo => Wo c th ρ fun hi => ∃ xs, x = .d (.tuple xs) ∧ ¬ (HT.sIx xs.length 0 lo = 0 ∧ HT.sIx xs.length xs.length hi = xs.length) ∧ k (.d (.tuple (cutD xs lo hi)))) : We c (tSl (rSlT K) te tl th) ρ k := fun σ H Q o q =>
  h σ H _ o fun v x H1 o1 e1 d1 h1 => h1 σ H1 _ o1 fun lo H2 o2 e2 h2 => h2 σ H2 _ o2 fun hi H3 o3 e3 ⟨xs, hx, hw, hk⟩ => by
    subst hx
    have d3 : Dp K (vis c ρ H3) v (.tuple xs) := dp_mono (e2.trans e3).ex _ _ d1
    cases d3 with
    | @tup a vs _ _ hs ha =>
      refine ⟨a, vs, rfl, ex_t hid_sub hs, by rw [dpa_len ha]; exact hw, fun p hp => ?_⟩
      obtain ⟨o4, e4⟩ := o3.new (o := .tup (cutV vs lo hi)) hp
      exact q _ (.d _) _ o4 (((e1.trans e2).trans e3).trans e4) (dp_tup (vis_upd (o3.nh hp)) (dpa_mono e4.ex _ _ (dpa_cut ha lo hi))) hk
theorem rc_tupOf {ds : List PyData} (h : k (.d (.tuple ds))) : Rc c (rTupOf K) ρ [.d (.list ds)] k := fun σ H vs Q o d q => by
  cases d with
  | cons d1 d2 =>
    cases d2
    change Dp _ _ _ _ at d1
    cases d1 with
    | @lst a us _ _ hs ha =>
      refine ⟨a, us, rfl, .inl ⟨ex_l hid_sub hs, fun p hp => ?_⟩⟩
      obtain ⟨o4, e4⟩ := o.new (o := .tup us) hp
      exact q _ (.d _) _ o4 e4 (dp_tup (vis_upd (o.nh hp)) (dpa_mono e4.ex _ _ ha)) h
theorem rc_tupOf2 {ds : List PyData} (h : k (.d (.tuple ds))) : Rc c (rTupOf K) ρ [.d (.tuple ds)] k := fun σ H vs Q o d q => by
  cases d with
  | cons d1 d2 =>
    cases d2
    have d1' := d1
    change Dp _ _ _ _ at d1
    cases d1 with
    | @tup a us _ _ hs ha => exact ⟨a, us, rfl, .inr ⟨ex_t hid_sub hs, q.val o (x := .d _) d1' h⟩⟩
theorem wg_lst {n : Nat} {gs : TGs} {js : List Nat} {xs : List PyData} {N : Rho → Prop} (hl : xs.length = n) (h : Wgs c gs js xs ρ N) : Wg c (gLst K n gs) js (.d (.list xs)) ρ N := fun σ H v Q o d q => by
  change Dp _ _ _ _ at d
  cases d with
  | lst hs ha => exact ⟨_, _, rfl, ex_l hid_sub hs, (dpa_len ha).trans hl, h σ H _ Q o ha q⟩
/-- list(xs) as a list of one's own -/
theorem wf_listOf {k : List PyData → Prop} (h : We c te ρ fun x => ∃ xs, x = .d (.list xs) ∧ k xs) : Wf c (tCB (rListOf K) (tCons te tNil)) ρ k := fun σ H Q o q => h σ H _ o fun v x H1 o1 e1 d1 ⟨xs, hx, hk⟩ => by
  subst hx
  change Dp _ _ _ _ at d1
  cases d1 with
  | @lst a vs _ _ hs ha =>
    refine ⟨a, vs, rfl, .inl (ex_l hid_sub hs), fun p hp => ?_⟩
    obtain ⟨h0, o4, s4, d4⟩ := o1.fresh e1 hp ha
    exact q p _ _ _ h0 upd_same o4 s4 d4 hk
theorem wf_listOfOwn {k : List PyData → Prop} {i : Nat} {xs : List PyData} (h : ρ[i]? = some (.own l xs)) (hk : k xs) : Wf c (tCB (rListOf K) (tCons (tVar i) tNil)) ρ k := fun σ H Q o q => by
  obtain ⟨vs, e1, h1, d1⟩ := o.own h
  refine ⟨_, e1, l, vs, rfl, .inl (.inl (.inl h1)), fun p hp => ?_⟩
  obtain ⟨h0, o4, s4, d4⟩ := o.fresh (Stp.refl _) hp d1
  exact q p _ _ _ h0 upd_same o4 s4 d4 hk
/-- xs + ys -/
theorem wf_cat {k : List PyData → Prop} (h : We c te ρ fun x => ∃ xs, x = .d (.list xs) ∧ Wf c tb ρ fun ys => xs.length + ys.length ≤ 100000 ∧ k (xs ++ ys)) : Wf c (tOp (rAddU K) te tb) ρ k := fun σ H Q o q => h σ H _ o fun v x H1 o1 e1 d1 ⟨xs, hx, ht⟩ => by
  subst hx
  change Dp _ _ _ _ at d1
  cases d1 with
  | @lst a vs _ _ hs ha =>
  refine ht σ H1 _ o1 fun l2 vs2 ys H2 n2 g2 o2 s2 d2 ⟨hl, hk⟩ => ?_
  have ha2 := dpa_mono s2.ex _ _ ha
  have hs2 : SqL K (vis c ρ H2) a vs := ex_l s2.ex hs
  refine .inr (.inr (.inl ⟨a, l2, vs, vs2, rfl, rfl, ?_, g2, Evl.sz_of (by rw [dpa_len ha, dpa_len d2]; exact hl), fun p hp => ?_⟩))
  · have hp : (vis c ρ H1) a = some (.lst vs) := ‹_›
    exact (hid_some (s2.ex a _ hp)).2
  · obtain ⟨h0, o4, s4, d4⟩ := o2.fresh (e1.trans s2) hp (dpa_app ha2 (dpa_mono hid_sub _ _ d2))
    exact q p _ _ _ h0 upd_same o4 s4 d4 hk
/-! ### lists shown to a call that tells a new one -/
theorem wf_share {k : List PyData → Prop} {i : Nat} {xs : List PyData} (h : ρ[i]? = some (.own l xs)) (ht : Wf c te (ρ.set i (.val (.d (.list xs)))) fun ys => flatDs ys = true ∧ k ys) : Wf c te ρ k := fun σ H Q o q => by
  have ol : Owns ρ l := ⟨xs, List.mem_of_getElem? h⟩
  refine ht σ H _ (o.freeze h) fun l2 vs2 ys H1 n2 g2 of1 sf1 d2 ⟨fl, hk⟩ => ?_
  have nlc : ¬ c.L l := (o.ob l ol).2
  have lt : ∀ a, Owns (ρ.set i (.val (.d (.list xs)))) a → Owns ρ a := fun a z => owns_less z
  have nl : ¬ Hid c (ρ.set i (.val (.d (.list xs)))) l := fun z => z.elim nlc fun ⟨ys, z⟩ => by
    obtain ⟨j, hj, e'⟩ := List.mem_iff_getElem.mp z
    have z' : (ρ.set i (.val (.d (.list xs))))[j]? = some (Slot.own l ys) := by rw [List.getElem?_eq_getElem hj, e']
    rcases List_set_get z' with ⟨_, q, _⟩ | ⟨ne, z'⟩
    · cases q
    · exact ne (o.one i j l xs ys h z')
  obtain ⟨vs, _, h1, _⟩ := o.own h
  have hl : H1 l = H l := by
    have := sf1.ex l _ (show vis c _ H l = some (.lst vs) from (hid_neg nl).trans h1)
    rw [h1]; exact (hid_some this).2
  have gt : ∀ a, Owns ρ a → a = l ∨ Owns (ρ.set i (.val (.d (.list xs)))) a := fun a ⟨ys, z⟩ => by
    obtain ⟨j, hj, e'⟩ := List.mem_iff_getElem.mp z
    by_cases q : i = j
    · subst q
      have : some (Slot.own a ys) = some (Slot.own l xs) := by rw [← h, List.getElem?_eq_getElem hj, e']
      cases this; exact .inl rfl
    · exact .inr ⟨ys, List.mem_of_getElem? (i := j) (by rw [List.getElem?_set_ne q, List.getElem?_eq_getElem hj, e'])⟩
  have ow : ∀ a, Owns ρ a → H1 a = H a := fun a z => (gt a z).elim (fun q => by rw [q]; exact hl) (sf1.own a)
  have ex : Ex (vis c ρ H) (vis c ρ H1) := fun b u z => by
    obtain ⟨n1, z⟩ := hid_some z
    have := sf1.ex b u ((hid_neg fun q => n1 (q.imp id (lt b))).trans z)
    exact (hid_neg n1).trans (hid_some this).2
  have o1 : Ok c ρ σ H1 := o.grow of1.w ex ow
  refine q l2 vs2 ys H1 n2 g2 o1 ⟨ex, ow⟩ (dpa_mono (fun b u z => ?_) _ _ (dpa_noL ys vs2 fl d2)) hk
  obtain ⟨z1, m⟩ := noL_some z
  obtain ⟨nb, z2⟩ := hid_some z1
  obtain ⟨n1, z3⟩ := hid_some z2
  refine (hid_neg (L := fun x => x = l2) nb).trans ((hid_neg fun q => ?_).trans z3)
  obtain ⟨u', e', m'⟩ := o1.mut q
  rw [z3] at e'; cases e'
  rw [m] at m'; cases m'
theorem wf_callDarkE {P : PT0 K} {k : List PyData → Prop} {X : XK} (h : We c te ρ fun x => ∃ xs, x = .d (.list xs) ∧ flatDs xs = true ∧
    ∀ (c' : Ctx K) a, DarkAt c' a xs → P c' [.r (.ref a)] (fun y => ∃ ys, y = .d (.list ys) ∧ flatDs ys = true ∧ k ys) fun _ => False) : Wf c (tCall (spD K P) [] X (tCons te tNil)) ρ k := fun σ H Q o q => h σ H _ o fun v x H1 o1 e1 d1 ⟨xs, hx, hf, ht⟩ => by
  subst hx
  -- as a call by a name
  have T := wf_callDark (c := c) (ρ := ρ ++ [.val (.d (.list xs))]) (P := P) (k := k) (X := X) (i := ρ.length) (xs := xs) (by simp) hf ht
  have ow : ∀ a, Owns (ρ ++ [Slot.val (.d (.list xs))]) a ↔ Owns ρ a := fun a => by
    constructor
    · rintro ⟨zs, z⟩
      rcases List.mem_append.mp z with z | z
      · exact ⟨zs, z⟩
      · simp at z
    · rintro ⟨zs, z⟩
      exact ⟨zs, List.mem_append_left _ z⟩
  have sv : ∀ H', vis c (ρ ++ [Slot.val (.d (.list xs))]) H' = vis c ρ H' := fun H' => by
    unfold vis
    congr 1
    funext a
    exact propext (or_congr Iff.rfl (ow a))
  have o2 : Ok c (ρ ++ [.val (.d (.list xs))]) (σ ++ [some v]) H1 := by
    refine ⟨o1.w, o1.b, fun a z => o1.ob a ((ow a).mp z), fun n s hs => ?_, fun n m a us zs hs hs' => ?_, by simp [o1.len]⟩
    · rw [sv]
      by_cases z : n < ρ.length
      · rw [List.getElem?_append_left z] at hs
        rw [List.getElem?_append_left (by rw [o1.len]; exact z)]
        exact o1.sl n s hs
      · rw [List.getElem?_append_right (by omega)] at hs
        have hn : n - ρ.length = 0 := by
          cases q : n - ρ.length with
          | zero => rfl
          | succ m => rw [q] at hs; cases hs
        rw [hn] at hs
        cases hs
        have : n = σ.length := by rw [o1.len]; omega
        subst this
        exact ⟨some v, by simp, v, rfl, d1⟩
    · have inn : ∀ {n : Nat} {us : OwnC}, (ρ ++ [Slot.val (.d (.list xs))])[n]? = some (.own a us) → ρ[n]? = some (.own a us) := fun {n us} hs => by
        by_cases z : n < ρ.length
        · rwa [List.getElem?_append_left z] at hs
        · rw [List.getElem?_append_right (by omega)] at hs
          cases q : n - ρ.length with
          | zero => rw [q] at hs; cases hs
          | succ m => rw [q] at hs; cases hs
      exact o1.one n m a us zs (inn hs) (inn hs')
  have T2 := T (σ ++ [some v]) H1 (fun w H2 => Q w H2) o2 (fun l2 vs2 zs H2 n2 g2 o3 s3 d3 k3 => by
    have o4 : Ok c ρ σ H2 := by
      refine ⟨o3.w, o3.b, fun a z => o3.ob a ((ow a).mpr z), fun n s hs => ?_, fun n m a us zs hs hs' => ?_, o1.len⟩
      · have hn : n < ρ.length := (List.getElem?_eq_some_iff.mp hs).1
        have := o3.sl n s (by rw [List.getElem?_append_left hn]; exact hs)
        rw [sv, List.getElem?_append_left (by rw [o1.len]; exact hn)] at this
        exact this
      · have l1 := (List.getElem?_eq_some_iff.mp hs).1
        have l2 := (List.getElem?_eq_some_iff.mp hs').1
        exact o3.one n m a us zs (by rw [List.getElem?_append_left l1]; exact hs) (by rw [List.getElem?_append_left l2]; exact hs')
    have s4 : Stp c ρ H1 H2 := ⟨by have := s3.ex; rw [sv, sv] at this; exact this, fun a z => s3.own a ((ow a).mpr z)⟩
    have n0 : H l2 = none := by
      cases z : H l2 with
      | none => rfl
      | some ob =>
        have := (hid_some (e1.ex l2 ob (by unfold vis; rw [hid_neg (o1.nh n2)]; exact z))).2
        rw [n2] at this; cases this
    rw [sv] at d3
    exact q l2 vs2 zs H2 n0 g2 o4 (e1.trans s4) d3 k3)
  obtain ⟨w, ew, T3⟩ := T2
  have : w = v := by
    have h0 : (σ ++ [some v])[ρ.length]? = some (some v) := by rw [← o1.len]; simp
    rw [h0] at ew
    cases ew; rfl
  subst this
  exact T3
/-! ### a list that is lent for one call, by any statement -/
theorem vis_lend {j : Nat} (hj : ρ[j]? = some (.own l ys)) (H : Hp) : vis (c.lend l I) (ρ.set j (.val (.r (.ref l)))) H = vis c ρ H := by
  unfold vis
  congr 1
  funext a
  refine propext ⟨?_, ?_⟩
  · rintro ((z | z) | z)
    · exact .inl z
    · exact .inr ⟨ys, z ▸ List.mem_of_getElem? hj⟩
    · exact .inr (owns_less z)
  · rintro (z | ⟨us, z⟩)
    · exact .inl (.inl z)
    · obtain ⟨m, hm, e⟩ := List.mem_iff_getElem.mp z
      by_cases q : j = m
      · subst q
        have : some (Slot.own a us) = some (Slot.own l ys) := by rw [← hj, List.getElem?_eq_getElem hm, e]
        cases this; exact .inl (.inr rfl)
      · exact .inr ⟨us, List.mem_of_getElem? (i := m) (by rw [List.getElem?_set_ne q, List.getElem?_eq_getElem hm, e])⟩
theorem vis_own {j : Nat} {zs : List PyData} (hj : ρ[j]? = some (.own l ys)) (H : Hp) : vis c (ρ.set j (.own l zs)) H = vis c ρ H := by
  have hjl : j < ρ.length := (List.getElem?_eq_some_iff.mp hj).1
  unfold vis
  congr 1
  funext a
  refine propext (or_congr Iff.rfl ⟨fun z => ?_, fun ⟨us, z⟩ => ?_⟩)
  · rcases owns_set z with z | ⟨us, q⟩
    · exact z
    · cases q; exact ⟨ys, List.mem_of_getElem? hj⟩
  · obtain ⟨m, hm, e⟩ := List.mem_iff_getElem.mp z
    by_cases q : j = m
    · subst q
      have : some (Slot.own a us) = some (Slot.own l ys) := by rw [← hj, List.getElem?_eq_getElem hm, e]
      cases this
      exact ⟨zs, List.mem_of_getElem? (i := j) (List.getElem?_set_self hjl)⟩
    · exact ⟨us, List.mem_of_getElem? (i := m) (by rw [List.getElem?_set_ne q, List.getElem?_eq_getElem hm, e])⟩
theorem lend_core {j : Nat} {P : PT2 K} {σ : L2.St} {H : Hp} {vs : List V} {zs : List Dv} {Q : VK} {X : XK} {kk : Dv → Prop} (hj : ρ[j]? = some (.own l ys)) (HI : HandIn c p)
    (o : Ok (c.lend l (· = ys)) (ρ.set j (.val (.r (.ref l)))) σ H) (bl : c.B l = none) (nl : ¬ c.L l) (d : DvAll K (vis (c.lend l (· = ys)) (ρ.set j (.val (.r (.ref l)))) H) vs zs) (h : ∀ c3 c3' : Ctx K, Lend2 c3 c3' p l ys I → P c3 c3' zs kk)
    (q : ∀ v y ys' H', flatDs ys' = true → I ys' → Ok c (ρ.set j (.own l ys')) σ H' → Ex (vis c ρ H) (vis c ρ H') → (∀ a, Owns ρ a → a ≠ l → H' a = H a) → DvOk K (vis c ρ H') v y → kk y → Q v H') : spD2 K P vs H Q X := by
  have hjl : j < ρ.length := (List.getElem?_eq_some_iff.mp hj).1
  have m2 : ∀ a, Hid (c.lend l I) (ρ.set j (.val (.r (.ref l)))) a → ∃ o, H a = some o ∧ isMut o = true := fun a z => o.mut z
  refine ⟨(c.lend l (· = ys)).shut2 _ H fun a z => o.mut z, (c.lend l I).shut2 _ H m2, zs, _, ⟨o.w, fun _ _ => rfl⟩, rfl, d, h _ _ (lend2_shut HI nl (fun zs h => h) fun a z => (o.ob a z).2), fun v y H' w b dv ky => ?_⟩
  have o4 : Ok (c.lend l I) (ρ.set j (.val (.r (.ref l)))) σ H' := by
    refine ⟨w.1, fun a ob z => vis_out (c := c.lend l I) (ρ := ρ.set j (.val (.r (.ref l)))) a ob (b a ob (o.base a ob z)), fun a z => o.ob a z, fun n s hs => ?_, o.one, o.len⟩
    obtain ⟨u, q, z⟩ := o.sl n s hs
    refine ⟨u, q, ?_⟩
    cases s with
    | un => trivial
    | val y => obtain ⟨w, e1, e2⟩ := z; exact ⟨w, e1, dv_mono b e2⟩
    | own m ys => obtain ⟨ws, e1, e2, e3⟩ := z; exact ⟨ws, e1, (w.2 m ⟨_, List.mem_of_getElem? hs⟩).trans e2, own_mono b _ _ e3⟩
  obtain ⟨ys', f', i', o6⟩ := o4.unlend bl nl (i := j) (List.getElem?_set_self hjl)
  rw [List.set_set] at o6
  refine q v y ys' H' f' i' o6 ?_ (fun a z na => w.2 a ?_) ?_ ky
  · have b' : Ex (vis (c.lend l (· = ys)) (ρ.set j (.val (.r (.ref l)))) H) (vis (c.lend l I) (ρ.set j (.val (.r (.ref l)))) H') := b
    rw [vis_lend hj, vis_lend hj] at b'
    exact b'
  · obtain ⟨us, z⟩ := z
    obtain ⟨m, hm, e⟩ := List.mem_iff_getElem.mp z
    by_cases q : j = m
    · subst q
      have : some (Slot.own a us) = some (Slot.own l ys) := by rw [← hj, List.getElem?_eq_getElem hm, e]
      cases this; exact (na rfl).elim
    · exact ⟨us, List.mem_of_getElem? (i := m) (by rw [List.getElem?_set_ne q, List.getElem?_eq_getElem hm, e])⟩
  · have dv' : DvOk K (vis (c.lend l I) (ρ.set j (.val (.r (.ref l)))) H') v y := dv
    rw [vis_lend hj] at dv'
    exact dv'
theorem ws_asgLend {j : Nat} {P : PT2 K} {X : XK} {g : TG} {js : List Nat} (I : List PyData → Prop) (hj : ρ[j]? = some (.own l ys)) (HI : HandIn c p) (hf : flatDs ys = true)
    (ht : ∀ c2 : Ctx K, HandIn c2 p → Wa c2 ta (ρ.set j (.val (.r (.ref l)))) fun zs => ∀ c3 c3' : Ctx K, Lend2 c3 c3' p l ys I → P c3 c3' zs fun y => ∀ ys', flatDs ys' = true → I ys' → Wg c g js y (ρ.set j (.own l ys')) E.nx) :
    Ws c (tAsg (tCall (spD2 K P) [] X ta) g) ρ E := fun D σ H e o => by
  have ol : Owns ρ l := ⟨ys, List.mem_of_getElem? hj⟩
  obtain ⟨bl, nl⟩ := o.ob l ol
  have o2 : Ok (c.lend l (· = ys)) (ρ.set j (.val (.r (.ref l)))) σ H := o.lend hj hf rfl
  refine ht _ (lent_lend HI nl).hand σ H _ o2 fun ws zs H1 o3 s3 d3 h3 => ?_
  rw [List.append_nil]
  refine lend_core hj HI o3 bl nl d3 h3 fun v y ys' H' f' i' o6 _ _ dv ky => ?_
  refine ky ys' f' i' σ H' v _ o6 (by rw [vis_own hj]; exact dv) fun ρ' σ' o' _ _ _ _ n => e.nx ρ' σ' H' o' n
theorem Ok.push {σ : L2.St} {H : Hp} (o : Ok c ρ σ H) : Ok c (ρ ++ [.un]) (σ ++ [none]) H ∧ ∀ H', vis c (ρ ++ [.un]) H' = vis c ρ H' := by
  have ow : ∀ a, Owns (ρ ++ [Slot.un]) a ↔ Owns ρ a := fun a => by
    constructor
    · rintro ⟨zs, z⟩
      rcases List.mem_append.mp z with z | z
      · exact ⟨zs, z⟩
      · simp at z
    · rintro ⟨zs, z⟩
      exact ⟨zs, List.mem_append_left _ z⟩
  have sv : ∀ H', vis c (ρ ++ [Slot.un]) H' = vis c ρ H' := fun H' => by
    unfold vis
    congr 1
    funext a
    exact propext (or_congr Iff.rfl (ow a))
  refine ⟨⟨o.w, o.b, fun a z => o.ob a ((ow a).mp z), fun n s hs => ?_, fun n m a us zs hs hs' => ?_, by simp [o.len]⟩, sv⟩
  · rw [sv]
    by_cases z : n < ρ.length
    · rw [List.getElem?_append_left z] at hs
      rw [List.getElem?_append_left (by rw [o.len]; exact z)]
      exact o.sl n s hs
    · rw [List.getElem?_append_right (by omega)] at hs
      have hn : n - ρ.length = 0 := by
        cases q : n - ρ.length with
        | zero => rfl
        | succ m => rw [q] at hs; cases hs
      rw [hn] at hs
      cases hs
      have : n = σ.length := by rw [o.len]; omega
      subst this
      exact ⟨none, by simp, trivial⟩
  · have inn : ∀ {n : Nat} {us : OwnC}, (ρ ++ [Slot.un])[n]? = some (.own a us) → ρ[n]? = some (.own a us) := fun {n us} hs => by
      by_cases z : n < ρ.length
      · rwa [List.getElem?_append_left z] at hs
      · rw [List.getElem?_append_right (by omega)] at hs
        cases q : n - ρ.length with
        | zero => rw [q] at hs; cases hs
        | succ m => rw [q] at hs; cases hs
    exact o.one n m a us zs (inn hs) (inn hs')
theorem Ok.pop {σ : L2.St} {H : Hp} {s : Slot} {x : Option V} (hl : σ.length = ρ.length) (o : Ok c (ρ ++ [s]) (σ ++ [x]) H) : Ok c ρ σ H := by
  have ow : ∀ a, Owns ρ a → Owns (ρ ++ [s]) a := fun a ⟨zs, z⟩ => ⟨zs, List.mem_append_left _ z⟩
  have ev : Ex (vis c (ρ ++ [s]) H) (vis c ρ H) := hid_less fun a z => z.imp id (ow a)
  refine ⟨o.w, o.b, fun a z => o.ob a (ow a z), fun n s' hs => ?_, fun n m a us zs hs hs' => ?_, hl⟩
  · have hn : n < ρ.length := (List.getElem?_eq_some_iff.mp hs).1
    obtain ⟨u, q, z⟩ := o.sl n s' (by rw [List.getElem?_append_left hn]; exact hs)
    rw [List.getElem?_append_left (by rw [hl]; exact hn)] at q
    refine ⟨u, q, ?_⟩
    cases s' with
    | un => trivial
    | val y => obtain ⟨w, e1, e2⟩ := z; exact ⟨w, e1, dv_mono ev e2⟩
    | own m ys => obtain ⟨ws, e1, e2, e3⟩ := z; exact ⟨ws, e1, e2, own_mono ev _ _ e3⟩
  · have l1 := (List.getElem?_eq_some_iff.mp hs).1
    have l2 := (List.getElem?_eq_some_iff.mp hs').1
    exact o.one n m a us zs (by rw [List.getElem?_append_left l1]; exact hs) (by rw [List.getElem?_append_left l2]; exact hs')
/-- def(hand, a new list, a number) -/
theorem we_callLendNew {P : PT2 K} {X : XK} {i : Nat} {w : Int} (I : List PyData → Prop) (hh : ρ[i]? = some (.val (.r (.ref p)))) (HI : HandIn c p)
    (ht : Wf c tf ρ fun ys => flatDs ys = true ∧ ∀ (c3 c3' : Ctx K) l, Lend2 c3 c3' p l ys I → P c3 c3' [.r (.ref p), .r (.ref l), .d (.int w)] k) : We c (tCall (spD2 K P) [] X (tCons (tVar i) (tCons tf (tCons (tC (.int w)) tNil)))) ρ k := fun σ H Q o q => by
  obtain ⟨u, e, v, rfl, d⟩ := o.sl i _ hh
  obtain rfl : v = .ref p := d
  refine ⟨_, e, ht σ H _ o fun l vs ys H1 n1 h1 o1 s1 d1 ⟨hf, hP⟩ => ?_⟩
  show spD2 K P [.ref p, .ref l, .int w] H1 Q X
  obtain ⟨op, sv⟩ := o.push
  obtain ⟨op1, _⟩ := o1.push
  have sp : Stp c (ρ ++ [.un]) H H1 := ⟨by rw [sv, sv]; exact s1.ex, fun a ⟨zs, z⟩ => s1.own a ⟨zs, by
    rcases List.mem_append.mp z with z | z
    · exact z
    · simp at z⟩⟩
  have oo := op.putOwn op1 n1 h1 (by rw [sv]; exact d1) (op.clean sp n1) ρ.length
  have e1 : (ρ ++ [Slot.un]).set ρ.length (.own l ys) = ρ ++ [.own l ys] := by simp
  have e2 : (σ ++ [none]).set ρ.length (some (.ref l)) = σ ++ [some (V.ref l)] := by rw [← o.len]; simp
  rw [e1, e2] at oo
  have hj : (ρ ++ [Slot.own l ys])[ρ.length]? = some (.own l ys) := by simp
  obtain ⟨bl, nl⟩ := oo.ob l ⟨ys, List.mem_of_getElem? hj⟩
  have o2 := oo.lend (I := (· = ys)) hj hf rfl
  refine lend_core (zs := [.r (.ref p), .r (.ref l), .d (.int w)]) hj HI o2 bl nl (.cons (x := .r (.ref p)) rfl (.cons (x := .r (.ref l)) rfl (.cons (x := .d (.int w)) (Dp.int w) .nil))) (fun c3 c3' N => hP c3 c3' l N) fun v y ys' H' f' i' o6 ex ow dv ky => ?_
  have e3 : (ρ ++ [Slot.own l ys]).set ρ.length (.own l ys') = ρ ++ [.own l ys'] := by simp
  rw [e3] at o6
  have o7 : Ok c ρ σ H' := o6.pop o.len
  have lessV : ∀ H2, Ex (vis c (ρ ++ [Slot.own l ys]) H2) (vis c ρ H2) := fun H2 => hid_less fun a z => z.imp id fun ⟨zs, z⟩ => ⟨zs, List.mem_append_left _ z⟩
  refine q v y H' o7 ⟨fun a ob z => ?_, fun a z => ?_⟩ (dv_mono (lessV H') dv) ky
  · have na : a ≠ l := fun q => by subst q; rw [vis, hid_none n1] at z; cases z
    obtain ⟨n2, z2⟩ := hid_some (s1.ex a ob z)
    refine lessV H' a ob (ex a ob ((hid_neg ?_).trans z2))
    rintro (w | ⟨zs, w⟩)
    · exact n2 (.inl w)
    · rcases List.mem_append.mp w with w | w
      · exact n2 (.inr ⟨zs, w⟩)
      · simp at w; exact na w.1
  · have na : a ≠ l := fun q => by
      subst q
      exact o.nh n1 (.inr z)
    exact (ow a ⟨_, List.mem_append_left _ z.choose_spec⟩ na).trans (s1.own a z)
end
end Py

set_option Elab.async false
set_option linter.all false
set_option autoImplicit false
set_option maxRecDepth 100000
set_option maxHeartbeats 4000000
namespace Py
open PySem hiding start
open L2
open Classical
/-! ### points whose numbers are whole over one bottom -/
structure CdN (D M : Int) (p : Pt) (a b : Int) : Prop where
  x : p.x * (D : Rat) = (a : Rat)
  y : p.y * (D : Rat) = (b : Rat)
  a : (a.natAbs : Int) ≤ M * D
  b : (b.natAbs : Int) ≤ M * D
def Cd (D M : Int) (p : Pt) : Prop := ∃ a b, CdN D M p a b
theorem Cd.mul {D M e : Int} {p : Pt} (h : Cd D M p) (he : 0 < e) : Cd (e * D) M p := by
  obtain ⟨a, b, hx, hy, ha, hb⟩ := h
  have n : ∀ z : Int, (z.natAbs : Int) ≤ M * D → ((e * z).natAbs : Int) ≤ M * (e * D) := fun z hz => by
    rw [Int.natAbs_mul, Int.natCast_mul, Int.natAbs_of_nonneg (Int.le_of_lt he)]
    have := Int.mul_le_mul_of_nonneg_left hz (Int.le_of_lt he)
    have e1 : M * (e * D) = e * (M * D) := by grind
    omega
  exact ⟨e * a, e * b, by rw [Rat.intCast_mul, Rat.intCast_mul, ← hx]; grind, by rw [Rat.intCast_mul, Rat.intCast_mul, ← hy]; grind, n a ha, n b hb⟩
theorem Cd.le {D M M' : Int} {p : Pt} (h : Cd D M p) (hD : 0 < D) (hM : M ≤ M') : Cd D M' p := by
  obtain ⟨a, b, hx, hy, ha, hb⟩ := h
  have := Int.mul_le_mul_of_nonneg_right hM (Int.le_of_lt hD)
  exact ⟨a, b, hx, hy, by omega, by omega⟩
theorem Cd.mid {D M : Int} {p q : Pt} (h : Cd D M p) (g : Cd D M q) : Cd (2 * D) M (midM p q) := by
  obtain ⟨a, b, hx, hy, ha, hb⟩ := h
  obtain ⟨a', b', hx', hy', ha', hb'⟩ := g
  obtain ⟨mx, my⟩ := mid_xy p q
  have e : M * (2 * D) = 2 * (M * D) := by grind
  refine ⟨a + a', b + b', ?_, ?_, by omega, by omega⟩
  · rw [mx, Rat.intCast_mul, Rat.intCast_add, ← hx, ← hx']; show _ * (2 * (D : Rat)) = _; grind
  · rw [my, Rat.intCast_mul, Rat.intCast_add, ← hy, ← hy']; show _ * (2 * (D : Rat)) = _; grind
theorem Cd.by {a b c M : Int} (hc : 0 < c) (h0 : c ≠ 0) (ha : (a.natAbs : Int) ≤ M * c) (hb : (b.natAbs : Int) ≤ M * c) : Cd c M (ptBy a b c h0) := by
  obtain ⟨mx, my⟩ := ptBy_x (a := a) (b := b) h0
  have cq : (0 : Rat) < (c : Rat) := Rat.intCast_pos.mpr hc
  refine ⟨a, b, ?_, ?_, ha, hb⟩
  · rw [mx, divInt_q]; generalize (c : Rat) = z at *; grind
  · rw [my, divInt_q]; generalize (c : Rat) = z at *; grind
theorem Cd.own {M : Int} (p : Pt) (ha : (p.a.natAbs : Int) ≤ M * p.c) (hb : (p.b.natAbs : Int) ≤ M * p.c) : Cd p.c M p := by
  have := Cd.by p.pos p.c_ne ha hb
  rwa [ptBy_self] at this
theorem Cd.step {D M z : Int} {p : Pt} (h : Cd D M p) (hD : 0 < D) (z0 : 0 ≤ z) (z1 : z ≤ 1) : Cd D (M + 1) (ptBy (p.a + p.c * z) (p.b + p.c) p.c p.c_ne) ∧ (ptBy (p.a + p.c * z) (p.b + p.c) p.c p.c_ne).y = p.y + 1 := by
  obtain ⟨a, b, hx, hy, ha, hb⟩ := h
  obtain ⟨mx, my⟩ := ptBy_x (a := p.a + p.c * z) (b := p.b + p.c) p.c_ne
  have cq := p.cq
  have ex : (ptBy (p.a + p.c * z) (p.b + p.c) p.c p.c_ne).x = p.x + z := by rw [mx, divInt_q, Rat.intCast_add, Rat.intCast_mul, p.xc]; grind
  have ey : (ptBy (p.a + p.c * z) (p.b + p.c) p.c p.c_ne).y = p.y + 1 := by rw [my, divInt_q, Rat.intCast_add, p.yc]; grind
  have e : (M + 1) * D = M * D + D := by grind
  have hz : z = 0 ∨ z = 1 := by omega
  refine ⟨⟨a + z * D, b + D, ?_, ?_, ?_, by omega⟩, ey⟩
  · rw [ex, Rat.intCast_add, Rat.intCast_mul, ← hx]; grind
  · rw [ey, Rat.intCast_add, ← hy]; grind
  · rcases hz with rfl | rfl <;> omega
theorem Cd.S {D M : Int} {p : Pt} {n : Nat} (h : Cd D M p) (hD : 0 < D) (n0 : 0 < n) (h1 : D.natAbs < 2 ^ n) (h2 : (M * D).natAbs < 2 ^ n) : ptS n p := by
  obtain ⟨a, b, hx, hy, ha, hb⟩ := h
  have d0 : D ≠ 0 := by omega
  have dq : (0 : Rat) < (D : Rat) := Rat.intCast_pos.mpr hD
  have e : ptBy a b D d0 = p := ptBy_eq d0 (by rw [divInt_q, ← hx]; generalize (D : Rat) = d at *; grind) (by rw [divInt_q, ← hy]; generalize (D : Rat) = d at *; grind)
  rw [← e]
  exact (ptB_by d0 n0 (by omega) (by omega) h1).S
/-- what is seen behind n sides -/
structure SeenQ (m : Nat) (B L D M : Int) (ps : List Pt) : Prop where
  len : ps.length ≤ m
  D0 : 0 < D
  DB : D ≤ B
  six : ∃ e, D = 6 * e
  M0 : 2 ^ 40 ≤ M
  ML : M ≤ L
  cd : ∀ q ∈ ps, Cd D M q
theorem SeenQ.mul {m : Nat} {B L D M e E : Int} {ps : List Pt} (h : SeenQ m B L D M ps) (he : 0 < e) (hE : e ≤ E) : SeenQ m (E * B) L (e * D) M ps := by
  obtain ⟨h1, h2, h3, ⟨z, h4⟩, h5, h6, h7⟩ := h
  exact ⟨h1, Int.mul_pos he h2, Int.mul_le_mul hE h3 (Int.le_of_lt h2) (by omega), ⟨e * z, by rw [h4]; grind⟩, h5, h6, fun q hq => (h7 q hq).mul he⟩
theorem SeenQ.weak {m m' : Nat} {B B' L L' D M : Int} {ps : List Pt} (h : SeenQ m B L D M ps) (hm : m ≤ m') (hB : B ≤ B') (hL : L ≤ L') : SeenQ m' B' L' D M ps :=
  ⟨Nat.le_trans h.len hm, h.D0, Int.le_trans h.DB hB, h.six, h.M0, Int.le_trans h.ML hL, h.cd⟩
theorem SeenQ.add {m : Nat} {B L D M : Int} {ps : List Pt} {q : Pt} (h : SeenQ m B L D M ps) (hq : Cd D M q) : SeenQ (m + 1) B L D M (ps ++ [q]) :=
  ⟨by rw [List.length_append]; have := h.len; simp; omega, h.D0, h.DB, h.six, h.M0, h.ML, fun r hr => by
    rcases List.mem_append.mp hr with hr | hr
    · exact h.cd r hr
    · rw [List.mem_singleton.mp hr]; exact hq⟩
theorem SeenQ.up {m : Nat} {B L D M : Int} {ps : List Pt} (h : SeenQ m B L D M ps) : SeenQ m B (L + 1) D (M + 1) ps :=
  ⟨h.len, h.D0, h.DB, h.six, by have := h.M0; omega, by have := h.ML; omega, fun q hq => (h.cd q hq).le h.D0 (by omega)⟩
def SeenP (n : Nat) (ps : List Pt) : Prop := ∃ D M : Int, SeenQ (3 * n) (6 * 2 ^ (42 * n)) (2 ^ 40 + n) D M ps
def seenI (n : Nat) (ys : List PyData) : Prop := ∃ qs : List Pt, ys = qs.map ptD ∧ SeenP n qs
theorem fresh_cd {a b c : Int} (a0 : 0 ≤ a) (a1 : a < 9) (b0 : 0 ≤ b) (b1 : b < 9) (c0 : 1 ≤ c) (c1 : c < 4) (hc : c ≠ 0) {D M : Int} (hD : 0 < D) (h6 : ∃ e, D = 6 * e) (hM : 9 ≤ M) : Cd D M (ptBy a b c hc) := by
  obtain ⟨e, rfl⟩ := h6
  have he : 0 < e := by omega
  have base : Cd c 9 (ptBy a b c hc) := Cd.by (by omega) hc (by omega) (by omega)
  have h : c = 1 ∨ c = 2 ∨ c = 3 := by omega
  have up : ∀ m, 0 < m → m * c = 6 * e → Cd (6 * e) M (ptBy a b c hc) := fun m m0 h => by
    have := base.mul m0
    rw [h] at this
    exact this.le hD hM
  rcases h with rfl | rfl | rfl
  · exact up (6 * e) (by omega) (by omega)
  · exact up (3 * e) (by omega) (by omega)
  · exact up (2 * e) (by omega) (by omega)
theorem pow42 (n : Nat) : (2 : Int) ^ (42 * (n + 1)) = 2 ^ 42 * 2 ^ (42 * n) := by rw [show 42 * (n + 1) = 42 + 42 * n by omega, Int.pow_add]
theorem SeenQ.S {m : Nat} {B L D M : Int} {ps : List Pt} (h : SeenQ m B L D M ps) {q : Pt} (hq : Cd D M q) (hB : B ≤ 6 * 2 ^ 504) (hL : L ≤ 2 ^ 41) : ptS 560 q := by
  have b1 : D ≤ 6 * 2 ^ 504 := Int.le_trans h.DB hB
  have hM : M ≤ 2 ^ 41 := Int.le_trans h.ML hL
  have M0 : 0 ≤ M := by have := h.M0; omega
  have hD := h.D0
  have b2 : M * D ≤ 2 ^ 41 * (6 * 2 ^ 504) := Int.mul_le_mul hM b1 (Int.le_of_lt hD) (by decide)
  have b3 : 0 ≤ M * D := Int.mul_nonneg M0 (Int.le_of_lt hD)
  refine hq.S hD (by decide) ?_ ?_
  · have : (6 * 2 ^ 504 : Int) < ((2 ^ 560 : Nat) : Int) := by decide
    omega
  · have : (2 ^ 41 * (6 * 2 ^ 504) : Int) < ((2 ^ 560 : Nat) : Int) := by decide
    omega
theorem pow_le504 {n : Nat} (hn : n ≤ 11) : (6 * 2 ^ (42 * n) : Int) ≤ 6 * 2 ^ 462 := by
  have : (2 : Int) ^ (42 * n) ≤ 2 ^ 462 := by exact_mod_cast Nat.pow_le_pow_right (n := 2) (by decide) (show 42 * n ≤ 462 by omega)
  omega
/-! ### the points two sides share are ends, or the crossing -/
def crossM (a b c d : Pt) : Bool := decide (tn a b c * tn a b d < 0) && decide (tn c d a * tn c d b < 0)
theorem meet_cross {a b c d : Pt} (h : crossM a b c d = true) : meetM a b c d = [xsM a b c d] ∧ parQ a b c d ≠ 0 := by
  unfold crossM at h
  rw [Bool.and_eq_true, decide_eq_true_eq, decide_eq_true_eq] at h
  obtain ⟨h1, h2⟩ := h
  have n0 : ¬ (tn a b c = 0 ∧ tn a b d = 0) := fun z => by rw [z.1, z.2] at h1; omega
  have n1 : ¬ (tn a b c * tn a b d > 0 ∨ tn c d a * tn c d b > 0) := fun z => by omega
  refine ⟨?_, par_ne n0 n1⟩
  unfold meetM
  rw [if_neg n0, if_neg n1]
theorem mx4 (a b c d : Pt) : (mx (ptLo a b) (ptLo c d) = a ∨ mx (ptLo a b) (ptLo c d) = b ∨ mx (ptLo a b) (ptLo c d) = c ∨ mx (ptLo a b) (ptLo c d) = d) ∧ (mn (ptHi a b) (ptHi c d) = a ∨ mn (ptHi a b) (ptHi c d) = b ∨ mn (ptHi a b) (ptHi c d) = c ∨ mn (ptHi a b) (ptHi c d) = d) := by
  have h1 := lo_or a b
  have h2 := lo_or c d
  have h3 := mx_or (ptLo a b) (ptLo c d)
  have h4 := mn_or (ptHi a b) (ptHi c d)
  grind
theorem meet_ends {a b c d : Pt} (h : crossM a b c d = false) : ∀ p ∈ meetM a b c d, p = a ∨ p = b ∨ p = c ∨ p = d := by
  intro p hp
  unfold meetM at hp
  by_cases n0 : tn a b c = 0 ∧ tn a b d = 0
  · rw [if_pos n0] at hp
    unfold sharedM at hp
    simp only at hp
    obtain ⟨m1, m2⟩ := mx4 a b c d
    split at hp
    · cases hp
    · split at hp
      · have : p = mx (ptLo a b) (ptLo c d) := by simpa using hp
        rw [this]; exact m1
      · have : p = mx (ptLo a b) (ptLo c d) ∨ p = mn (ptHi a b) (ptHi c d) := by simpa using hp
        rcases this with rfl | rfl
        · exact m1
        · exact m2
  · rw [if_neg n0] at hp
    by_cases n1 : tn a b c * tn a b d > 0 ∨ tn c d a * tn c d b > 0
    · rw [if_pos n1] at hp; cases hp
    · rw [if_neg n1] at hp
      have ep : p = xsM a b c d := by simpa using hp
      have hpar := par_ne n0 n1
      obtain ⟨o1, o2⟩ := xsM_on hpar
      have z : tn a b c = 0 ∨ tn a b d = 0 ∨ tn c d a = 0 ∨ tn c d b = 0 := by
        have h3 : ¬ (tn a b c * tn a b d < 0 ∧ tn c d a * tn c d b < 0) := fun z => by
          unfold crossM at h
          rw [decide_eq_true z.1, decide_eq_true z.2] at h; cases h
        have h4 : tn a b c * tn a b d = 0 ∨ tn c d a * tn c d b = 0 := by omega
        rcases h4 with h4 | h4
        · rcases Int.mul_eq_zero.mp h4 with h | h
          · exact .inl h
          · exact .inr (.inl h)
        · rcases Int.mul_eq_zero.mp h4 with h | h
          · exact .inr (.inr (.inl h))
          · exact .inr (.inr (.inr h))
      have e1 := fun x y => tn_end x y
      have cz : ∀ x y z : Pt, tn x y z = 0 → crQ x y z = 0 := fun x y z h => tn_zero.mp h
      rcases z with z | z | z | z
      · exact .inr (.inr (.inl (ep.trans (xs_uniq hpar o1 o2 (cz _ _ _ z) (cz _ _ _ (tn_end c d).1)))))
      · exact .inr (.inr (.inr (ep.trans (xs_uniq hpar o1 o2 (cz _ _ _ z) (cz _ _ _ (tn_end c d).2)))))
      · exact .inl (ep.trans (xs_uniq hpar o1 o2 (cz _ _ _ (tn_end a b).1) (cz _ _ _ z)))
      · exact .inr (.inl (ep.trans (xs_uniq hpar o1 o2 (cz _ _ _ (tn_end a b).2) (cz _ _ _ z))))
end Py

set_option Elab.async false
set_option linter.all false
set_option autoImplicit false
set_option maxRecDepth 100000
set_option maxHeartbeats 4000000
namespace HT
open PySem PySem.Spec PyProof PyProof.Rows L2
section
variable {prog : Program} {w : World} {A : Around} {E : Value → Shared → Prop} {s : Shared}
theorem adjust_rev (n : Nat) : Builtin.Slice.sliceAdjust none none (-1) (n : Int) = ((n : Int) - 1, -1) := rfl
theorem places_rev (n : Nat) : Builtin.Slice.slicePlaces ((n : Int) - 1) (-1) (-1) = n := by
  unfold Builtin.Slice.slicePlaces
  have h1 : ¬ ((-1 : Int) > 0) := by decide
  simp only [h1, if_false]
  by_cases h : (n : Int) - 1 > -1
  · simp only [h, if_true]
    have : ((n : Int) - 1 - -1 - 1) / - -1 = (n : Int) - 1 := by
      show ((n : Int) - 1 - -1 - 1) / 1 = _
      rw [Int.ediv_one]; omega
    omega
  · simp only [h, if_false]; omega
theorem sliceApplied_rev {sl : Addr} {vs : Value} {n : Nat} {Q : Int × Int × Nat → Shared → Prop} (hs : s.heap.IsSliceOf sl .none .none vs) (ps : IsPart vs (some (-1)))
    (h : Q ((n : Int) - 1, -1, n) s) : wpAny (model prog w) A (Builtin.Slice.sliceApplied (.ref sl) (pure (n : Int))) Q E s := by
  obtain ⟨os, hos, hcs, hds⟩ := id hs
  unfold Builtin.Slice.sliceApplied Builtin.Slice.sliceFields
  refine wpAny_bind (wpAny_bind (wpAny_field hos hds (x := .none) rfl (wpAny_bind (wpAny_field hos hds (x := .none) rfl (wpAny_bind (wpAny_field hos hds (x := vs) rfl (wpAny_pure ?_)))))))
  refine wpAny_bind (slicePart_ ps ?_)
  show wpAny _ _ (if ((-1 : Int) == 0) = true then _ else _) _ _ s
  rw [if_neg (by decide)]
  refine wpAny_bind (slicePart_none (wpAny_bind (slicePart_none (wpAny_bind (wpAny_pure ?_)))))
  show wpAny _ _ (match Builtin.Slice.sliceAdjust none none (-1) (n : Int) with | (lo, hi) => pure (lo, (-1 : Int), Builtin.Slice.slicePlaces lo hi (-1))) _ _ s
  rw [adjust_rev n]
  show wpAny _ _ (pure ((n : Int) - 1, (-1 : Int), Builtin.Slice.slicePlaces ((n : Int) - 1) (-1) (-1))) _ _ s
  rw [places_rev]
  exact wpAny_pure h
theorem fm_congr {α β : Type} {f g : α → Option β} : ∀ {l : List α}, (∀ a ∈ l, f a = g a) → l.filterMap f = l.filterMap g
  | [], _ => rfl
  | a :: l, h => by rw [List.filterMap_cons, List.filterMap_cons, h a (by simp), fm_congr fun b hb => h b (by simp [hb])]
theorem fm_take (ys : List Value) : ∀ n : Nat, (List.range n).filterMap (fun m => ys[m]?) = ys.take n
  | 0 => rfl
  | n + 1 => by
    rw [List.range_succ, List.filterMap_append, fm_take ys n, List.take_add_one]
    cases h : ys[n]? <;> simp [h]
theorem pick_rev (xs : Array Value) : ((List.range xs.size).filterMap fun (m : Nat) => xs[((xs.size : Int) - 1 + (m : Int) * -1).toNat]?).toArray = xs.toList.reverse.toArray := by
  have e2 : (List.range xs.size).filterMap (fun (m : Nat) => xs[((xs.size : Int) - 1 + (m : Int) * -1).toNat]?) = (List.range xs.size).filterMap (fun m => xs.toList.reverse[m]?) := fm_congr fun m hm => by
    have hm := List.mem_range.mp hm
    have : ((xs.size : Int) - 1 + (m : Int) * -1).toNat = xs.size - 1 - m := by omega
    rw [this, List.getElem?_reverse (by simpa using hm), Array.getElem?_toList, Array.length_toList]
  rw [e2, fm_take, List.take_of_length_le (by simp)]
theorem getItem_tuple_rev {t sl : Addr} {items : Array Value} {vs : Value} {Q : Value → Shared → Prop} (ht : IsTup s.heap t items) (hs : s.heap.IsSliceOf sl .none .none vs) (ps : IsPart vs (some (-1)))
    (h : Q (.ref s.heap.objs.size) { s with heap := s.heap.push { cls := .type "tuple", data := .seq items.toList.reverse.toArray } })
    (hsz : items.size ≤ sizeLine) : wpAny (model prog w) A (getItem (.ref t) (.ref sl)) Q E s := by
  have htake : sizeOk (.seq items.toList.reverse.toArray) := by
    show items.toList.reverse.toArray.size ≤ sizeLine
    rw [List.size_toArray, List.length_reverse, Array.length_toList]
    omega
  obtain ⟨os, hos, hcs, hds⟩ := id hs
  have hTs : s.TypeIs (.ref sl) "slice" := ⟨os, hos, hcs⟩
  unfold getItem
  try with_reducible refine wpAny_holding ?_
  first | refine wpAny_bind (wpAny_pure ?_) | skip
  refine wpAny_bind (wpAny_sequenceKey ht.typeIs (by decide) ?_)
  refine wpAny_bind (wpAny_callSpecial?_slot (name := Str.ofString "__getitem__") ht.typeIs PyProof.Rows.slot_tuple_getitem
    (wpAny_call_entry PyProof.Rows.slot_tuple_getitem ht.typeIs entry_tuple_getitem ?_ (args_tuple_getitem _ _)))
  show wpAny _ _ (Builtin.Tuple.tupleItemsOf (.ref t) >>= _) _ _ s
  refine wpAny_bind (tupleItemsOf_ ht ?_)
  refine wpAny_bind (wpAny_typeOf hTs ?_)
  rw [if_pos (by decide)]
  refine wpAny_bind (sliceApplied_rev hs ps ?_)
  have hno : ¬ ((((items.size : Int) - 1) == 0 && (-1 : Int) == 1 && items.size == items.size) = true) := by
    intro q
    rw [Bool.and_eq_true, Bool.and_eq_true] at q
    have := eq_of_beq q.1.2
    omega
  show wpAny _ _ (if (((items.size : Int) - 1) == 0 && (-1 : Int) == 1 && items.size == items.size) = true then _ else _) _ _ s
  rw [if_neg hno, pick_rev]
  first
    | exact wpAny_bind (m := Builtin.Tuple.tupleExact _) (wpAny_newObj_type (wpAny_pure ⟨_, rfl, wpAny_pure h⟩) htake)
    | exact wpAny_bind (m := Builtin.Tuple.tupleExact _) (wpAny_newObj_type (wpAny_bind (wpAny_pure (wpAny_pure ⟨_, rfl, wpAny_pure h⟩))) htake)
    | exact wpAny_bind (wpAny_bind (m := Builtin.Tuple.tupleExact _) (wpAny_newObj_type (wpAny_pure (wpAny_pure ⟨_, rfl, wpAny_pure h⟩)) htake))
    | exact wpAny_bind (wpAny_bind (m := Builtin.Tuple.tupleExact _) (wpAny_newObj_type (wpAny_pure ⟨_, rfl, wpAny_pure h⟩) htake))
end
end HT
namespace L2
open PySem PySem.Spec PyProof.Rows
section
variable {X : Cx}
/-- t[::-1], a tuple -/
def tRevT (K : PySem.W.Frag) (te : TE) : TE := fun σ H Q => te σ H fun x H1 => ∃ a xs, x = .ref a ∧ SqT K H1 a xs ∧ ∀ p, H1 p = none → Q (.ref p) (upd H1 p (.tup xs.reverse))
theorem pe_revT {e : Expr} {te : TE} {k : Nat} {p1 p2 p3 pos : Pos} (he : PE X e te) : PE X (.Subscript e (.Slice none none (some (.UnaryOp .USub (.Constant (.int 1) k p1) p2)) p3) pos) (tRevT X.K te) := by
  refine ⟨fun pins s σ H Q I h => ?_⟩
  refine Subscript_ (thn (he.run pins s σ H _ I h) fun v s1 ⟨x, H1, I1, r1, q1⟩ => ?_)
  obtain ⟨a, xs, ex, hx, q⟩ := q1
  subst ex
  cases r1
  have hst : PO X (some (.UnaryOp .USub (.Constant (.int 1) k p1) p2)) (tPart (tUn (rU fun i => .int (-i)) (tC (.int 1)))) := po_some (pe_un un_neg pe_int)
  refine wpAny_Slice (thn (po_none.run pins s1 σ H1 (fun o H2 => o = none ∧ H2 = H1) I1 ⟨rfl, rfl⟩) fun vl s2 ⟨l, H2, I2, pl, el, e2⟩ => ?_)
  subst el e2
  refine thn (po_none.run pins s2 σ H2 (fun o H3 => o = none ∧ H3 = H2) I2 ⟨rfl, rfl⟩) fun vu s3 ⟨u, H3, I3, pu, eu, e3⟩ => ?_
  subst eu e3
  refine thn (hst.run pins s3 σ H3 (fun o H4 => o = some (-1) ∧ H4 = H3) I3 ⟨1, rfl, -1, rfl, rfl, rfl⟩) fun vs s4 ⟨o, H4, I4, ps, eo, e4⟩ => ?_
  subst eo e4
  cases pl
  cases pu
  have I5 : Inv X pins σ H4 { s4 with heap := s4.heap.push { cls := .type "slice", data := .fields #[.none, .none, vs] } } := I4.kept (t' := s4.toks) fun b ob q => Heap.get?_push_of_some _ q
  obtain ⟨its, r, ht, hz⟩ := I5.tuple hx
  have hlen := r.length
  show wpAny (model X.prog X.w) X.A (subscriptTail e (.Slice none none (some (.UnaryOp .USub (.Constant (.int 1) k p1) p2)) p3) (.ref a) (.ref s4.heap.objs.size)) (EP X pins σ Q) X.xe { s4 with heap := s4.heap.push { cls := .type "slice", data := .fields #[.none, .none, vs] } }
  refine tail_any (ops := [.ref a, .ref s4.heap.objs.size]) ht.typeIs (PyProof.Rows.slot_tuple_getitem.lookup) ?_ (by with_unfolding_all rfl)
  refine HT.getItem_tuple_rev ht (Heap.IsSliceOf.new _ .none .none vs) ps ?_ (by rw [List.size_toArray]; omega)
  refine ⟨.ref _, _, I5.laid (t' := s4.toks) (o := .tup xs.reverse) (fun b ob q => Heap.get?_push_of_some _ q) (Nat.le_refl _) ?_, rfl, q _ (I5.hok.fresh (Nat.le_refl _))⟩
  exact ⟨by rw [List.length_reverse]; exact hz, _, r.reverse, IsTup.new _ _⟩
theorem pe_revTs (K : PySem.W.Frag) {e : Expr} {te : TE} {k : Nat} {p1 p2 p3 pos : Pos} (he : PE X e te) (h : X.K = K := by rfl) : PE X (.Subscript e (.Slice none none (some (.UnaryOp .USub (.Constant (.int 1) k p1) p2)) p3) pos) (tRevT K te) := h ▸ pe_revT he
end
end L2
namespace Py
open PySem hiding start
open L2
theorem we_revT {K : PySem.W.Frag} {c : Ctx K} {ρ : Rho} {k : Dv → Prop} {te : TE} (h : We c te ρ fun x => ∃ xs, x = .d (.tuple xs) ∧ k (.d (.tuple xs.reverse))) : We c (tRevT K te) ρ k := fun σ H Q o q => h σ H _ o fun v x H1 o1 e1 d1 ⟨xs, hx, hk⟩ => by
  subst hx
  change Dp _ _ _ _ at d1
  cases d1 with
  | @tup a vs _ _ hs ha =>
    refine ⟨a, vs, rfl, Evl.ex_t hid_sub hs, fun p hp => ?_⟩
    obtain ⟨o4, e4⟩ := o1.new (o := .tup vs.reverse) hp
    exact q _ (.d _) _ o4 (e1.trans e4) (dp_tup (vis_upd (o1.nh hp)) (dpa_mono e4.ex _ _ (dpa_rev ha))) hk
end Py

set_option Elab.async false
set_option linter.all false
set_option autoImplicit false
set_option maxRecDepth 100000
set_option maxHeartbeats 4000000
namespace Py
open PySem hiding start
open L2
open Evl (Ex ex_rd ex_l ex_t fresh_back)
/-! ### keys -/
def keyD : Key → PyData
  | .inl i => .int i
  | .inr s => .str s
abbrev kyD (ks : List Key) : PyData := .tuple (ks.map keyD)
theorem dp_key {K : PySem.W.Frag} {G : Hp} {v : V} : ∀ {k : Key}, Dp K G v (keyD k) → v = kV k
  | .inl _, h => dp_int h
  | .inr _, h => dp_str h
theorem key_dp {K : PySem.W.Frag} {G : Hp} : ∀ (k : Key), Dp K G (kV k) (keyD k)
  | .inl i => Dp.int i
  | .inr s => Dp.str s
theorem dpa_keys {K : PySem.W.Frag} {G : Hp} : ∀ {ks : List Key} {vs : List V}, DpAll K G vs (ks.map keyD) → vs = ks.map kV
  | [], _, .nil => rfl
  | k :: ks, _, .cons h t => by rw [dp_key h, dpa_keys t]; rfl
theorem keys_dpa {K : PySem.W.Frag} {G : Hp} : ∀ (ks : List Key), DpAll K G (ks.map kV) (ks.map keyD)
  | [] => .nil
  | k :: ks => .cons (key_dp k) (keys_dpa ks)
section
variable {κ : Type} [DecidableEq κ] {K : PySem.W.Frag} {G : Hp}
def valD (kvs : List (κ × PyData)) (k : κ) : Option PyData := (kvs.find? fun kv => decide (kv.1 = k)).map (·.2)
def putD (kvs : List (κ × PyData)) (k : κ) (d : PyData) : List (κ × PyData) :=
  if (kvs.any fun kv => decide (kv.1 = k)) = true then kvs.map (fun kv => if kv.1 = k then (kv.1, d) else kv) else kvs ++ [(k, d)]
def dropD (kvs : List (κ × PyData)) (k : κ) : List (κ × PyData) := kvs.filter fun kv => decide (kv.1 ≠ k)
/-- the entries of the object and of the data -/
structure KD (K : PySem.W.Frag) (G : Hp) (us : List (κ × V)) (kvs : List (κ × PyData)) : Prop where
  k : us.map (·.1) = kvs.map (·.1)
  d : DpAll K G (us.map (·.2)) (kvs.map (·.2))
theorem KD.cons_inv {u : κ × V} {us : List (κ × V)} {kvs : List (κ × PyData)} (h : KD K G (u :: us) kvs) : ∃ d r, kvs = (u.1, d) :: r ∧ Dp K G u.2 d ∧ KD K G us r := by
  obtain ⟨h1, h2⟩ := h
  cases kvs with
  | nil => cases h1
  | cons kv r =>
    obtain ⟨k, d⟩ := kv
    simp only [List.map_cons, List.cons.injEq] at h1
    obtain ⟨e, h1⟩ := h1
    subst e
    cases h2 with
    | cons a b => exact ⟨d, r, rfl, a, h1, b⟩
theorem KD.nil_inv {kvs : List (κ × PyData)} (h : KD K G ([] : List (κ × V)) kvs) : kvs = [] := by
  have := h.k
  simpa using this.symm
theorem KD.nil : KD K G ([] : List (κ × V)) [] := ⟨rfl, .nil⟩
theorem KD.cons {k : κ} {v : V} {d : PyData} {us : List (κ × V)} {kvs : List (κ × PyData)} (h : Dp K G v d) (t : KD K G us kvs) : KD K G ((k, v) :: us) ((k, d) :: kvs) := ⟨by simp [t.k], .cons h t.d⟩
theorem KD.len {us : List (κ × V)} {kvs : List (κ × PyData)} (h : KD K G us kvs) : us.length = kvs.length := by simpa using congrArg List.length h.k
theorem KD.any {us : List (κ × V)} {kvs : List (κ × PyData)} (h : KD K G us kvs) (k : κ) : (us.any fun kv => decide (kv.1 = k)) = (kvs.any fun kv => decide (kv.1 = k)) := by
  induction us generalizing kvs with
  | nil => rw [h.nil_inv]; rfl
  | cons u us ih =>
    obtain ⟨d, r, rfl, _, t⟩ := h.cons_inv
    rw [List.any_cons, List.any_cons, ih t]
theorem KD.val {us : List (κ × V)} {kvs : List (κ × PyData)} (h : KD K G us kvs) (k : κ) : (valD kvs k = none ∧ valV us k = none) ∨ ∃ v d, valD kvs k = some d ∧ valV us k = some v ∧ Dp K G v d := by
  induction us generalizing kvs with
  | nil => rw [h.nil_inv]; exact .inl ⟨rfl, rfl⟩
  | cons u us ih =>
    obtain ⟨d, r, rfl, a, t⟩ := h.cons_inv
    by_cases e : u.1 = k
    · exact .inr ⟨u.2, d, by unfold valD; rw [List.find?_cons]; simp [e], valV_pos e, a⟩
    · have e1 : valD ((u.1, d) :: r) k = valD r k := by unfold valD; rw [List.find?_cons]; simp [e]
      rw [e1, valV_neg e]
      exact ih t
theorem KD.put {us : List (κ × V)} {kvs : List (κ × PyData)} (h : KD K G us kvs) (k : κ) {v : V} {d : PyData} (hd : Dp K G v d) : KD K G (putK us k v) (putD kvs k d) := by
  unfold putK putD
  rw [h.any k]
  split
  · rename_i z
    clear z
    induction us generalizing kvs with
    | nil => rw [h.nil_inv]; exact .nil
    | cons u us ih =>
      obtain ⟨d', r, rfl, a, t⟩ := h.cons_inv
      rw [List.map_cons, List.map_cons]
      obtain ⟨uk, uv⟩ := u
      by_cases e : uk = k
      · simp only [e, if_true]
        exact .cons hd (ih t)
      · simp only [e, if_false]
        exact .cons a (ih t)
  · refine ⟨by simp [h.k], ?_⟩
    rw [List.map_append, List.map_append]
    exact dpa_app h.d (.cons hd .nil)
theorem KD.drop {us : List (κ × V)} {kvs : List (κ × PyData)} (h : KD K G us kvs) (k : κ) : KD K G (dropK us k) (dropD kvs k) := by
  unfold dropK dropD
  induction us generalizing kvs with
  | nil => rw [h.nil_inv]; exact .nil
  | cons u us ih =>
    obtain ⟨d', r, rfl, a, t⟩ := h.cons_inv
    obtain ⟨uk, uv⟩ := u
    rw [List.filter_cons, List.filter_cons]
    by_cases e : uk = k
    · simp only [e]
      simpa using ih t
    · simp only [ne_eq, e, not_false_eq_true, decide_true, if_true]
      exact .cons a (ih t)
theorem valD_put (kvs : List (κ × PyData)) (k j : κ) (d : PyData) : valD (putD kvs k d) j = if j = k then some d else valD kvs j := by
  unfold putD
  by_cases h : (kvs.any fun kv => decide (kv.1 = k)) = true
  · rw [if_pos h]
    induction kvs with
    | nil => cases h
    | cons kv r ih =>
      obtain ⟨a, b⟩ := kv
      rw [List.map_cons]
      by_cases e : a = k
      · subst e
        by_cases z : j = a
        · subst z
          unfold valD; rw [List.find?_cons]; simp
        · have e2 : ∀ (b : PyData) (r : List (κ × PyData)), valD ((a, b) :: r) j = valD r j := fun b r => by unfold valD; rw [List.find?_cons]; simp [Ne.symm z]
          simp only [if_true]
          rw [e2, e2]
          by_cases w : (r.any fun kv => decide (kv.1 = a)) = true
          · exact ih w
          · have : r.map (fun kv => if kv.1 = a then (kv.1, d) else kv) = r := by
              conv => rhs; rw [← List.map_id r]
              refine List.map_congr_left fun kv hkv => ?_
              have : ¬ kv.1 = a := fun q => w (List.any_eq_true.mpr ⟨kv, hkv, by simp [q]⟩)
              simp [this]
            rw [this, if_neg z]
      · have w : (r.any fun kv => decide (kv.1 = k)) = true := by
          rw [List.any_cons] at h
          simpa [e] using h
        simp only [e, if_false]
        by_cases z : j = a
        · subst z
          have e2 : ∀ r : List (κ × PyData), valD ((j, b) :: r) j = some b := fun r => by unfold valD; rw [List.find?_cons]; simp
          rw [e2, e2, if_neg e]
        · have e2 : ∀ r : List (κ × PyData), valD ((a, b) :: r) j = valD r j := fun r => by unfold valD; rw [List.find?_cons]; simp [Ne.symm z]
          rw [e2, e2]
          exact ih w
  · rw [if_neg h]
    have no : ∀ kv ∈ kvs, ¬ kv.1 = k := fun kv hkv q => h (List.any_eq_true.mpr ⟨kv, hkv, by simp [q]⟩)
    unfold valD
    rw [List.find?_append]
    by_cases z : j = k
    · subst z
      have : kvs.find? (fun kv => decide (kv.1 = j)) = none := List.find?_eq_none.mpr fun kv hkv => by simp [no kv hkv]
      rw [this]
      simp
    · cases w : kvs.find? (fun kv => decide (kv.1 = j)) with
      | none => simp [Ne.symm z, z]
      | some kv => simp [z]
theorem len_putD (kvs : List (κ × PyData)) (k : κ) (d : PyData) : (putD kvs k d).length ≤ kvs.length + 1 := by
  unfold putD
  split <;> simp
/-- its keys -/
theorem keys_putD (kvs : List (κ × PyData)) (k : κ) (d : PyData) : (putD kvs k d).map (·.1) = if k ∈ kvs.map (·.1) then kvs.map (·.1) else kvs.map (·.1) ++ [k] := by
  unfold putD
  have e : (kvs.any fun kv => decide (kv.1 = k)) = decide (k ∈ kvs.map (·.1)) := by
    rw [Bool.eq_iff_iff, List.any_eq_true, decide_eq_true_eq, List.mem_map]
    simp
  rw [e]
  by_cases h : k ∈ kvs.map (·.1)
  · rw [decide_eq_true h, if_pos rfl, if_pos h, List.map_map]
    refine List.map_congr_left fun kv _ => ?_
    show (if kv.1 = k then (kv.1, d) else kv).1 = kv.1
    split <;> rfl
  · rw [decide_eq_false h, if_neg (by decide), if_neg h, List.map_append]; rfl
theorem valD_mem {kvs : List (κ × PyData)} {k : κ} : (valD kvs k).isSome = decide (k ∈ kvs.map (·.1)) := by
  rw [Bool.eq_iff_iff, decide_eq_true_eq]
  unfold valD
  rw [Option.isSome_map, List.find?_isSome, List.mem_map]
  simp
end
/-! ### rules -/
open Classical
section
variable {K : PySem.W.Frag} {c c' : Ctx K} {ρ : Rho} {E : DE} {k : Dv → Prop} {ta : TA} {tb te ty tx tv : TE} {t u : TS} {d : Addr}
theorem Ok.ownC {σ : L2.St} {H : Hp} (o : Ok c ρ σ H) {i : Nat} {x : OwnC} (h : ρ[i]? = some (.own d x)) : ∃ ob, σ[i]? = some (some (.ref d)) ∧ H d = some ob ∧ OwnOk K (vis c ρ H) ob x := by
  obtain ⟨u, q, ob, rfl, h1, d1⟩ := o.sl i _ h
  exact ⟨ob, q, h1, d1⟩
theorem Ok.ownT {σ : L2.St} {H : Hp} (o : Ok c ρ σ H) {i : Nat} {kvs : List (List Key × PyData)} (h : ρ[i]? = some (.own d (.t kvs))) : ∃ us, σ[i]? = some (some (.ref d)) ∧ H d = some (.dT us) ∧ KD K (vis c ρ H) us kvs := by
  obtain ⟨ob, q, h1, us, rfl, a, b⟩ := o.ownC h
  exact ⟨us, q, h1, a, b⟩
theorem Ok.ownK {σ : L2.St} {H : Hp} (o : Ok c ρ σ H) {i : Nat} {kvs : List (Key × PyData)} (h : ρ[i]? = some (.own d (.k kvs))) : ∃ us, σ[i]? = some (some (.ref d)) ∧ H d = some (.dK us) ∧ KD K (vis c ρ H) us kvs := by
  obtain ⟨ob, q, h1, us, rfl, a, b⟩ := o.ownC h
  exact ⟨us, q, h1, a, b⟩
/-- an object of one's own changes -/
theorem Ok.chgC {σ : L2.St} {H : Hp} (o : Ok c ρ σ H) {i : Nat} {x x' : OwnC} {ob : HO} (h : ρ[i]? = some (.own d x)) (dd : OwnOk K (vis c ρ H) ob x') : Ok c (ρ.set i (.own d x')) σ (upd H d ob) := by
  obtain ⟨ob0, e1, h1, d1⟩ := o.ownC h
  have ol : Owns ρ d := ⟨x, List.mem_of_getElem? h⟩
  have nl : ¬ c.L d := (o.ob d ol).2
  have ow1 : ∀ a, Owns (ρ.set i (.own d x')) a → Owns ρ a := fun a z => by
    rcases owns_set z with q | ⟨ys, q⟩
    · exact q
    · cases q; exact ol
  have ev : Ex (vis c ρ H) (vis c (ρ.set i (.own d x')) (upd H d ob)) := fun b ob z => by
    obtain ⟨n1, z⟩ := hid_some z
    have nb : b ≠ d := fun q => n1 (.inr (q ▸ ol))
    exact (hid_neg fun q => n1 (q.imp id (ow1 b))).trans ((upd_ne nb).trans z)
  refine ⟨c.loc _ _ (fun a z => upd_ne fun q => nl (q ▸ z)) (tp_mut h1 (own_mut d1)) o.w, (o.base.trans ev).trans vis_out, fun a z => o.ob a (ow1 a z), fun j s hs => ?_, fun j j' a ys zs hs hs' => ?_, by simp [o.len]⟩
  · rcases List_set_get hs with ⟨rfl, rfl, _⟩ | ⟨ne, hs⟩
    · exact ⟨some (.ref d), e1, _, rfl, upd_same, own_mono ev _ _ dd⟩
    · obtain ⟨u, q, z⟩ := o.sl j s hs
      refine ⟨u, q, ?_⟩
      cases s with
      | un => trivial
      | val y => obtain ⟨w, e1, e2⟩ := z; exact ⟨w, e1, dv_mono ev e2⟩
      | own m ys =>
        obtain ⟨ws, e1, e2, e3⟩ := z
        have nm : m ≠ d := fun q => ne (o.one i j d x ys h (q ▸ hs))
        exact ⟨ws, e1, (upd_ne nm).trans e2, own_mono ev _ _ e3⟩
  · rcases List_set_get hs with ⟨r1, q1, _⟩ | ⟨ne, hs⟩
    · rcases List_set_get hs' with ⟨r2, q2, _⟩ | ⟨ne', hs'⟩
      · exact r1.symm.trans r2
      · cases q1
        exact (r1.symm.trans (o.one i j' d x _ h hs'))
    · rcases List_set_get hs' with ⟨r2, q2, _⟩ | ⟨ne', hs'⟩
      · cases q2
        exact ((o.one i j d x _ h hs).symm.trans r2)
      · exact o.one _ _ _ _ _ hs hs'
theorem ws_dnewT {i : Nat} (n : ∀ d, E.nx (ρ.set i (.own d (.t [])))) : Ws c (tAsg tDNewT (gName i)) ρ E := fun D σ H e o p hp => by
  obtain ⟨o2, e2⟩ := o.new (o := .dT []) hp
  exact e.nx _ _ _ (o.putOwnC (xs := .t []) o2 hp upd_same ⟨[], rfl, rfl, .nil⟩ (o.clean e2 hp) i) (n p)
theorem ws_dnewK {i : Nat} (n : ∀ d, E.nx (ρ.set i (.own d (.k [])))) : Ws c (tAsg tDNewK (gName i)) ρ E := fun D σ H e o p hp => by
  obtain ⟨o2, e2⟩ := o.new (o := .dK []) hp
  exact e.nx _ _ _ (o.putOwnC (xs := .k []) o2 hp upd_same ⟨[], rfl, rfl, .nil⟩ (o.clean e2 hp) i) (n p)
/-- a tuple as a key -/
theorem key_at {σ : L2.St} {H : Hp} {v : V} {ks : List Key} (dv : DvOk K (vis c ρ H) v (.d (kyD ks))) : ∃ b, v = .ref b ∧ H b = some (.tup (ks.map kV)) := by
  change Dp _ _ _ _ at dv
  cases dv with
  | @tup b us _ hp hs ha => exact ⟨b, rfl, by rw [← dpa_keys ha]; exact (hid_some hp).2⟩
theorem dget_at {σ : L2.St} {H H1 : Hp} {j : Nat} {kvs : List (List Key × PyData)} (o : Ok c ρ σ H) (o1 : Ok c ρ σ H1) (h : ρ[j]? = some (.own d (.t kvs))) {v : V} {ks : List Key} (dv : DvOk K (vis c ρ H1) v (.d (kyD ks))) :
    (valD kvs ks = none ∧ DGet H1 d v none) ∨ ∃ w x, valD kvs ks = some x ∧ DGet H1 d v (some w) ∧ Dp K (vis c ρ H1) w x := by
  obtain ⟨us, q, h1, kd⟩ := o1.ownT h
  obtain ⟨b, rfl, hb⟩ := key_at (σ := σ) dv
  have g := DGet.t h1 hb
  rcases kd.val ks with ⟨a1, a2⟩ | ⟨w, x, a1, a2, a3⟩
  · rw [a2] at g; exact .inl ⟨a1, g⟩
  · rw [a2] at g; exact .inr ⟨w, x, a1, g, a3⟩
theorem we_din {j : Nat} {kvs : List (List Key × PyData)} (h : ρ[j]? = some (.own d (.t kvs))) (hk : We c ty ρ fun x => ∃ ks, x = .d (kyD ks) ∧ k (.d (.bool (valD kvs ks).isSome))) : We c (tDIn ty (tVar j)) ρ k := fun σ H Q o q => hk σ H _ o fun v x H1 o1 e1 dx ⟨ks, hx, kx⟩ => by
  subst hx
  obtain ⟨us, e, _⟩ := o.ownT h
  refine ⟨_, e, ?_⟩
  rcases dget_at o o1 h dx with ⟨a1, g⟩ | ⟨w, x, a1, g, _⟩
  · exact ⟨d, none, rfl, g, q (.bl _) (.d (.bool _)) H1 o1 e1 (Dp.bl _) (by rw [a1] at kx; exact kx)⟩
  · exact ⟨d, some w, rfl, g, q (.bl _) (.d (.bool _)) H1 o1 e1 (Dp.bl _) (by rw [a1] at kx; exact kx)⟩
theorem we_dnin {j : Nat} {kvs : List (List Key × PyData)} (h : ρ[j]? = some (.own d (.t kvs))) (hk : We c ty ρ fun x => ∃ ks, x = .d (kyD ks) ∧ k (.d (.bool (!(valD kvs ks).isSome)))) : We c (tDNotIn ty (tVar j)) ρ k := fun σ H Q o q => hk σ H _ o fun v x H1 o1 e1 dx ⟨ks, hx, kx⟩ => by
  subst hx
  obtain ⟨us, e, _⟩ := o.ownT h
  refine ⟨_, e, ?_⟩
  rcases dget_at o o1 h dx with ⟨a1, g⟩ | ⟨w, x, a1, g, _⟩
  · exact ⟨d, none, rfl, g, q (.bl _) (.d (.bool _)) H1 o1 e1 (Dp.bl _) (by rw [a1] at kx; exact kx)⟩
  · exact ⟨d, some w, rfl, g, q (.bl _) (.d (.bool _)) H1 o1 e1 (Dp.bl _) (by rw [a1] at kx; exact kx)⟩
theorem we_dget {j : Nat} {kvs : List (List Key × PyData)} (h : ρ[j]? = some (.own d (.t kvs))) (hk : We c ty ρ fun x => ∃ ks v, x = .d (kyD ks) ∧ valD kvs ks = some v ∧ k (.d v)) : We c (tDGet (tVar j) ty) ρ k := fun σ H Q o q => by
  obtain ⟨us, e, _⟩ := o.ownT h
  refine ⟨_, e, hk σ H _ o fun v x H1 o1 e1 dx ⟨ks, w, hx, hv, kx⟩ => ?_⟩
  subst hx
  rcases dget_at o o1 h dx with ⟨a1, g⟩ | ⟨w', x, a1, g, dw⟩
  · rw [hv] at a1; cases a1
  · rw [hv] at a1; cases a1
    exact ⟨d, w', rfl, g, q w' (.d _) H1 o1 e1 dw kx⟩
theorem we_dget2 {j : Nat} {kvs : List (List Key × PyData)} (h : ρ[j]? = some (.own d (.t kvs))) (hk : We c ty ρ fun x => We c tx ρ fun z => ∃ ks d0, x = .d (kyD ks) ∧ z = .d d0 ∧ k (.d ((valD kvs ks).getD d0))) : We c (tDGet2 (tVar j) ty tx) ρ k := fun σ H Q o q => by
  obtain ⟨us, e, hd, _⟩ := o.ownT h
  refine ⟨_, e, d, rfl, .inr ⟨us, .inl hd⟩, hk σ H _ o fun v x H1 o1 e1 dx hz => hz σ H1 _ o1 fun z zd H2 o2 e2 dz ⟨ks, d0, hx, hz', kx⟩ => ?_⟩
  subst hx hz'
  rcases dget_at o o2 h (dv_mono e2.ex dx) with ⟨a1, g⟩ | ⟨w', x, a1, g, dw⟩
  · rw [a1] at kx
    exact ⟨none, g, q z (.d _) H2 o2 (e1.trans e2) dz kx⟩
  · rw [a1] at kx
    exact ⟨some w', g, q w' (.d _) H2 o2 (e1.trans e2) dw kx⟩
theorem ws_dput {j : Nat} {kvs : List (List Key × PyData)} (h : ρ[j]? = some (.own d (.t kvs))) (hz : kvs.length < 100000) (hv : We c tv ρ fun z => We c ty ρ fun y => ∃ ks d0, z = .d d0 ∧ y = .d (kyD ks) ∧ E.nx (ρ.set j (.own d (.t (putD kvs ks d0))))) : Ws c (sDPut (tVar j) ty tv) ρ E := fun D σ H e o =>
  hv σ H _ o fun v z H1 o1 e1 dz hy => by
    obtain ⟨us, q, _⟩ := o1.ownT h
    refine ⟨_, q, hy σ H1 _ o1 fun y yd H2 o2 e2 dy ⟨ks, d0, hz', hy', n⟩ => ?_⟩
    subst hz' hy'
    obtain ⟨us, q, h2, kd⟩ := o2.ownT h
    obtain ⟨b, rfl, hb⟩ := key_at (σ := σ) dy
    have kp := kd.put ks (v := v) (d := d0) (dp_mono e2.ex _ _ dz)
    exact ⟨d, _, rfl, DPut.t h2 hb (Evl.sz_lt (by rw [kd.len]; exact hz)), e.nx _ _ _ (o2.chgC (x' := .t _) h ⟨_, rfl, kp.k, kp.d⟩) n⟩
/-! by ints and texts -/
theorem dgetk_at {σ : L2.St} {H1 : Hp} {j : Nat} {kvs : List (Key × PyData)} (o1 : Ok c ρ σ H1) (h : ρ[j]? = some (.own d (.k kvs))) {v : V} {ks : Key} (dv : DvOk K (vis c ρ H1) v (.d (keyD ks))) :
    (valD kvs ks = none ∧ DGet H1 d v none) ∨ ∃ w x, valD kvs ks = some x ∧ DGet H1 d v (some w) ∧ Dp K (vis c ρ H1) w x := by
  obtain ⟨us, q, h1, kd⟩ := o1.ownK h
  obtain rfl := dp_key (k := ks) dv
  have g := DGet.k (k := ks) h1
  rcases kd.val ks with ⟨a1, a2⟩ | ⟨w, x, a1, a2, a3⟩
  · rw [a2] at g; exact .inl ⟨a1, g⟩
  · rw [a2] at g; exact .inr ⟨w, x, a1, g, a3⟩
theorem we_dinK {j : Nat} {kvs : List (Key × PyData)} (h : ρ[j]? = some (.own d (.k kvs))) (hk : We c ty ρ fun x => ∃ ks, x = .d (keyD ks) ∧ k (.d (.bool (valD kvs ks).isSome))) : We c (tDIn ty (tVar j)) ρ k := fun σ H Q o q => hk σ H _ o fun v x H1 o1 e1 dx ⟨ks, hx, kx⟩ => by
  subst hx
  obtain ⟨us, e, _⟩ := o.ownK h
  refine ⟨_, e, ?_⟩
  rcases dgetk_at o1 h dx with ⟨a1, g⟩ | ⟨w, x, a1, g, _⟩
  · exact ⟨d, none, rfl, g, q (.bl _) (.d (.bool _)) H1 o1 e1 (Dp.bl _) (by rw [a1] at kx; exact kx)⟩
  · exact ⟨d, some w, rfl, g, q (.bl _) (.d (.bool _)) H1 o1 e1 (Dp.bl _) (by rw [a1] at kx; exact kx)⟩
theorem we_dninK {j : Nat} {kvs : List (Key × PyData)} (h : ρ[j]? = some (.own d (.k kvs))) (hk : We c ty ρ fun x => ∃ ks, x = .d (keyD ks) ∧ k (.d (.bool (!(valD kvs ks).isSome)))) : We c (tDNotIn ty (tVar j)) ρ k := fun σ H Q o q => hk σ H _ o fun v x H1 o1 e1 dx ⟨ks, hx, kx⟩ => by
  subst hx
  obtain ⟨us, e, _⟩ := o.ownK h
  refine ⟨_, e, ?_⟩
  rcases dgetk_at o1 h dx with ⟨a1, g⟩ | ⟨w, x, a1, g, _⟩
  · exact ⟨d, none, rfl, g, q (.bl _) (.d (.bool _)) H1 o1 e1 (Dp.bl _) (by rw [a1] at kx; exact kx)⟩
  · exact ⟨d, some w, rfl, g, q (.bl _) (.d (.bool _)) H1 o1 e1 (Dp.bl _) (by rw [a1] at kx; exact kx)⟩
theorem we_dgetK {j : Nat} {kvs : List (Key × PyData)} (h : ρ[j]? = some (.own d (.k kvs))) (hk : We c ty ρ fun x => ∃ ks v, x = .d (keyD ks) ∧ valD kvs ks = some v ∧ k (.d v)) : We c (tDGet (tVar j) ty) ρ k := fun σ H Q o q => by
  obtain ⟨us, e, _⟩ := o.ownK h
  refine ⟨_, e, hk σ H _ o fun v x H1 o1 e1 dx ⟨ks, w, hx, hv, kx⟩ => ?_⟩
  subst hx
  rcases dgetk_at o1 h dx with ⟨a1, g⟩ | ⟨w', x, a1, g, dw⟩
  · rw [hv] at a1; cases a1
  · rw [hv] at a1; cases a1
    exact ⟨d, w', rfl, g, q w' (.d _) H1 o1 e1 dw kx⟩
theorem we_dgetK2 {j : Nat} {kvs : List (Key × PyData)} (h : ρ[j]? = some (.own d (.k kvs))) (hk : We c ty ρ fun x => We c tx ρ fun z => ∃ ks d0, x = .d (keyD ks) ∧ z = .d d0 ∧ k (.d ((valD kvs ks).getD d0))) : We c (tDGet2 (tVar j) ty tx) ρ k := fun σ H Q o q => by
  obtain ⟨us, e, hd, _⟩ := o.ownK h
  refine ⟨_, e, d, rfl, .inl ⟨us, .inl hd⟩, hk σ H _ o fun v x H1 o1 e1 dx hz => hz σ H1 _ o1 fun z zd H2 o2 e2 dz ⟨ks, d0, hx, hz', kx⟩ => ?_⟩
  subst hx hz'
  rcases dgetk_at o2 h (dv_mono e2.ex dx) with ⟨a1, g⟩ | ⟨w', x, a1, g, dw⟩
  · rw [a1] at kx
    exact ⟨none, g, q z (.d _) H2 o2 (e1.trans e2) dz kx⟩
  · rw [a1] at kx
    exact ⟨some w', g, q w' (.d _) H2 o2 (e1.trans e2) dw kx⟩
theorem ws_dputK {j : Nat} {kvs : List (Key × PyData)} (h : ρ[j]? = some (.own d (.k kvs))) (hz : kvs.length < 100000) (hv : We c tv ρ fun z => We c ty ρ fun y => ∃ ks d0, z = .d d0 ∧ y = .d (keyD ks) ∧ E.nx (ρ.set j (.own d (.k (putD kvs ks d0))))) : Ws c (sDPut (tVar j) ty tv) ρ E := fun D σ H e o =>
  hv σ H _ o fun v z H1 o1 e1 dz hy => by
    obtain ⟨us, q, _⟩ := o1.ownK h
    refine ⟨_, q, hy σ H1 _ o1 fun y yd H2 o2 e2 dy ⟨ks, d0, hz', hy', n⟩ => ?_⟩
    subst hz' hy'
    obtain ⟨us, q, h2, kd⟩ := o2.ownK h
    obtain rfl := dp_key (k := ks) dy
    have kp := kd.put ks (v := v) (d := d0) (dp_mono e2.ex _ _ dz)
    exact ⟨d, _, rfl, DPut.k h2 (Evl.sz_lt (by rw [kd.len]; exact hz)), e.nx _ _ _ (o2.chgC (x' := .k _) h ⟨_, rfl, kp.k, kp.d⟩) n⟩
/-! list(d) -/
def rListDT : List V → Hp → VK → Prop := fun xs H Q => ∃ d kvs, xs = [V.ref d] ∧ Rd H d (.dT kvs) ∧ ∀ p bs, H p = none → IsKeys H kvs bs → Q (.ref p) (upd H p (.lst (bs.map V.ref)))
theorem call_list_dTs {X : Cx} (hc : X.calm = true) : CallR X (.type "list") rListDT := call_list_dT hc
theorem keys_vis {H : Hp} (lt : ∀ a o, H a = some o → isMut o = false → vis c ρ H a = some o) : ∀ {us : List (List Key × V)} {bs : List Addr}, IsKeys H us bs → DpAll K (vis c ρ H) (bs.map V.ref) ((us.map (·.1)).map kyD)
  | _, _, .nil => .nil
  | _, _, .cons h t => .cons (dp_tup (lt _ _ h rfl) (keys_dpa _)) (keys_vis lt t)
theorem Ok.seen {σ : L2.St} {H : Hp} (o : Ok c ρ σ H) (a : Addr) (ob : HO) (h : H a = some ob) (m : isMut ob = false) : vis c ρ H a = some ob := o.noL a ob (noL_of h m)
theorem wf_listDT {k : List PyData → Prop} {i : Nat} {kvs : List (List Key × PyData)} (h : ρ[i]? = some (.own d (.t kvs))) (hk : k ((kvs.map (·.1)).map kyD)) : Wf c (tCB rListDT (tCons (tVar i) tNil)) ρ k := fun σ H Q o q => by
  obtain ⟨us, e1, h1, kd⟩ := o.ownT h
  refine ⟨_, e1, d, us, rfl, .inl h1, fun p bs hp ik => ?_⟩
  have dd := keys_vis (K := K) (c := c) (ρ := ρ) (fun a ob h m => o.seen a ob h m) ik
  rw [kd.k] at dd
  obtain ⟨h0, o4, s4, d4⟩ := o.fresh (Stp.refl _) hp dd
  exact q p _ _ _ h0 upd_same o4 s4 d4 hk
/-! sorted(pairs) -/
theorem cr_sortPs (K : PySem.W.Frag) {X : Cx} (h : X.K = K := by rfl) : CallR X (.builtin "sorted") (rSortedPO K) := h ▸ cr_sortedPO
def lexLe (a b : Int × Int) : Prop := a.1 < b.1 ∨ (a.1 = b.1 ∧ a.2 ≤ b.2)
abbrev prD (z : Int × Int) : PyData := tupI z.1 z.2
noncomputable def prOf (H : Hp) (v : V) : Int × Int := match v with
  | .ref t => match H t with
    | some (.tup [.int i, .int j]) => (i, j)
    | _ => (0, 0)
  | _ => (0, 0)
theorem dpa_prs {G H : Hp} (s : Ex G H) : ∀ {zs : List (Int × Int)} {vs : List V}, DpAll K G vs (zs.map prD) → vs.map (prOf H) = zs ∧ ∀ x ∈ vs, ∃ t, x = V.ref t ∧ G t = some (.tup [.int (prOf H x).1, .int (prOf H x).2])
  | [], _, .nil => ⟨rfl, fun x hx => by cases hx⟩
  | z :: zs, _, .cons (v := v) h t => by
    obtain ⟨e1, e2⟩ := dpa_prs s t
    have h : Dp K G v (.tuple [.int z.1, .int z.2]) := h
    cases h with
    | @tup b us _ hp hs ha =>
      cases ha with
      | cons a1 ha =>
        cases ha with
        | cons a2 ha =>
          cases ha
          obtain rfl := dp_int a1
          obtain rfl := dp_int a2
          have e : prOf H (.ref b) = z := by
            show (match H b with | some (.tup [.int i, .int j]) => (i, j) | _ => (0, 0)) = z
            rw [s _ _ hp]
          refine ⟨by rw [List.map_cons, e1, e], fun x hx => ?_⟩
          rcases List.mem_cons.mp hx with rfl | hx
          · exact ⟨b, rfl, by rw [e]; exact hp⟩
          · exact e2 x hx
theorem prs_dpa {G H : Hp} : ∀ {vs : List V}, (∀ x ∈ vs, ∃ t, x = V.ref t ∧ G t = some (.tup [.int (prOf H x).1, .int (prOf H x).2])) → DpAll K G vs ((vs.map (prOf H)).map prD)
  | [], _ => .nil
  | v :: vs, h => by
    obtain ⟨t, e, g⟩ := h v (by simp)
    refine .cons ?_ (prs_dpa fun x hx => h x (by simp [hx]))
    have : v = .ref t := e
    rw [this] at g ⊢
    exact dp_tup g (.cons (.int _) (.cons (.int _) .nil))
theorem wf_sortP {k : List PyData → Prop} (h : We c te ρ fun x => ∃ zs : List (Int × Int), x = .d (.list (zs.map prD)) ∧ ∀ ys : List (Int × Int), ys.Perm zs → ys.Pairwise lexLe → k (ys.map prD)) : Wf c (tCB (rSortedPO K) (tCons te tNil)) ρ k := fun σ H Q o q => h σ H _ o fun v x H1 o1 e1 d1 ⟨zs, hx, hk⟩ => by
  subst hx
  change Dp _ _ _ _ at d1
  cases d1 with
  | @lst a vs _ _ hs ha =>
    obtain ⟨m1, m2⟩ := dpa_prs (hid_sub : Ex (vis c ρ H1) H1) ha
    refine ⟨a, vs, prOf H1, rfl, ex_l hid_sub hs, fun x hx => ?_, fun ys p srt stb hp => ?_⟩
    · obtain ⟨t, e, g⟩ := m2 x hx
      exact ⟨t, e, (hid_some g).2⟩
    · have pm : ys.Perm vs := stb.perm
      have dd : DpAll K (vis c ρ H1) ys ((ys.map (prOf H1)).map prD) := prs_dpa fun x hx => m2 x (pm.mem_iff.mp hx)
      obtain ⟨h0, o4, s4, d4⟩ := o1.fresh e1 hp dd
      refine q p _ _ _ h0 upd_same o4 s4 d4 (hk _ (by rw [← m1]; exact pm.map _) ?_)
      rw [List.pairwise_map]
      refine List.Pairwise.imp (fun {x y} h => ?_) (show List.Pairwise _ ys from srt)
      have h : SrtO.lexB (prOf H1 y) (prOf H1 x) = false := h
      have h := SrtO.lexB_no.mp h
      unfold lexLe
      omega
/-! in of data -/
theorem op_inDs (K : PySem.W.Frag) {X : Cx} (hu : X.A.units + 65 < cLine) (h : X.K = K := by rfl) : OpR X (compareOp .In) (rInD K) := h ▸ op_inD hu
theorem op_notInDs (K : PySem.W.Frag) {X : Cx} (hu : X.A.units + 65 < cLine) (h : X.K = K := by rfl) : OpR X (compareOp .NotIn) (rNotInD K) := h ▸ op_notInD hu
theorem rv_inD {x : PyData} {ds : List PyData} (h1 : SeqAt.shaped x = true) (h2 : SeqAt.shaped (.list ds) = true) (h : k (.d (.bool (ds.any fun z => PyData.eqv z x)))) : Rv c (rInD K) ρ (.d x) (.d (.list ds)) k := fun σ H v u Q o d1 d2 q =>
  ⟨x, ds, Dp.to _ _ (SeqAt.canLay_of_shaped h1) (dp_mono hid_sub _ _ d1), Dp.to _ _ (SeqAt.canLay_of_shaped h2) (dp_mono hid_sub _ _ d2), h1, h2, q.val o (x := .d _) (Dp.bl _) h⟩
theorem rv_notInD {x : PyData} {ds : List PyData} (h1 : SeqAt.shaped x = true) (h2 : SeqAt.shaped (.list ds) = true) (h : k (.d (.bool (!ds.any fun z => PyData.eqv z x)))) : Rv c (rNotInD K) ρ (.d x) (.d (.list ds)) k := fun σ H v u Q o d1 d2 q =>
  ⟨x, ds, Dp.to _ _ (SeqAt.canLay_of_shaped h1) (dp_mono hid_sub _ _ d1), Dp.to _ _ (SeqAt.canLay_of_shaped h2) (dp_mono hid_sub _ _ d2), h1, h2, q.val o (x := .d _) (Dp.bl _) h⟩
def rMinI : List V → Hp → VK → Prop := fun xs H Q => ∃ i j, xs = [.int i, .int j] ∧ Q (.int (if j < i then j else i)) H
theorem call_minI {X : Cx} (hc : X.calm = true) : CallR X (.builtin "min") rMinI := call_min2 hc
theorem rc_minI {i j : Int} (h : k (.d (.int (if j < i then j else i)))) : Rc c rMinI ρ [.d (.int i), .d (.int j)] k := fun σ H vs Q o d q => by
  cases d with
  | cons d1 d2 =>
    cases d2 with
    | cons d2 d3 =>
      cases d3
      obtain rfl := dp_int d1
      obtain rfl := dp_int d2
      exact ⟨i, j, rfl, q.val o (x := .d _) (Dp.int _) h⟩
end
end Py

set_option Elab.async false
set_option linter.all false
set_option autoImplicit false
set_option maxRecDepth 100000
set_option maxHeartbeats 4000000
/-! Errors with fields. -/
namespace Py
open PySem hiding start
open L2
open Evl (Ex ex_rd ex_l ex_t fresh_back)
open Classical
section
variable {K : PySem.W.Frag} {c c' : Ctx K} {ρ : Rho} {E : DE} {ta tb te to : TE} {t u : TS} {k : Dv → Prop}
/-- the fields of an error, as data -/
abbrev FD := List (Str × PyData)
def XdOk (K : PySem.W.Frag) (G : Hp) : Option Addr → Option FD → Prop
  | none, none => True
  | some d, some fs => ∃ us : List (Str × V), G d = some (.xd us) ∧ us.map (·.1) = fs.map (·.1) ∧ DpAll K G (us.map (·.2)) (fs.map (·.2))
  | _, _ => False
theorem xd_mono {G G' : Hp} (e : Ex G G') : ∀ {d : Option Addr} {fo : Option FD}, XdOk K G d fo → XdOk K G' d fo
  | none, none, _ => trivial
  | some _, some _, ⟨us, h1, h2, h3⟩ => ⟨us, e _ _ h1, h2, dpa_mono e _ _ h3⟩
  | none, some _, h => h.elim
  | some _, none, h => h.elim
abbrev PTF (K : PySem.W.Frag) := Ctx K → List Dv → (Dv → Prop) → (Value → Option FD → Prop) → Prop
def spF (K : PySem.W.Frag) (P : PTF K) : Sp := fun vs H Q E => ∃ (c : Ctx K) (xs : List Dv) (k : Dv → Prop) (x : Value → Option FD → Prop), c.W H ∧ c.B = hid c.L H ∧ DvAll K c.B vs xs ∧ P c xs k x ∧
  (∀ v y H', c.W H' → Ex c.B (hid c.L H') → DvOk K (hid c.L H') v y → k y → Q v H') ∧ ∀ cls d fo H', c.W H' → Ex c.B (hid c.L H') → XdOk K (hid c.L H') d fo → x cls fo → E cls d H'
theorem callF_core {P : PTF K} {σ : L2.St} {H : Hp} {vs : List V} {xs : List Dv} {Q : VK} {X : XK} {k : Dv → Prop} {x : Value → Option FD → Prop} (o : Ok c ρ σ H) (d : DvAll K (vis c ρ H) vs xs) (h : ∀ c', Le c c' → P c' xs k x)
    (q : Qk c ρ σ H k Q) (e : ∀ cls d fo H', Ok c ρ σ H' → Stp c ρ H H' → XdOk K (vis c ρ H') d fo → x cls fo → X cls d H') : spF K P vs H Q X := by
  refine ⟨c.shut ρ H o.w fun a z => o.mut z, xs, k, x, ⟨o.w, fun _ _ => rfl⟩, rfl, d, h _ o.le, fun v y H' w b dv ky => ?_, fun cls d fo H' w b xd kx => ?_⟩
  · have s : Stp c ρ H H' := ⟨b, w.2⟩
    exact q v y H' (o.grow w.1 b w.2) s dv ky
  · exact e cls d fo H' (o.grow w.1 b w.2) ⟨b, w.2⟩ xd kx
theorem we_callF0 {P : PTF K} {X : XK} {t : TA} (h : Wa c t ρ fun xs => ∀ c', Le c c' → P c' xs k fun _ _ => False) : We c (tCall (spF K P) [] X t) ρ k := fun σ H Q o q =>
  h σ H _ o fun vs xs H1 o1 e1 d1 h1 => by
    rw [List.append_nil]
    exact callF_core o1 d1 h1 (q.to e1) fun _ _ _ _ _ _ _ z => z.elim
/-- what is wished of a raised error -/
def XOkF (c : Ctx K) (W : WX) (x : Rho → Value → Option FD → Prop) : Prop := ∀ ρ σ H cls d fo, Ok c ρ σ H → XdOk K (vis c ρ H) d fo → x ρ cls fo → W cls d σ H
theorem vis_le (le : Le c c') {H : Hp} : Ex (vis c' ρ H) (vis c ρ H) := hid_less fun a z => z.imp (le.L a) id
theorem XOkF.le {W : WX} {x : Rho → Value → Option FD → Prop} (h : XOkF c W x) (le : Le c c') : XOkF c' W x := fun ρ σ H cls d fo o xd z => h ρ σ H cls d fo (ok_le le o) (xd_mono (vis_le le) xd) z
/-- of errors without fields -/
theorem XOkF.toX {W : WX} {x : Rho → Value → Option FD → Prop} (h : XOkF c W x) : XOk c W fun ρ cls => x ρ cls none := fun ρ σ H cls o z => h ρ σ H cls none none o trivial z
theorem we_callSF {P : PTF K} {W : WX} {x : Rho → Value → Option FD → Prop} {t : TA} (hx : XOkF c W x) (h : Wa c t ρ fun xs => ∀ c', Le c c' → P c' xs k (x ρ)) : We c (tCallS (spF K P) (WE W) t) ρ k := fun σ H Q o q =>
  h σ H _ o fun vs xs H1 o1 e1 d1 h1 => callF_core o1 d1 h1 (q.to e1) fun cls d fo H' o' _ xd z => hx ρ σ H' cls d fo o' xd z
theorem run_spF {P : PTF K} {vs : List V} {H : Hp} {Q : VK} {X : XK} {N : List Str} (h : spF K P vs H Q X)
    (hw : ∀ (c : Ctx K) xs k x, P c xs k x → xs.length ≤ N.length ∧ (XOkF c (fun cls d _ H => X cls d H) (fun _ => x) → Ws c t (startR N.length xs) ⟨fun _ => k (.d .none), k, fun _ => False, fun _ => False⟩)) :
    t { nx := fun _ H' => Q .non H', rt := Q } (start N vs) H := by
  obtain ⟨c, xs, k, x, w, b, d, p, q, e⟩ := h
  obtain ⟨hl, hw⟩ := hw c xs k x p
  refine hw (fun ρ σ H cls d fo o xd z => e cls d fo H o.w o.b (xd_mono vis_out xd) z) _ _ _ ⟨fun ρ σ H' o z => q .non (.d .none) H' o.w o.b Dp.non z, q, fun _ _ _ _ z => z.elim, fun _ _ _ _ z => z.elim⟩ (start_ok w b d hl)
theorem spF_len {P : PTF K} {n : Nat} (hp : ∀ (c : Ctx K) xs k x, P c xs k x → xs.length = n) : ∀ vs H Q X, spF K P vs H Q X → vs.length = n := fun vs H Q X ⟨c, xs, k, x, _, _, d, p, _⟩ => (dva_len d).trans (hp c xs k x p)
theorem xokF_none {W : WX} : XOkF c W fun _ _ _ => False := fun _ _ _ _ _ _ _ _ z => z.elim
/-! ### an __init__ that keeps what it is handed -/
def spIn1 (C : Addr) (f : Str) : Sp := fun vs H Q _ => ∃ (a : Addr) (y : V), vs = [.ref a, y] ∧ H a = some (exo a C none) ∧ ∀ d, H d = none → d ≠ a → Q .non (upd (upd H d (exd d [(f, y)])) a (exo a C (some d)))
def spIn2 (C : Addr) (f g : Str) : Sp := fun vs H Q _ => ∃ (a : Addr) (y z : V), vs = [.ref a, y, z] ∧ H a = some (exo a C none) ∧ ∀ d, H d = none → d ≠ a → Q .non (upd (upd (upd H d (exd d [(f, y)])) a (exo a C (some d))) d (exd d [(g, z), (f, y)]))
theorem body_In1 {C : Addr} {f : Str} {vs : List V} {H : Hp} {Q : VK} {X : XK} {N : List Str} (hN : N.length = 2) (T : OexC K C) (hf : PySem.W.findIn K (.ref C) f = some none) (h : spIn1 C f vs H Q X) :
    tOst K f (tVar 0) (tVar 1) { nx := fun _ H' => Q .non H', rt := Q } (start N vs) H := by
  obtain ⟨a, y, rfl, ha, h⟩ := h
  match N, hN with
  | [n1, n2], _ => exact ⟨y, rfl, _, rfl, a, C, rfl, T, hf, .inl ⟨ha, h⟩⟩
theorem body_In2 {C : Addr} {f g : Str} {vs : List V} {H : Hp} {Q : VK} {X : XK} {N : List Str} (hN : N.length = 3) (T : OexC K C) (hf : PySem.W.findIn K (.ref C) f = some none) (hg : PySem.W.findIn K (.ref C) g = some none) (h : spIn2 C f g vs H Q X) :
    tSeq (tOst K f (tVar 0) (tVar 1)) (tOst K g (tVar 0) (tVar 2)) { nx := fun _ H' => Q .non H', rt := Q } (start N vs) H := by
  obtain ⟨a, y, z, rfl, ha, h⟩ := h
  match N, hN with
  | [n1, n2, n3], _ =>
    refine ⟨y, rfl, _, rfl, a, C, rfl, T, hf, .inl ⟨ha, fun d hd hne => ?_⟩⟩
    refine ⟨z, rfl, _, rfl, a, C, rfl, T, hg, .inr ⟨d, [(f, y)], upd_same, ?_, by show 1 ≤ 900; decide, h d hd hne⟩⟩
    rw [upd_ne hne, upd_same]
/-- raise C(e) -/
def tRaise1 (C : Addr) (f : Str) (W : WX) (ta : TA) : TS := fun _ σ H => tMkO C (spIn1 C f) [] ta σ H fun cls d H' => W cls d σ H'
def tRaise2 (C : Addr) (f g : Str) (W : WX) (ta : TA) : TS := fun _ σ H => tMkO C (spIn2 C f g) [] ta σ H fun cls d H' => W cls d σ H'
theorem xd_end {a d : Addr} {H1 : Hp} {o1 o2 : HO} {fs : List (Str × V)} (ha : H1 a = none) (hne : d ≠ a) (H2 : Hp) (h : ∀ b, b ≠ a → b ≠ d → H2 b = H1 b) : upd (del H2 a) d (.xd fs) = upd H1 d (.xd fs) := by
  funext b
  by_cases e : b = d
  · rw [e, upd_same, upd_same]
  · rw [upd_ne e, upd_ne e]
    by_cases e2 : b = a
    · rw [e2, del_same, ha]
    · rw [del_ne e2, h b e2 e]
theorem xd_new {σ : L2.St} {H1 : Hp} {d : Addr} {us : List (Str × V)} {fs : FD} (o1 : Ok c ρ σ H1) (hd : H1 d = none) (h1 : us.map (·.1) = fs.map (·.1)) (h2 : DpAll K (vis c ρ H1) (us.map (·.2)) (fs.map (·.2))) : Ok c ρ σ (upd H1 d (.xd us)) ∧ XdOk K (vis c ρ (upd H1 d (.xd us))) (some d) (some fs) := by
  obtain ⟨o2, e2⟩ := o1.new (o := .xd us) hd
  exact ⟨o2, us, vis_upd (o1.nh hd), h1, dpa_mono e2.ex _ _ h2⟩
theorem ws_rs1 {C : Addr} {f : Str} {W : WX} {x : Rho → Value → Option FD → Prop} (hx : XOkF c W x) (h : We c te ρ fun y => ∃ d, y = .d d ∧ x ρ (.ref C) (some [(f, d)])) : Ws c (tRaise1 C f W (tCons te tNil)) ρ E := fun D σ H e o =>
  h σ H _ o fun v y H1 o1 s1 dy ⟨d, hy, hxx⟩ => by
    subst hy
    refine ⟨by show 1 ≤ 1000; decide, fun a ha => ⟨a, v, rfl, upd_same, fun dd hd hne => ⟨rfl, dd, [(f, v)], upd_same, ?_, ?_, ?_⟩⟩⟩
    · rw [upd_ne hne, upd_same]
    · rw [upd_ne hne] at hd; exact hd
    · rw [upd_ne hne] at hd
      rw [xd_end (o1 := exo a C none) (o2 := exo a C none) ha hne _ fun b b1 b2 => by rw [upd_ne b1, upd_ne b2, upd_ne b1]]
      obtain ⟨o2, xd⟩ := xd_new (fs := [(f, d)]) (us := [(f, v)]) o1 hd rfl (.cons dy .nil)
      exact hx ρ σ _ _ _ _ o2 xd hxx
theorem ws_rs2 {C : Addr} {f g : Str} {W : WX} {x : Rho → Value → Option FD → Prop} (hx : XOkF c W x) (h : We c ta ρ fun y => ∃ d, y = .d d ∧ We c tb ρ fun z => ∃ d2, z = .d d2 ∧ x ρ (.ref C) (some [(g, d2), (f, d)])) : Ws c (tRaise2 C f g W (tCons ta (tCons tb tNil))) ρ E := fun D σ H e o =>
  h σ H _ o fun v y H1 o1 s1 dy ⟨d, hy, h2⟩ => by
    subst hy
    refine h2 σ H1 _ o1 fun v2 z H2 o2 s2 dz ⟨d2, hz, hxx⟩ => ?_
    subst hz
    refine ⟨by show 2 ≤ 1000; decide, fun a ha => ⟨a, v, v2, rfl, upd_same, fun dd hd hne => ⟨rfl, dd, [(g, v2), (f, v)], ?_, upd_same, ?_, ?_⟩⟩⟩
    · rw [upd_ne (Ne.symm hne), upd_same]
    · rw [upd_ne hne] at hd; exact hd
    · rw [upd_ne hne] at hd
      rw [xd_end (o1 := exo a C none) (o2 := exo a C none) ha hne _ fun b b1 b2 => by rw [upd_ne b2, upd_ne b1, upd_ne b2, upd_ne b1]]
      obtain ⟨o3, xd⟩ := xd_new (fs := [(g, d2), (f, d)]) (us := [(g, v2), (f, v)]) o2 hd rfl (.cons dz (.cons (dp_mono s2.ex _ _ dy) .nil))
      exact hx ρ σ _ _ _ _ o3 xd hxx
/-! ### try -/
theorem ws_tAsF {tb0 : WX → TS} {ts : Addr → Value → Option Addr → TS} {Wout : WX} {xo : Rho → Value → Option FD → Prop} {C : Value} {i : Nat} (ho : XOkF c Wout xo)
    (h : ∀ W, XOkF c W (fun ρ' cls fo => ∃ b, PySem.W.exmOne K cls C = some b ∧
        (b = true → ∀ (a : Addr) (d : Option Addr) (c1 : Ctx K), Le c c1 → XdOk K c1.B d fo → Ws c1 (ts a cls d) (ρ'.set i (.val (.r (.ref a)))) ⟨fun ρ2 => E.nx (ρ2.set i .un), E.rt, fun ρ2 => E.bk (ρ2.set i .un), fun ρ2 => E.ct (ρ2.set i .un)⟩) ∧ (b = false → xo ρ' cls fo)) → Ws c (tb0 W) ρ E) :
    Ws c (tTryAs K C i tb0 ts Wout) ρ E := fun D σ H e o => by
  refine h (wAs K C i ts Wout D) (fun ρ' σ' H' cls d fo o' xd ⟨b, hb, h1, h2⟩ => ⟨b, hb, fun z a ha => ?_, fun z => ho ρ' σ' H' cls d fo o' xd (h2 z)⟩) D σ H e o
  have e1 := e.at' (B := vis c ρ' H') o'.base
  refine h1 z a d (c.at (vis c ρ' H')) (le_at o'.base) xd _ _ _ ⟨fun ρ2 σ2 H2 o2 z2 => e1.nx _ _ _ (o2.un i none) z2, e1.rt, fun ρ2 σ2 H2 o2 z2 => e1.bk _ _ _ (o2.un i none) z2, fun ρ2 σ2 H2 o2 z2 => e1.ct _ _ _ (o2.un i none) z2⟩ (o'.at'.put (x := .r (.ref a)) rfl i)
/-- a field of the error that the suite holds -/
theorem we_xf {a C : Addr} {d : Option Addr} {f : Str} {fs : FD} {x : PyData} {i : Nat} (hi : ρ[i]? = some (.val (.r (.ref a)))) (xd : XdOk K c.B d (some fs)) (hf : fs.lookup f = some x) (hk : k (.d x)) : We c (tXf a (.ref C) d C f (tVar i)) ρ k := fun σ H Q o q => by
  obtain ⟨u, e, v, rfl, rfl⟩ := o.sl i _ hi
  cases d with
  | none => exact xd.elim
  | some dd =>
  obtain ⟨us, h1, h2, h3⟩ := xd
  have key : ∀ {us : List (Str × V)} {fs : FD}, us.map (·.1) = fs.map (·.1) → DpAll K c.B (us.map (·.2)) (fs.map (·.2)) → fs.lookup f = some x → ∃ w, us.lookup f = some w ∧ Dp K c.B w x := by
    intro us
    induction us with
    | nil =>
      intro fs e1 _ e3
      cases fs with
      | nil => cases e3
      | cons p fs => cases e1
    | cons p us ih =>
      intro fs e1 e2 e3
      cases fs with
      | nil => cases e1
      | cons r fs =>
        obtain ⟨p1, p2⟩ := p
        obtain ⟨r1, r2⟩ := r
        rw [List.map_cons, List.map_cons] at e1
        injection e1 with e1 e1'
        have e1 : p1 = r1 := e1
        subst e1
        cases e2 with
        | cons d1 d2 =>
        rw [List.lookup_cons] at e3 ⊢
        cases z : (f == p1) with
        | true =>
          rw [z] at e3
          have : r2 = x := Option.some.inj e3
          subst this
          exact ⟨p2, rfl, d1⟩
        | false =>
          rw [z] at e3
          exact ih e1' d2 e3
  obtain ⟨w, hw, dw⟩ := key h2 h3 hf
  have hH : H dd = some (.xd us) := (hid_some (o.b dd _ h1)).2
  exact ⟨_, e, rfl, rfl, dd, us, w, rfl, hH, hw, q.val o (x := .d _) (dp_mono o.base _ _ dw) hk⟩
end
end Py
namespace PySem.W
open PySem PySem.Spec PySem.Calls PyProof.Rows
section
variable {prog : Program} {w : World} {A : Around} {E : Value → Shared → Prop} {s : Shared} {K : Frag} {x D : Addr} {ox : Obj} {od : Option Obj}
theorem findObj_dataD {C : Addr} {name : Str} {a g : Value} (hc : (clsIn K C).isSome = true) (ha : findIn K (.ref C) name = some (some a)) (hg : specialIn K a "__get__" = some (some g)) (ht : takesIn K a = some true) : findObj K C od name = some (.bind g a) := by
  obtain ⟨cd, hc⟩ := Option.isSome_iff_exists.mp hc
  unfold findObj
  rw [hc, Option.bind_some, ha, Option.bind_some]
  simp [hg, ht]
/-- the class of an error that has its dict -/
theorem kin_classD {Q : Option Value → Shared → Prop} (C : L2.ExcC K D) (X : K.In s.heap) (I : InstAt s.heap x ox D od) (h : Q (some (.ref D)) { s with toks := s.toks + 1 }) : wpAny (model prog w) A (getAttr? (.ref x) "__class__") Q E s := by
  have hf : findObj K D od "__class__" = some (.bind (.builtin "getset_descriptor.__get__") (.builtin "object.__class__")) := findObj_dataD (by obtain ⟨cd, hc, _⟩ := any_some C.hd; rw [hc]; rfl) C.ha C.hn C.ht
  obtain ⟨hp, g, d, t, os⟩ := s
  have L0 := I.type (M := model prog w)
  have L1 := looks_findIn (M := model prog w) X C.hg
  have L2 := looks_findIn (M := model prog w) X C.hk
  have L3 := looks_find (M := model prog w) X I hf
  have sub : Looks (model prog w) hp (isInstance (.ref x) (.type "BaseException")) true := L0.andThen (looks_subIn X C.hs)
  have hx0 : (false && onTheHeap (Value.builtin "BaseException.__getattribute__")) = false := rfl
  have hx2 : (Value.builtin "BaseException.__getattribute__" == Value.builtin "object.__getattribute__") = false := by decide +kernel
  have hx1 : (onTheHeap (Value.ref D) && Value.builtin "BaseException.__getattribute__" == Value.builtin "object.__getattribute__") = false := by rw [hx2]; rfl
  unfold getAttr? getAttrBy? getAttrBy
  refine wpAny_bind (wpAny_mkText (wpAny_bind (wpAny_attempt (wpAny_holding (wpAny_bind (L0.at (wpAny_bind (L1.at ?_))))))))
  show wpAny _ _ (if (onTheHeap (Value.ref D) && Value.builtin "BaseException.__getattribute__" == Value.builtin "object.__getattribute__") = true then _ else _) _ _ _
  rw [hx1, if_neg Bool.false_ne_true]
  unfold getAttrByItsOwn hookBefore
  refine wpAny_bind ?_
  rw [if_pos (show onTheHeap (Value.ref D) = true from rfl)]
  refine L2.at ?_
  refine wpAny_bind (wpAny_attempt (wpAny_holding ?_))
  unfold callGetattribute
  rw [hx0, if_neg Bool.false_ne_true]
  unfold boundAndCalled
  rw [PySem.F.excAttr_ValueError.ga.bind (.ref x)]
  refine wpAny_bind (wpAny_pure ?_)
  show wpAny _ _ (call (.builtin "BaseException.__getattribute__") [.ref x, .str "__class__" t]) _ _ _
  refine wpAny_call (codeAny_call_builtin PySem.F.excAttr_ValueError.ga.plain PySem.F.entry_bexc_ga ?_)
  refine @check_slot (model prog w) _ _ ⟨hp, g, d, t + 1, os⟩ "BaseException.__getattribute__" "BaseException" "__getattribute__" (.ref x) [.str "__class__" t] [] _ (by decide +kernel) (by decide +kernel) sub (PySem.F.args_bexc_ga (.ref x) (.str "__class__" t)) ?_
  unfold Builtin.«object.__getattribute__»
  refine wpAny_bind (wpAny_of_eq (a := ((Value.ref x : Value), [Value.str "__class__" t])) (by first | rfl | (simp only [slotArgs]; rfl)) ?_)
  refine wpAny_bind (wpAny_pure (wpAny_bind (L0.at (wpAny_bind (L3.at ?_)))))
  show wpAny _ _ (holding [Value.builtin "object.__class__"] (call (.builtin "getset_descriptor.__get__") [.builtin "object.__class__", .ref x, .ref D]) >>= ret) _ _ _
  refine wpAny_bind (wpAny_holding (wpAny_call (class_get (s := ⟨hp, g, d, t + 1, os⟩) (ox := ox) (od := od) X I C.hm ?_)))
  refine wpAny_pure ?_
  show wpAny _ _ (handedOut (.ref D)) _ _ _
  rw [handedOut_of (v := .ref D) rfl]
  first
    | exact wpAny_pure (wpAny_pure h)
    | exact wpAny_pure h
    | exact wpAny_pure (wpAny_bind (wpAny_pure (wpAny_pure h)))
theorem kitx_excD (C : L2.ExcC K D) : KitX K (.ref x) (.ref D) (fun h => InstAt h x ox D od) where
  ty := fun _ _ _ I => I.type
  it := fun _ _ X _ => by
    obtain ⟨cdD, hcD, _⟩ := any_some C.hd
    unfold clsIn at hcD
    split at hcD
    · rename_i c' d' cd' sl' ho
      intro A' Q' E' s' k q
      unfold isType loadHead
      exact wpAny_bind (wpAny_loadPart (k _ _ (X _ _ ho)) (wpAny_pure q))
    · cases hcD
  ne := fun h tp dd its n sl X htp => by
    obtain ⟨cdD, hcD, _⟩ := any_some C.hd
    refine Bool.eq_false_iff.mpr fun q => ?_
    have e : D = tp := Value.ref.inj (beq_iff_eq.mp q)
    subst e
    unfold clsIn at hcD
    split at hcD
    · rename_i c' d' cd' sl' ho
      have z := (X _ _ ho).symm.trans htp
      cases z
    · cases hcD
  ca := fun X I k => kin_classD C X I k
end
end PySem.W
namespace L2
open PySem PySem.Spec PyProof.Rows
/-- isinstance(e, c), e the error that the suite holds, with its fields or without -/
def rIsD (K : PySem.W.Frag) (a : Addr) (cls : Value) (d : Option Addr) : List V → Hp → VK → Prop := fun xs H Q => ∃ (D : Addr) (c : V) (cv : Value) (b : Bool), cls = .ref D ∧ (∀ dd, d = some dd → ∃ fs, H dd = some (.xd fs)) ∧ ExcC K D ∧ xs = [.ref a, c] ∧ (∀ u, RelV c u → u = cv) ∧ PySem.W.kitOne K (.ref D) cv = some b ∧ Q (.bl b) H
theorem call_isD {X : Cx} {a : Addr} {oe : Obj} {cls : Value} {d : Option Addr} {pn : List (Addr × Obj)} (hz : Zc cls d oe) (hf : ∃ vs, oe.data = .fields vs) : CallR (X.suite a ((a, oe) :: pn)) (.builtin "isinstance") (rIsD X.K a cls d) := by
  intro pins s σ H xs us Q I r h
  obtain ⟨D, c, cv, b, rfl, hd, C, rfl, hcv, e, q⟩ := h
  cases r with
  | cons rx rr =>
    cases rr with
    | cons rt rr =>
      cases rr
      cases rx
      have ec := hcv _ rt
      subst ec
      obtain ⟨hget, _⟩ := I.pin (a, oe) (List.mem_append.mpr (.inl List.mem_cons_self))
      obtain ⟨vs, hv⟩ := hf
      have J : ∃ od, PySem.W.InstAt s.heap a oe D od := by
        cases d with
        | none =>
          obtain ⟨oc, od, oda, osl⟩ := oe
          obtain ⟨h1, h2⟩ := hz
          dsimp only at h1 h2 hv
          subst h1 h2 hv
          exact ⟨none, hget, rfl, rfl, trivial⟩
        | some dd =>
          obtain ⟨fs, hx⟩ := hd dd rfl
          have hx : ObjOk X.prog X.w H s.heap dd (.xd fs) := I.hok dd _ hx
          obtain ⟨mA, hns, hr⟩ := hx
          obtain ⟨od, ho, _⟩ := lookIn_ns hns
          exact ⟨some od, hget, hz.1, by unfold PySem.W.notCls; rw [hv], by rw [hz.2]; exact ho⟩
      obtain ⟨od, J⟩ := J
      exact PySem.W.kia_one (PySem.W.kitx_excD C) I.kIn J e (fun z => nomatch z) fun tk => ⟨.bl b, H, I.kept (t' := tk) fun _ _ z => z, rfl, q⟩
end L2
namespace Py
open PySem hiding start
open L2
section
variable {K : PySem.W.Frag} {c : Ctx K} {ρ : Rho} {k : Dv → Prop}
theorem call_isDs (K : PySem.W.Frag) {X : Cx} {a : Addr} {oe : Obj} {cls : Value} {d : Option Addr} {pn : List (Addr × Obj)} (hz : Zc cls d oe) (hf : ∃ vs, oe.data = .fields vs) (h : X.K = K := by rfl) : CallR (X.suite a ((a, oe) :: pn)) (.builtin "isinstance") (rIsD K a cls d) := h ▸ call_isD hz hf
theorem rc_isD {a D : Addr} {d : Option Addr} {fo : Option FD} {u : V} {cv : Value} {b : Bool} (xd : XdOk K c.B d fo) (C : ExcC K D) (hu : ∀ z, RelV u z → z = cv) (hb : PySem.W.kitOne K (.ref D) cv = some b) (h : k (.d (.bool b))) : Rc c (rIsD K a (.ref D) d) ρ [.r (.ref a), .r u] k := fun σ H vs Q o dv q => by
  cases dv with
  | cons d1 d2 =>
    cases d2 with
    | cons d2 d3 =>
      cases d3
      obtain rfl : _ = V.ref a := d1
      obtain rfl : _ = u := d2
      refine ⟨D, _, cv, b, rfl, fun dd e => ?_, C, rfl, hu, hb, q.val o (x := .d _) (Dp.bl _) h⟩
      subst e
      cases fo with
      | none => exact xd.elim
      | some fs =>
        obtain ⟨us, h1, _⟩ := xd
        exact ⟨us, (hid_some (o.b dd _ h1)).2⟩
end
end Py

set_option Elab.async false
set_option linter.all false
set_option autoImplicit false
set_option maxRecDepth 100000
set_option maxHeartbeats 4000000
/-! Own error classes with an __init__; errors made without arguments. -/
namespace Py
open PySem hiding start
open L2 PySem.Spec PyProof.Rows
/-- a statement of a class's body -/
def inCls (s : Stmt) (i : Nat) : Stmt := match s with
  | .ClassDef _ _ _ body _ _ _ _ _ _ _ => body.getD i (.Pass ⟨0, 0, 0, 0⟩)
  | _ => .Pass ⟨0, 0, 0, 0⟩
/-- the class's row, as it is asked for -/
def OexRow (K : PySem.W.Frag) (C : Addr) : Prop := ∃ nm q N bs bm sn sub ab col dd k0 k1 k2 k3 k5, K.lookup C = some (excClassObj nm q C N bs bm true sn sub ab col dd k0 k1 k2 k3 k5 "ValueError.__new__") ∧ PySem.HandSPX.refsVE bm = true
theorem oexRow_mk {K : PySem.W.Frag} {C : Addr} {nm q N bs bm sn sub ab col dd k0 k1 k2 k3 k5} (h : K.lookup C = some (excClassObj nm q C N bs bm true sn sub ab col dd k0 k1 k2 k3 k5 "ValueError.__new__")) (r : PySem.HandSPX.refsVE bm = true) : OexRow K C := ⟨nm, q, N, bs, bm, sn, sub, ab, col, dd, k0, k1, k2, k3, k5, h, r⟩
/-- a class's __init__ as it stands -/
def InF (K : PySem.W.Frag) (C : Addr) (qual : Str) (st : Stmt) : Prop := ∃ (f : Addr) (oc : Value) (od : Option Addr) (sl : Array (Option Value)) (kV dc pm : Value) (an : Option Addr) (cd ct : Value),
  PySem.W.findIn K (.ref C) "__init__" = some (some (.ref f)) ∧ PySem.W.typeIn K (.ref f) = some (.type "function") ∧ K.lookup f = some ⟨oc, od, .func (PySem.W.fnOf "__init__" qual (defArgs st) (defBody st) (defScope st) .none kV dc pm an cd ct), sl⟩ ∧ PySem.W.codeIn K cd qual = true ∧ PySem.W.keepIn K (.ref f) = true
theorem inf_mk {K : PySem.W.Frag} {C : Addr} {qual : Str} {st : Stmt} {f : Addr} {oc : Value} {od : Option Addr} {sl : Array (Option Value)} {kV dc pm : Value} {an : Option Addr} {cd ct : Value}
    (a : PySem.W.findIn K (.ref C) "__init__" = some (some (.ref f))) (t : PySem.W.typeIn K (.ref f) = some (.type "function")) (l : K.lookup f = some ⟨oc, od, .func (PySem.W.fnOf "__init__" qual (defArgs st) (defBody st) (defScope st) .none kV dc pm an cd ct), sl⟩) (c : PySem.W.codeIn K cd qual = true) (k : PySem.W.keepIn K (.ref f) = true) : InF K C qual st :=
  ⟨f, oc, od, sl, kV, dc, pm, an, cd, ct, a, t, l, c, k⟩
/-- a class that is made by its own __init__ -/
structure Ini (P : Program) (w : World) (K : PySem.W.Frag) (mg : Str → Option Value) (base : Heap) (x : Str) (C : Addr) (ps : List Str) (k : Nat) (sp : Sp) : Prop where
  T : OexC K C
  m : mg x = some (.ref C)
  ex : ∃ fI fd, PySem.W.findIn K (.ref C) "__init__" = some (some (.ref fI)) ∧ PySem.W.typeIn K (.ref fI) = some (.type "function") ∧ FnOk P w K mg base CX0 k fI fd ps sp ∧ Binds K fd ps []
section
variable {X : Cx} {k k' : Nat} {ps : List Str} {sp : Sp} {x : Str} {C : Addr} {p pos : Pos} {e : Expr} {es : List Expr} {t : TA} {W : WX}
theorem pmk_ini (D : Ini X.prog X.w X.K X.mg X.base x C ps k sp) (hk : k + 1 ≤ k') (hr : Room k' X.A) (ha : PA X (e :: es) t) (hg : Gl X x := by rfl) (hdb : (x == ("__debug__" : Str)) = false := by decide)
    (he : starEach (e :: es) X.env = (false, eval e X.env) :: starEach es X.env := by rfl) (hpl : (backTo pos (starEach es X.env)).any (·.1) = false := by rfl) : PMk X (.Call (.Name x p) (e :: es) [] pos) (tMkO C sp [] t) := by
  obtain ⟨fI, fd, iC, tI, F, b⟩ := D.ex
  exact pmk_oex D.T iC tI F (hr.mono hk) b .nil pass0 hg D.m ha hdb he hpl
theorem ps_raise1 {f : Str} {pos2 : Pos} (hc : X.calm = true) (tk : Takes X W) (h : PMk X (.Call (.Name x p) (e :: es) [] pos) (tMkO C (spIn1 C f) [] t)) : PS X (.Raise (some (.Call (.Name x p) (e :: es) [] pos)) none pos2) (tRaise1 C f W t) := ps_raise hc tk h
theorem ps_raise2 {f g : Str} {pos2 : Pos} (hc : X.calm = true) (tk : Takes X W) (h : PMk X (.Call (.Name x p) (e :: es) [] pos) (tMkO C (spIn2 C f g) [] t)) : PS X (.Raise (some (.Call (.Name x p) (e :: es) [] pos)) none pos2) (tRaise2 C f g W t) := ps_raise hc tk h
/-- X(), X an own error class without an __init__ -/
theorem pmk_own0 {bmB : List Value} {B newId initId : String} (F : ExcBaseFacts B newId initId bmB) (q : PySem.W.excIn X.K C bmB newId = true) (gC : X.mg x = some (.ref C)) (kC : PySem.W.keepIn X.K (.ref C) = true) (r : Raises X (.ref C)) (hg : Gl X x)
    (hdb : (x == ("__debug__" : Str)) = false := by decide) : PMk X (.Call (.Name x p) [] [] pos) (fun _ H Q => Q (.ref C) none H) := by
  intro pins s σ H Q I h
  refine wpAny_Call_Name_kw (ld_glob I hg gC ?_ hdb)
  refine PySem.W.callWith_K0 I.kIn kC ?_
  show wpAny _ _ (call (.ref C) []) _ _ _
  obtain ⟨bm, N, nm, qn, bs, hdct, sn, sub, ab, col, dd, k0, k1, k2, k3, k5, mN, hC, hN, hni, T⟩ := exc_obj I.kIn q
  refine wpAny_call_exc_subT F T hC hN hni (fun h' e hm => ?_) (by show 0 ≤ sizeLine; omega)
  exact mk_of I hm r h (I.hok.gone hm.new)
/-- e.f, in a suite -/
theorem pe_xfs {a : Addr} {oe : Obj} {cls : Value} {d : Option Addr} {pn : List (Addr × Obj)} {te : TE} {n : Str} (T : XfC X.K C) (hno : PySem.W.findIn X.K (.ref C) n = some none) (hz : Zc cls d oe) (hf : ∃ vs, oe.data = .fields vs) (he : PE (X.suite a ((a, oe) :: pn)) e te)
    (hb : attributeBase e n X.env (eval e X.env) = eval e X.env := by rfl) : PE (X.suite a ((a, oe) :: pn)) (.Attribute e n pos) (tXf a cls d C n te) := pe_xf T hno hz hf he hb
end
section
variable {P : Program} {w : World} {K : PySem.W.Frag} {mg : Str → Option Value} {base : Heap}
theorem ini1 {x qual : Str} {C : Addr} {st : Stmt} {f n1 n2 : Str} (T : OexC K C) (m : mg x = some (.ref C)) (hf : PySem.W.findIn K (.ref C) f = some none) (I : InF K C qual st) (S : FnScope [n1, n2] [n1, n2] (defScope st))
    (hb : ∀ {fI : Addr} {fd : FuncData}, Fun K "__init__" qual st fI fd → Binds K fd [n1, n2] [])
    (hbody : ∀ (cdv : Value) (A : Around) (outer : List Env) (s : Shared) (H : Hp) (fI : Addr) (E : XK), Room 0 (A.deeper (envOfC qual (defScope st) s.heap.objs.size fI cdv)) →
      PSs (cxOf CX0 P w K mg base [n1, n2] qual (defScope st) fI cdv A outer s H E).nox (defBody st) (tOst K f (tVar 0) (tVar 1))) : Ini P w K mg base x C [n1, n2] 1 (spIn1 C f) := by
  obtain ⟨fI, oc, od, sl, kV, dc, pm, an, cd, ct, a, t, l, c, k⟩ := I
  have F := fun_mk (st := st) l c k
  refine ⟨T, m, fI, _, a, t, F.ok S (fun vs H Q E h => ?_) (fun cdv A outer s H vs Q E hr h => ⟨_, hbody cdv A outer s H fI E hr, body_In1 rfl T hf h⟩), hb F⟩
  obtain ⟨_, _, rfl, _⟩ := h
  rfl
theorem ini2 {x qual : Str} {C : Addr} {st : Stmt} {f g n1 n2 n3 : Str} (T : OexC K C) (m : mg x = some (.ref C)) (hf : PySem.W.findIn K (.ref C) f = some none) (hg : PySem.W.findIn K (.ref C) g = some none) (I : InF K C qual st) (S : FnScope [n1, n2, n3] [n1, n2, n3] (defScope st))
    (hb : ∀ {fI : Addr} {fd : FuncData}, Fun K "__init__" qual st fI fd → Binds K fd [n1, n2, n3] [])
    (hbody : ∀ (cdv : Value) (A : Around) (outer : List Env) (s : Shared) (H : Hp) (fI : Addr) (E : XK), Room 0 (A.deeper (envOfC qual (defScope st) s.heap.objs.size fI cdv)) →
      PSs (cxOf CX0 P w K mg base [n1, n2, n3] qual (defScope st) fI cdv A outer s H E).nox (defBody st) (tSeq (tOst K f (tVar 0) (tVar 1)) (tOst K g (tVar 0) (tVar 2)))) : Ini P w K mg base x C [n1, n2, n3] 1 (spIn2 C f g) := by
  obtain ⟨fI, oc, od, sl, kV, dc, pm, an, cd, ct, a, t, l, c, k⟩ := I
  have F := fun_mk (st := st) l c k
  refine ⟨T, m, fI, _, a, t, F.ok S (fun vs H Q E h => ?_) (fun cdv A outer s H vs Q E hr h => ⟨_, hbody cdv A outer s H fI E hr, body_In2 rfl T hf hg h⟩), hb F⟩
  obtain ⟨_, _, _, rfl, _⟩ := h
  rfl
end
def tEither (t1 t2 : TE) : TE := fun σ H Q => t1 σ H Q ∨ t2 σ H Q
theorem pe_either {X : Cx} {e : Expr} {t1 t2 : TE} (h1 : PE X e t1) (h2 : PE X e t2) : PE X e (tEither t1 t2) := ⟨fun pins s σ H Q I h => h.elim (h1.run pins s σ H Q I) (h2.run pins s σ H Q I)⟩
section
variable {K : PySem.W.Frag} {c : Ctx K} {ρ : Rho} {k : Dv → Prop} {t1 t2 : TE}
theorem we_eitherL (h : We c t1 ρ k) : We c (tEither t1 t2) ρ k := fun σ H Q o q => .inl (h σ H Q o q)
theorem we_eitherR (h : We c t2 ρ k) : We c (tEither t1 t2) ρ k := fun σ H Q o q => .inr (h σ H Q o q)
theorem we_dicN (h : k (.d (.dict []))) : We c tDNewK ρ k := fun σ H Q o q => fun p hp => by
  obtain ⟨o2, e2⟩ := o.new (o := .dK []) hp
  exact q (.ref p) (.d (.dict [])) _ o2 e2 (Dp.dic (hp := vis_upd (o.nh hp))) h
theorem we_dicC (kvs : List (Key × V)) (hl : kvs.length ≤ 15) (h : k (.d (.dict []))) : We c (tDisp (kvs.map fun kv => (tC (kV kv.1), tC kv.2))) ρ k := fun σ H Q o q => fun p hp => by
  have key : ∀ (kvs : List (Key × V)) (σ : L2.St) (H : Hp) (Q : List (V × V) → Hp → Prop), Q (kvs.map fun kv => (kV kv.1, kv.2)) H → tPairs (kvs.map fun kv => (tC (kV kv.1), tC kv.2)) σ H Q := by
    intro kvs
    induction kvs with
    | nil => intro σ H Q h; exact h
    | cons kv kvs ih => intro σ H Q h; exact ih σ H _ h
  refine key kvs σ _ _ ⟨upd_same, kvs, rfl, hl, ?_⟩
  have e : upd (upd H p (.dK [])) p (.dK (mergeK [] kvs)) = upd H p (.dK (mergeK [] kvs)) := by
    funext b
    by_cases z : b = p
    · rw [z, upd_same, upd_same]
    · rw [upd_ne z, upd_ne z, upd_ne z]
  rw [e]
  obtain ⟨o2, e2⟩ := o.new (o := .dK (mergeK [] kvs)) hp
  exact q (.ref p) (.d (.dict [])) _ o2 e2 (Dp.dic (hp := vis_upd (o.nh hp))) h
end
end Py

set_option Elab.async false
set_option linter.all false
set_option autoImplicit false
set_option maxRecDepth 100000
set_option maxHeartbeats 4000000
set_option exponentiation.threshold 20000
open PySem hiding start
open L2 Py PySem.Spec PyProof.Rows
namespace My
def top (i : Nat) : Stmt := PySem.Challenge.pw_plymap_k19_whatever_things.main.body.getD i (.Pass ⟨0, 0, 0, 0⟩)
structure Ads where
  un : Unit
  PlyError : Addr
  NoNumber : Addr
  NoPoint : Addr
  BadLayer : Addr
  BadPlan : Addr
  NoFace : Addr
  Endless : Addr
  NoGround : Addr
  NoName : Addr
  Taken : Addr
  NoLayer : Addr
  TooMany : Addr
  BadWish : Addr
  NoSize : Addr
  NoText : Addr
  NoRow : Addr
structure Txt (K : PySem.W.Frag) (mg : Str → Option Value) (AA : Ads) : Prop where
  b_ValueError : mg "ValueError" = none
  b_abs : mg "abs" = none
  b_all : mg "all" = none
  b_bool : mg "bool" = none
  b_int : mg "int" = none
  b_isinstance : mg "isinstance" = none
  b_len : mg "len" = none
  b_list : mg "list" = none
  b_range : mg "range" = none
  b_tuple : mg "tuple" = none
  g_PlyError : mg "PlyError" = some (.ref AA.PlyError)
  g_NoNumber : mg "NoNumber" = some (.ref AA.NoNumber)
  g_NoPoint : mg "NoPoint" = some (.ref AA.NoPoint)
  g_BadLayer : mg "BadLayer" = some (.ref AA.BadLayer)
  g_BadPlan : mg "BadPlan" = some (.ref AA.BadPlan)
  g_NoFace : mg "NoFace" = some (.ref AA.NoFace)
  g_Endless : mg "Endless" = some (.ref AA.Endless)
  g_NoGround : mg "NoGround" = some (.ref AA.NoGround)
  g_NoName : mg "NoName" = some (.ref AA.NoName)
  g_Taken : mg "Taken" = some (.ref AA.Taken)
  g_NoLayer : mg "NoLayer" = some (.ref AA.NoLayer)
  g_TooMany : mg "TooMany" = some (.ref AA.TooMany)
  g_BadWish : mg "BadWish" = some (.ref AA.BadWish)
  g_NoSize : mg "NoSize" = some (.ref AA.NoSize)
  g_NoText : mg "NoText" = some (.ref AA.NoText)
  g_NoRow : mg "NoRow" = some (.ref AA.NoRow)
  x_NoNumber : PySem.W.excIn K AA.NoNumber [.type "ValueError", .type "Exception", .type "BaseException", .type "object"] "ValueError.__new__" = true
  kp_NoNumber : PySem.W.keepIn K (.ref AA.NoNumber) = true
  eb_NoNumber : PySem.W.subIn K (.ref AA.NoNumber) (.type "BaseException") = some true
  et_NoNumber : PySem.W.typeIn K (.ref AA.NoNumber) = some (.type "type")
  x_NoPoint : PySem.W.excIn K AA.NoPoint [.type "ValueError", .type "Exception", .type "BaseException", .type "object"] "ValueError.__new__" = true
  kp_NoPoint : PySem.W.keepIn K (.ref AA.NoPoint) = true
  eb_NoPoint : PySem.W.subIn K (.ref AA.NoPoint) (.type "BaseException") = some true
  et_NoPoint : PySem.W.typeIn K (.ref AA.NoPoint) = some (.type "type")
  x_BadPlan : PySem.W.excIn K AA.BadPlan [.type "ValueError", .type "Exception", .type "BaseException", .type "object"] "ValueError.__new__" = true
  kp_BadPlan : PySem.W.keepIn K (.ref AA.BadPlan) = true
  eb_BadPlan : PySem.W.subIn K (.ref AA.BadPlan) (.type "BaseException") = some true
  et_BadPlan : PySem.W.typeIn K (.ref AA.BadPlan) = some (.type "type")
  x_Endless : PySem.W.excIn K AA.Endless [.type "ValueError", .type "Exception", .type "BaseException", .type "object"] "ValueError.__new__" = true
  kp_Endless : PySem.W.keepIn K (.ref AA.Endless) = true
  eb_Endless : PySem.W.subIn K (.ref AA.Endless) (.type "BaseException") = some true
  et_Endless : PySem.W.typeIn K (.ref AA.Endless) = some (.type "type")
  x_NoName : PySem.W.excIn K AA.NoName [.type "ValueError", .type "Exception", .type "BaseException", .type "object"] "ValueError.__new__" = true
  kp_NoName : PySem.W.keepIn K (.ref AA.NoName) = true
  eb_NoName : PySem.W.subIn K (.ref AA.NoName) (.type "BaseException") = some true
  et_NoName : PySem.W.typeIn K (.ref AA.NoName) = some (.type "type")
  x_BadWish : PySem.W.excIn K AA.BadWish [.type "ValueError", .type "Exception", .type "BaseException", .type "object"] "ValueError.__new__" = true
  kp_BadWish : PySem.W.keepIn K (.ref AA.BadWish) = true
  eb_BadWish : PySem.W.subIn K (.ref AA.BadWish) (.type "BaseException") = some true
  et_BadWish : PySem.W.typeIn K (.ref AA.BadWish) = some (.type "type")
  x_NoSize : PySem.W.excIn K AA.NoSize [.type "ValueError", .type "Exception", .type "BaseException", .type "object"] "ValueError.__new__" = true
  kp_NoSize : PySem.W.keepIn K (.ref AA.NoSize) = true
  eb_NoSize : PySem.W.subIn K (.ref AA.NoSize) (.type "BaseException") = some true
  et_NoSize : PySem.W.typeIn K (.ref AA.NoSize) = some (.type "type")
  x_NoText : PySem.W.excIn K AA.NoText [.type "ValueError", .type "Exception", .type "BaseException", .type "object"] "ValueError.__new__" = true
  kp_NoText : PySem.W.keepIn K (.ref AA.NoText) = true
  eb_NoText : PySem.W.subIn K (.ref AA.NoText) (.type "BaseException") = some true
  et_NoText : PySem.W.typeIn K (.ref AA.NoText) = some (.type "type")
  x_NoRow : PySem.W.excIn K AA.NoRow [.type "ValueError", .type "Exception", .type "BaseException", .type "object"] "ValueError.__new__" = true
  kp_NoRow : PySem.W.keepIn K (.ref AA.NoRow) = true
  eb_NoRow : PySem.W.subIn K (.ref AA.NoRow) (.type "BaseException") = some true
  et_NoRow : PySem.W.typeIn K (.ref AA.NoRow) = some (.type "type")
  ox_BadLayer : OexC K AA.BadLayer
  xf_BadLayer : XfC K AA.BadLayer
  in_BadLayer : InF K AA.BadLayer "BadLayer.__init__" (inCls (top 4) 0)
  nf_BadLayer_ring : PySem.W.findIn K (.ref AA.BadLayer) "ring" = some none
  nf_BadLayer_at : PySem.W.findIn K (.ref AA.BadLayer) "at" = some none
  ox_NoFace : OexC K AA.NoFace
  xf_NoFace : XfC K AA.NoFace
  in_NoFace : InF K AA.NoFace "NoFace.__init__" (inCls (top 6) 0)
  nf_NoFace_number : PySem.W.findIn K (.ref AA.NoFace) "number" = some none
  ox_NoGround : OexC K AA.NoGround
  xf_NoGround : XfC K AA.NoGround
  in_NoGround : InF K AA.NoGround "NoGround.__init__" (inCls (top 8) 0)
  nf_NoGround_point : PySem.W.findIn K (.ref AA.NoGround) "point" = some none
  ox_Taken : OexC K AA.Taken
  xf_Taken : XfC K AA.Taken
  in_Taken : InF K AA.Taken "Taken.__init__" (inCls (top 10) 0)
  nf_Taken_name : PySem.W.findIn K (.ref AA.Taken) "name" = some none
  ox_NoLayer : OexC K AA.NoLayer
  xf_NoLayer : XfC K AA.NoLayer
  in_NoLayer : InF K AA.NoLayer "NoLayer.__init__" (inCls (top 11) 0)
  nf_NoLayer_name : PySem.W.findIn K (.ref AA.NoLayer) "name" = some none
  ox_TooMany : OexC K AA.TooMany
  xf_TooMany : XfC K AA.TooMany
  in_TooMany : InF K AA.TooMany "TooMany.__init__" (inCls (top 12) 0)
  nf_TooMany_most : PySem.W.findIn K (.ref AA.TooMany) "most" = some none
  ec_NoNumber : ExcC K AA.NoNumber
  ec_NoPoint : ExcC K AA.NoPoint
  ec_BadLayer : ExcC K AA.BadLayer
  ec_BadPlan : ExcC K AA.BadPlan
  ec_NoFace : ExcC K AA.NoFace
  ec_Endless : ExcC K AA.Endless
  ec_NoGround : ExcC K AA.NoGround
  ec_NoName : ExcC K AA.NoName
  ec_Taken : ExcC K AA.Taken
  ec_NoLayer : ExcC K AA.NoLayer
  ec_TooMany : ExcC K AA.TooMany
  ec_BadWish : ExcC K AA.BadWish
  ec_NoSize : ExcC K AA.NoSize
  ec_NoText : ExcC K AA.NoText
  ec_NoRow : ExcC K AA.NoRow
  kt_NoNumber : PySem.W.kitOne K (.ref AA.NoNumber) (.ref AA.NoNumber) = some true ∧ PySem.W.kitOne K (.ref AA.NoNumber) (.ref AA.NoPoint) = some false ∧ PySem.W.kitOne K (.ref AA.NoNumber) (.ref AA.BadLayer) = some false ∧ PySem.W.kitOne K (.ref AA.NoNumber) (.ref AA.BadPlan) = some false ∧ PySem.W.kitOne K (.ref AA.NoNumber) (.ref AA.NoFace) = some false ∧ PySem.W.kitOne K (.ref AA.NoNumber) (.ref AA.Endless) = some false ∧ PySem.W.kitOne K (.ref AA.NoNumber) (.ref AA.NoGround) = some false ∧ PySem.W.kitOne K (.ref AA.NoNumber) (.ref AA.NoName) = some false ∧ PySem.W.kitOne K (.ref AA.NoNumber) (.ref AA.Taken) = some false ∧ PySem.W.kitOne K (.ref AA.NoNumber) (.ref AA.NoLayer) = some false ∧ PySem.W.kitOne K (.ref AA.NoNumber) (.ref AA.TooMany) = some false ∧ PySem.W.kitOne K (.ref AA.NoNumber) (.ref AA.BadWish) = some false ∧ PySem.W.kitOne K (.ref AA.NoNumber) (.ref AA.NoSize) = some false ∧ PySem.W.kitOne K (.ref AA.NoNumber) (.ref AA.NoText) = some false ∧ PySem.W.kitOne K (.ref AA.NoNumber) (.ref AA.NoRow) = some false ∧ PySem.W.kitOne K (.ref AA.NoNumber) (.type "ValueError") = some true
  sp_NoNumber : PySem.W.subIn K (.ref AA.NoNumber) (.ref AA.PlyError) = some true
  kt_NoPoint : PySem.W.kitOne K (.ref AA.NoPoint) (.ref AA.NoNumber) = some false ∧ PySem.W.kitOne K (.ref AA.NoPoint) (.ref AA.NoPoint) = some true ∧ PySem.W.kitOne K (.ref AA.NoPoint) (.ref AA.BadLayer) = some false ∧ PySem.W.kitOne K (.ref AA.NoPoint) (.ref AA.BadPlan) = some false ∧ PySem.W.kitOne K (.ref AA.NoPoint) (.ref AA.NoFace) = some false ∧ PySem.W.kitOne K (.ref AA.NoPoint) (.ref AA.Endless) = some false ∧ PySem.W.kitOne K (.ref AA.NoPoint) (.ref AA.NoGround) = some false ∧ PySem.W.kitOne K (.ref AA.NoPoint) (.ref AA.NoName) = some false ∧ PySem.W.kitOne K (.ref AA.NoPoint) (.ref AA.Taken) = some false ∧ PySem.W.kitOne K (.ref AA.NoPoint) (.ref AA.NoLayer) = some false ∧ PySem.W.kitOne K (.ref AA.NoPoint) (.ref AA.TooMany) = some false ∧ PySem.W.kitOne K (.ref AA.NoPoint) (.ref AA.BadWish) = some false ∧ PySem.W.kitOne K (.ref AA.NoPoint) (.ref AA.NoSize) = some false ∧ PySem.W.kitOne K (.ref AA.NoPoint) (.ref AA.NoText) = some false ∧ PySem.W.kitOne K (.ref AA.NoPoint) (.ref AA.NoRow) = some false ∧ PySem.W.kitOne K (.ref AA.NoPoint) (.type "ValueError") = some true
  sp_NoPoint : PySem.W.subIn K (.ref AA.NoPoint) (.ref AA.PlyError) = some true
  kt_BadLayer : PySem.W.kitOne K (.ref AA.BadLayer) (.ref AA.NoNumber) = some false ∧ PySem.W.kitOne K (.ref AA.BadLayer) (.ref AA.NoPoint) = some false ∧ PySem.W.kitOne K (.ref AA.BadLayer) (.ref AA.BadLayer) = some true ∧ PySem.W.kitOne K (.ref AA.BadLayer) (.ref AA.BadPlan) = some false ∧ PySem.W.kitOne K (.ref AA.BadLayer) (.ref AA.NoFace) = some false ∧ PySem.W.kitOne K (.ref AA.BadLayer) (.ref AA.Endless) = some false ∧ PySem.W.kitOne K (.ref AA.BadLayer) (.ref AA.NoGround) = some false ∧ PySem.W.kitOne K (.ref AA.BadLayer) (.ref AA.NoName) = some false ∧ PySem.W.kitOne K (.ref AA.BadLayer) (.ref AA.Taken) = some false ∧ PySem.W.kitOne K (.ref AA.BadLayer) (.ref AA.NoLayer) = some false ∧ PySem.W.kitOne K (.ref AA.BadLayer) (.ref AA.TooMany) = some false ∧ PySem.W.kitOne K (.ref AA.BadLayer) (.ref AA.BadWish) = some false ∧ PySem.W.kitOne K (.ref AA.BadLayer) (.ref AA.NoSize) = some false ∧ PySem.W.kitOne K (.ref AA.BadLayer) (.ref AA.NoText) = some false ∧ PySem.W.kitOne K (.ref AA.BadLayer) (.ref AA.NoRow) = some false ∧ PySem.W.kitOne K (.ref AA.BadLayer) (.type "ValueError") = some true
  sp_BadLayer : PySem.W.subIn K (.ref AA.BadLayer) (.ref AA.PlyError) = some true
  kt_BadPlan : PySem.W.kitOne K (.ref AA.BadPlan) (.ref AA.NoNumber) = some false ∧ PySem.W.kitOne K (.ref AA.BadPlan) (.ref AA.NoPoint) = some false ∧ PySem.W.kitOne K (.ref AA.BadPlan) (.ref AA.BadLayer) = some false ∧ PySem.W.kitOne K (.ref AA.BadPlan) (.ref AA.BadPlan) = some true ∧ PySem.W.kitOne K (.ref AA.BadPlan) (.ref AA.NoFace) = some false ∧ PySem.W.kitOne K (.ref AA.BadPlan) (.ref AA.Endless) = some false ∧ PySem.W.kitOne K (.ref AA.BadPlan) (.ref AA.NoGround) = some false ∧ PySem.W.kitOne K (.ref AA.BadPlan) (.ref AA.NoName) = some false ∧ PySem.W.kitOne K (.ref AA.BadPlan) (.ref AA.Taken) = some false ∧ PySem.W.kitOne K (.ref AA.BadPlan) (.ref AA.NoLayer) = some false ∧ PySem.W.kitOne K (.ref AA.BadPlan) (.ref AA.TooMany) = some false ∧ PySem.W.kitOne K (.ref AA.BadPlan) (.ref AA.BadWish) = some false ∧ PySem.W.kitOne K (.ref AA.BadPlan) (.ref AA.NoSize) = some false ∧ PySem.W.kitOne K (.ref AA.BadPlan) (.ref AA.NoText) = some false ∧ PySem.W.kitOne K (.ref AA.BadPlan) (.ref AA.NoRow) = some false ∧ PySem.W.kitOne K (.ref AA.BadPlan) (.type "ValueError") = some true
  sp_BadPlan : PySem.W.subIn K (.ref AA.BadPlan) (.ref AA.PlyError) = some true
  kt_NoFace : PySem.W.kitOne K (.ref AA.NoFace) (.ref AA.NoNumber) = some false ∧ PySem.W.kitOne K (.ref AA.NoFace) (.ref AA.NoPoint) = some false ∧ PySem.W.kitOne K (.ref AA.NoFace) (.ref AA.BadLayer) = some false ∧ PySem.W.kitOne K (.ref AA.NoFace) (.ref AA.BadPlan) = some false ∧ PySem.W.kitOne K (.ref AA.NoFace) (.ref AA.NoFace) = some true ∧ PySem.W.kitOne K (.ref AA.NoFace) (.ref AA.Endless) = some false ∧ PySem.W.kitOne K (.ref AA.NoFace) (.ref AA.NoGround) = some false ∧ PySem.W.kitOne K (.ref AA.NoFace) (.ref AA.NoName) = some false ∧ PySem.W.kitOne K (.ref AA.NoFace) (.ref AA.Taken) = some false ∧ PySem.W.kitOne K (.ref AA.NoFace) (.ref AA.NoLayer) = some false ∧ PySem.W.kitOne K (.ref AA.NoFace) (.ref AA.TooMany) = some false ∧ PySem.W.kitOne K (.ref AA.NoFace) (.ref AA.BadWish) = some false ∧ PySem.W.kitOne K (.ref AA.NoFace) (.ref AA.NoSize) = some false ∧ PySem.W.kitOne K (.ref AA.NoFace) (.ref AA.NoText) = some false ∧ PySem.W.kitOne K (.ref AA.NoFace) (.ref AA.NoRow) = some false ∧ PySem.W.kitOne K (.ref AA.NoFace) (.type "ValueError") = some true
  sp_NoFace : PySem.W.subIn K (.ref AA.NoFace) (.ref AA.PlyError) = some true
  kt_Endless : PySem.W.kitOne K (.ref AA.Endless) (.ref AA.NoNumber) = some false ∧ PySem.W.kitOne K (.ref AA.Endless) (.ref AA.NoPoint) = some false ∧ PySem.W.kitOne K (.ref AA.Endless) (.ref AA.BadLayer) = some false ∧ PySem.W.kitOne K (.ref AA.Endless) (.ref AA.BadPlan) = some false ∧ PySem.W.kitOne K (.ref AA.Endless) (.ref AA.NoFace) = some false ∧ PySem.W.kitOne K (.ref AA.Endless) (.ref AA.Endless) = some true ∧ PySem.W.kitOne K (.ref AA.Endless) (.ref AA.NoGround) = some false ∧ PySem.W.kitOne K (.ref AA.Endless) (.ref AA.NoName) = some false ∧ PySem.W.kitOne K (.ref AA.Endless) (.ref AA.Taken) = some false ∧ PySem.W.kitOne K (.ref AA.Endless) (.ref AA.NoLayer) = some false ∧ PySem.W.kitOne K (.ref AA.Endless) (.ref AA.TooMany) = some false ∧ PySem.W.kitOne K (.ref AA.Endless) (.ref AA.BadWish) = some false ∧ PySem.W.kitOne K (.ref AA.Endless) (.ref AA.NoSize) = some false ∧ PySem.W.kitOne K (.ref AA.Endless) (.ref AA.NoText) = some false ∧ PySem.W.kitOne K (.ref AA.Endless) (.ref AA.NoRow) = some false ∧ PySem.W.kitOne K (.ref AA.Endless) (.type "ValueError") = some true
  sp_Endless : PySem.W.subIn K (.ref AA.Endless) (.ref AA.PlyError) = some true
  kt_NoGround : PySem.W.kitOne K (.ref AA.NoGround) (.ref AA.NoNumber) = some false ∧ PySem.W.kitOne K (.ref AA.NoGround) (.ref AA.NoPoint) = some false ∧ PySem.W.kitOne K (.ref AA.NoGround) (.ref AA.BadLayer) = some false ∧ PySem.W.kitOne K (.ref AA.NoGround) (.ref AA.BadPlan) = some false ∧ PySem.W.kitOne K (.ref AA.NoGround) (.ref AA.NoFace) = some false ∧ PySem.W.kitOne K (.ref AA.NoGround) (.ref AA.Endless) = some false ∧ PySem.W.kitOne K (.ref AA.NoGround) (.ref AA.NoGround) = some true ∧ PySem.W.kitOne K (.ref AA.NoGround) (.ref AA.NoName) = some false ∧ PySem.W.kitOne K (.ref AA.NoGround) (.ref AA.Taken) = some false ∧ PySem.W.kitOne K (.ref AA.NoGround) (.ref AA.NoLayer) = some false ∧ PySem.W.kitOne K (.ref AA.NoGround) (.ref AA.TooMany) = some false ∧ PySem.W.kitOne K (.ref AA.NoGround) (.ref AA.BadWish) = some false ∧ PySem.W.kitOne K (.ref AA.NoGround) (.ref AA.NoSize) = some false ∧ PySem.W.kitOne K (.ref AA.NoGround) (.ref AA.NoText) = some false ∧ PySem.W.kitOne K (.ref AA.NoGround) (.ref AA.NoRow) = some false ∧ PySem.W.kitOne K (.ref AA.NoGround) (.type "ValueError") = some true
  sp_NoGround : PySem.W.subIn K (.ref AA.NoGround) (.ref AA.PlyError) = some true
  kt_NoName : PySem.W.kitOne K (.ref AA.NoName) (.ref AA.NoNumber) = some false ∧ PySem.W.kitOne K (.ref AA.NoName) (.ref AA.NoPoint) = some false ∧ PySem.W.kitOne K (.ref AA.NoName) (.ref AA.BadLayer) = some false ∧ PySem.W.kitOne K (.ref AA.NoName) (.ref AA.BadPlan) = some false ∧ PySem.W.kitOne K (.ref AA.NoName) (.ref AA.NoFace) = some false ∧ PySem.W.kitOne K (.ref AA.NoName) (.ref AA.Endless) = some false ∧ PySem.W.kitOne K (.ref AA.NoName) (.ref AA.NoGround) = some false ∧ PySem.W.kitOne K (.ref AA.NoName) (.ref AA.NoName) = some true ∧ PySem.W.kitOne K (.ref AA.NoName) (.ref AA.Taken) = some false ∧ PySem.W.kitOne K (.ref AA.NoName) (.ref AA.NoLayer) = some false ∧ PySem.W.kitOne K (.ref AA.NoName) (.ref AA.TooMany) = some false ∧ PySem.W.kitOne K (.ref AA.NoName) (.ref AA.BadWish) = some false ∧ PySem.W.kitOne K (.ref AA.NoName) (.ref AA.NoSize) = some false ∧ PySem.W.kitOne K (.ref AA.NoName) (.ref AA.NoText) = some false ∧ PySem.W.kitOne K (.ref AA.NoName) (.ref AA.NoRow) = some false ∧ PySem.W.kitOne K (.ref AA.NoName) (.type "ValueError") = some true
  sp_NoName : PySem.W.subIn K (.ref AA.NoName) (.ref AA.PlyError) = some true
  kt_Taken : PySem.W.kitOne K (.ref AA.Taken) (.ref AA.NoNumber) = some false ∧ PySem.W.kitOne K (.ref AA.Taken) (.ref AA.NoPoint) = some false ∧ PySem.W.kitOne K (.ref AA.Taken) (.ref AA.BadLayer) = some false ∧ PySem.W.kitOne K (.ref AA.Taken) (.ref AA.BadPlan) = some false ∧ PySem.W.kitOne K (.ref AA.Taken) (.ref AA.NoFace) = some false ∧ PySem.W.kitOne K (.ref AA.Taken) (.ref AA.Endless) = some false ∧ PySem.W.kitOne K (.ref AA.Taken) (.ref AA.NoGround) = some false ∧ PySem.W.kitOne K (.ref AA.Taken) (.ref AA.NoName) = some false ∧ PySem.W.kitOne K (.ref AA.Taken) (.ref AA.Taken) = some true ∧ PySem.W.kitOne K (.ref AA.Taken) (.ref AA.NoLayer) = some false ∧ PySem.W.kitOne K (.ref AA.Taken) (.ref AA.TooMany) = some false ∧ PySem.W.kitOne K (.ref AA.Taken) (.ref AA.BadWish) = some false ∧ PySem.W.kitOne K (.ref AA.Taken) (.ref AA.NoSize) = some false ∧ PySem.W.kitOne K (.ref AA.Taken) (.ref AA.NoText) = some false ∧ PySem.W.kitOne K (.ref AA.Taken) (.ref AA.NoRow) = some false ∧ PySem.W.kitOne K (.ref AA.Taken) (.type "ValueError") = some true
  sp_Taken : PySem.W.subIn K (.ref AA.Taken) (.ref AA.PlyError) = some true
  kt_NoLayer : PySem.W.kitOne K (.ref AA.NoLayer) (.ref AA.NoNumber) = some false ∧ PySem.W.kitOne K (.ref AA.NoLayer) (.ref AA.NoPoint) = some false ∧ PySem.W.kitOne K (.ref AA.NoLayer) (.ref AA.BadLayer) = some false ∧ PySem.W.kitOne K (.ref AA.NoLayer) (.ref AA.BadPlan) = some false ∧ PySem.W.kitOne K (.ref AA.NoLayer) (.ref AA.NoFace) = some false ∧ PySem.W.kitOne K (.ref AA.NoLayer) (.ref AA.Endless) = some false ∧ PySem.W.kitOne K (.ref AA.NoLayer) (.ref AA.NoGround) = some false ∧ PySem.W.kitOne K (.ref AA.NoLayer) (.ref AA.NoName) = some false ∧ PySem.W.kitOne K (.ref AA.NoLayer) (.ref AA.Taken) = some false ∧ PySem.W.kitOne K (.ref AA.NoLayer) (.ref AA.NoLayer) = some true ∧ PySem.W.kitOne K (.ref AA.NoLayer) (.ref AA.TooMany) = some false ∧ PySem.W.kitOne K (.ref AA.NoLayer) (.ref AA.BadWish) = some false ∧ PySem.W.kitOne K (.ref AA.NoLayer) (.ref AA.NoSize) = some false ∧ PySem.W.kitOne K (.ref AA.NoLayer) (.ref AA.NoText) = some false ∧ PySem.W.kitOne K (.ref AA.NoLayer) (.ref AA.NoRow) = some false ∧ PySem.W.kitOne K (.ref AA.NoLayer) (.type "ValueError") = some true
  sp_NoLayer : PySem.W.subIn K (.ref AA.NoLayer) (.ref AA.PlyError) = some true
  kt_TooMany : PySem.W.kitOne K (.ref AA.TooMany) (.ref AA.NoNumber) = some false ∧ PySem.W.kitOne K (.ref AA.TooMany) (.ref AA.NoPoint) = some false ∧ PySem.W.kitOne K (.ref AA.TooMany) (.ref AA.BadLayer) = some false ∧ PySem.W.kitOne K (.ref AA.TooMany) (.ref AA.BadPlan) = some false ∧ PySem.W.kitOne K (.ref AA.TooMany) (.ref AA.NoFace) = some false ∧ PySem.W.kitOne K (.ref AA.TooMany) (.ref AA.Endless) = some false ∧ PySem.W.kitOne K (.ref AA.TooMany) (.ref AA.NoGround) = some false ∧ PySem.W.kitOne K (.ref AA.TooMany) (.ref AA.NoName) = some false ∧ PySem.W.kitOne K (.ref AA.TooMany) (.ref AA.Taken) = some false ∧ PySem.W.kitOne K (.ref AA.TooMany) (.ref AA.NoLayer) = some false ∧ PySem.W.kitOne K (.ref AA.TooMany) (.ref AA.TooMany) = some true ∧ PySem.W.kitOne K (.ref AA.TooMany) (.ref AA.BadWish) = some false ∧ PySem.W.kitOne K (.ref AA.TooMany) (.ref AA.NoSize) = some false ∧ PySem.W.kitOne K (.ref AA.TooMany) (.ref AA.NoText) = some false ∧ PySem.W.kitOne K (.ref AA.TooMany) (.ref AA.NoRow) = some false ∧ PySem.W.kitOne K (.ref AA.TooMany) (.type "ValueError") = some true
  sp_TooMany : PySem.W.subIn K (.ref AA.TooMany) (.ref AA.PlyError) = some true
  kt_BadWish : PySem.W.kitOne K (.ref AA.BadWish) (.ref AA.NoNumber) = some false ∧ PySem.W.kitOne K (.ref AA.BadWish) (.ref AA.NoPoint) = some false ∧ PySem.W.kitOne K (.ref AA.BadWish) (.ref AA.BadLayer) = some false ∧ PySem.W.kitOne K (.ref AA.BadWish) (.ref AA.BadPlan) = some false ∧ PySem.W.kitOne K (.ref AA.BadWish) (.ref AA.NoFace) = some false ∧ PySem.W.kitOne K (.ref AA.BadWish) (.ref AA.Endless) = some false ∧ PySem.W.kitOne K (.ref AA.BadWish) (.ref AA.NoGround) = some false ∧ PySem.W.kitOne K (.ref AA.BadWish) (.ref AA.NoName) = some false ∧ PySem.W.kitOne K (.ref AA.BadWish) (.ref AA.Taken) = some false ∧ PySem.W.kitOne K (.ref AA.BadWish) (.ref AA.NoLayer) = some false ∧ PySem.W.kitOne K (.ref AA.BadWish) (.ref AA.TooMany) = some false ∧ PySem.W.kitOne K (.ref AA.BadWish) (.ref AA.BadWish) = some true ∧ PySem.W.kitOne K (.ref AA.BadWish) (.ref AA.NoSize) = some false ∧ PySem.W.kitOne K (.ref AA.BadWish) (.ref AA.NoText) = some false ∧ PySem.W.kitOne K (.ref AA.BadWish) (.ref AA.NoRow) = some false ∧ PySem.W.kitOne K (.ref AA.BadWish) (.type "ValueError") = some true
  sp_BadWish : PySem.W.subIn K (.ref AA.BadWish) (.ref AA.PlyError) = some true
  kt_NoSize : PySem.W.kitOne K (.ref AA.NoSize) (.ref AA.NoNumber) = some false ∧ PySem.W.kitOne K (.ref AA.NoSize) (.ref AA.NoPoint) = some false ∧ PySem.W.kitOne K (.ref AA.NoSize) (.ref AA.BadLayer) = some false ∧ PySem.W.kitOne K (.ref AA.NoSize) (.ref AA.BadPlan) = some false ∧ PySem.W.kitOne K (.ref AA.NoSize) (.ref AA.NoFace) = some false ∧ PySem.W.kitOne K (.ref AA.NoSize) (.ref AA.Endless) = some false ∧ PySem.W.kitOne K (.ref AA.NoSize) (.ref AA.NoGround) = some false ∧ PySem.W.kitOne K (.ref AA.NoSize) (.ref AA.NoName) = some false ∧ PySem.W.kitOne K (.ref AA.NoSize) (.ref AA.Taken) = some false ∧ PySem.W.kitOne K (.ref AA.NoSize) (.ref AA.NoLayer) = some false ∧ PySem.W.kitOne K (.ref AA.NoSize) (.ref AA.TooMany) = some false ∧ PySem.W.kitOne K (.ref AA.NoSize) (.ref AA.BadWish) = some false ∧ PySem.W.kitOne K (.ref AA.NoSize) (.ref AA.NoSize) = some true ∧ PySem.W.kitOne K (.ref AA.NoSize) (.ref AA.NoText) = some false ∧ PySem.W.kitOne K (.ref AA.NoSize) (.ref AA.NoRow) = some false ∧ PySem.W.kitOne K (.ref AA.NoSize) (.type "ValueError") = some true
  sp_NoSize : PySem.W.subIn K (.ref AA.NoSize) (.ref AA.PlyError) = some true
  kt_NoText : PySem.W.kitOne K (.ref AA.NoText) (.ref AA.NoNumber) = some false ∧ PySem.W.kitOne K (.ref AA.NoText) (.ref AA.NoPoint) = some false ∧ PySem.W.kitOne K (.ref AA.NoText) (.ref AA.BadLayer) = some false ∧ PySem.W.kitOne K (.ref AA.NoText) (.ref AA.BadPlan) = some false ∧ PySem.W.kitOne K (.ref AA.NoText) (.ref AA.NoFace) = some false ∧ PySem.W.kitOne K (.ref AA.NoText) (.ref AA.Endless) = some false ∧ PySem.W.kitOne K (.ref AA.NoText) (.ref AA.NoGround) = some false ∧ PySem.W.kitOne K (.ref AA.NoText) (.ref AA.NoName) = some false ∧ PySem.W.kitOne K (.ref AA.NoText) (.ref AA.Taken) = some false ∧ PySem.W.kitOne K (.ref AA.NoText) (.ref AA.NoLayer) = some false ∧ PySem.W.kitOne K (.ref AA.NoText) (.ref AA.TooMany) = some false ∧ PySem.W.kitOne K (.ref AA.NoText) (.ref AA.BadWish) = some false ∧ PySem.W.kitOne K (.ref AA.NoText) (.ref AA.NoSize) = some false ∧ PySem.W.kitOne K (.ref AA.NoText) (.ref AA.NoText) = some true ∧ PySem.W.kitOne K (.ref AA.NoText) (.ref AA.NoRow) = some false ∧ PySem.W.kitOne K (.ref AA.NoText) (.type "ValueError") = some true
  sp_NoText : PySem.W.subIn K (.ref AA.NoText) (.ref AA.PlyError) = some true
  kt_NoRow : PySem.W.kitOne K (.ref AA.NoRow) (.ref AA.NoNumber) = some false ∧ PySem.W.kitOne K (.ref AA.NoRow) (.ref AA.NoPoint) = some false ∧ PySem.W.kitOne K (.ref AA.NoRow) (.ref AA.BadLayer) = some false ∧ PySem.W.kitOne K (.ref AA.NoRow) (.ref AA.BadPlan) = some false ∧ PySem.W.kitOne K (.ref AA.NoRow) (.ref AA.NoFace) = some false ∧ PySem.W.kitOne K (.ref AA.NoRow) (.ref AA.Endless) = some false ∧ PySem.W.kitOne K (.ref AA.NoRow) (.ref AA.NoGround) = some false ∧ PySem.W.kitOne K (.ref AA.NoRow) (.ref AA.NoName) = some false ∧ PySem.W.kitOne K (.ref AA.NoRow) (.ref AA.Taken) = some false ∧ PySem.W.kitOne K (.ref AA.NoRow) (.ref AA.NoLayer) = some false ∧ PySem.W.kitOne K (.ref AA.NoRow) (.ref AA.TooMany) = some false ∧ PySem.W.kitOne K (.ref AA.NoRow) (.ref AA.BadWish) = some false ∧ PySem.W.kitOne K (.ref AA.NoRow) (.ref AA.NoSize) = some false ∧ PySem.W.kitOne K (.ref AA.NoRow) (.ref AA.NoText) = some false ∧ PySem.W.kitOne K (.ref AA.NoRow) (.ref AA.NoRow) = some true ∧ PySem.W.kitOne K (.ref AA.NoRow) (.type "ValueError") = some true
  sp_NoRow : PySem.W.subIn K (.ref AA.NoRow) (.ref AA.PlyError) = some true
  eb_PlyError : PySem.W.subIn K (.ref AA.PlyError) (.type "BaseException") = some true
  hd_PlyError : PySem.W.hasDictIn K AA.PlyError = true
  et_PlyError : PySem.W.typeIn K (.ref AA.PlyError) = some (.type "type")

end My
namespace My
open PySem hiding start
open L2 Py PySem.Spec PyProof.Rows
open Evl (Ex)
local macro_rules | `(tactic| walk_at "bnd") => `(tactic| first | assumption | (with_reducible show Int.natAbs (_ * _) < _; exact nmul (by walk_at "bnd") (by walk_at "bnd")) | (with_reducible show Int.natAbs (_ - _) < _; exact nsubm (by walk_at "bnd") (by walk_at "bnd")) | (with_reducible show Int.natAbs (_ + _) < _; exact naddm (by walk_at "bnd") (by walk_at "bnd")) | (with_reducible show Int.natAbs (-_) < _; exact nnegm (by walk_at "bnd")) | with_reducible exact nlitN _)
local macro_rules | `(tactic| walk_at "py1") => `(tactic| first
  | ((with_reducible apply we_var); exact rfl)
  | with_reducible refine we_int ?_
  | with_reducible refine we_bl ?_
  | with_reducible refine we_non ?_
  | with_reducible refine we_str ?_
  | with_reducible refine we_ty ?_
  | with_reducible refine we_ref ?_
  | ((with_reducible apply we_ixOwn); exact rfl)
  | ((with_reducible apply we_lenOwns); exact rfl)
  | with_reducible refine we_op ?_
  | with_reducible refine we_un ?_
  | with_reducible refine we_cb ?_
  | with_reducible refine we_call ?_
  | with_reducible refine we_tup ?_
  | with_reducible refine we_lst ?_
  | with_reducible refine wa_nil ?_
  | with_reducible refine wa_cons ?_
  | with_reducible refine rv_addI ?_
  | with_reducible refine rv_sub ?_
  | with_reducible refine rv_lt ?_
  | with_reducible refine rv_le ?_
  | with_reducible refine rv_gt ?_
  | with_reducible refine rv_ge ?_
  | with_reducible refine rv_eqI ?_
  | with_reducible refine rv_neI ?_
  | with_reducible refine rv_isB ?_
  | with_reducible refine rv_eqB ?_
  | with_reducible refine rv_neB ?_
  | with_reducible refine rv_isN ?_
  | with_reducible refine rv_notN ?_
  | with_reducible refine rv_inI ?_
  | with_reducible refine rv_niI ?_
  | with_reducible refine rv_notB ?_
  | ((with_reducible apply rv_ixT); exact rfl)
  | ((with_reducible apply rv_ixL); exact rfl)
  | with_reducible refine rc_abss ?_
  | with_reducible refine ru_neg ?_
  | with_reducible refine rc_intB ?_
  | with_reducible refine rc_intI ?_
  | with_reducible refine rc_listOf ?_
  | with_reducible refine rc_lenTs ?_
  | with_reducible refine rc_lenLs ?_
  | with_reducible refine rc_isInt ?_
  | with_reducible refine rc_isBool ?_
  | with_reducible refine rc_isTup ?_
  | with_reducible refine rc_isLst ?_
  | with_reducible refine rc_isStr ?_
  | with_reducible refine wt_test ?_
  | with_reducible refine ws_seq ?_
  | with_reducible refine ws_asg ?_
  | with_reducible refine ws_if ?_
  | with_reducible refine ws_ret ?_
  | with_reducible refine ws_next ?_
  | ((with_reducible apply ws_app); exact rfl)
  | ((with_reducible apply ws_aug); exact rfl)
  | with_reducible refine isI_mk ?_
  | with_reducible refine ws_drop ?_
  | with_reducible refine ws_par ?_
  | with_reducible refine wt_truthB ?_
  | with_reducible refine wt_and ?_
  | with_reducible refine wt_or ?_
  | with_reducible refine wt_not ?_
  | with_reducible refine we_andV ?_
  | with_reducible refine we_orV ?_
  | with_reducible refine we_notV ?_
  | with_reducible refine we_if ?_
  | refine Exists.intro _ (Exists.intro _ (And.intro (show ([_, _] : List Dv) = [_, _] from rfl) ?_))
  | ((with_reducible apply rv_fdiv); first | assumption | exact ⟨by decide, by decide⟩)
  | ((with_reducible apply rv_mod); first | assumption | decide | omega)
  | ((with_reducible apply rv_mulI); first | assumption | exact cmul (by walk_at "bnd") (by walk_at "bnd") (by decide) | exact cmul (n := 64) (m := 64) (by omega) (by omega) (by decide))
  | ((with_reducible apply rv_pow); exact ⟨by decide, by decide, by decide⟩)
  | ((with_reducible apply rv_powX); exact ⟨by decide, by decide⟩)
  | refine Exists.intro _ (And.intro (show allD _ = some _ from rfl) (And.intro (Nat.le_of_ble_eq_true rfl) ?_))
  | with_reducible refine ⟨_, (rfl : Dv.d (PyData.bool _) = Dv.d (PyData.bool _)), ?_⟩
  | (with_reducible refine (⟨fun hb => ?_, fun hb => ?_⟩ : (_ = true → _) ∧ (_ = false → _))) <;> try (first | exact Bool.noConfusion (show true = false from hb) | exact Bool.noConfusion (show false = true from hb))
  | (with_reducible refine (⟨fun hb => ?_, fun hb => ?_⟩ : (_ = false → _) ∧ (_ = true → _))) <;> try (first | exact Bool.noConfusion (show true = false from hb) | exact Bool.noConfusion (show false = true from hb)))
local macro_rules | `(tactic| walk_at "py1") => `(tactic| first | with_reducible refine call_draw (by assumption) (by first | omega | decide) (by first | omega | decide) (fun v h0 h1 => ?_) | with_reducible refine call_draw (by assumption) ?_ ?_ (fun v h0 h1 => ?_))
local macro_rules | `(tactic| walk_at "py") => `(tactic| repeat' walk_at "py1")
local macro_rules | `(tactic| walk_at "pys") => `(tactic| repeat' ((fail_if_success (with_reducible refine ws_seq ?_)); walk_at "py1"))
section
variable {P : Program} {w : World} {K : PySem.W.Frag} {mg : Str → Option Value} {base : Heap} {AA : Ads}
abbrev s__law_next : Stmt := top 27
theorem sc__law_next : FnScope ["_law_hand_here"] ["_law_hand_here"] (defScope s__law_next) := ⟨rfl, rfl, rfl, by decide +kernel, rfl, by decide +kernel, by decide +kernel⟩
theorem ok__law_next (T : Txt K mg AA) (R : Raw K mg "_law_next" s__law_next) : Def P w K mg base "_law_next" ["_law_hand_here"] CX0 1 (spNext K) := R.def fun f fd F => by
  refine ⟨F.binds (ps := ["_law_hand_here"]) fun _ _ _ _ _ _ us hl => match us, hl with | [_], _ => rfl, F.ok sc__law_next (fun vs H Q E h => ?_) (fun cdv A outer s H vs Q E hr h => ?_)⟩
  · obtain ⟨p, l, ns, i, pool, left, a, b, rfl, _⟩ := h
    rfl
  refine ⟨_, (pss_cons (ps_asg (pe_op op_modN (pe_op (op_muls K) (pe_ix (ix_s K) (pv 0) pe_int (fun _ _ => rfl)) pe_int) pe_int) (pg_sub (pv 0) pe_int set_list))
      (pss_cons (ps_asg (pe_op op_modN (pe_op (op_muls K) (pe_ix (ix_s K) (pv 0) pe_int (fun _ _ => rfl)) pe_int) pe_int) (pg_sub (pv 0) pe_int set_list))
      (pss_one (ps_ret (pe_op (op_adds K) (pe_ix (ix_s K) (pv 0) pe_int (fun _ _ => rfl)) (pe_ix (ix_s K) (pv 0) pe_int (fun _ _ => rfl))))))), ?_⟩
  obtain ⟨p, l, ns, i, pool, left, a, b, rfl, h, ha, hb, k⟩ := h
  refine ⟨_, rfl, .inl ⟨p, _, _, _, rfl, rfl, SqL.of h, rfl, .inl ⟨_, _, rfl, rfl, wide_mul (a := 31) (b := 20) (by omega) (by decide) (by decide) (by decide) (by decide), _, _, rfl, rfl, (by show (2147483647 : Int) ≠ 0; decide), _, rfl, p, _, _, 4, rfl, rfl, h, rfl, ?_⟩⟩⟩
  refine ⟨_, rfl, .inl ⟨p, _, _, _, rfl, rfl, SqL.of upd_same, rfl, .inl ⟨_, _, rfl, rfl, wide_mul (a := 31) (b := 20) (by omega) (by decide) (by decide) (by decide) (by decide), _, _, rfl, rfl, (by show (2147483399 : Int) ≠ 0; decide), _, rfl, p, _, _, 5, rfl, rfl, upd_same, rfl, ?_⟩⟩⟩
  refine ⟨_, rfl, .inl ⟨p, _, _, _, rfl, rfl, SqL.of upd_same, rfl, _, rfl, .inl ⟨p, _, _, _, rfl, rfl, SqL.of upd_same, rfl, .inl ⟨_, _, rfl, rfl, ?_⟩⟩⟩⟩
  have h1 : 0 ≤ (a * 48271).fmod 2147483647 ∧ (a * 48271).fmod 2147483647 < 2147483647 := ⟨Int.fmod_nonneg_of_pos _ (by decide), Int.fmod_lt_of_pos _ (by decide)⟩
  have h2 : 0 ≤ (b * 40693).fmod 2147483399 ∧ (b * 40693).fmod 2147483399 < 2147483399 := ⟨Int.fmod_nonneg_of_pos _ (by decide), Int.fmod_lt_of_pos _ (by decide)⟩
  exact k _ _ _ _ ⟨h1.1, by omega⟩ ⟨h2.1, by omega⟩ ⟨by omega, by omega⟩ upd_same fun x hx => (upd_ne hx).trans (upd_ne hx)
abbrev s__law_take : Stmt := top 28
theorem sc__law_take : FnScope ["_law_hand_here", "_law_cell"] ["_law_hand_here"] (defScope s__law_take) := ⟨rfl, rfl, rfl, by decide +kernel, rfl, by decide +kernel, by decide +kernel⟩
theorem ok__law_take (T : Txt K mg AA) (d__law_next : Def P w K mg base "_law_next" ["_law_hand_here"] CX0 1 (spNext K)) (R : Raw K mg "_law_take" s__law_take) : Def P w K mg base "_law_take" ["_law_hand_here"] CX0 2 (spTake K) := R.def fun f fd F => by
  refine ⟨F.binds (ps := ["_law_hand_here"]) fun _ _ _ _ _ _ us hl => match us, hl with | [_], _ => rfl, F.ok sc__law_take (fun vs H Q E h => ?_) (fun cdv A outer s H vs Q E hr h => ?_)⟩
  · obtain ⟨p, l, ns, i, left, a, b, rfl, _⟩ := h
    rfl
  refine ⟨_, (pss_cons (ps_set (i := 1) sc__law_take.nd rfl (Or.inl rfl) pe_int)
      (Evl.pss_cut (ps_if (pt_cmpR op_ltU (pe_ix (ix_s K) (pv 0) pe_int (fun _ _ => rfl)) (pe_callB (call_lens K) (by rfl) T.b_len (by decide +kernel) (pa_cons (pe_ix (ix_s K) (pv 0) pe_int (fun _ _ => rfl)) pa_nil)) (nomark _)) (pss_one (ps_set (i := 1) sc__law_take.nd rfl (Or.inl rfl) (pe_callB call_abss (by rfl) T.b_abs (by decide +kernel) (pa_cons (pe_ix (ix_s K) (pe_ix (ix_s K) (pv 0) pe_int (fun _ _ => rfl)) (pe_ix (ix_s K) (pv 0) pe_int (fun _ _ => rfl)) (fun _ _ => rfl)) pa_nil)))) pss_nil)
      (pss_cons (ps_augS (pv 0) pe_int (get_s K) pe_int ip_add set_list)
      (Evl.pss_cut (ps_if (pt_cmpR op_geU (pv 1) (pe_op op_pow pe_int pe_int) (nomark _)) (pss_one (ps_asg (pv 1) (pg_sub (pv 0) pe_int set_list))) (pss_one (ps_asg pe_int (pg_sub (pv 0) pe_int set_list))))
      (pss_cons (ps_asg (pe_op (op_adds K) (pe_op op_modN (pe_op (op_adds K) (pe_ix (ix_s K) (pv 0) pe_int (fun _ _ => rfl)) (pe_op op_modN (pv 1) pe_int)) pe_int) pe_int) (pg_sub (pv 0) pe_int set_list))
      (pss_cons (ps_asg (pe_op (op_adds K) (pe_op op_modN (pe_op (op_adds K) (pe_op (op_muls K) (pe_ix (ix_s K) (pv 0) pe_int (fun _ _ => rfl)) pe_int) (pe_op op_modN (pv 1) pe_int)) pe_int) pe_int) (pg_sub (pv 0) pe_int set_list))
      (pss_cons (ps_expr (pe_D0 d__law_next (by decide) hr pass0 (pa_cons (pv 0) pa_nil)))
      (pss_one (ps_expr (pe_D0 d__law_next (by decide) hr pass0 (pa_cons (pv 0) pa_nil))))))))))), ?_⟩
  obtain ⟨p, l, ns, i, left, a, b, rfl, h, hl, nlp, hi, ha, hb, k⟩ := h
  -- behind the cell
  refine ⟨fun σ' H' => H' = H ∧ ∃ cell : Int, 0 ≤ cell ∧ σ' = [some (.ref p), some (.int cell)], ?_, ?_⟩
  · have rest : ∀ cell : Int, 0 ≤ cell → H = H ∧ ∃ cell' : Int, 0 ≤ cell' ∧ ([some (.ref p), some (.int cell)] : L2.St) = [some (.ref p), some (.int cell')] := fun cell h => ⟨rfl, cell, h, rfl⟩
    refine ⟨_, rfl, .inl ⟨p, _, _, _, rfl, rfl, SqL.of h, rfl, _, rfl, .inl ⟨p, _, _, _, rfl, rfl, SqL.of h, rfl, _, ns.length, rfl, .inl ⟨_, SqL.of hl, by simp⟩, _, _, rfl, rfl, _, rfl, ?_⟩⟩⟩
    refine ite2 (fun hlt => ?_) (fun _ => rest 0 (by decide))
    have hlt : i < (ns.length : Int) := of_decide_eq_true hlt
    have hin : i.toNat < ns.length := by omega
    refine ⟨_, rfl, .inl ⟨p, _, _, _, rfl, rfl, SqL.of h, rfl, _, rfl, .inl ⟨p, _, _, _, rfl, rfl, SqL.of h, rfl, .inl ⟨l, _, _, .int ns[i.toNat], rfl, rfl, SqL.of hl, ?_, _, rfl, ?_⟩⟩⟩⟩
    · unfold atI ixN
      rw [if_pos hi, if_pos (by simpa using hlt)]
      show (ns.map V.int)[i.toNat]? = _
      rw [List.getElem?_map, List.getElem?_eq_getElem hin]
      rfl
    · exact rest (if ns[i.toNat] < 0 then -ns[i.toNat] else ns[i.toNat]) (by split <;> omega)
  rintro _ H1 ⟨eH, cell, hc, rfl⟩
  subst eH
  refine ⟨_, rfl, p, _, _, _, rfl, rfl, SqL.of h, rfl, _, _, rfl, rfl, p, _, _, 1, rfl, rfl, h, rfl, ?_⟩
  refine ⟨fun σ' H' => σ' = [some (.ref p), some (.int cell)] ∧ ∃ (pool' left' : Int), 0 ≤ pool' ∧ H' p = some (.lst (handL l (i + 1) pool' left' a b)) ∧ (∀ x, x ≠ p → H' x = H1 x), ?_, ?_⟩
  · refine ⟨_, rfl, _, _, rfl, rfl, ⟨by decide, by decide, by decide⟩, _, _, rfl, rfl, _, rfl, ?_⟩
    refine ite2 (fun _ => ?_) (fun _ => ?_)
    · exact ⟨_, rfl, _, rfl, p, _, _, 2, rfl, rfl, upd_same, rfl, rfl, cell, left, hc, upd_same, fun x hx => (upd_ne hx).trans (upd_ne hx)⟩
    · exact ⟨_, rfl, p, _, _, 3, rfl, rfl, upd_same, rfl, rfl, 0, 7, by decide, upd_same, fun x hx => (upd_ne hx).trans (upd_ne hx)⟩
  rintro _ H2 ⟨rfl, pool', left', hp', h2, k2⟩
  refine ⟨_, rfl, .inl ⟨p, _, _, _, rfl, rfl, SqL.of h2, rfl, _, rfl, _, _, rfl, rfl, (by show (2147483587 : Int) ≠ 0; decide), .inl ⟨_, _, rfl, rfl, _, _, rfl, rfl, (by show (2147483646 : Int) ≠ 0; decide), .inl ⟨_, _, rfl, rfl, _, rfl, p, _, _, 4, rfl, rfl, h2, rfl, ?_⟩⟩⟩⟩
  refine ⟨_, rfl, .inl ⟨p, _, _, _, rfl, rfl, SqL.of upd_same, rfl, .inl ⟨_, _, rfl, rfl, wide_mul (a := 31) (b := 20) (by omega) (by decide) (by decide) (by decide) (by decide), _, rfl, _, _, rfl, rfl, (by show (1000003 : Int) ≠ 0; decide), .inl ⟨_, _, rfl, rfl, _, _, rfl, rfl, (by show (2147483398 : Int) ≠ 0; decide), .inl ⟨_, _, rfl, rfl, _, rfl, p, _, _, 5, rfl, rfl, upd_same, rfl, ?_⟩⟩⟩⟩⟩
  have h1 : ∀ z : Int, 0 ≤ z.fmod 2147483646 + 1 ∧ z.fmod 2147483646 + 1 < 2 ^ 31 := fun z => by
    have := Int.fmod_nonneg_of_pos z (b := 2147483646) (by decide)
    have := Int.fmod_lt_of_pos z (b := 2147483646) (by decide)
    omega
  have h3 : ∀ z : Int, 0 ≤ z.fmod 2147483398 + 1 ∧ z.fmod 2147483398 + 1 < 2 ^ 31 := fun z => by
    have := Int.fmod_nonneg_of_pos z (b := 2147483398) (by decide)
    have := Int.fmod_lt_of_pos z (b := 2147483398) (by decide)
    omega
  refine ⟨_, rfl, p, l, ns, _, _, _, _, _, rfl, upd_same, h1 _, h3 _, fun a1 b1 v1 H3 ha1 hb1 _ e1 k3 => ?_⟩
  refine ⟨_, rfl, p, l, ns, _, _, _, _, _, rfl, e1, ha1, hb1, fun a2 b2 v2 H4 ha2 hb2 _ e2 k4 => ?_⟩
  exact k _ _ _ _ _ H4 (by omega) hp' ha2 hb2 e2 fun x hx => ((((k4 x hx).trans (k3 x hx)).trans (upd_ne hx)).trans (upd_ne hx)).trans (k2 x hx)
abbrev s__law_draw : Stmt := top 29
theorem sc__law_draw : FnScope ["_law_hand_here", "_law_many", "_law_got", "_law_value", "_law_size"] ["_law_hand_here", "_law_many"] (defScope s__law_draw) := ⟨rfl, rfl, rfl, by decide +kernel, rfl, by decide +kernel, by decide +kernel⟩
theorem ok__law_draw (T : Txt K mg AA) (d__law_next : Def P w K mg base "_law_next" ["_law_hand_here"] CX0 1 (spNext K)) (d__law_take : Def P w K mg base "_law_take" ["_law_hand_here"] CX0 2 (spTake K)) (R : Raw K mg "_law_draw" s__law_draw) : Def P w K mg base "_law_draw" ["_law_hand_here", "_law_many"] CX0 3 (spD K (p_draw K)) := R.def fun f fd F => by
  refine ⟨F.binds (ps := ["_law_hand_here", "_law_many"]) fun _ _ _ _ _ _ us hl => match us, hl with | [_, _], _ => rfl, F.ok sc__law_draw (spD_len len_draw) (fun cdv A outer s H vs Q E hr h => ?_)⟩
  refine ⟨_, (Evl.pss_cut (ps_if (PW.pt (pw_and (pt_cmpR (op_eqs K hr.units) (pe_ix (ix_s K) (pv 0) pe_int (fun _ _ => rfl)) pe_int (nomark _)) (pw_and1 (pt_cmpR (op_eqs K hr.units) (pe_ix (ix_s K) (pv 0) pe_int (fun _ _ => rfl)) pe_int (nomark _))))) (pss_one (ps_expr (pe_D0 d__law_take (by decide) hr pass0 (pa_cons (pv 0) pa_nil)))) pss_nil)
      (pss_cons (ps_if (pt_cmpR op_gtU (pe_ix (ix_s K) (pv 0) pe_int (fun _ _ => rfl)) pe_int (nomark _)) (pss_cons (ps_set (i := 2) sc__law_draw.nd rfl (Or.inl rfl) (pe_op op_modN (pe_ix (ix_s K) (pv 0) pe_int (fun _ _ => rfl)) (pv 1)))
      (pss_cons (ps_asg (pe_op op_fdivX (pe_ix (ix_s K) (pv 0) pe_int (fun _ _ => rfl)) (pv 1)) (pg_sub (pv 0) pe_int set_list))
      (pss_one (ps_ret (pv 2))))) pss_nil)
      (pss_cons (ps_augS (pv 0) pe_int (get_s K) pe_int ip_sub set_list)
      (pss_cons (ps_set (i := 3) sc__law_draw.nd rfl (Or.inl rfl) (pe_D0 d__law_next (by decide) hr pass0 (pa_cons (pv 0) pa_nil)))
      (pss_cons (ps_set (i := 4) sc__law_draw.nd rfl (Or.inl rfl) pe_int)
      (pss_cons (ps_while PassesOwn.never (pt_cmpR op_ltU (pv 4) (pv 1) (nomark _)) (pss_cons (ps_set (i := 3) sc__law_draw.nd rfl (Or.inl rfl) (pe_op (op_adds K) (pe_op (op_muls K) (pv 3) pe_int) (pe_D0 d__law_next (by decide) hr pass0 (pa_cons (pv 0) pa_nil))))
      (pss_one (ps_set (i := 4) sc__law_draw.nd rfl (Or.inl rfl) (pe_op (op_muls K) (pv 4) pe_int)))))
      (pss_one (ps_ret (pe_op op_modN (pv 3) (pv 1)))))))))), ?_⟩
  obtain ⟨c, xs, kk, x, w, bb, d, ⟨p, n, rfl, HI, hn, hn2, kv⟩, q, _⟩ := h
  cases d with
  | cons d1 d2 =>
  cases d2 with
  | cons d2 d3 =>
  cases d3
  obtain rfl : _ = V.ref p := d1
  obtain rfl := dp_int d2
  obtain ⟨l, ns, cl, hW, put⟩ := HI.ex
  obtain ⟨⟨i, pool, left, a, b, h, hi, hpool, ha, hb⟩, hsc, nlp⟩ := hW H w
  -- at the end
  have fin : ∀ (v i pool left a b : Int) (H' : Hp), 0 ≤ v → v < n → 0 ≤ i → 0 ≤ pool → (0 ≤ a ∧ a < 2 ^ 31) → (0 ≤ b ∧ b < 2 ^ 31) → H' p = some (.lst (handL l i pool left a b)) → (∀ x, x ≠ p → H' x = H x) → Q (.int v) H' := fun v i pool left a b H' h0 h1 hi hp ha hb hh hk => by
    obtain ⟨w1, b1⟩ := hand_end HI.L put w bb ⟨⟨i, pool, left, a, b, hh, hi, hp, ha, hb⟩, (hk l nlp).trans hsc, nlp⟩ hk
    exact q (.int v) (.d (.int v)) H' w1 b1 (Dp.int v) (kv v h0 h1)
  have nne : (n : Int) ≠ 0 := by omega
  have nlog : (n : Int).natAbs.log2 < 9000 := Nat.lt_of_lt_of_le (PySem.Flt.log2_lt_of (k := 2000) (by decide) (by omega)) (by decide)
  refine ⟨fun σ' H' => σ' = [some (.ref p), some (.int n), none, none, none] ∧ ∃ (i pool left a b : Int), 0 ≤ i ∧ 0 ≤ pool ∧ (0 ≤ a ∧ a < 2 ^ 31) ∧ (0 ≤ b ∧ b < 2 ^ 31) ∧ H' p = some (.lst (handL l i pool left a b)) ∧ (∀ x, x ≠ p → H' x = H x), ?_, ?_⟩
  · refine ⟨_, rfl, .inl ⟨p, _, _, _, rfl, rfl, SqL.of h, rfl, _, _, .int pool, .int 0, rfl, rfl, _, rfl, ?_⟩⟩
    refine ite2 (fun hz => ?_) (fun _ => ?_)
    · have hz : pool = 0 := by
        have z : PyData.eqv (.int pool) (.int 0) = true := hz
        simpa only [PyData.eqv, beq_iff_eq] using z
      subst hz
      refine ⟨_, rfl, .inl ⟨p, _, _, _, rfl, rfl, SqL.of h, rfl, _, _, .int left, .int 0, rfl, rfl, _, rfl, ?_⟩⟩
      refine ite2 (fun _ => ?_) (fun _ => ?_)
      · exact ⟨_, rfl, p, l, ns, i, left, a, b, rfl, h, hsc, nlp, hi, ha, hb, fun i' pool' left' a' b' H' hi' hp' ha' hb' hh' hk' => ⟨rfl, i', pool', left', a', b', hi', hp', ha', hb', hh', hk'⟩⟩
      · exact ⟨rfl, i, 0, left, a, b, hi, by decide, ha, hb, h, fun _ _ => rfl⟩
    · exact iteF ⟨rfl, i, pool, left, a, b, hi, hpool, ha, hb, h, fun _ _ => rfl⟩
  rintro _ H1 ⟨rfl, i, pool, left, a, b, hi, hpool, ha, hb, h, k1⟩
  refine ⟨_, rfl, .inl ⟨p, _, _, _, rfl, rfl, SqL.of h, rfl, _, _, rfl, rfl, _, rfl, ?_⟩⟩
  refine ite2 (fun _ => ?_) (fun _ => ?_)
  · refine ⟨_, rfl, .inl ⟨p, _, _, _, rfl, rfl, SqL.of h, rfl, _, rfl, _, _, rfl, rfl, nne, ?_⟩⟩
    refine ⟨_, rfl, .inl ⟨p, _, _, _, rfl, rfl, SqL.of h, rfl, _, rfl, _, _, rfl, rfl, ⟨nne, nlog⟩, _, rfl, p, _, _, 2, rfl, rfl, h, rfl, ?_⟩⟩
    refine ⟨_, rfl, fin _ i (pool.fdiv n) left a b _ (Int.fmod_nonneg_of_pos _ hn) (Int.fmod_lt_of_pos _ hn) hi (Int.fdiv_nonneg hpool (by omega)) ha hb upd_same fun x hx => (upd_ne hx).trans (k1 x hx)⟩
  · refine ⟨_, rfl, p, _, _, _, rfl, rfl, SqL.of h, rfl, _, _, rfl, rfl, p, _, _, 3, rfl, rfl, h, rfl, ?_⟩
    refine ⟨_, rfl, p, l, ns, _, _, _, _, _, rfl, upd_same, ha, hb, fun a1 b1 v1 H3 ha1 hb1 hv1 e1 k3 => ?_⟩
    have k3' : ∀ x, x ≠ p → H3 x = H x := fun x hx => ((k3 x hx).trans (upd_ne hx)).trans (k1 x hx)
    refine while_by (fun σ' H' => ∃ (v sz : Int) (e : Nat) (a b left : Int) (g : Option V), σ' = [some (.ref p), some (.int n), g, some (.int v), some (.int sz)] ∧ (0 ≤ v ∧ v < 2 * sz) ∧ sz = 2 ^ e ∧ e ≤ 2100 ∧ (0 ≤ a ∧ a < 2 ^ 31) ∧ (0 ≤ b ∧ b < 2 ^ 31) ∧ H' p = some (.lst (handL l i pool left a b)) ∧ ∀ x, x ≠ p → H' x = H x)
      (fun σ' _ => match (σ' : List (Option V))[4]? with | some (some (V.int sz)) => (n - sz).toNat | _ => 0) ?_ ?_ ?_
    · exact ⟨v1, 4294967296, 32, a1, b1, _, none, rfl, by omega, by decide, by decide, ha1, hb1, e1, k3'⟩
    · rintro σ' H' ⟨v, sz, e, a, b, left, g, rfl, hv, hsz, he, ha, hb, hh, hk⟩
      have szp : 0 < sz := by rw [hsz]; exact Int.pow_pos (by decide)
      have e2000 : sz < n → e < 2000 := fun z => by
        have z2 : (2 : Int) ^ e < 2 ^ 2000 := by rw [← hsz]; omega
        exact Nat.lt_of_not_le fun z3 => absurd z2 (Int.not_lt.mpr (by exact_mod_cast Nat.pow_le_pow_right (n := 2) (by decide) z3))
      have szb : sz.natAbs < 2 ^ 2101 := by
        rw [hsz, Int.natAbs_pow]
        exact Nat.pow_lt_pow_right (by decide) (by omega)
      refine ⟨_, rfl, _, rfl, _, _, rfl, rfl, _, rfl, ?_⟩
      refine ite2 (fun hlt => ?_) (fun hge => ?_)
      · have hlt : sz < n := of_decide_eq_true hlt
        have := e2000 hlt
        refine ⟨_, rfl, .inl ⟨_, _, rfl, rfl, wide_mul (a := 2102) (b := 40) (by have : 2 ^ 2102 = 2 * 2 ^ 2101 := by rw [Nat.pow_succ] <;> omega
                                                                                 omega) (by decide) (by decide) (by decide) (by decide), ?_⟩⟩
        refine ⟨_, rfl, p, l, ns, _, _, _, _, _, rfl, hh, ha, hb, fun a2 b2 v2 H4 ha2 hb2 hv2 e2 k4 => .inl ⟨_, _, rfl, rfl, ?_⟩⟩
        refine ⟨_, rfl, .inl ⟨_, _, rfl, rfl, wide_mul (a := 2101) (b := 40) szb (by decide) (by decide) (by decide) (by decide), ?_⟩⟩
        refine ⟨⟨v * 4294967296 + v2, sz * 4294967296, e + 32, a2, b2, left, g, rfl, by omega, ?_, by omega, ha2, hb2, e2, fun x hx => (k4 x hx).trans (hk x hx)⟩, ?_⟩
        · rw [Int.pow_add, ← hsz]; rfl
        · show (n - sz * 4294967296).toNat < (n - sz).toNat
          omega
      · refine ⟨_, rfl, _, rfl, _, _, rfl, rfl, nne, fin _ i pool left a b H' (Int.fmod_nonneg_of_pos _ hn) (Int.fmod_lt_of_pos _ hn) hi hpool ha hb hh hk⟩
    · rintro σ' H' Q1 Q2 hq ⟨v, e1, u, e2, i, j, q1, q2, k, q3, q4⟩
      exact ⟨v, e1, u, e2, i, j, q1, q2, k, q3, hq _ _ q4⟩
abbrev s__law_hand : Stmt := top 26
theorem sc__law_hand : FnScope ["_law_script"] ["_law_script"] (defScope s__law_hand) := ⟨rfl, rfl, rfl, by decide +kernel, rfl, by decide +kernel, by decide +kernel⟩
theorem ok__law_hand (T : Txt K mg AA) (R : Raw K mg "_law_hand" s__law_hand) : Def P w K mg base "_law_hand" ["_law_script"] CX0 1 (spHand K) := R.def fun f fd F => by
  refine ⟨F.binds (ps := ["_law_script"]) fun _ _ _ _ _ _ us hl => match us, hl with | [_], _ => rfl, F.ok sc__law_hand (fun vs H Q E h => ?_) (fun cdv A outer s H vs Q E hr h => ?_)⟩
  · obtain ⟨a, ns, rfl, _⟩ := h
    rfl
  refine ⟨_, (pss_one (ps_ret (pe_lst (pa_cons (pe_callTy (call_lists K) (by rfl) T.b_list (by decide +kernel) (pa_cons (pe_slice (sl_s K) (pv 0) po_none (po_some pe_int)) pa_nil)) (pa_cons pe_int (pa_cons pe_int (pa_cons pe_int (pa_cons pe_int (pa_cons pe_int pa_nil))))))))), ?_⟩
  obtain ⟨a, ns, rfl, hS, k⟩ := h
  have e : cutV (ns.map V.int) none (some 63) = (ns.take 63).map V.int := cut63 ns
  refine ⟨_, rfl, 63, rfl, a, _, rfl, hS, fun q hq => ⟨q, _, rfl, .inl (SqL.of upd_same), fun l hl => ⟨Nat.le_of_ble_eq_true rfl, fun p hp => ?_⟩⟩⟩
  have npl : p ≠ l := fun z => by subst z; rw [upd_same] at hp; cases hp
  have hp' := hp
  rw [upd_ne npl] at hp'
  have nlq : l ≠ q := fun z => by subst z; rw [upd_same] at hl; cases hl
  have npq : p ≠ q := fun z => by subst z; rw [upd_same] at hp'; cases hp'
  rw [upd_ne nlq] at hl
  rw [upd_ne npq] at hp'
  refine k p l _ hp' hl npl.symm upd_same (by rw [upd_ne npl.symm, upd_same, e]) ?_
  exact ((Evl.Ex.new hq).trans (Evl.Ex.new (by rw [upd_ne nlq]; exact hl))).trans (Evl.Ex.new hp)
abbrev si_BadLayer : Stmt := inCls (top 4) 0
theorem sci_BadLayer : FnScope ["self", "ring", "at"] ["self", "ring", "at"] (defScope si_BadLayer) := ⟨rfl, rfl, rfl, by decide +kernel, rfl, by decide +kernel, by decide +kernel⟩
theorem ini_BadLayer (T : Txt K mg AA) : Ini P w K mg base "BadLayer" AA.BadLayer ["self", "ring", "at"] 1 (spIn2 AA.BadLayer "ring" "at") := ini2 (qual := "BadLayer.__init__") (st := si_BadLayer) T.ox_BadLayer T.g_BadLayer T.nf_BadLayer_ring T.nf_BadLayer_at T.in_BadLayer sci_BadLayer (fun F => F.binds (fun _ _ _ _ _ _ us hl => match us, hl with | [_, _, _], _ => rfl)) (fun cdv A outer s H fI E hr => (pss_cons (ps_ost (pv 0) (pv 1)) (pss_one (ps_ost (pv 0) (pv 2)))))
abbrev si_NoFace : Stmt := inCls (top 6) 0
theorem sci_NoFace : FnScope ["self", "number"] ["self", "number"] (defScope si_NoFace) := ⟨rfl, rfl, rfl, by decide +kernel, rfl, by decide +kernel, by decide +kernel⟩
theorem ini_NoFace (T : Txt K mg AA) : Ini P w K mg base "NoFace" AA.NoFace ["self", "number"] 1 (spIn1 AA.NoFace "number") := ini1 (qual := "NoFace.__init__") (st := si_NoFace) T.ox_NoFace T.g_NoFace T.nf_NoFace_number T.in_NoFace sci_NoFace (fun F => F.binds (fun _ _ _ _ _ _ us hl => match us, hl with | [_, _], _ => rfl)) (fun cdv A outer s H fI E hr => (pss_one (ps_ost (pv 0) (pv 1))))
abbrev si_NoGround : Stmt := inCls (top 8) 0
theorem sci_NoGround : FnScope ["self", "point"] ["self", "point"] (defScope si_NoGround) := ⟨rfl, rfl, rfl, by decide +kernel, rfl, by decide +kernel, by decide +kernel⟩
theorem ini_NoGround (T : Txt K mg AA) : Ini P w K mg base "NoGround" AA.NoGround ["self", "point"] 1 (spIn1 AA.NoGround "point") := ini1 (qual := "NoGround.__init__") (st := si_NoGround) T.ox_NoGround T.g_NoGround T.nf_NoGround_point T.in_NoGround sci_NoGround (fun F => F.binds (fun _ _ _ _ _ _ us hl => match us, hl with | [_, _], _ => rfl)) (fun cdv A outer s H fI E hr => (pss_one (ps_ost (pv 0) (pv 1))))
abbrev si_Taken : Stmt := inCls (top 10) 0
theorem sci_Taken : FnScope ["self", "name"] ["self", "name"] (defScope si_Taken) := ⟨rfl, rfl, rfl, by decide +kernel, rfl, by decide +kernel, by decide +kernel⟩
theorem ini_Taken (T : Txt K mg AA) : Ini P w K mg base "Taken" AA.Taken ["self", "name"] 1 (spIn1 AA.Taken "name") := ini1 (qual := "Taken.__init__") (st := si_Taken) T.ox_Taken T.g_Taken T.nf_Taken_name T.in_Taken sci_Taken (fun F => F.binds (fun _ _ _ _ _ _ us hl => match us, hl with | [_, _], _ => rfl)) (fun cdv A outer s H fI E hr => (pss_one (ps_ost (pv 0) (pv 1))))
abbrev si_NoLayer : Stmt := inCls (top 11) 0
theorem sci_NoLayer : FnScope ["self", "name"] ["self", "name"] (defScope si_NoLayer) := ⟨rfl, rfl, rfl, by decide +kernel, rfl, by decide +kernel, by decide +kernel⟩
theorem ini_NoLayer (T : Txt K mg AA) : Ini P w K mg base "NoLayer" AA.NoLayer ["self", "name"] 1 (spIn1 AA.NoLayer "name") := ini1 (qual := "NoLayer.__init__") (st := si_NoLayer) T.ox_NoLayer T.g_NoLayer T.nf_NoLayer_name T.in_NoLayer sci_NoLayer (fun F => F.binds (fun _ _ _ _ _ _ us hl => match us, hl with | [_, _], _ => rfl)) (fun cdv A outer s H fI E hr => (pss_one (ps_ost (pv 0) (pv 1))))
abbrev si_TooMany : Stmt := inCls (top 12) 0
theorem sci_TooMany : FnScope ["self", "most"] ["self", "most"] (defScope si_TooMany) := ⟨rfl, rfl, rfl, by decide +kernel, rfl, by decide +kernel, by decide +kernel⟩
theorem ini_TooMany (T : Txt K mg AA) : Ini P w K mg base "TooMany" AA.TooMany ["self", "most"] 1 (spIn1 AA.TooMany "most") := ini1 (qual := "TooMany.__init__") (st := si_TooMany) T.ox_TooMany T.g_TooMany T.nf_TooMany_most T.in_TooMany sci_TooMany (fun F => F.binds (fun _ _ _ _ _ _ us hl => match us, hl with | [_, _], _ => rfl)) (fun cdv A outer s H fI E hr => (pss_one (ps_ost (pv 0) (pv 1))))
def p_is_whole (K : PySem.W.Frag) : PT0 K := fun c xs k _ => ∃ d, xs = [.d d] ∧ k (.d (.bool (isInt d && !isBool d)))
theorem len_is_whole {K : PySem.W.Frag} : ∀ (c : Py.Ctx K) xs k x, p_is_whole K c xs k x → xs.length = 1 := by
  rintro c xs k x ⟨d, rfl, _⟩
  rfl
abbrev s_is_whole : Stmt := top 18
theorem sc_is_whole : FnScope ["thing"] ["thing"] (defScope s_is_whole) := ⟨rfl, rfl, rfl, by decide +kernel, rfl, by decide +kernel, by decide +kernel⟩
theorem ok_is_whole (T : Txt K mg AA) (R : Raw K mg "is_whole" s_is_whole) : Def P w K mg base "is_whole" ["thing"] CX0 1 (spD K (p_is_whole K)) := R.def fun f fd F => by
  refine ⟨F.binds (ps := ["thing"]) fun _ _ _ _ _ _ us hl => match us, hl with | [_], _ => rfl, F.ok sc_is_whole (spD_len len_is_whole) (fun cdv A outer s H vs Q E hr h => ?_)⟩
  refine ⟨_, (pss_one (ps_ret (pe_and (pe_callB (call_isis K) (by rfl) T.b_isinstance (by decide +kernel) (pa_cons (pv 0) (pa_cons (pe_bltn (v := .ty "int") (by rfl) T.b_int (by decide +kernel) rfl) pa_nil))) (pe_one (pe_not (pe_callB (call_isis K) (by rfl) T.b_isinstance (by decide +kernel) (pa_cons (pv 0) (pa_cons (pe_bltn (v := .ty "bool") (by rfl) T.b_bool (by decide +kernel) rfl) pa_nil)))))))), ?_⟩
  refine run_spD h (fun c xs k x p => ?_)
  obtain ⟨d, rfl, hk⟩ := p
  refine ⟨Nat.le_of_ble_eq_true rfl, fun hx => ?_⟩
  show Ws c _ [.val (.d d)] _
  walk_at "py"
  · rename_i hb
    rw [hb, Bool.true_and] at hk
    exact hk
  · rename_i hb
    rw [hb, Bool.false_and] at hk
    exact hk

theorem call_is_whole {K : PySem.W.Frag} {c : Py.Ctx K} {k : Dv → Prop} {x : Value → Prop} {d : PyData} (h : k (.d (.bool (isInt d && !isBool d)))) : ∀ c', Le c c' → p_is_whole K c' [.d d] k x := fun c' le => ⟨d, rfl, h⟩
local macro_rules | `(tactic| walk_at "py1") => `(tactic| with_reducible refine call_is_whole ?_)
def p_divisor_of (K : PySem.W.Frag) : PT0 K := fun c xs k _ => ∃ a b : Int, xs = [.d (.int a), .d (.int b)] ∧ k (.d (.int (Int.gcd a b)))
theorem len_divisor_of {K : PySem.W.Frag} : ∀ (c : Py.Ctx K) xs k x, p_divisor_of K c xs k x → xs.length = 2 := by
  rintro c xs k x ⟨a, b, rfl, _⟩
  rfl
abbrev s_divisor_of : Stmt := top 19
theorem sc_divisor_of : FnScope ["one", "other"] ["one", "other"] (defScope s_divisor_of) := ⟨rfl, rfl, rfl, by decide +kernel, rfl, by decide +kernel, by decide +kernel⟩
theorem ok_divisor_of (T : Txt K mg AA) (R : Raw K mg "divisor_of" s_divisor_of) : Def P w K mg base "divisor_of" ["one", "other"] CX0 1 (spD K (p_divisor_of K)) := R.def fun f fd F => by
  refine ⟨F.binds (ps := ["one", "other"]) fun _ _ _ _ _ _ us hl => match us, hl with | [_, _], _ => rfl, F.ok sc_divisor_of (spD_len len_divisor_of) (fun cdv A outer s H vs Q E hr h => ?_)⟩
  refine ⟨_, (pss_cons (ps_set (i := 0) sc_divisor_of.nd rfl (Or.inl rfl) (pe_callB call_abss (by rfl) T.b_abs (by decide +kernel) (pa_cons (pv 0) pa_nil)))
      (pss_cons (ps_set (i := 1) sc_divisor_of.nd rfl (Or.inl rfl) (pe_callB call_abss (by rfl) T.b_abs (by decide +kernel) (pa_cons (pv 1) pa_nil)))
      (pss_cons (ps_while PassesOwn.never (pt_cmpR op_gtU (pv 1) pe_int (nomark _)) (pss_one (ps_par (i := 0) (j := 1) (by rfl) sc_divisor_of.nd rfl rfl (by decide) rfl rfl (pa_cons (pv 1) (pa_cons (pe_op op_modN (pv 0) (pv 1)) pa_nil)) (by rfl))))
      (pss_one (ps_ret (pv 0)))))), ?_⟩
  refine run_spD h (fun c xs k x p => ?_)
  obtain ⟨a, b, rfl, hk⟩ := p
  refine ⟨Nat.le_of_ble_eq_true rfl, fun hx => ?_⟩
  show Ws c _ [.val (.d (.int a)), .val (.d (.int b))] _
  walk_at "py"
  refine ws_while (m0 := b.natAbs) (fun m ρ' => ∃ a' b' : Int, ρ' = [.val (.d (.int a')), .val (.d (.int b'))] ∧ 0 ≤ a' ∧ 0 ≤ b' ∧ b'.toNat = m ∧ Int.gcd a' b' = Int.gcd a b) ?_ ?_
  · exact ⟨_, _, rfl, by omega, by omega, by omega, gcd_abs a b⟩
  · rintro m ρ' ⟨a', b', rfl, ha, hb, hm, hg⟩
    walk_at "py"
    · rename_i hlt
      have hlt : 0 < b' := of_decide_eq_true hlt
      refine rv_mod (by omega) ?_
      walk_at "py"
      refine ⟨(a'.fmod b').toNat, ?_, _, _, rfl, by omega, Int.fmod_nonneg_of_pos _ hlt, rfl, ?_⟩
      · have := Int.fmod_lt_of_pos a' hlt
        have := Int.fmod_nonneg_of_pos a' hlt
        omega
      · rw [gcd_step ha hlt, hg]
    · rename_i hge
      have hge : ¬ 0 < b' := of_decide_eq_false hge
      have : b' = 0 := by omega
      subst this
      walk_at "py"
      have e : (Int.gcd a b : Int) = a' := by
        rw [← hg, Int.gcd_zero_right]; omega
      rw [← e]
      exact hk

theorem call_divisor_of {K : PySem.W.Frag} {c : Py.Ctx K} {k : Dv → Prop} {x : Value → Prop} {a b : Int} (h : k (.d (.int (Int.gcd a b)))) : ∀ c', Le c c' → p_divisor_of K c' [.d (.int a), .d (.int b)] k x := fun c' le => ⟨a, b, rfl, h⟩
local macro_rules | `(tactic| walk_at "py1") => `(tactic| with_reducible refine call_divisor_of ?_)
def p_fraction (C : Addr) (K : PySem.W.Frag) : PT0 K := fun c xs k x => ∃ t b : Int, xs = [.d (.int t), .d (.int b)] ∧ (b = 0 → x (.ref C)) ∧ (b ≠ 0 → (Int.gcd t b).log2 < 9000 ∧ k (.d (frD (Rat.divInt t b))))
theorem len_fraction {C : Addr} {K : PySem.W.Frag} : ∀ (c : Py.Ctx K) xs k x, p_fraction C K c xs k x → xs.length = 2 := by
  rintro c xs k x ⟨a, b, rfl, _⟩
  rfl
abbrev s_fraction : Stmt := top 20
theorem sc_fraction : FnScope ["top", "bottom", "by"] ["top", "bottom"] (defScope s_fraction) := ⟨rfl, rfl, rfl, by decide +kernel, rfl, by decide +kernel, by decide +kernel⟩
theorem ok_fraction (T : Txt K mg AA) (d_divisor_of : Def P w K mg base "divisor_of" ["one", "other"] CX0 1 (spD K (p_divisor_of K))) (R : Raw K mg "fraction" s_fraction) : Def P w K mg base "fraction" ["top", "bottom"] (L2.CX P w) 2 (spD K (p_fraction AA.NoNumber K)) := R.def fun f fd F => by
  refine ⟨F.binds (ps := ["top", "bottom"]) fun _ _ _ _ _ _ us hl => match us, hl with | [_, _], _ => rfl, F.okX sc_fraction (spD_len len_fraction) (fun cdv A outer s H vs Q E hr h => ?_)⟩
  refine ⟨_, (pss_cons (ps_if (pt_cmpR (op_eqs K hr.units) (pv 1) pe_int (nomark _)) (pss_one (ps_rs rfl (takes_of rfl rfl rfl rfl) (pmk_own PySem.F.excBase_ValueError T.x_NoNumber T.g_NoNumber T.kp_NoNumber (raises_own T.eb_NoNumber T.et_NoNumber) rfl))) pss_nil)
      (pss_cons (ps_set (i := 2) sc_fraction.nd rfl (Or.inl rfl) (pe_D0 d_divisor_of (by decide) hr pass0 (pa_cons (pv 0) (pa_cons (pv 1) pa_nil))))
      (pss_cons (ps_if (pt_cmpR op_ltU (pv 1) pe_int (nomark _)) (pss_one (ps_set (i := 2) sc_fraction.nd rfl (Or.inl rfl) (pe_op op_sub pe_int (pv 2)))) pss_nil)
      (pss_one (ps_ret (pe_tup (pa_cons (pe_op op_fdivX (pv 0) (pv 2)) (pa_cons (pe_op op_fdivX (pv 1) (pv 2)) pa_nil)))))))), ?_⟩
  refine run_spD h (fun c xs k x p => ?_)
  obtain ⟨t, b, rfl, h0, h1⟩ := p
  refine ⟨Nat.le_of_ble_eq_true rfl, fun hx => ?_⟩
  show Ws c _ [.val (.d (.int t)), .val (.d (.int b)), .un] _
  walk_at "py"
  · rename_i hb
    exact ws_rs (x := fun _ => x) hx (h0 (of_decide_eq_true hb))
  all_goals
    rename_i hb hn
    have hb : b ≠ 0 := of_decide_eq_false hb
    obtain ⟨hl, hk⟩ := h1 hb
    have hg : (Int.gcd t b : Int) ≠ 0 := by
      intro h
      have : Int.gcd t b = 0 := by exact_mod_cast h
      exact hb (Int.gcd_eq_zero_iff.mp this).2
    obtain ⟨e1, e2⟩ := fdiv_num (t := t) hb
  · rw [if_pos (of_decide_eq_true hn)] at e1 e2
    have hc : CDivX t (0 - (Int.gcd t b : Int)) := ⟨by omega, by rw [show (0 - (Int.gcd t b : Int)).natAbs = Int.gcd t b by omega]; exact hl⟩
    have hc' : CDivX b (0 - (Int.gcd t b : Int)) := hc
    walk_at "py"
    rw [e1, e2]
    exact hk
  · rw [if_neg (of_decide_eq_false hn)] at e1 e2
    have hc : CDivX t (Int.gcd t b : Int) := ⟨hg, hl⟩
    have hc' : CDivX b (Int.gcd t b : Int) := hc
    walk_at "py"
    rw [e1, e2]
    exact hk

theorem call_fraction {C : Addr} {K : PySem.W.Frag} {c : Py.Ctx K} {k : Dv → Prop} {x : Value → Prop} {t b : Int} (hb : b ≠ 0) (hl : (Int.gcd t b).log2 < 9000) (h : k (.d (frD (Rat.divInt t b)))) : ∀ c', Le c c' → p_fraction C K c' [.d (.int t), .d (.int b)] k x := fun c' le => ⟨t, b, rfl, fun z => absurd z hb, fun _ => ⟨hl, h⟩⟩
local macro_rules | `(tactic| walk_at "py1") => `(tactic| with_reducible refine call_fraction ?_ ?_ ?_)
def p_point_by (C : Addr) (K : PySem.W.Frag) : PT0 K := fun c xs k x => ∃ a b d : Int, xs = [.d (.int a), .d (.int b), .d (.int d)] ∧ (d = 0 → x (.ref C)) ∧ ∀ hd : d ≠ 0, (Int.gcd (Int.gcd a b) d).log2 < 9000 ∧ k (.d (ptD (ptBy a b d hd)))
theorem len_point_by {C : Addr} {K : PySem.W.Frag} : ∀ (c : Py.Ctx K) xs k x, p_point_by C K c xs k x → xs.length = 3 := by
  rintro c xs k x ⟨a, b, d, rfl, _⟩
  rfl
abbrev s_point_by : Stmt := top 23
theorem sc_point_by : FnScope ["a", "b", "c", "by"] ["a", "b", "c"] (defScope s_point_by) := ⟨rfl, rfl, rfl, by decide +kernel, rfl, by decide +kernel, by decide +kernel⟩
theorem ok_point_by (T : Txt K mg AA) (d_divisor_of : Def P w K mg base "divisor_of" ["one", "other"] CX0 1 (spD K (p_divisor_of K))) (R : Raw K mg "point_by" s_point_by) : Def P w K mg base "point_by" ["a", "b", "c"] (L2.CX P w) 2 (spD K (p_point_by AA.NoPoint K)) := R.def fun f fd F => by
  refine ⟨F.binds (ps := ["a", "b", "c"]) fun _ _ _ _ _ _ us hl => match us, hl with | [_, _, _], _ => rfl, F.okX sc_point_by (spD_len len_point_by) (fun cdv A outer s H vs Q E hr h => ?_)⟩
  refine ⟨_, (pss_cons (ps_if (pt_cmpR (op_eqs K hr.units) (pv 2) pe_int (nomark _)) (pss_one (ps_rs rfl (takes_of rfl rfl rfl rfl) (pmk_own PySem.F.excBase_ValueError T.x_NoPoint T.g_NoPoint T.kp_NoPoint (raises_own T.eb_NoPoint T.et_NoPoint) rfl))) pss_nil)
      (pss_cons (ps_set (i := 3) sc_point_by.nd rfl (Or.inl rfl) (pe_D0 d_divisor_of (by decide) hr pass0 (pa_cons (pe_D0 d_divisor_of (by decide) hr pass0 (pa_cons (pv 0) (pa_cons (pv 1) pa_nil))) (pa_cons (pv 2) pa_nil))))
      (pss_cons (ps_if (pt_cmpR op_ltU (pv 2) pe_int (nomark _)) (pss_one (ps_set (i := 3) sc_point_by.nd rfl (Or.inl rfl) (pe_op op_sub pe_int (pv 3)))) pss_nil)
      (pss_one (ps_ret (pe_tup (pa_cons (pe_op op_fdivX (pv 0) (pv 3)) (pa_cons (pe_op op_fdivX (pv 1) (pv 3)) (pa_cons (pe_op op_fdivX (pv 2) (pv 3)) pa_nil))))))))), ?_⟩
  refine run_spD h (fun c xs k x p => ?_)
  obtain ⟨a, b, d, rfl, h0, h1⟩ := p
  refine ⟨Nat.le_of_ble_eq_true rfl, fun hx => ?_⟩
  show Ws c _ [.val (.d (.int a)), .val (.d (.int b)), .val (.d (.int d)), .un] _
  walk_at "py"
  · rename_i hb
    exact ws_rs (x := fun _ => x) hx (h0 (of_decide_eq_true hb))
  all_goals
    rename_i hb hn
    have hd : d ≠ 0 := of_decide_eq_false hb
    obtain ⟨hl, hk⟩ := h1 hd
    obtain ⟨_, _, _, _, _, _, _, _, h6, h7⟩ := by3_facts (a := a) (b := b) hd
    have hc : ∀ z : Int, CDivX z (by3 a b d) := fun z => ⟨h6, by rw [h7]; exact hl⟩
  · have e : by3 a b d = 0 - (Int.gcd (Int.gcd a b) d : Int) := if_pos (of_decide_eq_true hn)
    rw [← e]
    have c1 := hc a
    have c2 := hc b
    have c3 := hc d
    walk_at "py"
    exact hk
  · have e : by3 a b d = (Int.gcd (Int.gcd a b) d : Int) := if_neg (of_decide_eq_false hn)
    rw [← e]
    have c1 := hc a
    have c2 := hc b
    have c3 := hc d
    walk_at "py"
    exact hk

theorem call_point_by {C : Addr} {K : PySem.W.Frag} {c : Py.Ctx K} {k : Dv → Prop} {x : Value → Prop} {a b d : Int} (hd : d ≠ 0) (hl : (Int.gcd (Int.gcd a b) d).log2 < 9000) (h : k (.d (ptD (ptBy a b d hd)))) : ∀ c', Le c c' → p_point_by C K c' [.d (.int a), .d (.int b), .d (.int d)] k x := fun c' le => ⟨a, b, d, rfl, fun z => absurd z hd, fun _ => ⟨hl, h⟩⟩
local macro_rules | `(tactic| walk_at "py1") => `(tactic| with_reducible refine call_point_by ?_ ?_ ?_)
/-- the errors, with their fields -/
def errs (AA : Ads) (a b : Int) : List (Value × Option FD) := [(.ref AA.NoNumber, none), (.ref AA.NoPoint, none), (.ref AA.BadLayer, some [("at", .int b), ("ring", .int a)]), (.ref AA.BadPlan, none), (.ref AA.NoFace, some [("number", .int a)]), (.ref AA.Endless, none), (.ref AA.NoGround, some [("point", .tuple [.int a, .int b, .int 1])]), (.ref AA.NoName, none), (.ref AA.Taken, some [("name", .str "a")]), (.ref AA.NoLayer, some [("name", .str "b")]), (.ref AA.TooMany, some [("most", .int a)]), (.ref AA.BadWish, none), (.ref AA.NoSize, none), (.ref AA.NoText, none), (.ref AA.NoRow, none), (.ref AA.NoNumber, none), (.ref AA.NoPoint, none)]
def p__law_raised (AA : Ads) (K : PySem.W.Frag) : PTF K := fun c xs k x => ∃ (w a b : Int) (e : Value × Option FD), xs = [.d (.int w), .d (.list [.int a, .int b])] ∧ 0 ≤ w ∧ (errs AA a b)[w.toNat]? = some e ∧ x e.1 e.2
theorem len__law_raised {AA : Ads} {K : PySem.W.Frag} : ∀ (c : Py.Ctx K) xs k x, p__law_raised AA K c xs k x → xs.length = 2 := by
  rintro c xs k x ⟨w, a, b, e, rfl, _⟩
  rfl
abbrev s__law_raised : Stmt := top 37
theorem sc__law_raised : FnScope ["_law_which", "_law_some"] ["_law_which", "_law_some"] (defScope s__law_raised) := ⟨rfl, rfl, rfl, by decide +kernel, rfl, by decide +kernel, by decide +kernel⟩
theorem ok__law_raised (T : Txt K mg AA) (d_fraction : Def P w K mg base "fraction" ["top", "bottom"] (L2.CX P w) 2 (spD K (p_fraction AA.NoNumber K))) (d_point_by : Def P w K mg base "point_by" ["a", "b", "c"] (L2.CX P w) 2 (spD K (p_point_by AA.NoPoint K))) (R : Raw K mg "_law_raised" s__law_raised) : Def P w K mg base "_law_raised" ["_law_which", "_law_some"] (L2.CX P w) 3 (spF K (p__law_raised AA K)) := R.def fun f fd F => by
  refine ⟨F.binds (ps := ["_law_which", "_law_some"]) fun _ _ _ _ _ _ us hl => match us, hl with | [_, _], _ => rfl, F.okX sc__law_raised (spF_len len__law_raised) (fun cdv A outer s H vs Q E hr h => ?_)⟩
  refine ⟨_, (pss_cons (ps_if (pt_cmpR (op_eqs K hr.units) (pv 0) pe_int (nomark _)) (pss_one (ps_rs rfl (takes_of rfl rfl rfl rfl) (pmk_own0 PySem.F.excBase_ValueError T.x_NoNumber T.g_NoNumber T.kp_NoNumber (raises_own T.eb_NoNumber T.et_NoNumber) rfl))) pss_nil)
      (pss_cons (ps_if (pt_cmpR (op_eqs K hr.units) (pv 0) pe_int (nomark _)) (pss_one (ps_rs rfl (takes_of rfl rfl rfl rfl) (pmk_own0 PySem.F.excBase_ValueError T.x_NoPoint T.g_NoPoint T.kp_NoPoint (raises_own T.eb_NoPoint T.et_NoPoint) rfl))) pss_nil)
      (pss_cons (ps_if (pt_cmpR (op_eqs K hr.units) (pv 0) pe_int (nomark _)) (pss_one (ps_raise2 rfl (takes_of rfl rfl rfl rfl) (pmk_ini (ini_BadLayer T) (by decide) hr (pa_cons (pe_ix (ix_s K) (pv 1) pe_int (fun _ _ => rfl)) (pa_cons (pe_ix (ix_s K) (pv 1) pe_int (fun _ _ => rfl)) pa_nil))))) pss_nil)
      (pss_cons (ps_if (pt_cmpR (op_eqs K hr.units) (pv 0) pe_int (nomark _)) (pss_one (ps_rs rfl (takes_of rfl rfl rfl rfl) (pmk_own0 PySem.F.excBase_ValueError T.x_BadPlan T.g_BadPlan T.kp_BadPlan (raises_own T.eb_BadPlan T.et_BadPlan) rfl))) pss_nil)
      (pss_cons (ps_if (pt_cmpR (op_eqs K hr.units) (pv 0) pe_int (nomark _)) (pss_one (ps_raise1 rfl (takes_of rfl rfl rfl rfl) (pmk_ini (ini_NoFace T) (by decide) hr (pa_cons (pe_ix (ix_s K) (pv 1) pe_int (fun _ _ => rfl)) pa_nil)))) pss_nil)
      (pss_cons (ps_if (pt_cmpR (op_eqs K hr.units) (pv 0) pe_int (nomark _)) (pss_one (ps_rs rfl (takes_of rfl rfl rfl rfl) (pmk_own0 PySem.F.excBase_ValueError T.x_Endless T.g_Endless T.kp_Endless (raises_own T.eb_Endless T.et_Endless) rfl))) pss_nil)
      (pss_cons (ps_if (pt_cmpR (op_eqs K hr.units) (pv 0) pe_int (nomark _)) (pss_one (ps_raise1 rfl (takes_of rfl rfl rfl rfl) (pmk_ini (ini_NoGround T) (by decide) hr (pa_cons (pe_tup (pa_cons (pe_ix (ix_s K) (pv 1) pe_int (fun _ _ => rfl)) (pa_cons (pe_ix (ix_s K) (pv 1) pe_int (fun _ _ => rfl)) (pa_cons pe_int pa_nil)))) pa_nil)))) pss_nil)
      (pss_cons (ps_if (pt_cmpR (op_eqs K hr.units) (pv 0) pe_int (nomark _)) (pss_one (ps_rs rfl (takes_of rfl rfl rfl rfl) (pmk_own0 PySem.F.excBase_ValueError T.x_NoName T.g_NoName T.kp_NoName (raises_own T.eb_NoName T.et_NoName) rfl))) pss_nil)
      (pss_cons (ps_if (pt_cmpR (op_eqs K hr.units) (pv 0) pe_int (nomark _)) (pss_one (ps_raise1 rfl (takes_of rfl rfl rfl rfl) (pmk_ini (ini_Taken T) (by decide) hr (pa_cons pe_str pa_nil)))) pss_nil)
      (pss_cons (ps_if (pt_cmpR (op_eqs K hr.units) (pv 0) pe_int (nomark _)) (pss_one (ps_raise1 rfl (takes_of rfl rfl rfl rfl) (pmk_ini (ini_NoLayer T) (by decide) hr (pa_cons pe_str pa_nil)))) pss_nil)
      (pss_cons (ps_if (pt_cmpR (op_eqs K hr.units) (pv 0) pe_int (nomark _)) (pss_one (ps_raise1 rfl (takes_of rfl rfl rfl rfl) (pmk_ini (ini_TooMany T) (by decide) hr (pa_cons (pe_ix (ix_s K) (pv 1) pe_int (fun _ _ => rfl)) pa_nil)))) pss_nil)
      (pss_cons (ps_if (pt_cmpR (op_eqs K hr.units) (pv 0) pe_int (nomark _)) (pss_one (ps_rs rfl (takes_of rfl rfl rfl rfl) (pmk_own0 PySem.F.excBase_ValueError T.x_BadWish T.g_BadWish T.kp_BadWish (raises_own T.eb_BadWish T.et_BadWish) rfl))) pss_nil)
      (pss_cons (ps_if (pt_cmpR (op_eqs K hr.units) (pv 0) pe_int (nomark _)) (pss_one (ps_rs rfl (takes_of rfl rfl rfl rfl) (pmk_own0 PySem.F.excBase_ValueError T.x_NoSize T.g_NoSize T.kp_NoSize (raises_own T.eb_NoSize T.et_NoSize) rfl))) pss_nil)
      (pss_cons (ps_if (pt_cmpR (op_eqs K hr.units) (pv 0) pe_int (nomark _)) (pss_one (ps_rs rfl (takes_of rfl rfl rfl rfl) (pmk_own0 PySem.F.excBase_ValueError T.x_NoText T.g_NoText T.kp_NoText (raises_own T.eb_NoText T.et_NoText) rfl))) pss_nil)
      (pss_cons (ps_if (pt_cmpR (op_eqs K hr.units) (pv 0) pe_int (nomark _)) (pss_one (ps_rs rfl (takes_of rfl rfl rfl rfl) (pmk_own0 PySem.F.excBase_ValueError T.x_NoRow T.g_NoRow T.kp_NoRow (raises_own T.eb_NoRow T.et_NoRow) rfl))) pss_nil)
      (pss_cons (ps_if (pt_cmpR (op_eqs K hr.units) (pv 0) pe_int (nomark _)) (pss_one (ps_expr (pe_DS d_fraction (by decide) hr (takes_of rfl rfl rfl rfl) (pa_cons (pe_ix (ix_s K) (pv 1) pe_int (fun _ _ => rfl)) (pa_cons pe_int pa_nil))))) pss_nil)
      (pss_one (ps_if (pt_cmpR (op_eqs K hr.units) (pv 0) pe_int (nomark _)) (pss_one (ps_expr (pe_DS d_point_by (by decide) hr (takes_of rfl rfl rfl rfl) (pa_cons (pe_ix (ix_s K) (pv 1) pe_int (fun _ _ => rfl)) (pa_cons (pe_ix (ix_s K) (pv 1) pe_int (fun _ _ => rfl)) (pa_cons pe_int pa_nil)))))) pss_nil)))))))))))))))))), ?_⟩
  refine run_spF h (fun c xs k x p => ?_)
  obtain ⟨w, a, b, e, rfl, w0, he, hk⟩ := p
  refine ⟨Nat.le_of_ble_eq_true rfl, fun hx => ?_⟩
  show Ws c _ [.val (.d (.int w)), .val (.d (.list [.int a, .int b]))] _
  have w1 : w < 17 := by
    have := (List.getElem?_eq_some_iff.mp he).1
    have : w.toNat < 17 := this
    omega
  have hw : w = 0 ∨ w = 1 ∨ w = 2 ∨ w = 3 ∨ w = 4 ∨ w = 5 ∨ w = 6 ∨ w = 7 ∨ w = 8 ∨ w = 9 ∨ w = 10 ∨ w = 11 ∨ w = 12 ∨ w = 13 ∨ w = 14 ∨ w = 15 ∨ w = 16 := by omega
  rcases hw with rfl | rfl | rfl | rfl | rfl | rfl | rfl | rfl | rfl | rfl | rfl | rfl | rfl | rfl | rfl | rfl | rfl
  · cases he
    refine ws_seq (ws_if (wt_split true ?_ (fun _ => ?_) (fun h => by cases h)))
    · walk_at "py"
      rfl
    exact ws_rs (x := fun _ cls => x cls none) hx.toX hk
  · cases he
    refine ws_seq (ws_if (wt_split false ?_ (fun h => by cases h) (fun _ => ws_next ?_)))
    · walk_at "py"
      rfl
    refine ws_seq (ws_if (wt_split true ?_ (fun _ => ?_) (fun h => by cases h)))
    · walk_at "py"
      rfl
    exact ws_rs (x := fun _ cls => x cls none) hx.toX hk
  · cases he
    refine ws_seq (ws_if (wt_split false ?_ (fun h => by cases h) (fun _ => ws_next ?_)))
    · walk_at "py"
      rfl
    refine ws_seq (ws_if (wt_split false ?_ (fun h => by cases h) (fun _ => ws_next ?_)))
    · walk_at "py"
      rfl
    refine ws_seq (ws_if (wt_split true ?_ (fun _ => ?_) (fun h => by cases h)))
    · walk_at "py"
      rfl
    refine ws_rs2 (x := fun _ => x) hx ?_
    walk_at "py"
    refine ⟨_, rfl, ?_⟩
    walk_at "py"
    exact ⟨_, rfl, hk⟩
  · cases he
    refine ws_seq (ws_if (wt_split false ?_ (fun h => by cases h) (fun _ => ws_next ?_)))
    · walk_at "py"
      rfl
    refine ws_seq (ws_if (wt_split false ?_ (fun h => by cases h) (fun _ => ws_next ?_)))
    · walk_at "py"
      rfl
    refine ws_seq (ws_if (wt_split false ?_ (fun h => by cases h) (fun _ => ws_next ?_)))
    · walk_at "py"
      rfl
    refine ws_seq (ws_if (wt_split true ?_ (fun _ => ?_) (fun h => by cases h)))
    · walk_at "py"
      rfl
    exact ws_rs (x := fun _ cls => x cls none) hx.toX hk
  · cases he
    refine ws_seq (ws_if (wt_split false ?_ (fun h => by cases h) (fun _ => ws_next ?_)))
    · walk_at "py"
      rfl
    refine ws_seq (ws_if (wt_split false ?_ (fun h => by cases h) (fun _ => ws_next ?_)))
    · walk_at "py"
      rfl
    refine ws_seq (ws_if (wt_split false ?_ (fun h => by cases h) (fun _ => ws_next ?_)))
    · walk_at "py"
      rfl
    refine ws_seq (ws_if (wt_split false ?_ (fun h => by cases h) (fun _ => ws_next ?_)))
    · walk_at "py"
      rfl
    refine ws_seq (ws_if (wt_split true ?_ (fun _ => ?_) (fun h => by cases h)))
    · walk_at "py"
      rfl
    refine ws_rs1 (x := fun _ => x) hx ?_
    walk_at "py"
    exact ⟨_, rfl, hk⟩
  · cases he
    refine ws_seq (ws_if (wt_split false ?_ (fun h => by cases h) (fun _ => ws_next ?_)))
    · walk_at "py"
      rfl
    refine ws_seq (ws_if (wt_split false ?_ (fun h => by cases h) (fun _ => ws_next ?_)))
    · walk_at "py"
      rfl
    refine ws_seq (ws_if (wt_split false ?_ (fun h => by cases h) (fun _ => ws_next ?_)))
    · walk_at "py"
      rfl
    refine ws_seq (ws_if (wt_split false ?_ (fun h => by cases h) (fun _ => ws_next ?_)))
    · walk_at "py"
      rfl
    refine ws_seq (ws_if (wt_split false ?_ (fun h => by cases h) (fun _ => ws_next ?_)))
    · walk_at "py"
      rfl
    refine ws_seq (ws_if (wt_split true ?_ (fun _ => ?_) (fun h => by cases h)))
    · walk_at "py"
      rfl
    exact ws_rs (x := fun _ cls => x cls none) hx.toX hk
  · cases he
    refine ws_seq (ws_if (wt_split false ?_ (fun h => by cases h) (fun _ => ws_next ?_)))
    · walk_at "py"
      rfl
    refine ws_seq (ws_if (wt_split false ?_ (fun h => by cases h) (fun _ => ws_next ?_)))
    · walk_at "py"
      rfl
    refine ws_seq (ws_if (wt_split false ?_ (fun h => by cases h) (fun _ => ws_next ?_)))
    · walk_at "py"
      rfl
    refine ws_seq (ws_if (wt_split false ?_ (fun h => by cases h) (fun _ => ws_next ?_)))
    · walk_at "py"
      rfl
    refine ws_seq (ws_if (wt_split false ?_ (fun h => by cases h) (fun _ => ws_next ?_)))
    · walk_at "py"
      rfl
    refine ws_seq (ws_if (wt_split false ?_ (fun h => by cases h) (fun _ => ws_next ?_)))
    · walk_at "py"
      rfl
    refine ws_seq (ws_if (wt_split true ?_ (fun _ => ?_) (fun h => by cases h)))
    · walk_at "py"
      rfl
    refine ws_rs1 (x := fun _ => x) hx ?_
    walk_at "py"
    exact ⟨_, rfl, hk⟩
  · cases he
    refine ws_seq (ws_if (wt_split false ?_ (fun h => by cases h) (fun _ => ws_next ?_)))
    · walk_at "py"
      rfl
    refine ws_seq (ws_if (wt_split false ?_ (fun h => by cases h) (fun _ => ws_next ?_)))
    · walk_at "py"
      rfl
    refine ws_seq (ws_if (wt_split false ?_ (fun h => by cases h) (fun _ => ws_next ?_)))
    · walk_at "py"
      rfl
    refine ws_seq (ws_if (wt_split false ?_ (fun h => by cases h) (fun _ => ws_next ?_)))
    · walk_at "py"
      rfl
    refine ws_seq (ws_if (wt_split false ?_ (fun h => by cases h) (fun _ => ws_next ?_)))
    · walk_at "py"
      rfl
    refine ws_seq (ws_if (wt_split false ?_ (fun h => by cases h) (fun _ => ws_next ?_)))
    · walk_at "py"
      rfl
    refine ws_seq (ws_if (wt_split false ?_ (fun h => by cases h) (fun _ => ws_next ?_)))
    · walk_at "py"
      rfl
    refine ws_seq (ws_if (wt_split true ?_ (fun _ => ?_) (fun h => by cases h)))
    · walk_at "py"
      rfl
    exact ws_rs (x := fun _ cls => x cls none) hx.toX hk
  · cases he
    refine ws_seq (ws_if (wt_split false ?_ (fun h => by cases h) (fun _ => ws_next ?_)))
    · walk_at "py"
      rfl
    refine ws_seq (ws_if (wt_split false ?_ (fun h => by cases h) (fun _ => ws_next ?_)))
    · walk_at "py"
      rfl
    refine ws_seq (ws_if (wt_split false ?_ (fun h => by cases h) (fun _ => ws_next ?_)))
    · walk_at "py"
      rfl
    refine ws_seq (ws_if (wt_split false ?_ (fun h => by cases h) (fun _ => ws_next ?_)))
    · walk_at "py"
      rfl
    refine ws_seq (ws_if (wt_split false ?_ (fun h => by cases h) (fun _ => ws_next ?_)))
    · walk_at "py"
      rfl
    refine ws_seq (ws_if (wt_split false ?_ (fun h => by cases h) (fun _ => ws_next ?_)))
    · walk_at "py"
      rfl
    refine ws_seq (ws_if (wt_split false ?_ (fun h => by cases h) (fun _ => ws_next ?_)))
    · walk_at "py"
      rfl
    refine ws_seq (ws_if (wt_split false ?_ (fun h => by cases h) (fun _ => ws_next ?_)))
    · walk_at "py"
      rfl
    refine ws_seq (ws_if (wt_split true ?_ (fun _ => ?_) (fun h => by cases h)))
    · walk_at "py"
      rfl
    refine ws_rs1 (x := fun _ => x) hx ?_
    walk_at "py"
    exact ⟨_, rfl, hk⟩
  · cases he
    refine ws_seq (ws_if (wt_split false ?_ (fun h => by cases h) (fun _ => ws_next ?_)))
    · walk_at "py"
      rfl
    refine ws_seq (ws_if (wt_split false ?_ (fun h => by cases h) (fun _ => ws_next ?_)))
    · walk_at "py"
      rfl
    refine ws_seq (ws_if (wt_split false ?_ (fun h => by cases h) (fun _ => ws_next ?_)))
    · walk_at "py"
      rfl
    refine ws_seq (ws_if (wt_split false ?_ (fun h => by cases h) (fun _ => ws_next ?_)))
    · walk_at "py"
      rfl
    refine ws_seq (ws_if (wt_split false ?_ (fun h => by cases h) (fun _ => ws_next ?_)))
    · walk_at "py"
      rfl
    refine ws_seq (ws_if (wt_split false ?_ (fun h => by cases h) (fun _ => ws_next ?_)))
    · walk_at "py"
      rfl
    refine ws_seq (ws_if (wt_split false ?_ (fun h => by cases h) (fun _ => ws_next ?_)))
    · walk_at "py"
      rfl
    refine ws_seq (ws_if (wt_split false ?_ (fun h => by cases h) (fun _ => ws_next ?_)))
    · walk_at "py"
      rfl
    refine ws_seq (ws_if (wt_split false ?_ (fun h => by cases h) (fun _ => ws_next ?_)))
    · walk_at "py"
      rfl
    refine ws_seq (ws_if (wt_split true ?_ (fun _ => ?_) (fun h => by cases h)))
    · walk_at "py"
      rfl
    refine ws_rs1 (x := fun _ => x) hx ?_
    walk_at "py"
    exact ⟨_, rfl, hk⟩
  · cases he
    refine ws_seq (ws_if (wt_split false ?_ (fun h => by cases h) (fun _ => ws_next ?_)))
    · walk_at "py"
      rfl
    refine ws_seq (ws_if (wt_split false ?_ (fun h => by cases h) (fun _ => ws_next ?_)))
    · walk_at "py"
      rfl
    refine ws_seq (ws_if (wt_split false ?_ (fun h => by cases h) (fun _ => ws_next ?_)))
    · walk_at "py"
      rfl
    refine ws_seq (ws_if (wt_split false ?_ (fun h => by cases h) (fun _ => ws_next ?_)))
    · walk_at "py"
      rfl
    refine ws_seq (ws_if (wt_split false ?_ (fun h => by cases h) (fun _ => ws_next ?_)))
    · walk_at "py"
      rfl
    refine ws_seq (ws_if (wt_split false ?_ (fun h => by cases h) (fun _ => ws_next ?_)))
    · walk_at "py"
      rfl
    refine ws_seq (ws_if (wt_split false ?_ (fun h => by cases h) (fun _ => ws_next ?_)))
    · walk_at "py"
      rfl
    refine ws_seq (ws_if (wt_split false ?_ (fun h => by cases h) (fun _ => ws_next ?_)))
    · walk_at "py"
      rfl
    refine ws_seq (ws_if (wt_split false ?_ (fun h => by cases h) (fun _ => ws_next ?_)))
    · walk_at "py"
      rfl
    refine ws_seq (ws_if (wt_split false ?_ (fun h => by cases h) (fun _ => ws_next ?_)))
    · walk_at "py"
      rfl
    refine ws_seq (ws_if (wt_split true ?_ (fun _ => ?_) (fun h => by cases h)))
    · walk_at "py"
      rfl
    refine ws_rs1 (x := fun _ => x) hx ?_
    walk_at "py"
    exact ⟨_, rfl, hk⟩
  · cases he
    refine ws_seq (ws_if (wt_split false ?_ (fun h => by cases h) (fun _ => ws_next ?_)))
    · walk_at "py"
      rfl
    refine ws_seq (ws_if (wt_split false ?_ (fun h => by cases h) (fun _ => ws_next ?_)))
    · walk_at "py"
      rfl
    refine ws_seq (ws_if (wt_split false ?_ (fun h => by cases h) (fun _ => ws_next ?_)))
    · walk_at "py"
      rfl
    refine ws_seq (ws_if (wt_split false ?_ (fun h => by cases h) (fun _ => ws_next ?_)))
    · walk_at "py"
      rfl
    refine ws_seq (ws_if (wt_split false ?_ (fun h => by cases h) (fun _ => ws_next ?_)))
    · walk_at "py"
      rfl
    refine ws_seq (ws_if (wt_split false ?_ (fun h => by cases h) (fun _ => ws_next ?_)))
    · walk_at "py"
      rfl
    refine ws_seq (ws_if (wt_split false ?_ (fun h => by cases h) (fun _ => ws_next ?_)))
    · walk_at "py"
      rfl
    refine ws_seq (ws_if (wt_split false ?_ (fun h => by cases h) (fun _ => ws_next ?_)))
    · walk_at "py"
      rfl
    refine ws_seq (ws_if (wt_split false ?_ (fun h => by cases h) (fun _ => ws_next ?_)))
    · walk_at "py"
      rfl
    refine ws_seq (ws_if (wt_split false ?_ (fun h => by cases h) (fun _ => ws_next ?_)))
    · walk_at "py"
      rfl
    refine ws_seq (ws_if (wt_split false ?_ (fun h => by cases h) (fun _ => ws_next ?_)))
    · walk_at "py"
      rfl
    refine ws_seq (ws_if (wt_split true ?_ (fun _ => ?_) (fun h => by cases h)))
    · walk_at "py"
      rfl
    exact ws_rs (x := fun _ cls => x cls none) hx.toX hk
  · cases he
    refine ws_seq (ws_if (wt_split false ?_ (fun h => by cases h) (fun _ => ws_next ?_)))
    · walk_at "py"
      rfl
    refine ws_seq (ws_if (wt_split false ?_ (fun h => by cases h) (fun _ => ws_next ?_)))
    · walk_at "py"
      rfl
    refine ws_seq (ws_if (wt_split false ?_ (fun h => by cases h) (fun _ => ws_next ?_)))
    · walk_at "py"
      rfl
    refine ws_seq (ws_if (wt_split false ?_ (fun h => by cases h) (fun _ => ws_next ?_)))
    · walk_at "py"
      rfl
    refine ws_seq (ws_if (wt_split false ?_ (fun h => by cases h) (fun _ => ws_next ?_)))
    · walk_at "py"
      rfl
    refine ws_seq (ws_if (wt_split false ?_ (fun h => by cases h) (fun _ => ws_next ?_)))
    · walk_at "py"
      rfl
    refine ws_seq (ws_if (wt_split false ?_ (fun h => by cases h) (fun _ => ws_next ?_)))
    · walk_at "py"
      rfl
    refine ws_seq (ws_if (wt_split false ?_ (fun h => by cases h) (fun _ => ws_next ?_)))
    · walk_at "py"
      rfl
    refine ws_seq (ws_if (wt_split false ?_ (fun h => by cases h) (fun _ => ws_next ?_)))
    · walk_at "py"
      rfl
    refine ws_seq (ws_if (wt_split false ?_ (fun h => by cases h) (fun _ => ws_next ?_)))
    · walk_at "py"
      rfl
    refine ws_seq (ws_if (wt_split false ?_ (fun h => by cases h) (fun _ => ws_next ?_)))
    · walk_at "py"
      rfl
    refine ws_seq (ws_if (wt_split false ?_ (fun h => by cases h) (fun _ => ws_next ?_)))
    · walk_at "py"
      rfl
    refine ws_seq (ws_if (wt_split true ?_ (fun _ => ?_) (fun h => by cases h)))
    · walk_at "py"
      rfl
    exact ws_rs (x := fun _ cls => x cls none) hx.toX hk
  · cases he
    refine ws_seq (ws_if (wt_split false ?_ (fun h => by cases h) (fun _ => ws_next ?_)))
    · walk_at "py"
      rfl
    refine ws_seq (ws_if (wt_split false ?_ (fun h => by cases h) (fun _ => ws_next ?_)))
    · walk_at "py"
      rfl
    refine ws_seq (ws_if (wt_split false ?_ (fun h => by cases h) (fun _ => ws_next ?_)))
    · walk_at "py"
      rfl
    refine ws_seq (ws_if (wt_split false ?_ (fun h => by cases h) (fun _ => ws_next ?_)))
    · walk_at "py"
      rfl
    refine ws_seq (ws_if (wt_split false ?_ (fun h => by cases h) (fun _ => ws_next ?_)))
    · walk_at "py"
      rfl
    refine ws_seq (ws_if (wt_split false ?_ (fun h => by cases h) (fun _ => ws_next ?_)))
    · walk_at "py"
      rfl
    refine ws_seq (ws_if (wt_split false ?_ (fun h => by cases h) (fun _ => ws_next ?_)))
    · walk_at "py"
      rfl
    refine ws_seq (ws_if (wt_split false ?_ (fun h => by cases h) (fun _ => ws_next ?_)))
    · walk_at "py"
      rfl
    refine ws_seq (ws_if (wt_split false ?_ (fun h => by cases h) (fun _ => ws_next ?_)))
    · walk_at "py"
      rfl
    refine ws_seq (ws_if (wt_split false ?_ (fun h => by cases h) (fun _ => ws_next ?_)))
    · walk_at "py"
      rfl
    refine ws_seq (ws_if (wt_split false ?_ (fun h => by cases h) (fun _ => ws_next ?_)))
    · walk_at "py"
      rfl
    refine ws_seq (ws_if (wt_split false ?_ (fun h => by cases h) (fun _ => ws_next ?_)))
    · walk_at "py"
      rfl
    refine ws_seq (ws_if (wt_split false ?_ (fun h => by cases h) (fun _ => ws_next ?_)))
    · walk_at "py"
      rfl
    refine ws_seq (ws_if (wt_split true ?_ (fun _ => ?_) (fun h => by cases h)))
    · walk_at "py"
      rfl
    exact ws_rs (x := fun _ cls => x cls none) hx.toX hk
  · cases he
    refine ws_seq (ws_if (wt_split false ?_ (fun h => by cases h) (fun _ => ws_next ?_)))
    · walk_at "py"
      rfl
    refine ws_seq (ws_if (wt_split false ?_ (fun h => by cases h) (fun _ => ws_next ?_)))
    · walk_at "py"
      rfl
    refine ws_seq (ws_if (wt_split false ?_ (fun h => by cases h) (fun _ => ws_next ?_)))
    · walk_at "py"
      rfl
    refine ws_seq (ws_if (wt_split false ?_ (fun h => by cases h) (fun _ => ws_next ?_)))
    · walk_at "py"
      rfl
    refine ws_seq (ws_if (wt_split false ?_ (fun h => by cases h) (fun _ => ws_next ?_)))
    · walk_at "py"
      rfl
    refine ws_seq (ws_if (wt_split false ?_ (fun h => by cases h) (fun _ => ws_next ?_)))
    · walk_at "py"
      rfl
    refine ws_seq (ws_if (wt_split false ?_ (fun h => by cases h) (fun _ => ws_next ?_)))
    · walk_at "py"
      rfl
    refine ws_seq (ws_if (wt_split false ?_ (fun h => by cases h) (fun _ => ws_next ?_)))
    · walk_at "py"
      rfl
    refine ws_seq (ws_if (wt_split false ?_ (fun h => by cases h) (fun _ => ws_next ?_)))
    · walk_at "py"
      rfl
    refine ws_seq (ws_if (wt_split false ?_ (fun h => by cases h) (fun _ => ws_next ?_)))
    · walk_at "py"
      rfl
    refine ws_seq (ws_if (wt_split false ?_ (fun h => by cases h) (fun _ => ws_next ?_)))
    · walk_at "py"
      rfl
    refine ws_seq (ws_if (wt_split false ?_ (fun h => by cases h) (fun _ => ws_next ?_)))
    · walk_at "py"
      rfl
    refine ws_seq (ws_if (wt_split false ?_ (fun h => by cases h) (fun _ => ws_next ?_)))
    · walk_at "py"
      rfl
    refine ws_seq (ws_if (wt_split false ?_ (fun h => by cases h) (fun _ => ws_next ?_)))
    · walk_at "py"
      rfl
    refine ws_seq (ws_if (wt_split true ?_ (fun _ => ?_) (fun h => by cases h)))
    · walk_at "py"
      rfl
    exact ws_rs (x := fun _ cls => x cls none) hx.toX hk
  · cases he
    refine ws_seq (ws_if (wt_split false ?_ (fun h => by cases h) (fun _ => ws_next ?_)))
    · walk_at "py"
      rfl
    refine ws_seq (ws_if (wt_split false ?_ (fun h => by cases h) (fun _ => ws_next ?_)))
    · walk_at "py"
      rfl
    refine ws_seq (ws_if (wt_split false ?_ (fun h => by cases h) (fun _ => ws_next ?_)))
    · walk_at "py"
      rfl
    refine ws_seq (ws_if (wt_split false ?_ (fun h => by cases h) (fun _ => ws_next ?_)))
    · walk_at "py"
      rfl
    refine ws_seq (ws_if (wt_split false ?_ (fun h => by cases h) (fun _ => ws_next ?_)))
    · walk_at "py"
      rfl
    refine ws_seq (ws_if (wt_split false ?_ (fun h => by cases h) (fun _ => ws_next ?_)))
    · walk_at "py"
      rfl
    refine ws_seq (ws_if (wt_split false ?_ (fun h => by cases h) (fun _ => ws_next ?_)))
    · walk_at "py"
      rfl
    refine ws_seq (ws_if (wt_split false ?_ (fun h => by cases h) (fun _ => ws_next ?_)))
    · walk_at "py"
      rfl
    refine ws_seq (ws_if (wt_split false ?_ (fun h => by cases h) (fun _ => ws_next ?_)))
    · walk_at "py"
      rfl
    refine ws_seq (ws_if (wt_split false ?_ (fun h => by cases h) (fun _ => ws_next ?_)))
    · walk_at "py"
      rfl
    refine ws_seq (ws_if (wt_split false ?_ (fun h => by cases h) (fun _ => ws_next ?_)))
    · walk_at "py"
      rfl
    refine ws_seq (ws_if (wt_split false ?_ (fun h => by cases h) (fun _ => ws_next ?_)))
    · walk_at "py"
      rfl
    refine ws_seq (ws_if (wt_split false ?_ (fun h => by cases h) (fun _ => ws_next ?_)))
    · walk_at "py"
      rfl
    refine ws_seq (ws_if (wt_split false ?_ (fun h => by cases h) (fun _ => ws_next ?_)))
    · walk_at "py"
      rfl
    refine ws_seq (ws_if (wt_split false ?_ (fun h => by cases h) (fun _ => ws_next ?_)))
    · walk_at "py"
      rfl
    refine ws_seq (ws_if (wt_split true ?_ (fun _ => ?_) (fun h => by cases h)))
    · walk_at "py"
      rfl
    refine ws_drop (we_callS (x := fun _ cls => x cls none) hx.toX ?_)
    refine wa_cons (we_op (we_var rfl (we_int (rv_ixL rfl (wa_cons (we_int (wa_nil ?_)))))))
    exact fun c2 le2 => ⟨_, _, rfl, fun _ => hk, fun h => absurd rfl h⟩
  · cases he
    refine ws_seq (ws_if (wt_split false ?_ (fun h => by cases h) (fun _ => ws_next ?_)))
    · walk_at "py"
      rfl
    refine ws_seq (ws_if (wt_split false ?_ (fun h => by cases h) (fun _ => ws_next ?_)))
    · walk_at "py"
      rfl
    refine ws_seq (ws_if (wt_split false ?_ (fun h => by cases h) (fun _ => ws_next ?_)))
    · walk_at "py"
      rfl
    refine ws_seq (ws_if (wt_split false ?_ (fun h => by cases h) (fun _ => ws_next ?_)))
    · walk_at "py"
      rfl
    refine ws_seq (ws_if (wt_split false ?_ (fun h => by cases h) (fun _ => ws_next ?_)))
    · walk_at "py"
      rfl
    refine ws_seq (ws_if (wt_split false ?_ (fun h => by cases h) (fun _ => ws_next ?_)))
    · walk_at "py"
      rfl
    refine ws_seq (ws_if (wt_split false ?_ (fun h => by cases h) (fun _ => ws_next ?_)))
    · walk_at "py"
      rfl
    refine ws_seq (ws_if (wt_split false ?_ (fun h => by cases h) (fun _ => ws_next ?_)))
    · walk_at "py"
      rfl
    refine ws_seq (ws_if (wt_split false ?_ (fun h => by cases h) (fun _ => ws_next ?_)))
    · walk_at "py"
      rfl
    refine ws_seq (ws_if (wt_split false ?_ (fun h => by cases h) (fun _ => ws_next ?_)))
    · walk_at "py"
      rfl
    refine ws_seq (ws_if (wt_split false ?_ (fun h => by cases h) (fun _ => ws_next ?_)))
    · walk_at "py"
      rfl
    refine ws_seq (ws_if (wt_split false ?_ (fun h => by cases h) (fun _ => ws_next ?_)))
    · walk_at "py"
      rfl
    refine ws_seq (ws_if (wt_split false ?_ (fun h => by cases h) (fun _ => ws_next ?_)))
    · walk_at "py"
      rfl
    refine ws_seq (ws_if (wt_split false ?_ (fun h => by cases h) (fun _ => ws_next ?_)))
    · walk_at "py"
      rfl
    refine ws_seq (ws_if (wt_split false ?_ (fun h => by cases h) (fun _ => ws_next ?_)))
    · walk_at "py"
      rfl
    refine ws_seq (ws_if (wt_split false ?_ (fun h => by cases h) (fun _ => ws_next ?_)))
    · walk_at "py"
      rfl
    refine (ws_if (wt_split true ?_ (fun _ => ?_) (fun h => by cases h)))
    · walk_at "py"
      rfl
    refine ws_drop (we_callS (x := fun _ cls => x cls none) hx.toX ?_)
    refine wa_cons (we_op (we_var rfl (we_int (rv_ixL rfl (wa_cons (we_op (we_var rfl (we_int (rv_ixL rfl (wa_cons (we_int (wa_nil ?_))))))))))))
    exact fun c2 le2 => ⟨_, _, _, rfl, fun _ => hk, fun h => absurd rfl h⟩

/-- what is told of each error -/
def told (a b : Int) : List PyData := [.tuple [.list [.bool true, .bool false, .bool false, .bool false, .bool false, .bool false, .bool false, .bool false, .bool false, .bool false, .bool false, .bool false, .bool false, .bool false, .bool false, .bool true], .list []], .tuple [.list [.bool false, .bool true, .bool false, .bool false, .bool false, .bool false, .bool false, .bool false, .bool false, .bool false, .bool false, .bool false, .bool false, .bool false, .bool false, .bool true], .list []], .tuple [.list [.bool false, .bool false, .bool true, .bool false, .bool false, .bool false, .bool false, .bool false, .bool false, .bool false, .bool false, .bool false, .bool false, .bool false, .bool false, .bool true], .list [.int a, .int b]], .tuple [.list [.bool false, .bool false, .bool false, .bool true, .bool false, .bool false, .bool false, .bool false, .bool false, .bool false, .bool false, .bool false, .bool false, .bool false, .bool false, .bool true], .list []], .tuple [.list [.bool false, .bool false, .bool false, .bool false, .bool true, .bool false, .bool false, .bool false, .bool false, .bool false, .bool false, .bool false, .bool false, .bool false, .bool false, .bool true], .list [.int a]], .tuple [.list [.bool false, .bool false, .bool false, .bool false, .bool false, .bool true, .bool false, .bool false, .bool false, .bool false, .bool false, .bool false, .bool false, .bool false, .bool false, .bool true], .list []], .tuple [.list [.bool false, .bool false, .bool false, .bool false, .bool false, .bool false, .bool true, .bool false, .bool false, .bool false, .bool false, .bool false, .bool false, .bool false, .bool false, .bool true], .list [.tuple [.int a, .int b, .int 1]]], .tuple [.list [.bool false, .bool false, .bool false, .bool false, .bool false, .bool false, .bool false, .bool true, .bool false, .bool false, .bool false, .bool false, .bool false, .bool false, .bool false, .bool true], .list []], .tuple [.list [.bool false, .bool false, .bool false, .bool false, .bool false, .bool false, .bool false, .bool false, .bool true, .bool false, .bool false, .bool false, .bool false, .bool false, .bool false, .bool true], .list [.str "a"]], .tuple [.list [.bool false, .bool false, .bool false, .bool false, .bool false, .bool false, .bool false, .bool false, .bool false, .bool true, .bool false, .bool false, .bool false, .bool false, .bool false, .bool true], .list [.str "b"]], .tuple [.list [.bool false, .bool false, .bool false, .bool false, .bool false, .bool false, .bool false, .bool false, .bool false, .bool false, .bool true, .bool false, .bool false, .bool false, .bool false, .bool true], .list [.int a]], .tuple [.list [.bool false, .bool false, .bool false, .bool false, .bool false, .bool false, .bool false, .bool false, .bool false, .bool false, .bool false, .bool true, .bool false, .bool false, .bool false, .bool true], .list []], .tuple [.list [.bool false, .bool false, .bool false, .bool false, .bool false, .bool false, .bool false, .bool false, .bool false, .bool false, .bool false, .bool false, .bool true, .bool false, .bool false, .bool true], .list []], .tuple [.list [.bool false, .bool false, .bool false, .bool false, .bool false, .bool false, .bool false, .bool false, .bool false, .bool false, .bool false, .bool false, .bool false, .bool true, .bool false, .bool true], .list []], .tuple [.list [.bool false, .bool false, .bool false, .bool false, .bool false, .bool false, .bool false, .bool false, .bool false, .bool false, .bool false, .bool false, .bool false, .bool false, .bool true, .bool true], .list []], .tuple [.list [.bool true, .bool false, .bool false, .bool false, .bool false, .bool false, .bool false, .bool false, .bool false, .bool false, .bool false, .bool false, .bool false, .bool false, .bool false, .bool true], .list []], .tuple [.list [.bool false, .bool true, .bool false, .bool false, .bool false, .bool false, .bool false, .bool false, .bool false, .bool false, .bool false, .bool false, .bool false, .bool false, .bool false, .bool true], .list []]]
def p__law_sorts (K : PySem.W.Frag) : PT0 K := fun c xs k _ => ∃ (w a b : Int) (d : PyData), xs = [.d (.int w), .d (.list [.int a, .int b])] ∧ 0 ≤ w ∧ (told a b)[w.toNat]? = some d ∧ k (.d d)
theorem len__law_sorts {K : PySem.W.Frag} : ∀ (c : Py.Ctx K) xs k x, p__law_sorts K c xs k x → xs.length = 2 := by
  rintro c xs k x ⟨w, a, b, d, rfl, _⟩
  rfl
abbrev s__law_sorts : Stmt := top 38
theorem sc__law_sorts : FnScope ["_law_which", "_law_some", "_law_found", "_law_fields", "e"] ["_law_which", "_law_some"] (defScope s__law_sorts) := ⟨rfl, rfl, rfl, by decide +kernel, rfl, by decide +kernel, by decide +kernel⟩
theorem ok__law_sorts (T : Txt K mg AA) (d__law_raised : Def P w K mg base "_law_raised" ["_law_which", "_law_some"] (L2.CX P w) 3 (spF K (p__law_raised AA K))) (R : Raw K mg "_law_sorts" s__law_sorts) : Def P w K mg base "_law_sorts" ["_law_which", "_law_some"] CX0 4 (spD K (p__law_sorts K)) := R.def fun f fd F => by
  refine ⟨F.binds (ps := ["_law_which", "_law_some"]) fun _ _ _ _ _ _ us hl => match us, hl with | [_, _], _ => rfl, F.ok sc__law_sorts (spD_len len__law_sorts) (fun cdv A outer s H vs Q E hr h => ?_)⟩
  refine ⟨_, (pss_cons (ps_set (i := 2) sc__law_sorts.nd rfl (Or.inl rfl) (pe_lst pa_nil))
      (pss_cons (ps_set (i := 3) sc__law_sorts.nd rfl (Or.inl rfl) (pe_lst pa_nil))
      (pss_cons (ps_tAs K (i := 4) rfl rfl sc__law_sorts.nd rfl rfl ⟨rfl, by decide, .inl T.g_PlyError⟩ takes0 (fun W pn xe tk xe => (pss_one (ps_expr (pe_DS d__law_raised (by decide) hr tk (pa_cons (pv 0) (pa_cons (pv 1) pa_nil)))))) (fun a oe cls d pn hz hf => (pss_cons (ps_set (i := 2) sc__law_sorts.nd rfl (Or.inl rfl) (pe_lst (pa_cons (pe_callB (call_isDs K hz hf) (by rfl) T.b_isinstance (by decide +kernel) (pa_cons (pv 4) (pa_cons (pe_glob rfl T.g_NoNumber (v := .ref _) rfl) pa_nil))) (pa_cons (pe_callB (call_isDs K hz hf) (by rfl) T.b_isinstance (by decide +kernel) (pa_cons (pv 4) (pa_cons (pe_glob rfl T.g_NoPoint (v := .ref _) rfl) pa_nil))) (pa_cons (pe_callB (call_isDs K hz hf) (by rfl) T.b_isinstance (by decide +kernel) (pa_cons (pv 4) (pa_cons (pe_glob rfl T.g_BadLayer (v := .ref _) rfl) pa_nil))) (pa_cons (pe_callB (call_isDs K hz hf) (by rfl) T.b_isinstance (by decide +kernel) (pa_cons (pv 4) (pa_cons (pe_glob rfl T.g_BadPlan (v := .ref _) rfl) pa_nil))) pa_nil))))))
      (pss_cons (ps_set (i := 2) sc__law_sorts.nd rfl (Or.inl rfl) (pe_op (op_adds K) (pv 2) (pe_lst (pa_cons (pe_callB (call_isDs K hz hf) (by rfl) T.b_isinstance (by decide +kernel) (pa_cons (pv 4) (pa_cons (pe_glob rfl T.g_NoFace (v := .ref _) rfl) pa_nil))) (pa_cons (pe_callB (call_isDs K hz hf) (by rfl) T.b_isinstance (by decide +kernel) (pa_cons (pv 4) (pa_cons (pe_glob rfl T.g_Endless (v := .ref _) rfl) pa_nil))) (pa_cons (pe_callB (call_isDs K hz hf) (by rfl) T.b_isinstance (by decide +kernel) (pa_cons (pv 4) (pa_cons (pe_glob rfl T.g_NoGround (v := .ref _) rfl) pa_nil))) pa_nil))))))
      (pss_cons (ps_set (i := 2) sc__law_sorts.nd rfl (Or.inl rfl) (pe_op (op_adds K) (pv 2) (pe_lst (pa_cons (pe_callB (call_isDs K hz hf) (by rfl) T.b_isinstance (by decide +kernel) (pa_cons (pv 4) (pa_cons (pe_glob rfl T.g_NoName (v := .ref _) rfl) pa_nil))) (pa_cons (pe_callB (call_isDs K hz hf) (by rfl) T.b_isinstance (by decide +kernel) (pa_cons (pv 4) (pa_cons (pe_glob rfl T.g_Taken (v := .ref _) rfl) pa_nil))) (pa_cons (pe_callB (call_isDs K hz hf) (by rfl) T.b_isinstance (by decide +kernel) (pa_cons (pv 4) (pa_cons (pe_glob rfl T.g_NoLayer (v := .ref _) rfl) pa_nil))) (pa_cons (pe_callB (call_isDs K hz hf) (by rfl) T.b_isinstance (by decide +kernel) (pa_cons (pv 4) (pa_cons (pe_glob rfl T.g_TooMany (v := .ref _) rfl) pa_nil))) pa_nil)))))))
      (pss_cons (ps_set (i := 2) sc__law_sorts.nd rfl (Or.inl rfl) (pe_op (op_adds K) (pv 2) (pe_lst (pa_cons (pe_callB (call_isDs K hz hf) (by rfl) T.b_isinstance (by decide +kernel) (pa_cons (pv 4) (pa_cons (pe_glob rfl T.g_BadWish (v := .ref _) rfl) pa_nil))) (pa_cons (pe_callB (call_isDs K hz hf) (by rfl) T.b_isinstance (by decide +kernel) (pa_cons (pv 4) (pa_cons (pe_glob rfl T.g_NoSize (v := .ref _) rfl) pa_nil))) (pa_cons (pe_callB (call_isDs K hz hf) (by rfl) T.b_isinstance (by decide +kernel) (pa_cons (pv 4) (pa_cons (pe_glob rfl T.g_NoText (v := .ref _) rfl) pa_nil))) (pa_cons (pe_callB (call_isDs K hz hf) (by rfl) T.b_isinstance (by decide +kernel) (pa_cons (pv 4) (pa_cons (pe_glob rfl T.g_NoRow (v := .ref _) rfl) pa_nil))) pa_nil)))))))
      (pss_cons (ps_set (i := 2) sc__law_sorts.nd rfl (Or.inl rfl) (pe_op (op_adds K) (pv 2) (pe_lst (pa_cons (pe_callB (call_isDs K hz hf) (by rfl) T.b_isinstance (by decide +kernel) (pa_cons (pv 4) (pa_cons (pe_bltn (v := .ty "ValueError") (by rfl) T.b_ValueError (by decide +kernel) rfl) pa_nil))) pa_nil))))
      (pss_cons (ps_if (pt_cmpR (op_eqs K hr.units) (pv 0) pe_int (nomark _)) (pss_one (ps_set (i := 3) sc__law_sorts.nd rfl (Or.inl rfl) (pe_lst (pa_cons (pe_xfs T.xf_BadLayer T.nf_BadLayer_ring hz hf (pv 4)) (pa_cons (pe_xfs T.xf_BadLayer T.nf_BadLayer_at hz hf (pv 4)) pa_nil))))) pss_nil)
      (pss_cons (ps_if (pt_cmpR (op_eqs K hr.units) (pv 0) pe_int (nomark _)) (pss_one (ps_set (i := 3) sc__law_sorts.nd rfl (Or.inl rfl) (pe_lst (pa_cons (pe_xfs T.xf_NoFace T.nf_NoFace_number hz hf (pv 4)) pa_nil)))) pss_nil)
      (pss_cons (ps_if (pt_cmpR (op_eqs K hr.units) (pv 0) pe_int (nomark _)) (pss_one (ps_set (i := 3) sc__law_sorts.nd rfl (Or.inl rfl) (pe_lst (pa_cons (pe_xfs T.xf_NoGround T.nf_NoGround_point hz hf (pv 4)) pa_nil)))) pss_nil)
      (pss_cons (ps_if (PW.pt (pw_or (pt_cmpR (op_eqs K hr.units) (pv 0) pe_int (nomark _)) (pw_or1 (pt_cmpR (op_eqs K hr.units) (pv 0) pe_int (nomark _))))) (pss_one (ps_set (i := 3) sc__law_sorts.nd rfl (Or.inl rfl) (pe_lst (pa_cons (pe_either (pe_xfs T.xf_Taken T.nf_Taken_name hz hf (pv 4)) (pe_xfs T.xf_NoLayer T.nf_NoLayer_name hz hf (pv 4))) pa_nil)))) pss_nil)
      (pss_one (ps_if (pt_cmpR (op_eqs K hr.units) (pv 0) pe_int (nomark _)) (pss_one (ps_set (i := 3) sc__law_sorts.nd rfl (Or.inl rfl) (pe_lst (pa_cons (pe_xfs T.xf_TooMany T.nf_TooMany_most hz hf (pv 4)) pa_nil)))) pss_nil)))))))))))))
      (pss_one (ps_ret (pe_tup (pa_cons (pv 2) (pa_cons (pv 3) pa_nil)))))))), ?_⟩
  refine run_spD h (fun c xs k x p => ?_)
  obtain ⟨w, a, b, d, rfl, w0, he, hk⟩ := p
  refine ⟨Nat.le_of_ble_eq_true rfl, fun hx => ?_⟩
  show Ws c _ [.val (.d (.int w)), .val (.d (.list [.int a, .int b])), .un, .un, .un] _
  have w1 : w < 17 := by
    have := (List.getElem?_eq_some_iff.mp he).1
    have : w.toNat < 17 := this
    omega
  refine ws_cut (fun ρ' => ρ' = [.val (.d (.int w)), .val (.d (.list [.int a, .int b])), .val (.d (.list [])), .un, .un]) ?_ ?_
  · walk_at "py"
    rfl
  rintro _ rfl
  refine ws_cut (fun ρ' => ρ' = [.val (.d (.int w)), .val (.d (.list [.int a, .int b])), .val (.d (.list [])), .val (.d (.list [])), .un]) ?_ ?_
  · walk_at "py"
    rfl
  rintro _ rfl
  have hw : w = 0 ∨ w = 1 ∨ w = 2 ∨ w = 3 ∨ w = 4 ∨ w = 5 ∨ w = 6 ∨ w = 7 ∨ w = 8 ∨ w = 9 ∨ w = 10 ∨ w = 11 ∨ w = 12 ∨ w = 13 ∨ w = 14 ∨ w = 15 ∨ w = 16 := by omega
  rcases hw with rfl | rfl | rfl | rfl | rfl | rfl | rfl | rfl | rfl | rfl | rfl | rfl | rfl | rfl | rfl | rfl | rfl
  · cases he
    obtain ⟨k0, k1, k2, k3, k4, k5, k6, k7, k8, k9, k10, k11, k12, k13, k14, kv⟩ := T.kt_NoNumber
    refine ws_cut (fun ρ' => ρ' = [.val (.d (.int 0)), .val (.d (.list [.int a, .int b])), .val (.d (.list [.bool true, .bool false, .bool false, .bool false, .bool false, .bool false, .bool false, .bool false, .bool false, .bool false, .bool false, .bool false, .bool false, .bool false, .bool false, .bool true])), .val (.d (.list [])), .un]) ?_ ?_
    · refine ws_tAsF xokF_none fun W hW => ?_
      refine ws_drop (we_callSF hW ?_)
      walk_at "py"
      refine fun c' le => ⟨0, a, b, _, rfl, by decide, rfl, true, PySem.W.exm_ref T.eb_PlyError T.hd_PlyError T.et_PlyError T.sp_NoNumber, fun _ ea d c1 le1 xd => ?_, fun q => nomatch q⟩
      refine ws_cut (fun ρ' => ρ' = [.val (.d (.int 0)), .val (.d (.list [.int a, .int b])), .val (.d (.list [.bool true, .bool false, .bool false, .bool false])), .val (.d (.list [])), .val (.r (.ref ea))]) ?_ ?_
      · walk_at "py"
        refine rc_isD xd T.ec_NoNumber (fun z hz => hz) k0 ?_
        walk_at "py"
        refine rc_isD xd T.ec_NoNumber (fun z hz => hz) k1 ?_
        walk_at "py"
        refine rc_isD xd T.ec_NoNumber (fun z hz => hz) k2 ?_
        walk_at "py"
        refine rc_isD xd T.ec_NoNumber (fun z hz => hz) k3 ?_
        walk_at "py"
        rfl
      rintro _ rfl
      refine ws_cut (fun ρ' => ρ' = [.val (.d (.int 0)), .val (.d (.list [.int a, .int b])), .val (.d (.list [.bool true, .bool false, .bool false, .bool false, .bool false, .bool false, .bool false])), .val (.d (.list [])), .val (.r (.ref ea))]) ?_ ?_
      · refine ws_asg (we_fresh (wf_cat (we_var rfl ⟨_, rfl, wf_lst ?_⟩)))
        walk_at "py"
        refine rc_isD xd T.ec_NoNumber (fun z hz => hz) k4 ?_
        walk_at "py"
        refine rc_isD xd T.ec_NoNumber (fun z hz => hz) k5 ?_
        walk_at "py"
        refine rc_isD xd T.ec_NoNumber (fun z hz => hz) k6 ?_
        walk_at "py"
        exact ⟨by decide, rfl⟩
      rintro _ rfl
      refine ws_cut (fun ρ' => ρ' = [.val (.d (.int 0)), .val (.d (.list [.int a, .int b])), .val (.d (.list [.bool true, .bool false, .bool false, .bool false, .bool false, .bool false, .bool false, .bool false, .bool false, .bool false, .bool false])), .val (.d (.list [])), .val (.r (.ref ea))]) ?_ ?_
      · refine ws_asg (we_fresh (wf_cat (we_var rfl ⟨_, rfl, wf_lst ?_⟩)))
        walk_at "py"
        refine rc_isD xd T.ec_NoNumber (fun z hz => hz) k7 ?_
        walk_at "py"
        refine rc_isD xd T.ec_NoNumber (fun z hz => hz) k8 ?_
        walk_at "py"
        refine rc_isD xd T.ec_NoNumber (fun z hz => hz) k9 ?_
        walk_at "py"
        refine rc_isD xd T.ec_NoNumber (fun z hz => hz) k10 ?_
        walk_at "py"
        exact ⟨by decide, rfl⟩
      rintro _ rfl
      refine ws_cut (fun ρ' => ρ' = [.val (.d (.int 0)), .val (.d (.list [.int a, .int b])), .val (.d (.list [.bool true, .bool false, .bool false, .bool false, .bool false, .bool false, .bool false, .bool false, .bool false, .bool false, .bool false, .bool false, .bool false, .bool false, .bool false])), .val (.d (.list [])), .val (.r (.ref ea))]) ?_ ?_
      · refine ws_asg (we_fresh (wf_cat (we_var rfl ⟨_, rfl, wf_lst ?_⟩)))
        walk_at "py"
        refine rc_isD xd T.ec_NoNumber (fun z hz => hz) k11 ?_
        walk_at "py"
        refine rc_isD xd T.ec_NoNumber (fun z hz => hz) k12 ?_
        walk_at "py"
        refine rc_isD xd T.ec_NoNumber (fun z hz => hz) k13 ?_
        walk_at "py"
        refine rc_isD xd T.ec_NoNumber (fun z hz => hz) k14 ?_
        walk_at "py"
        exact ⟨by decide, rfl⟩
      rintro _ rfl
      refine ws_cut (fun ρ' => ρ' = [.val (.d (.int 0)), .val (.d (.list [.int a, .int b])), .val (.d (.list [.bool true, .bool false, .bool false, .bool false, .bool false, .bool false, .bool false, .bool false, .bool false, .bool false, .bool false, .bool false, .bool false, .bool false, .bool false, .bool true])), .val (.d (.list [])), .val (.r (.ref ea))]) ?_ ?_
      · refine ws_asg (we_fresh (wf_cat (we_var rfl ⟨_, rfl, wf_lst ?_⟩)))
        walk_at "py"
        refine rc_isD xd T.ec_NoNumber (fun z hz => hz) kv ?_
        walk_at "py"
        exact ⟨by decide, rfl⟩
      rintro _ rfl
      refine ws_seq (ws_if (wt_split false ?_ (fun h => by cases h) (fun _ => ws_next ?_)))
      · walk_at "py"
        all_goals rfl
      refine ws_seq (ws_if (wt_split false ?_ (fun h => by cases h) (fun _ => ws_next ?_)))
      · walk_at "py"
        all_goals rfl
      refine ws_seq (ws_if (wt_split false ?_ (fun h => by cases h) (fun _ => ws_next ?_)))
      · walk_at "py"
        all_goals rfl
      refine ws_seq (ws_if (wt_split false ?_ (fun h => by cases h) (fun _ => ws_next ?_)))
      · walk_at "py"
        all_goals rfl
      refine ws_if (wt_split false ?_ (fun h => by cases h) (fun _ => ws_next rfl))
      walk_at "py"
      all_goals rfl
    rintro _ rfl
    walk_at "py"
    exact hk
  · cases he
    obtain ⟨k0, k1, k2, k3, k4, k5, k6, k7, k8, k9, k10, k11, k12, k13, k14, kv⟩ := T.kt_NoPoint
    refine ws_cut (fun ρ' => ρ' = [.val (.d (.int 1)), .val (.d (.list [.int a, .int b])), .val (.d (.list [.bool false, .bool true, .bool false, .bool false, .bool false, .bool false, .bool false, .bool false, .bool false, .bool false, .bool false, .bool false, .bool false, .bool false, .bool false, .bool true])), .val (.d (.list [])), .un]) ?_ ?_
    · refine ws_tAsF xokF_none fun W hW => ?_
      refine ws_drop (we_callSF hW ?_)
      walk_at "py"
      refine fun c' le => ⟨1, a, b, _, rfl, by decide, rfl, true, PySem.W.exm_ref T.eb_PlyError T.hd_PlyError T.et_PlyError T.sp_NoPoint, fun _ ea d c1 le1 xd => ?_, fun q => nomatch q⟩
      refine ws_cut (fun ρ' => ρ' = [.val (.d (.int 1)), .val (.d (.list [.int a, .int b])), .val (.d (.list [.bool false, .bool true, .bool false, .bool false])), .val (.d (.list [])), .val (.r (.ref ea))]) ?_ ?_
      · walk_at "py"
        refine rc_isD xd T.ec_NoPoint (fun z hz => hz) k0 ?_
        walk_at "py"
        refine rc_isD xd T.ec_NoPoint (fun z hz => hz) k1 ?_
        walk_at "py"
        refine rc_isD xd T.ec_NoPoint (fun z hz => hz) k2 ?_
        walk_at "py"
        refine rc_isD xd T.ec_NoPoint (fun z hz => hz) k3 ?_
        walk_at "py"
        rfl
      rintro _ rfl
      refine ws_cut (fun ρ' => ρ' = [.val (.d (.int 1)), .val (.d (.list [.int a, .int b])), .val (.d (.list [.bool false, .bool true, .bool false, .bool false, .bool false, .bool false, .bool false])), .val (.d (.list [])), .val (.r (.ref ea))]) ?_ ?_
      · refine ws_asg (we_fresh (wf_cat (we_var rfl ⟨_, rfl, wf_lst ?_⟩)))
        walk_at "py"
        refine rc_isD xd T.ec_NoPoint (fun z hz => hz) k4 ?_
        walk_at "py"
        refine rc_isD xd T.ec_NoPoint (fun z hz => hz) k5 ?_
        walk_at "py"
        refine rc_isD xd T.ec_NoPoint (fun z hz => hz) k6 ?_
        walk_at "py"
        exact ⟨by decide, rfl⟩
      rintro _ rfl
      refine ws_cut (fun ρ' => ρ' = [.val (.d (.int 1)), .val (.d (.list [.int a, .int b])), .val (.d (.list [.bool false, .bool true, .bool false, .bool false, .bool false, .bool false, .bool false, .bool false, .bool false, .bool false, .bool false])), .val (.d (.list [])), .val (.r (.ref ea))]) ?_ ?_
      · refine ws_asg (we_fresh (wf_cat (we_var rfl ⟨_, rfl, wf_lst ?_⟩)))
        walk_at "py"
        refine rc_isD xd T.ec_NoPoint (fun z hz => hz) k7 ?_
        walk_at "py"
        refine rc_isD xd T.ec_NoPoint (fun z hz => hz) k8 ?_
        walk_at "py"
        refine rc_isD xd T.ec_NoPoint (fun z hz => hz) k9 ?_
        walk_at "py"
        refine rc_isD xd T.ec_NoPoint (fun z hz => hz) k10 ?_
        walk_at "py"
        exact ⟨by decide, rfl⟩
      rintro _ rfl
      refine ws_cut (fun ρ' => ρ' = [.val (.d (.int 1)), .val (.d (.list [.int a, .int b])), .val (.d (.list [.bool false, .bool true, .bool false, .bool false, .bool false, .bool false, .bool false, .bool false, .bool false, .bool false, .bool false, .bool false, .bool false, .bool false, .bool false])), .val (.d (.list [])), .val (.r (.ref ea))]) ?_ ?_
      · refine ws_asg (we_fresh (wf_cat (we_var rfl ⟨_, rfl, wf_lst ?_⟩)))
        walk_at "py"
        refine rc_isD xd T.ec_NoPoint (fun z hz => hz) k11 ?_
        walk_at "py"
        refine rc_isD xd T.ec_NoPoint (fun z hz => hz) k12 ?_
        walk_at "py"
        refine rc_isD xd T.ec_NoPoint (fun z hz => hz) k13 ?_
        walk_at "py"
        refine rc_isD xd T.ec_NoPoint (fun z hz => hz) k14 ?_
        walk_at "py"
        exact ⟨by decide, rfl⟩
      rintro _ rfl
      refine ws_cut (fun ρ' => ρ' = [.val (.d (.int 1)), .val (.d (.list [.int a, .int b])), .val (.d (.list [.bool false, .bool true, .bool false, .bool false, .bool false, .bool false, .bool false, .bool false, .bool false, .bool false, .bool false, .bool false, .bool false, .bool false, .bool false, .bool true])), .val (.d (.list [])), .val (.r (.ref ea))]) ?_ ?_
      · refine ws_asg (we_fresh (wf_cat (we_var rfl ⟨_, rfl, wf_lst ?_⟩)))
        walk_at "py"
        refine rc_isD xd T.ec_NoPoint (fun z hz => hz) kv ?_
        walk_at "py"
        exact ⟨by decide, rfl⟩
      rintro _ rfl
      refine ws_seq (ws_if (wt_split false ?_ (fun h => by cases h) (fun _ => ws_next ?_)))
      · walk_at "py"
        all_goals rfl
      refine ws_seq (ws_if (wt_split false ?_ (fun h => by cases h) (fun _ => ws_next ?_)))
      · walk_at "py"
        all_goals rfl
      refine ws_seq (ws_if (wt_split false ?_ (fun h => by cases h) (fun _ => ws_next ?_)))
      · walk_at "py"
        all_goals rfl
      refine ws_seq (ws_if (wt_split false ?_ (fun h => by cases h) (fun _ => ws_next ?_)))
      · walk_at "py"
        all_goals rfl
      refine ws_if (wt_split false ?_ (fun h => by cases h) (fun _ => ws_next rfl))
      walk_at "py"
      all_goals rfl
    rintro _ rfl
    walk_at "py"
    exact hk
  · cases he
    obtain ⟨k0, k1, k2, k3, k4, k5, k6, k7, k8, k9, k10, k11, k12, k13, k14, kv⟩ := T.kt_BadLayer
    refine ws_cut (fun ρ' => ρ' = [.val (.d (.int 2)), .val (.d (.list [.int a, .int b])), .val (.d (.list [.bool false, .bool false, .bool true, .bool false, .bool false, .bool false, .bool false, .bool false, .bool false, .bool false, .bool false, .bool false, .bool false, .bool false, .bool false, .bool true])), .val (.d (.list [.int a, .int b])), .un]) ?_ ?_
    · refine ws_tAsF xokF_none fun W hW => ?_
      refine ws_drop (we_callSF hW ?_)
      walk_at "py"
      refine fun c' le => ⟨2, a, b, _, rfl, by decide, rfl, true, PySem.W.exm_ref T.eb_PlyError T.hd_PlyError T.et_PlyError T.sp_BadLayer, fun _ ea d c1 le1 xd => ?_, fun q => nomatch q⟩
      refine ws_cut (fun ρ' => ρ' = [.val (.d (.int 2)), .val (.d (.list [.int a, .int b])), .val (.d (.list [.bool false, .bool false, .bool true, .bool false])), .val (.d (.list [])), .val (.r (.ref ea))]) ?_ ?_
      · walk_at "py"
        refine rc_isD xd T.ec_BadLayer (fun z hz => hz) k0 ?_
        walk_at "py"
        refine rc_isD xd T.ec_BadLayer (fun z hz => hz) k1 ?_
        walk_at "py"
        refine rc_isD xd T.ec_BadLayer (fun z hz => hz) k2 ?_
        walk_at "py"
        refine rc_isD xd T.ec_BadLayer (fun z hz => hz) k3 ?_
        walk_at "py"
        rfl
      rintro _ rfl
      refine ws_cut (fun ρ' => ρ' = [.val (.d (.int 2)), .val (.d (.list [.int a, .int b])), .val (.d (.list [.bool false, .bool false, .bool true, .bool false, .bool false, .bool false, .bool false])), .val (.d (.list [])), .val (.r (.ref ea))]) ?_ ?_
      · refine ws_asg (we_fresh (wf_cat (we_var rfl ⟨_, rfl, wf_lst ?_⟩)))
        walk_at "py"
        refine rc_isD xd T.ec_BadLayer (fun z hz => hz) k4 ?_
        walk_at "py"
        refine rc_isD xd T.ec_BadLayer (fun z hz => hz) k5 ?_
        walk_at "py"
        refine rc_isD xd T.ec_BadLayer (fun z hz => hz) k6 ?_
        walk_at "py"
        exact ⟨by decide, rfl⟩
      rintro _ rfl
      refine ws_cut (fun ρ' => ρ' = [.val (.d (.int 2)), .val (.d (.list [.int a, .int b])), .val (.d (.list [.bool false, .bool false, .bool true, .bool false, .bool false, .bool false, .bool false, .bool false, .bool false, .bool false, .bool false])), .val (.d (.list [])), .val (.r (.ref ea))]) ?_ ?_
      · refine ws_asg (we_fresh (wf_cat (we_var rfl ⟨_, rfl, wf_lst ?_⟩)))
        walk_at "py"
        refine rc_isD xd T.ec_BadLayer (fun z hz => hz) k7 ?_
        walk_at "py"
        refine rc_isD xd T.ec_BadLayer (fun z hz => hz) k8 ?_
        walk_at "py"
        refine rc_isD xd T.ec_BadLayer (fun z hz => hz) k9 ?_
        walk_at "py"
        refine rc_isD xd T.ec_BadLayer (fun z hz => hz) k10 ?_
        walk_at "py"
        exact ⟨by decide, rfl⟩
      rintro _ rfl
      refine ws_cut (fun ρ' => ρ' = [.val (.d (.int 2)), .val (.d (.list [.int a, .int b])), .val (.d (.list [.bool false, .bool false, .bool true, .bool false, .bool false, .bool false, .bool false, .bool false, .bool false, .bool false, .bool false, .bool false, .bool false, .bool false, .bool false])), .val (.d (.list [])), .val (.r (.ref ea))]) ?_ ?_
      · refine ws_asg (we_fresh (wf_cat (we_var rfl ⟨_, rfl, wf_lst ?_⟩)))
        walk_at "py"
        refine rc_isD xd T.ec_BadLayer (fun z hz => hz) k11 ?_
        walk_at "py"
        refine rc_isD xd T.ec_BadLayer (fun z hz => hz) k12 ?_
        walk_at "py"
        refine rc_isD xd T.ec_BadLayer (fun z hz => hz) k13 ?_
        walk_at "py"
        refine rc_isD xd T.ec_BadLayer (fun z hz => hz) k14 ?_
        walk_at "py"
        exact ⟨by decide, rfl⟩
      rintro _ rfl
      refine ws_cut (fun ρ' => ρ' = [.val (.d (.int 2)), .val (.d (.list [.int a, .int b])), .val (.d (.list [.bool false, .bool false, .bool true, .bool false, .bool false, .bool false, .bool false, .bool false, .bool false, .bool false, .bool false, .bool false, .bool false, .bool false, .bool false, .bool true])), .val (.d (.list [])), .val (.r (.ref ea))]) ?_ ?_
      · refine ws_asg (we_fresh (wf_cat (we_var rfl ⟨_, rfl, wf_lst ?_⟩)))
        walk_at "py"
        refine rc_isD xd T.ec_BadLayer (fun z hz => hz) kv ?_
        walk_at "py"
        exact ⟨by decide, rfl⟩
      rintro _ rfl
      refine ws_cut (fun ρ' => ρ' = [.val (.d (.int 2)), .val (.d (.list [.int a, .int b])), .val (.d (.list [.bool false, .bool false, .bool true, .bool false, .bool false, .bool false, .bool false, .bool false, .bool false, .bool false, .bool false, .bool false, .bool false, .bool false, .bool false, .bool true])), .val (.d (.list [.int a, .int b])), .val (.r (.ref ea))]) ?_ ?_
      · refine ws_if (wt_split true ?_ (fun _ => ?_) (fun h => by cases h))
        · walk_at "py"
          all_goals rfl
        refine ws_asg (we_fresh (wf_lst ?_))
        refine wa_cons ((we_xf (x := .int a) rfl xd rfl ?_))
        refine wa_cons ((we_xf (x := .int b) rfl xd rfl ?_))
        exact wa_nil ⟨_, rfl, Nat.le_of_ble_eq_true rfl, rfl⟩
      rintro _ rfl
      refine ws_seq (ws_if (wt_split false ?_ (fun h => by cases h) (fun _ => ws_next ?_)))
      · walk_at "py"
        all_goals rfl
      refine ws_seq (ws_if (wt_split false ?_ (fun h => by cases h) (fun _ => ws_next ?_)))
      · walk_at "py"
        all_goals rfl
      refine ws_seq (ws_if (wt_split false ?_ (fun h => by cases h) (fun _ => ws_next ?_)))
      · walk_at "py"
        all_goals rfl
      refine ws_if (wt_split false ?_ (fun h => by cases h) (fun _ => ws_next rfl))
      walk_at "py"
      all_goals rfl
    rintro _ rfl
    walk_at "py"
    exact hk
  · cases he
    obtain ⟨k0, k1, k2, k3, k4, k5, k6, k7, k8, k9, k10, k11, k12, k13, k14, kv⟩ := T.kt_BadPlan
    refine ws_cut (fun ρ' => ρ' = [.val (.d (.int 3)), .val (.d (.list [.int a, .int b])), .val (.d (.list [.bool false, .bool false, .bool false, .bool true, .bool false, .bool false, .bool false, .bool false, .bool false, .bool false, .bool false, .bool false, .bool false, .bool false, .bool false, .bool true])), .val (.d (.list [])), .un]) ?_ ?_
    · refine ws_tAsF xokF_none fun W hW => ?_
      refine ws_drop (we_callSF hW ?_)
      walk_at "py"
      refine fun c' le => ⟨3, a, b, _, rfl, by decide, rfl, true, PySem.W.exm_ref T.eb_PlyError T.hd_PlyError T.et_PlyError T.sp_BadPlan, fun _ ea d c1 le1 xd => ?_, fun q => nomatch q⟩
      refine ws_cut (fun ρ' => ρ' = [.val (.d (.int 3)), .val (.d (.list [.int a, .int b])), .val (.d (.list [.bool false, .bool false, .bool false, .bool true])), .val (.d (.list [])), .val (.r (.ref ea))]) ?_ ?_
      · walk_at "py"
        refine rc_isD xd T.ec_BadPlan (fun z hz => hz) k0 ?_
        walk_at "py"
        refine rc_isD xd T.ec_BadPlan (fun z hz => hz) k1 ?_
        walk_at "py"
        refine rc_isD xd T.ec_BadPlan (fun z hz => hz) k2 ?_
        walk_at "py"
        refine rc_isD xd T.ec_BadPlan (fun z hz => hz) k3 ?_
        walk_at "py"
        rfl
      rintro _ rfl
      refine ws_cut (fun ρ' => ρ' = [.val (.d (.int 3)), .val (.d (.list [.int a, .int b])), .val (.d (.list [.bool false, .bool false, .bool false, .bool true, .bool false, .bool false, .bool false])), .val (.d (.list [])), .val (.r (.ref ea))]) ?_ ?_
      · refine ws_asg (we_fresh (wf_cat (we_var rfl ⟨_, rfl, wf_lst ?_⟩)))
        walk_at "py"
        refine rc_isD xd T.ec_BadPlan (fun z hz => hz) k4 ?_
        walk_at "py"
        refine rc_isD xd T.ec_BadPlan (fun z hz => hz) k5 ?_
        walk_at "py"
        refine rc_isD xd T.ec_BadPlan (fun z hz => hz) k6 ?_
        walk_at "py"
        exact ⟨by decide, rfl⟩
      rintro _ rfl
      refine ws_cut (fun ρ' => ρ' = [.val (.d (.int 3)), .val (.d (.list [.int a, .int b])), .val (.d (.list [.bool false, .bool false, .bool false, .bool true, .bool false, .bool false, .bool false, .bool false, .bool false, .bool false, .bool false])), .val (.d (.list [])), .val (.r (.ref ea))]) ?_ ?_
      · refine ws_asg (we_fresh (wf_cat (we_var rfl ⟨_, rfl, wf_lst ?_⟩)))
        walk_at "py"
        refine rc_isD xd T.ec_BadPlan (fun z hz => hz) k7 ?_
        walk_at "py"
        refine rc_isD xd T.ec_BadPlan (fun z hz => hz) k8 ?_
        walk_at "py"
        refine rc_isD xd T.ec_BadPlan (fun z hz => hz) k9 ?_
        walk_at "py"
        refine rc_isD xd T.ec_BadPlan (fun z hz => hz) k10 ?_
        walk_at "py"
        exact ⟨by decide, rfl⟩
      rintro _ rfl
      refine ws_cut (fun ρ' => ρ' = [.val (.d (.int 3)), .val (.d (.list [.int a, .int b])), .val (.d (.list [.bool false, .bool false, .bool false, .bool true, .bool false, .bool false, .bool false, .bool false, .bool false, .bool false, .bool false, .bool false, .bool false, .bool false, .bool false])), .val (.d (.list [])), .val (.r (.ref ea))]) ?_ ?_
      · refine ws_asg (we_fresh (wf_cat (we_var rfl ⟨_, rfl, wf_lst ?_⟩)))
        walk_at "py"
        refine rc_isD xd T.ec_BadPlan (fun z hz => hz) k11 ?_
        walk_at "py"
        refine rc_isD xd T.ec_BadPlan (fun z hz => hz) k12 ?_
        walk_at "py"
        refine rc_isD xd T.ec_BadPlan (fun z hz => hz) k13 ?_
        walk_at "py"
        refine rc_isD xd T.ec_BadPlan (fun z hz => hz) k14 ?_
        walk_at "py"
        exact ⟨by decide, rfl⟩
      rintro _ rfl
      refine ws_cut (fun ρ' => ρ' = [.val (.d (.int 3)), .val (.d (.list [.int a, .int b])), .val (.d (.list [.bool false, .bool false, .bool false, .bool true, .bool false, .bool false, .bool false, .bool false, .bool false, .bool false, .bool false, .bool false, .bool false, .bool false, .bool false, .bool true])), .val (.d (.list [])), .val (.r (.ref ea))]) ?_ ?_
      · refine ws_asg (we_fresh (wf_cat (we_var rfl ⟨_, rfl, wf_lst ?_⟩)))
        walk_at "py"
        refine rc_isD xd T.ec_BadPlan (fun z hz => hz) kv ?_
        walk_at "py"
        exact ⟨by decide, rfl⟩
      rintro _ rfl
      refine ws_seq (ws_if (wt_split false ?_ (fun h => by cases h) (fun _ => ws_next ?_)))
      · walk_at "py"
        all_goals rfl
      refine ws_seq (ws_if (wt_split false ?_ (fun h => by cases h) (fun _ => ws_next ?_)))
      · walk_at "py"
        all_goals rfl
      refine ws_seq (ws_if (wt_split false ?_ (fun h => by cases h) (fun _ => ws_next ?_)))
      · walk_at "py"
        all_goals rfl
      refine ws_seq (ws_if (wt_split false ?_ (fun h => by cases h) (fun _ => ws_next ?_)))
      · walk_at "py"
        all_goals rfl
      refine ws_if (wt_split false ?_ (fun h => by cases h) (fun _ => ws_next rfl))
      walk_at "py"
      all_goals rfl
    rintro _ rfl
    walk_at "py"
    exact hk
  · cases he
    obtain ⟨k0, k1, k2, k3, k4, k5, k6, k7, k8, k9, k10, k11, k12, k13, k14, kv⟩ := T.kt_NoFace
    refine ws_cut (fun ρ' => ρ' = [.val (.d (.int 4)), .val (.d (.list [.int a, .int b])), .val (.d (.list [.bool false, .bool false, .bool false, .bool false, .bool true, .bool false, .bool false, .bool false, .bool false, .bool false, .bool false, .bool false, .bool false, .bool false, .bool false, .bool true])), .val (.d (.list [.int a])), .un]) ?_ ?_
    · refine ws_tAsF xokF_none fun W hW => ?_
      refine ws_drop (we_callSF hW ?_)
      walk_at "py"
      refine fun c' le => ⟨4, a, b, _, rfl, by decide, rfl, true, PySem.W.exm_ref T.eb_PlyError T.hd_PlyError T.et_PlyError T.sp_NoFace, fun _ ea d c1 le1 xd => ?_, fun q => nomatch q⟩
      refine ws_cut (fun ρ' => ρ' = [.val (.d (.int 4)), .val (.d (.list [.int a, .int b])), .val (.d (.list [.bool false, .bool false, .bool false, .bool false])), .val (.d (.list [])), .val (.r (.ref ea))]) ?_ ?_
      · walk_at "py"
        refine rc_isD xd T.ec_NoFace (fun z hz => hz) k0 ?_
        walk_at "py"
        refine rc_isD xd T.ec_NoFace (fun z hz => hz) k1 ?_
        walk_at "py"
        refine rc_isD xd T.ec_NoFace (fun z hz => hz) k2 ?_
        walk_at "py"
        refine rc_isD xd T.ec_NoFace (fun z hz => hz) k3 ?_
        walk_at "py"
        rfl
      rintro _ rfl
      refine ws_cut (fun ρ' => ρ' = [.val (.d (.int 4)), .val (.d (.list [.int a, .int b])), .val (.d (.list [.bool false, .bool false, .bool false, .bool false, .bool true, .bool false, .bool false])), .val (.d (.list [])), .val (.r (.ref ea))]) ?_ ?_
      · refine ws_asg (we_fresh (wf_cat (we_var rfl ⟨_, rfl, wf_lst ?_⟩)))
        walk_at "py"
        refine rc_isD xd T.ec_NoFace (fun z hz => hz) k4 ?_
        walk_at "py"
        refine rc_isD xd T.ec_NoFace (fun z hz => hz) k5 ?_
        walk_at "py"
        refine rc_isD xd T.ec_NoFace (fun z hz => hz) k6 ?_
        walk_at "py"
        exact ⟨by decide, rfl⟩
      rintro _ rfl
      refine ws_cut (fun ρ' => ρ' = [.val (.d (.int 4)), .val (.d (.list [.int a, .int b])), .val (.d (.list [.bool false, .bool false, .bool false, .bool false, .bool true, .bool false, .bool false, .bool false, .bool false, .bool false, .bool false])), .val (.d (.list [])), .val (.r (.ref ea))]) ?_ ?_
      · refine ws_asg (we_fresh (wf_cat (we_var rfl ⟨_, rfl, wf_lst ?_⟩)))
        walk_at "py"
        refine rc_isD xd T.ec_NoFace (fun z hz => hz) k7 ?_
        walk_at "py"
        refine rc_isD xd T.ec_NoFace (fun z hz => hz) k8 ?_
        walk_at "py"
        refine rc_isD xd T.ec_NoFace (fun z hz => hz) k9 ?_
        walk_at "py"
        refine rc_isD xd T.ec_NoFace (fun z hz => hz) k10 ?_
        walk_at "py"
        exact ⟨by decide, rfl⟩
      rintro _ rfl
      refine ws_cut (fun ρ' => ρ' = [.val (.d (.int 4)), .val (.d (.list [.int a, .int b])), .val (.d (.list [.bool false, .bool false, .bool false, .bool false, .bool true, .bool false, .bool false, .bool false, .bool false, .bool false, .bool false, .bool false, .bool false, .bool false, .bool false])), .val (.d (.list [])), .val (.r (.ref ea))]) ?_ ?_
      · refine ws_asg (we_fresh (wf_cat (we_var rfl ⟨_, rfl, wf_lst ?_⟩)))
        walk_at "py"
        refine rc_isD xd T.ec_NoFace (fun z hz => hz) k11 ?_
        walk_at "py"
        refine rc_isD xd T.ec_NoFace (fun z hz => hz) k12 ?_
        walk_at "py"
        refine rc_isD xd T.ec_NoFace (fun z hz => hz) k13 ?_
        walk_at "py"
        refine rc_isD xd T.ec_NoFace (fun z hz => hz) k14 ?_
        walk_at "py"
        exact ⟨by decide, rfl⟩
      rintro _ rfl
      refine ws_cut (fun ρ' => ρ' = [.val (.d (.int 4)), .val (.d (.list [.int a, .int b])), .val (.d (.list [.bool false, .bool false, .bool false, .bool false, .bool true, .bool false, .bool false, .bool false, .bool false, .bool false, .bool false, .bool false, .bool false, .bool false, .bool false, .bool true])), .val (.d (.list [])), .val (.r (.ref ea))]) ?_ ?_
      · refine ws_asg (we_fresh (wf_cat (we_var rfl ⟨_, rfl, wf_lst ?_⟩)))
        walk_at "py"
        refine rc_isD xd T.ec_NoFace (fun z hz => hz) kv ?_
        walk_at "py"
        exact ⟨by decide, rfl⟩
      rintro _ rfl
      refine ws_seq (ws_if (wt_split false ?_ (fun h => by cases h) (fun _ => ws_next ?_)))
      · walk_at "py"
        all_goals rfl
      refine ws_cut (fun ρ' => ρ' = [.val (.d (.int 4)), .val (.d (.list [.int a, .int b])), .val (.d (.list [.bool false, .bool false, .bool false, .bool false, .bool true, .bool false, .bool false, .bool false, .bool false, .bool false, .bool false, .bool false, .bool false, .bool false, .bool false, .bool true])), .val (.d (.list [.int a])), .val (.r (.ref ea))]) ?_ ?_
      · refine ws_if (wt_split true ?_ (fun _ => ?_) (fun h => by cases h))
        · walk_at "py"
          all_goals rfl
        refine ws_asg (we_fresh (wf_lst ?_))
        refine wa_cons ((we_xf (x := .int a) rfl xd rfl ?_))
        exact wa_nil ⟨_, rfl, Nat.le_of_ble_eq_true rfl, rfl⟩
      rintro _ rfl
      refine ws_seq (ws_if (wt_split false ?_ (fun h => by cases h) (fun _ => ws_next ?_)))
      · walk_at "py"
        all_goals rfl
      refine ws_seq (ws_if (wt_split false ?_ (fun h => by cases h) (fun _ => ws_next ?_)))
      · walk_at "py"
        all_goals rfl
      refine ws_if (wt_split false ?_ (fun h => by cases h) (fun _ => ws_next rfl))
      walk_at "py"
      all_goals rfl
    rintro _ rfl
    walk_at "py"
    exact hk
  · cases he
    obtain ⟨k0, k1, k2, k3, k4, k5, k6, k7, k8, k9, k10, k11, k12, k13, k14, kv⟩ := T.kt_Endless
    refine ws_cut (fun ρ' => ρ' = [.val (.d (.int 5)), .val (.d (.list [.int a, .int b])), .val (.d (.list [.bool false, .bool false, .bool false, .bool false, .bool false, .bool true, .bool false, .bool false, .bool false, .bool false, .bool false, .bool false, .bool false, .bool false, .bool false, .bool true])), .val (.d (.list [])), .un]) ?_ ?_
    · refine ws_tAsF xokF_none fun W hW => ?_
      refine ws_drop (we_callSF hW ?_)
      walk_at "py"
      refine fun c' le => ⟨5, a, b, _, rfl, by decide, rfl, true, PySem.W.exm_ref T.eb_PlyError T.hd_PlyError T.et_PlyError T.sp_Endless, fun _ ea d c1 le1 xd => ?_, fun q => nomatch q⟩
      refine ws_cut (fun ρ' => ρ' = [.val (.d (.int 5)), .val (.d (.list [.int a, .int b])), .val (.d (.list [.bool false, .bool false, .bool false, .bool false])), .val (.d (.list [])), .val (.r (.ref ea))]) ?_ ?_
      · walk_at "py"
        refine rc_isD xd T.ec_Endless (fun z hz => hz) k0 ?_
        walk_at "py"
        refine rc_isD xd T.ec_Endless (fun z hz => hz) k1 ?_
        walk_at "py"
        refine rc_isD xd T.ec_Endless (fun z hz => hz) k2 ?_
        walk_at "py"
        refine rc_isD xd T.ec_Endless (fun z hz => hz) k3 ?_
        walk_at "py"
        rfl
      rintro _ rfl
      refine ws_cut (fun ρ' => ρ' = [.val (.d (.int 5)), .val (.d (.list [.int a, .int b])), .val (.d (.list [.bool false, .bool false, .bool false, .bool false, .bool false, .bool true, .bool false])), .val (.d (.list [])), .val (.r (.ref ea))]) ?_ ?_
      · refine ws_asg (we_fresh (wf_cat (we_var rfl ⟨_, rfl, wf_lst ?_⟩)))
        walk_at "py"
        refine rc_isD xd T.ec_Endless (fun z hz => hz) k4 ?_
        walk_at "py"
        refine rc_isD xd T.ec_Endless (fun z hz => hz) k5 ?_
        walk_at "py"
        refine rc_isD xd T.ec_Endless (fun z hz => hz) k6 ?_
        walk_at "py"
        exact ⟨by decide, rfl⟩
      rintro _ rfl
      refine ws_cut (fun ρ' => ρ' = [.val (.d (.int 5)), .val (.d (.list [.int a, .int b])), .val (.d (.list [.bool false, .bool false, .bool false, .bool false, .bool false, .bool true, .bool false, .bool false, .bool false, .bool false, .bool false])), .val (.d (.list [])), .val (.r (.ref ea))]) ?_ ?_
      · refine ws_asg (we_fresh (wf_cat (we_var rfl ⟨_, rfl, wf_lst ?_⟩)))
        walk_at "py"
        refine rc_isD xd T.ec_Endless (fun z hz => hz) k7 ?_
        walk_at "py"
        refine rc_isD xd T.ec_Endless (fun z hz => hz) k8 ?_
        walk_at "py"
        refine rc_isD xd T.ec_Endless (fun z hz => hz) k9 ?_
        walk_at "py"
        refine rc_isD xd T.ec_Endless (fun z hz => hz) k10 ?_
        walk_at "py"
        exact ⟨by decide, rfl⟩
      rintro _ rfl
      refine ws_cut (fun ρ' => ρ' = [.val (.d (.int 5)), .val (.d (.list [.int a, .int b])), .val (.d (.list [.bool false, .bool false, .bool false, .bool false, .bool false, .bool true, .bool false, .bool false, .bool false, .bool false, .bool false, .bool false, .bool false, .bool false, .bool false])), .val (.d (.list [])), .val (.r (.ref ea))]) ?_ ?_
      · refine ws_asg (we_fresh (wf_cat (we_var rfl ⟨_, rfl, wf_lst ?_⟩)))
        walk_at "py"
        refine rc_isD xd T.ec_Endless (fun z hz => hz) k11 ?_
        walk_at "py"
        refine rc_isD xd T.ec_Endless (fun z hz => hz) k12 ?_
        walk_at "py"
        refine rc_isD xd T.ec_Endless (fun z hz => hz) k13 ?_
        walk_at "py"
        refine rc_isD xd T.ec_Endless (fun z hz => hz) k14 ?_
        walk_at "py"
        exact ⟨by decide, rfl⟩
      rintro _ rfl
      refine ws_cut (fun ρ' => ρ' = [.val (.d (.int 5)), .val (.d (.list [.int a, .int b])), .val (.d (.list [.bool false, .bool false, .bool false, .bool false, .bool false, .bool true, .bool false, .bool false, .bool false, .bool false, .bool false, .bool false, .bool false, .bool false, .bool false, .bool true])), .val (.d (.list [])), .val (.r (.ref ea))]) ?_ ?_
      · refine ws_asg (we_fresh (wf_cat (we_var rfl ⟨_, rfl, wf_lst ?_⟩)))
        walk_at "py"
        refine rc_isD xd T.ec_Endless (fun z hz => hz) kv ?_
        walk_at "py"
        exact ⟨by decide, rfl⟩
      rintro _ rfl
      refine ws_seq (ws_if (wt_split false ?_ (fun h => by cases h) (fun _ => ws_next ?_)))
      · walk_at "py"
        all_goals rfl
      refine ws_seq (ws_if (wt_split false ?_ (fun h => by cases h) (fun _ => ws_next ?_)))
      · walk_at "py"
        all_goals rfl
      refine ws_seq (ws_if (wt_split false ?_ (fun h => by cases h) (fun _ => ws_next ?_)))
      · walk_at "py"
        all_goals rfl
      refine ws_seq (ws_if (wt_split false ?_ (fun h => by cases h) (fun _ => ws_next ?_)))
      · walk_at "py"
        all_goals rfl
      refine ws_if (wt_split false ?_ (fun h => by cases h) (fun _ => ws_next rfl))
      walk_at "py"
      all_goals rfl
    rintro _ rfl
    walk_at "py"
    exact hk
  · cases he
    obtain ⟨k0, k1, k2, k3, k4, k5, k6, k7, k8, k9, k10, k11, k12, k13, k14, kv⟩ := T.kt_NoGround
    refine ws_cut (fun ρ' => ρ' = [.val (.d (.int 6)), .val (.d (.list [.int a, .int b])), .val (.d (.list [.bool false, .bool false, .bool false, .bool false, .bool false, .bool false, .bool true, .bool false, .bool false, .bool false, .bool false, .bool false, .bool false, .bool false, .bool false, .bool true])), .val (.d (.list [.tuple [.int a, .int b, .int 1]])), .un]) ?_ ?_
    · refine ws_tAsF xokF_none fun W hW => ?_
      refine ws_drop (we_callSF hW ?_)
      walk_at "py"
      refine fun c' le => ⟨6, a, b, _, rfl, by decide, rfl, true, PySem.W.exm_ref T.eb_PlyError T.hd_PlyError T.et_PlyError T.sp_NoGround, fun _ ea d c1 le1 xd => ?_, fun q => nomatch q⟩
      refine ws_cut (fun ρ' => ρ' = [.val (.d (.int 6)), .val (.d (.list [.int a, .int b])), .val (.d (.list [.bool false, .bool false, .bool false, .bool false])), .val (.d (.list [])), .val (.r (.ref ea))]) ?_ ?_
      · walk_at "py"
        refine rc_isD xd T.ec_NoGround (fun z hz => hz) k0 ?_
        walk_at "py"
        refine rc_isD xd T.ec_NoGround (fun z hz => hz) k1 ?_
        walk_at "py"
        refine rc_isD xd T.ec_NoGround (fun z hz => hz) k2 ?_
        walk_at "py"
        refine rc_isD xd T.ec_NoGround (fun z hz => hz) k3 ?_
        walk_at "py"
        rfl
      rintro _ rfl
      refine ws_cut (fun ρ' => ρ' = [.val (.d (.int 6)), .val (.d (.list [.int a, .int b])), .val (.d (.list [.bool false, .bool false, .bool false, .bool false, .bool false, .bool false, .bool true])), .val (.d (.list [])), .val (.r (.ref ea))]) ?_ ?_
      · refine ws_asg (we_fresh (wf_cat (we_var rfl ⟨_, rfl, wf_lst ?_⟩)))
        walk_at "py"
        refine rc_isD xd T.ec_NoGround (fun z hz => hz) k4 ?_
        walk_at "py"
        refine rc_isD xd T.ec_NoGround (fun z hz => hz) k5 ?_
        walk_at "py"
        refine rc_isD xd T.ec_NoGround (fun z hz => hz) k6 ?_
        walk_at "py"
        exact ⟨by decide, rfl⟩
      rintro _ rfl
      refine ws_cut (fun ρ' => ρ' = [.val (.d (.int 6)), .val (.d (.list [.int a, .int b])), .val (.d (.list [.bool false, .bool false, .bool false, .bool false, .bool false, .bool false, .bool true, .bool false, .bool false, .bool false, .bool false])), .val (.d (.list [])), .val (.r (.ref ea))]) ?_ ?_
      · refine ws_asg (we_fresh (wf_cat (we_var rfl ⟨_, rfl, wf_lst ?_⟩)))
        walk_at "py"
        refine rc_isD xd T.ec_NoGround (fun z hz => hz) k7 ?_
        walk_at "py"
        refine rc_isD xd T.ec_NoGround (fun z hz => hz) k8 ?_
        walk_at "py"
        refine rc_isD xd T.ec_NoGround (fun z hz => hz) k9 ?_
        walk_at "py"
        refine rc_isD xd T.ec_NoGround (fun z hz => hz) k10 ?_
        walk_at "py"
        exact ⟨by decide, rfl⟩
      rintro _ rfl
      refine ws_cut (fun ρ' => ρ' = [.val (.d (.int 6)), .val (.d (.list [.int a, .int b])), .val (.d (.list [.bool false, .bool false, .bool false, .bool false, .bool false, .bool false, .bool true, .bool false, .bool false, .bool false, .bool false, .bool false, .bool false, .bool false, .bool false])), .val (.d (.list [])), .val (.r (.ref ea))]) ?_ ?_
      · refine ws_asg (we_fresh (wf_cat (we_var rfl ⟨_, rfl, wf_lst ?_⟩)))
        walk_at "py"
        refine rc_isD xd T.ec_NoGround (fun z hz => hz) k11 ?_
        walk_at "py"
        refine rc_isD xd T.ec_NoGround (fun z hz => hz) k12 ?_
        walk_at "py"
        refine rc_isD xd T.ec_NoGround (fun z hz => hz) k13 ?_
        walk_at "py"
        refine rc_isD xd T.ec_NoGround (fun z hz => hz) k14 ?_
        walk_at "py"
        exact ⟨by decide, rfl⟩
      rintro _ rfl
      refine ws_cut (fun ρ' => ρ' = [.val (.d (.int 6)), .val (.d (.list [.int a, .int b])), .val (.d (.list [.bool false, .bool false, .bool false, .bool false, .bool false, .bool false, .bool true, .bool false, .bool false, .bool false, .bool false, .bool false, .bool false, .bool false, .bool false, .bool true])), .val (.d (.list [])), .val (.r (.ref ea))]) ?_ ?_
      · refine ws_asg (we_fresh (wf_cat (we_var rfl ⟨_, rfl, wf_lst ?_⟩)))
        walk_at "py"
        refine rc_isD xd T.ec_NoGround (fun z hz => hz) kv ?_
        walk_at "py"
        exact ⟨by decide, rfl⟩
      rintro _ rfl
      refine ws_seq (ws_if (wt_split false ?_ (fun h => by cases h) (fun _ => ws_next ?_)))
      · walk_at "py"
        all_goals rfl
      refine ws_seq (ws_if (wt_split false ?_ (fun h => by cases h) (fun _ => ws_next ?_)))
      · walk_at "py"
        all_goals rfl
      refine ws_cut (fun ρ' => ρ' = [.val (.d (.int 6)), .val (.d (.list [.int a, .int b])), .val (.d (.list [.bool false, .bool false, .bool false, .bool false, .bool false, .bool false, .bool true, .bool false, .bool false, .bool false, .bool false, .bool false, .bool false, .bool false, .bool false, .bool true])), .val (.d (.list [.tuple [.int a, .int b, .int 1]])), .val (.r (.ref ea))]) ?_ ?_
      · refine ws_if (wt_split true ?_ (fun _ => ?_) (fun h => by cases h))
        · walk_at "py"
          all_goals rfl
        refine ws_asg (we_fresh (wf_lst ?_))
        refine wa_cons ((we_xf (x := .tuple [.int a, .int b, .int 1]) rfl xd rfl ?_))
        exact wa_nil ⟨_, rfl, Nat.le_of_ble_eq_true rfl, rfl⟩
      rintro _ rfl
      refine ws_seq (ws_if (wt_split false ?_ (fun h => by cases h) (fun _ => ws_next ?_)))
      · walk_at "py"
        all_goals rfl
      refine ws_if (wt_split false ?_ (fun h => by cases h) (fun _ => ws_next rfl))
      walk_at "py"
      all_goals rfl
    rintro _ rfl
    walk_at "py"
    exact hk
  · cases he
    obtain ⟨k0, k1, k2, k3, k4, k5, k6, k7, k8, k9, k10, k11, k12, k13, k14, kv⟩ := T.kt_NoName
    refine ws_cut (fun ρ' => ρ' = [.val (.d (.int 7)), .val (.d (.list [.int a, .int b])), .val (.d (.list [.bool false, .bool false, .bool false, .bool false, .bool false, .bool false, .bool false, .bool true, .bool false, .bool false, .bool false, .bool false, .bool false, .bool false, .bool false, .bool true])), .val (.d (.list [])), .un]) ?_ ?_
    · refine ws_tAsF xokF_none fun W hW => ?_
      refine ws_drop (we_callSF hW ?_)
      walk_at "py"
      refine fun c' le => ⟨7, a, b, _, rfl, by decide, rfl, true, PySem.W.exm_ref T.eb_PlyError T.hd_PlyError T.et_PlyError T.sp_NoName, fun _ ea d c1 le1 xd => ?_, fun q => nomatch q⟩
      refine ws_cut (fun ρ' => ρ' = [.val (.d (.int 7)), .val (.d (.list [.int a, .int b])), .val (.d (.list [.bool false, .bool false, .bool false, .bool false])), .val (.d (.list [])), .val (.r (.ref ea))]) ?_ ?_
      · walk_at "py"
        refine rc_isD xd T.ec_NoName (fun z hz => hz) k0 ?_
        walk_at "py"
        refine rc_isD xd T.ec_NoName (fun z hz => hz) k1 ?_
        walk_at "py"
        refine rc_isD xd T.ec_NoName (fun z hz => hz) k2 ?_
        walk_at "py"
        refine rc_isD xd T.ec_NoName (fun z hz => hz) k3 ?_
        walk_at "py"
        rfl
      rintro _ rfl
      refine ws_cut (fun ρ' => ρ' = [.val (.d (.int 7)), .val (.d (.list [.int a, .int b])), .val (.d (.list [.bool false, .bool false, .bool false, .bool false, .bool false, .bool false, .bool false])), .val (.d (.list [])), .val (.r (.ref ea))]) ?_ ?_
      · refine ws_asg (we_fresh (wf_cat (we_var rfl ⟨_, rfl, wf_lst ?_⟩)))
        walk_at "py"
        refine rc_isD xd T.ec_NoName (fun z hz => hz) k4 ?_
        walk_at "py"
        refine rc_isD xd T.ec_NoName (fun z hz => hz) k5 ?_
        walk_at "py"
        refine rc_isD xd T.ec_NoName (fun z hz => hz) k6 ?_
        walk_at "py"
        exact ⟨by decide, rfl⟩
      rintro _ rfl
      refine ws_cut (fun ρ' => ρ' = [.val (.d (.int 7)), .val (.d (.list [.int a, .int b])), .val (.d (.list [.bool false, .bool false, .bool false, .bool false, .bool false, .bool false, .bool false, .bool true, .bool false, .bool false, .bool false])), .val (.d (.list [])), .val (.r (.ref ea))]) ?_ ?_
      · refine ws_asg (we_fresh (wf_cat (we_var rfl ⟨_, rfl, wf_lst ?_⟩)))
        walk_at "py"
        refine rc_isD xd T.ec_NoName (fun z hz => hz) k7 ?_
        walk_at "py"
        refine rc_isD xd T.ec_NoName (fun z hz => hz) k8 ?_
        walk_at "py"
        refine rc_isD xd T.ec_NoName (fun z hz => hz) k9 ?_
        walk_at "py"
        refine rc_isD xd T.ec_NoName (fun z hz => hz) k10 ?_
        walk_at "py"
        exact ⟨by decide, rfl⟩
      rintro _ rfl
      refine ws_cut (fun ρ' => ρ' = [.val (.d (.int 7)), .val (.d (.list [.int a, .int b])), .val (.d (.list [.bool false, .bool false, .bool false, .bool false, .bool false, .bool false, .bool false, .bool true, .bool false, .bool false, .bool false, .bool false, .bool false, .bool false, .bool false])), .val (.d (.list [])), .val (.r (.ref ea))]) ?_ ?_
      · refine ws_asg (we_fresh (wf_cat (we_var rfl ⟨_, rfl, wf_lst ?_⟩)))
        walk_at "py"
        refine rc_isD xd T.ec_NoName (fun z hz => hz) k11 ?_
        walk_at "py"
        refine rc_isD xd T.ec_NoName (fun z hz => hz) k12 ?_
        walk_at "py"
        refine rc_isD xd T.ec_NoName (fun z hz => hz) k13 ?_
        walk_at "py"
        refine rc_isD xd T.ec_NoName (fun z hz => hz) k14 ?_
        walk_at "py"
        exact ⟨by decide, rfl⟩
      rintro _ rfl
      refine ws_cut (fun ρ' => ρ' = [.val (.d (.int 7)), .val (.d (.list [.int a, .int b])), .val (.d (.list [.bool false, .bool false, .bool false, .bool false, .bool false, .bool false, .bool false, .bool true, .bool false, .bool false, .bool false, .bool false, .bool false, .bool false, .bool false, .bool true])), .val (.d (.list [])), .val (.r (.ref ea))]) ?_ ?_
      · refine ws_asg (we_fresh (wf_cat (we_var rfl ⟨_, rfl, wf_lst ?_⟩)))
        walk_at "py"
        refine rc_isD xd T.ec_NoName (fun z hz => hz) kv ?_
        walk_at "py"
        exact ⟨by decide, rfl⟩
      rintro _ rfl
      refine ws_seq (ws_if (wt_split false ?_ (fun h => by cases h) (fun _ => ws_next ?_)))
      · walk_at "py"
        all_goals rfl
      refine ws_seq (ws_if (wt_split false ?_ (fun h => by cases h) (fun _ => ws_next ?_)))
      · walk_at "py"
        all_goals rfl
      refine ws_seq (ws_if (wt_split false ?_ (fun h => by cases h) (fun _ => ws_next ?_)))
      · walk_at "py"
        all_goals rfl
      refine ws_seq (ws_if (wt_split false ?_ (fun h => by cases h) (fun _ => ws_next ?_)))
      · walk_at "py"
        all_goals rfl
      refine ws_if (wt_split false ?_ (fun h => by cases h) (fun _ => ws_next rfl))
      walk_at "py"
      all_goals rfl
    rintro _ rfl
    walk_at "py"
    exact hk
  · cases he
    obtain ⟨k0, k1, k2, k3, k4, k5, k6, k7, k8, k9, k10, k11, k12, k13, k14, kv⟩ := T.kt_Taken
    refine ws_cut (fun ρ' => ρ' = [.val (.d (.int 8)), .val (.d (.list [.int a, .int b])), .val (.d (.list [.bool false, .bool false, .bool false, .bool false, .bool false, .bool false, .bool false, .bool false, .bool true, .bool false, .bool false, .bool false, .bool false, .bool false, .bool false, .bool true])), .val (.d (.list [.str "a"])), .un]) ?_ ?_
    · refine ws_tAsF xokF_none fun W hW => ?_
      refine ws_drop (we_callSF hW ?_)
      walk_at "py"
      refine fun c' le => ⟨8, a, b, _, rfl, by decide, rfl, true, PySem.W.exm_ref T.eb_PlyError T.hd_PlyError T.et_PlyError T.sp_Taken, fun _ ea d c1 le1 xd => ?_, fun q => nomatch q⟩
      refine ws_cut (fun ρ' => ρ' = [.val (.d (.int 8)), .val (.d (.list [.int a, .int b])), .val (.d (.list [.bool false, .bool false, .bool false, .bool false])), .val (.d (.list [])), .val (.r (.ref ea))]) ?_ ?_
      · walk_at "py"
        refine rc_isD xd T.ec_Taken (fun z hz => hz) k0 ?_
        walk_at "py"
        refine rc_isD xd T.ec_Taken (fun z hz => hz) k1 ?_
        walk_at "py"
        refine rc_isD xd T.ec_Taken (fun z hz => hz) k2 ?_
        walk_at "py"
        refine rc_isD xd T.ec_Taken (fun z hz => hz) k3 ?_
        walk_at "py"
        rfl
      rintro _ rfl
      refine ws_cut (fun ρ' => ρ' = [.val (.d (.int 8)), .val (.d (.list [.int a, .int b])), .val (.d (.list [.bool false, .bool false, .bool false, .bool false, .bool false, .bool false, .bool false])), .val (.d (.list [])), .val (.r (.ref ea))]) ?_ ?_
      · refine ws_asg (we_fresh (wf_cat (we_var rfl ⟨_, rfl, wf_lst ?_⟩)))
        walk_at "py"
        refine rc_isD xd T.ec_Taken (fun z hz => hz) k4 ?_
        walk_at "py"
        refine rc_isD xd T.ec_Taken (fun z hz => hz) k5 ?_
        walk_at "py"
        refine rc_isD xd T.ec_Taken (fun z hz => hz) k6 ?_
        walk_at "py"
        exact ⟨by decide, rfl⟩
      rintro _ rfl
      refine ws_cut (fun ρ' => ρ' = [.val (.d (.int 8)), .val (.d (.list [.int a, .int b])), .val (.d (.list [.bool false, .bool false, .bool false, .bool false, .bool false, .bool false, .bool false, .bool false, .bool true, .bool false, .bool false])), .val (.d (.list [])), .val (.r (.ref ea))]) ?_ ?_
      · refine ws_asg (we_fresh (wf_cat (we_var rfl ⟨_, rfl, wf_lst ?_⟩)))
        walk_at "py"
        refine rc_isD xd T.ec_Taken (fun z hz => hz) k7 ?_
        walk_at "py"
        refine rc_isD xd T.ec_Taken (fun z hz => hz) k8 ?_
        walk_at "py"
        refine rc_isD xd T.ec_Taken (fun z hz => hz) k9 ?_
        walk_at "py"
        refine rc_isD xd T.ec_Taken (fun z hz => hz) k10 ?_
        walk_at "py"
        exact ⟨by decide, rfl⟩
      rintro _ rfl
      refine ws_cut (fun ρ' => ρ' = [.val (.d (.int 8)), .val (.d (.list [.int a, .int b])), .val (.d (.list [.bool false, .bool false, .bool false, .bool false, .bool false, .bool false, .bool false, .bool false, .bool true, .bool false, .bool false, .bool false, .bool false, .bool false, .bool false])), .val (.d (.list [])), .val (.r (.ref ea))]) ?_ ?_
      · refine ws_asg (we_fresh (wf_cat (we_var rfl ⟨_, rfl, wf_lst ?_⟩)))
        walk_at "py"
        refine rc_isD xd T.ec_Taken (fun z hz => hz) k11 ?_
        walk_at "py"
        refine rc_isD xd T.ec_Taken (fun z hz => hz) k12 ?_
        walk_at "py"
        refine rc_isD xd T.ec_Taken (fun z hz => hz) k13 ?_
        walk_at "py"
        refine rc_isD xd T.ec_Taken (fun z hz => hz) k14 ?_
        walk_at "py"
        exact ⟨by decide, rfl⟩
      rintro _ rfl
      refine ws_cut (fun ρ' => ρ' = [.val (.d (.int 8)), .val (.d (.list [.int a, .int b])), .val (.d (.list [.bool false, .bool false, .bool false, .bool false, .bool false, .bool false, .bool false, .bool false, .bool true, .bool false, .bool false, .bool false, .bool false, .bool false, .bool false, .bool true])), .val (.d (.list [])), .val (.r (.ref ea))]) ?_ ?_
      · refine ws_asg (we_fresh (wf_cat (we_var rfl ⟨_, rfl, wf_lst ?_⟩)))
        walk_at "py"
        refine rc_isD xd T.ec_Taken (fun z hz => hz) kv ?_
        walk_at "py"
        exact ⟨by decide, rfl⟩
      rintro _ rfl
      refine ws_seq (ws_if (wt_split false ?_ (fun h => by cases h) (fun _ => ws_next ?_)))
      · walk_at "py"
        all_goals rfl
      refine ws_seq (ws_if (wt_split false ?_ (fun h => by cases h) (fun _ => ws_next ?_)))
      · walk_at "py"
        all_goals rfl
      refine ws_seq (ws_if (wt_split false ?_ (fun h => by cases h) (fun _ => ws_next ?_)))
      · walk_at "py"
        all_goals rfl
      refine ws_cut (fun ρ' => ρ' = [.val (.d (.int 8)), .val (.d (.list [.int a, .int b])), .val (.d (.list [.bool false, .bool false, .bool false, .bool false, .bool false, .bool false, .bool false, .bool false, .bool true, .bool false, .bool false, .bool false, .bool false, .bool false, .bool false, .bool true])), .val (.d (.list [.str "a"])), .val (.r (.ref ea))]) ?_ ?_
      · refine ws_if (wt_split true ?_ (fun _ => ?_) (fun h => by cases h))
        · walk_at "py"
          all_goals rfl
        refine ws_asg (we_fresh (wf_lst ?_))
        refine wa_cons (we_eitherL (we_xf (x := .str "a") rfl xd rfl ?_))
        exact wa_nil ⟨_, rfl, Nat.le_of_ble_eq_true rfl, rfl⟩
      rintro _ rfl
      refine ws_if (wt_split false ?_ (fun h => by cases h) (fun _ => ws_next rfl))
      walk_at "py"
      all_goals rfl
    rintro _ rfl
    walk_at "py"
    exact hk
  · cases he
    obtain ⟨k0, k1, k2, k3, k4, k5, k6, k7, k8, k9, k10, k11, k12, k13, k14, kv⟩ := T.kt_NoLayer
    refine ws_cut (fun ρ' => ρ' = [.val (.d (.int 9)), .val (.d (.list [.int a, .int b])), .val (.d (.list [.bool false, .bool false, .bool false, .bool false, .bool false, .bool false, .bool false, .bool false, .bool false, .bool true, .bool false, .bool false, .bool false, .bool false, .bool false, .bool true])), .val (.d (.list [.str "b"])), .un]) ?_ ?_
    · refine ws_tAsF xokF_none fun W hW => ?_
      refine ws_drop (we_callSF hW ?_)
      walk_at "py"
      refine fun c' le => ⟨9, a, b, _, rfl, by decide, rfl, true, PySem.W.exm_ref T.eb_PlyError T.hd_PlyError T.et_PlyError T.sp_NoLayer, fun _ ea d c1 le1 xd => ?_, fun q => nomatch q⟩
      refine ws_cut (fun ρ' => ρ' = [.val (.d (.int 9)), .val (.d (.list [.int a, .int b])), .val (.d (.list [.bool false, .bool false, .bool false, .bool false])), .val (.d (.list [])), .val (.r (.ref ea))]) ?_ ?_
      · walk_at "py"
        refine rc_isD xd T.ec_NoLayer (fun z hz => hz) k0 ?_
        walk_at "py"
        refine rc_isD xd T.ec_NoLayer (fun z hz => hz) k1 ?_
        walk_at "py"
        refine rc_isD xd T.ec_NoLayer (fun z hz => hz) k2 ?_
        walk_at "py"
        refine rc_isD xd T.ec_NoLayer (fun z hz => hz) k3 ?_
        walk_at "py"
        rfl
      rintro _ rfl
      refine ws_cut (fun ρ' => ρ' = [.val (.d (.int 9)), .val (.d (.list [.int a, .int b])), .val (.d (.list [.bool false, .bool false, .bool false, .bool false, .bool false, .bool false, .bool false])), .val (.d (.list [])), .val (.r (.ref ea))]) ?_ ?_
      · refine ws_asg (we_fresh (wf_cat (we_var rfl ⟨_, rfl, wf_lst ?_⟩)))
        walk_at "py"
        refine rc_isD xd T.ec_NoLayer (fun z hz => hz) k4 ?_
        walk_at "py"
        refine rc_isD xd T.ec_NoLayer (fun z hz => hz) k5 ?_
        walk_at "py"
        refine rc_isD xd T.ec_NoLayer (fun z hz => hz) k6 ?_
        walk_at "py"
        exact ⟨by decide, rfl⟩
      rintro _ rfl
      refine ws_cut (fun ρ' => ρ' = [.val (.d (.int 9)), .val (.d (.list [.int a, .int b])), .val (.d (.list [.bool false, .bool false, .bool false, .bool false, .bool false, .bool false, .bool false, .bool false, .bool false, .bool true, .bool false])), .val (.d (.list [])), .val (.r (.ref ea))]) ?_ ?_
      · refine ws_asg (we_fresh (wf_cat (we_var rfl ⟨_, rfl, wf_lst ?_⟩)))
        walk_at "py"
        refine rc_isD xd T.ec_NoLayer (fun z hz => hz) k7 ?_
        walk_at "py"
        refine rc_isD xd T.ec_NoLayer (fun z hz => hz) k8 ?_
        walk_at "py"
        refine rc_isD xd T.ec_NoLayer (fun z hz => hz) k9 ?_
        walk_at "py"
        refine rc_isD xd T.ec_NoLayer (fun z hz => hz) k10 ?_
        walk_at "py"
        exact ⟨by decide, rfl⟩
      rintro _ rfl
      refine ws_cut (fun ρ' => ρ' = [.val (.d (.int 9)), .val (.d (.list [.int a, .int b])), .val (.d (.list [.bool false, .bool false, .bool false, .bool false, .bool false, .bool false, .bool false, .bool false, .bool false, .bool true, .bool false, .bool false, .bool false, .bool false, .bool false])), .val (.d (.list [])), .val (.r (.ref ea))]) ?_ ?_
      · refine ws_asg (we_fresh (wf_cat (we_var rfl ⟨_, rfl, wf_lst ?_⟩)))
        walk_at "py"
        refine rc_isD xd T.ec_NoLayer (fun z hz => hz) k11 ?_
        walk_at "py"
        refine rc_isD xd T.ec_NoLayer (fun z hz => hz) k12 ?_
        walk_at "py"
        refine rc_isD xd T.ec_NoLayer (fun z hz => hz) k13 ?_
        walk_at "py"
        refine rc_isD xd T.ec_NoLayer (fun z hz => hz) k14 ?_
        walk_at "py"
        exact ⟨by decide, rfl⟩
      rintro _ rfl
      refine ws_cut (fun ρ' => ρ' = [.val (.d (.int 9)), .val (.d (.list [.int a, .int b])), .val (.d (.list [.bool false, .bool false, .bool false, .bool false, .bool false, .bool false, .bool false, .bool false, .bool false, .bool true, .bool false, .bool false, .bool false, .bool false, .bool false, .bool true])), .val (.d (.list [])), .val (.r (.ref ea))]) ?_ ?_
      · refine ws_asg (we_fresh (wf_cat (we_var rfl ⟨_, rfl, wf_lst ?_⟩)))
        walk_at "py"
        refine rc_isD xd T.ec_NoLayer (fun z hz => hz) kv ?_
        walk_at "py"
        exact ⟨by decide, rfl⟩
      rintro _ rfl
      refine ws_seq (ws_if (wt_split false ?_ (fun h => by cases h) (fun _ => ws_next ?_)))
      · walk_at "py"
        all_goals rfl
      refine ws_seq (ws_if (wt_split false ?_ (fun h => by cases h) (fun _ => ws_next ?_)))
      · walk_at "py"
        all_goals rfl
      refine ws_seq (ws_if (wt_split false ?_ (fun h => by cases h) (fun _ => ws_next ?_)))
      · walk_at "py"
        all_goals rfl
      refine ws_cut (fun ρ' => ρ' = [.val (.d (.int 9)), .val (.d (.list [.int a, .int b])), .val (.d (.list [.bool false, .bool false, .bool false, .bool false, .bool false, .bool false, .bool false, .bool false, .bool false, .bool true, .bool false, .bool false, .bool false, .bool false, .bool false, .bool true])), .val (.d (.list [.str "b"])), .val (.r (.ref ea))]) ?_ ?_
      · refine ws_if (wt_split true ?_ (fun _ => ?_) (fun h => by cases h))
        · walk_at "py"
          all_goals rfl
        refine ws_asg (we_fresh (wf_lst ?_))
        refine wa_cons (we_eitherR (we_xf (x := .str "b") rfl xd rfl ?_))
        exact wa_nil ⟨_, rfl, Nat.le_of_ble_eq_true rfl, rfl⟩
      rintro _ rfl
      refine ws_if (wt_split false ?_ (fun h => by cases h) (fun _ => ws_next rfl))
      walk_at "py"
      all_goals rfl
    rintro _ rfl
    walk_at "py"
    exact hk
  · cases he
    obtain ⟨k0, k1, k2, k3, k4, k5, k6, k7, k8, k9, k10, k11, k12, k13, k14, kv⟩ := T.kt_TooMany
    refine ws_cut (fun ρ' => ρ' = [.val (.d (.int 10)), .val (.d (.list [.int a, .int b])), .val (.d (.list [.bool false, .bool false, .bool false, .bool false, .bool false, .bool false, .bool false, .bool false, .bool false, .bool false, .bool true, .bool false, .bool false, .bool false, .bool false, .bool true])), .val (.d (.list [.int a])), .un]) ?_ ?_
    · refine ws_tAsF xokF_none fun W hW => ?_
      refine ws_drop (we_callSF hW ?_)
      walk_at "py"
      refine fun c' le => ⟨10, a, b, _, rfl, by decide, rfl, true, PySem.W.exm_ref T.eb_PlyError T.hd_PlyError T.et_PlyError T.sp_TooMany, fun _ ea d c1 le1 xd => ?_, fun q => nomatch q⟩
      refine ws_cut (fun ρ' => ρ' = [.val (.d (.int 10)), .val (.d (.list [.int a, .int b])), .val (.d (.list [.bool false, .bool false, .bool false, .bool false])), .val (.d (.list [])), .val (.r (.ref ea))]) ?_ ?_
      · walk_at "py"
        refine rc_isD xd T.ec_TooMany (fun z hz => hz) k0 ?_
        walk_at "py"
        refine rc_isD xd T.ec_TooMany (fun z hz => hz) k1 ?_
        walk_at "py"
        refine rc_isD xd T.ec_TooMany (fun z hz => hz) k2 ?_
        walk_at "py"
        refine rc_isD xd T.ec_TooMany (fun z hz => hz) k3 ?_
        walk_at "py"
        rfl
      rintro _ rfl
      refine ws_cut (fun ρ' => ρ' = [.val (.d (.int 10)), .val (.d (.list [.int a, .int b])), .val (.d (.list [.bool false, .bool false, .bool false, .bool false, .bool false, .bool false, .bool false])), .val (.d (.list [])), .val (.r (.ref ea))]) ?_ ?_
      · refine ws_asg (we_fresh (wf_cat (we_var rfl ⟨_, rfl, wf_lst ?_⟩)))
        walk_at "py"
        refine rc_isD xd T.ec_TooMany (fun z hz => hz) k4 ?_
        walk_at "py"
        refine rc_isD xd T.ec_TooMany (fun z hz => hz) k5 ?_
        walk_at "py"
        refine rc_isD xd T.ec_TooMany (fun z hz => hz) k6 ?_
        walk_at "py"
        exact ⟨by decide, rfl⟩
      rintro _ rfl
      refine ws_cut (fun ρ' => ρ' = [.val (.d (.int 10)), .val (.d (.list [.int a, .int b])), .val (.d (.list [.bool false, .bool false, .bool false, .bool false, .bool false, .bool false, .bool false, .bool false, .bool false, .bool false, .bool true])), .val (.d (.list [])), .val (.r (.ref ea))]) ?_ ?_
      · refine ws_asg (we_fresh (wf_cat (we_var rfl ⟨_, rfl, wf_lst ?_⟩)))
        walk_at "py"
        refine rc_isD xd T.ec_TooMany (fun z hz => hz) k7 ?_
        walk_at "py"
        refine rc_isD xd T.ec_TooMany (fun z hz => hz) k8 ?_
        walk_at "py"
        refine rc_isD xd T.ec_TooMany (fun z hz => hz) k9 ?_
        walk_at "py"
        refine rc_isD xd T.ec_TooMany (fun z hz => hz) k10 ?_
        walk_at "py"
        exact ⟨by decide, rfl⟩
      rintro _ rfl
      refine ws_cut (fun ρ' => ρ' = [.val (.d (.int 10)), .val (.d (.list [.int a, .int b])), .val (.d (.list [.bool false, .bool false, .bool false, .bool false, .bool false, .bool false, .bool false, .bool false, .bool false, .bool false, .bool true, .bool false, .bool false, .bool false, .bool false])), .val (.d (.list [])), .val (.r (.ref ea))]) ?_ ?_
      · refine ws_asg (we_fresh (wf_cat (we_var rfl ⟨_, rfl, wf_lst ?_⟩)))
        walk_at "py"
        refine rc_isD xd T.ec_TooMany (fun z hz => hz) k11 ?_
        walk_at "py"
        refine rc_isD xd T.ec_TooMany (fun z hz => hz) k12 ?_
        walk_at "py"
        refine rc_isD xd T.ec_TooMany (fun z hz => hz) k13 ?_
        walk_at "py"
        refine rc_isD xd T.ec_TooMany (fun z hz => hz) k14 ?_
        walk_at "py"
        exact ⟨by decide, rfl⟩
      rintro _ rfl
      refine ws_cut (fun ρ' => ρ' = [.val (.d (.int 10)), .val (.d (.list [.int a, .int b])), .val (.d (.list [.bool false, .bool false, .bool false, .bool false, .bool false, .bool false, .bool false, .bool false, .bool false, .bool false, .bool true, .bool false, .bool false, .bool false, .bool false, .bool true])), .val (.d (.list [])), .val (.r (.ref ea))]) ?_ ?_
      · refine ws_asg (we_fresh (wf_cat (we_var rfl ⟨_, rfl, wf_lst ?_⟩)))
        walk_at "py"
        refine rc_isD xd T.ec_TooMany (fun z hz => hz) kv ?_
        walk_at "py"
        exact ⟨by decide, rfl⟩
      rintro _ rfl
      refine ws_seq (ws_if (wt_split false ?_ (fun h => by cases h) (fun _ => ws_next ?_)))
      · walk_at "py"
        all_goals rfl
      refine ws_seq (ws_if (wt_split false ?_ (fun h => by cases h) (fun _ => ws_next ?_)))
      · walk_at "py"
        all_goals rfl
      refine ws_seq (ws_if (wt_split false ?_ (fun h => by cases h) (fun _ => ws_next ?_)))
      · walk_at "py"
        all_goals rfl
      refine ws_seq (ws_if (wt_split false ?_ (fun h => by cases h) (fun _ => ws_next ?_)))
      · walk_at "py"
        all_goals rfl
      refine ws_if (wt_split true ?_ (fun _ => ?_) (fun h => by cases h))
      · walk_at "py"
        all_goals rfl
      refine ws_asg (we_fresh (wf_lst ?_))
      refine wa_cons ((we_xf (x := .int a) rfl xd rfl ?_))
      exact wa_nil ⟨_, rfl, Nat.le_of_ble_eq_true rfl, rfl⟩
    rintro _ rfl
    walk_at "py"
    exact hk
  · cases he
    obtain ⟨k0, k1, k2, k3, k4, k5, k6, k7, k8, k9, k10, k11, k12, k13, k14, kv⟩ := T.kt_BadWish
    refine ws_cut (fun ρ' => ρ' = [.val (.d (.int 11)), .val (.d (.list [.int a, .int b])), .val (.d (.list [.bool false, .bool false, .bool false, .bool false, .bool false, .bool false, .bool false, .bool false, .bool false, .bool false, .bool false, .bool true, .bool false, .bool false, .bool false, .bool true])), .val (.d (.list [])), .un]) ?_ ?_
    · refine ws_tAsF xokF_none fun W hW => ?_
      refine ws_drop (we_callSF hW ?_)
      walk_at "py"
      refine fun c' le => ⟨11, a, b, _, rfl, by decide, rfl, true, PySem.W.exm_ref T.eb_PlyError T.hd_PlyError T.et_PlyError T.sp_BadWish, fun _ ea d c1 le1 xd => ?_, fun q => nomatch q⟩
      refine ws_cut (fun ρ' => ρ' = [.val (.d (.int 11)), .val (.d (.list [.int a, .int b])), .val (.d (.list [.bool false, .bool false, .bool false, .bool false])), .val (.d (.list [])), .val (.r (.ref ea))]) ?_ ?_
      · walk_at "py"
        refine rc_isD xd T.ec_BadWish (fun z hz => hz) k0 ?_
        walk_at "py"
        refine rc_isD xd T.ec_BadWish (fun z hz => hz) k1 ?_
        walk_at "py"
        refine rc_isD xd T.ec_BadWish (fun z hz => hz) k2 ?_
        walk_at "py"
        refine rc_isD xd T.ec_BadWish (fun z hz => hz) k3 ?_
        walk_at "py"
        rfl
      rintro _ rfl
      refine ws_cut (fun ρ' => ρ' = [.val (.d (.int 11)), .val (.d (.list [.int a, .int b])), .val (.d (.list [.bool false, .bool false, .bool false, .bool false, .bool false, .bool false, .bool false])), .val (.d (.list [])), .val (.r (.ref ea))]) ?_ ?_
      · refine ws_asg (we_fresh (wf_cat (we_var rfl ⟨_, rfl, wf_lst ?_⟩)))
        walk_at "py"
        refine rc_isD xd T.ec_BadWish (fun z hz => hz) k4 ?_
        walk_at "py"
        refine rc_isD xd T.ec_BadWish (fun z hz => hz) k5 ?_
        walk_at "py"
        refine rc_isD xd T.ec_BadWish (fun z hz => hz) k6 ?_
        walk_at "py"
        exact ⟨by decide, rfl⟩
      rintro _ rfl
      refine ws_cut (fun ρ' => ρ' = [.val (.d (.int 11)), .val (.d (.list [.int a, .int b])), .val (.d (.list [.bool false, .bool false, .bool false, .bool false, .bool false, .bool false, .bool false, .bool false, .bool false, .bool false, .bool false])), .val (.d (.list [])), .val (.r (.ref ea))]) ?_ ?_
      · refine ws_asg (we_fresh (wf_cat (we_var rfl ⟨_, rfl, wf_lst ?_⟩)))
        walk_at "py"
        refine rc_isD xd T.ec_BadWish (fun z hz => hz) k7 ?_
        walk_at "py"
        refine rc_isD xd T.ec_BadWish (fun z hz => hz) k8 ?_
        walk_at "py"
        refine rc_isD xd T.ec_BadWish (fun z hz => hz) k9 ?_
        walk_at "py"
        refine rc_isD xd T.ec_BadWish (fun z hz => hz) k10 ?_
        walk_at "py"
        exact ⟨by decide, rfl⟩
      rintro _ rfl
      refine ws_cut (fun ρ' => ρ' = [.val (.d (.int 11)), .val (.d (.list [.int a, .int b])), .val (.d (.list [.bool false, .bool false, .bool false, .bool false, .bool false, .bool false, .bool false, .bool false, .bool false, .bool false, .bool false, .bool true, .bool false, .bool false, .bool false])), .val (.d (.list [])), .val (.r (.ref ea))]) ?_ ?_
      · refine ws_asg (we_fresh (wf_cat (we_var rfl ⟨_, rfl, wf_lst ?_⟩)))
        walk_at "py"
        refine rc_isD xd T.ec_BadWish (fun z hz => hz) k11 ?_
        walk_at "py"
        refine rc_isD xd T.ec_BadWish (fun z hz => hz) k12 ?_
        walk_at "py"
        refine rc_isD xd T.ec_BadWish (fun z hz => hz) k13 ?_
        walk_at "py"
        refine rc_isD xd T.ec_BadWish (fun z hz => hz) k14 ?_
        walk_at "py"
        exact ⟨by decide, rfl⟩
      rintro _ rfl
      refine ws_cut (fun ρ' => ρ' = [.val (.d (.int 11)), .val (.d (.list [.int a, .int b])), .val (.d (.list [.bool false, .bool false, .bool false, .bool false, .bool false, .bool false, .bool false, .bool false, .bool false, .bool false, .bool false, .bool true, .bool false, .bool false, .bool false, .bool true])), .val (.d (.list [])), .val (.r (.ref ea))]) ?_ ?_
      · refine ws_asg (we_fresh (wf_cat (we_var rfl ⟨_, rfl, wf_lst ?_⟩)))
        walk_at "py"
        refine rc_isD xd T.ec_BadWish (fun z hz => hz) kv ?_
        walk_at "py"
        exact ⟨by decide, rfl⟩
      rintro _ rfl
      refine ws_seq (ws_if (wt_split false ?_ (fun h => by cases h) (fun _ => ws_next ?_)))
      · walk_at "py"
        all_goals rfl
      refine ws_seq (ws_if (wt_split false ?_ (fun h => by cases h) (fun _ => ws_next ?_)))
      · walk_at "py"
        all_goals rfl
      refine ws_seq (ws_if (wt_split false ?_ (fun h => by cases h) (fun _ => ws_next ?_)))
      · walk_at "py"
        all_goals rfl
      refine ws_seq (ws_if (wt_split false ?_ (fun h => by cases h) (fun _ => ws_next ?_)))
      · walk_at "py"
        all_goals rfl
      refine ws_if (wt_split false ?_ (fun h => by cases h) (fun _ => ws_next rfl))
      walk_at "py"
      all_goals rfl
    rintro _ rfl
    walk_at "py"
    exact hk
  · cases he
    obtain ⟨k0, k1, k2, k3, k4, k5, k6, k7, k8, k9, k10, k11, k12, k13, k14, kv⟩ := T.kt_NoSize
    refine ws_cut (fun ρ' => ρ' = [.val (.d (.int 12)), .val (.d (.list [.int a, .int b])), .val (.d (.list [.bool false, .bool false, .bool false, .bool false, .bool false, .bool false, .bool false, .bool false, .bool false, .bool false, .bool false, .bool false, .bool true, .bool false, .bool false, .bool true])), .val (.d (.list [])), .un]) ?_ ?_
    · refine ws_tAsF xokF_none fun W hW => ?_
      refine ws_drop (we_callSF hW ?_)
      walk_at "py"
      refine fun c' le => ⟨12, a, b, _, rfl, by decide, rfl, true, PySem.W.exm_ref T.eb_PlyError T.hd_PlyError T.et_PlyError T.sp_NoSize, fun _ ea d c1 le1 xd => ?_, fun q => nomatch q⟩
      refine ws_cut (fun ρ' => ρ' = [.val (.d (.int 12)), .val (.d (.list [.int a, .int b])), .val (.d (.list [.bool false, .bool false, .bool false, .bool false])), .val (.d (.list [])), .val (.r (.ref ea))]) ?_ ?_
      · walk_at "py"
        refine rc_isD xd T.ec_NoSize (fun z hz => hz) k0 ?_
        walk_at "py"
        refine rc_isD xd T.ec_NoSize (fun z hz => hz) k1 ?_
        walk_at "py"
        refine rc_isD xd T.ec_NoSize (fun z hz => hz) k2 ?_
        walk_at "py"
        refine rc_isD xd T.ec_NoSize (fun z hz => hz) k3 ?_
        walk_at "py"
        rfl
      rintro _ rfl
      refine ws_cut (fun ρ' => ρ' = [.val (.d (.int 12)), .val (.d (.list [.int a, .int b])), .val (.d (.list [.bool false, .bool false, .bool false, .bool false, .bool false, .bool false, .bool false])), .val (.d (.list [])), .val (.r (.ref ea))]) ?_ ?_
      · refine ws_asg (we_fresh (wf_cat (we_var rfl ⟨_, rfl, wf_lst ?_⟩)))
        walk_at "py"
        refine rc_isD xd T.ec_NoSize (fun z hz => hz) k4 ?_
        walk_at "py"
        refine rc_isD xd T.ec_NoSize (fun z hz => hz) k5 ?_
        walk_at "py"
        refine rc_isD xd T.ec_NoSize (fun z hz => hz) k6 ?_
        walk_at "py"
        exact ⟨by decide, rfl⟩
      rintro _ rfl
      refine ws_cut (fun ρ' => ρ' = [.val (.d (.int 12)), .val (.d (.list [.int a, .int b])), .val (.d (.list [.bool false, .bool false, .bool false, .bool false, .bool false, .bool false, .bool false, .bool false, .bool false, .bool false, .bool false])), .val (.d (.list [])), .val (.r (.ref ea))]) ?_ ?_
      · refine ws_asg (we_fresh (wf_cat (we_var rfl ⟨_, rfl, wf_lst ?_⟩)))
        walk_at "py"
        refine rc_isD xd T.ec_NoSize (fun z hz => hz) k7 ?_
        walk_at "py"
        refine rc_isD xd T.ec_NoSize (fun z hz => hz) k8 ?_
        walk_at "py"
        refine rc_isD xd T.ec_NoSize (fun z hz => hz) k9 ?_
        walk_at "py"
        refine rc_isD xd T.ec_NoSize (fun z hz => hz) k10 ?_
        walk_at "py"
        exact ⟨by decide, rfl⟩
      rintro _ rfl
      refine ws_cut (fun ρ' => ρ' = [.val (.d (.int 12)), .val (.d (.list [.int a, .int b])), .val (.d (.list [.bool false, .bool false, .bool false, .bool false, .bool false, .bool false, .bool false, .bool false, .bool false, .bool false, .bool false, .bool false, .bool true, .bool false, .bool false])), .val (.d (.list [])), .val (.r (.ref ea))]) ?_ ?_
      · refine ws_asg (we_fresh (wf_cat (we_var rfl ⟨_, rfl, wf_lst ?_⟩)))
        walk_at "py"
        refine rc_isD xd T.ec_NoSize (fun z hz => hz) k11 ?_
        walk_at "py"
        refine rc_isD xd T.ec_NoSize (fun z hz => hz) k12 ?_
        walk_at "py"
        refine rc_isD xd T.ec_NoSize (fun z hz => hz) k13 ?_
        walk_at "py"
        refine rc_isD xd T.ec_NoSize (fun z hz => hz) k14 ?_
        walk_at "py"
        exact ⟨by decide, rfl⟩
      rintro _ rfl
      refine ws_cut (fun ρ' => ρ' = [.val (.d (.int 12)), .val (.d (.list [.int a, .int b])), .val (.d (.list [.bool false, .bool false, .bool false, .bool false, .bool false, .bool false, .bool false, .bool false, .bool false, .bool false, .bool false, .bool false, .bool true, .bool false, .bool false, .bool true])), .val (.d (.list [])), .val (.r (.ref ea))]) ?_ ?_
      · refine ws_asg (we_fresh (wf_cat (we_var rfl ⟨_, rfl, wf_lst ?_⟩)))
        walk_at "py"
        refine rc_isD xd T.ec_NoSize (fun z hz => hz) kv ?_
        walk_at "py"
        exact ⟨by decide, rfl⟩
      rintro _ rfl
      refine ws_seq (ws_if (wt_split false ?_ (fun h => by cases h) (fun _ => ws_next ?_)))
      · walk_at "py"
        all_goals rfl
      refine ws_seq (ws_if (wt_split false ?_ (fun h => by cases h) (fun _ => ws_next ?_)))
      · walk_at "py"
        all_goals rfl
      refine ws_seq (ws_if (wt_split false ?_ (fun h => by cases h) (fun _ => ws_next ?_)))
      · walk_at "py"
        all_goals rfl
      refine ws_seq (ws_if (wt_split false ?_ (fun h => by cases h) (fun _ => ws_next ?_)))
      · walk_at "py"
        all_goals rfl
      refine ws_if (wt_split false ?_ (fun h => by cases h) (fun _ => ws_next rfl))
      walk_at "py"
      all_goals rfl
    rintro _ rfl
    walk_at "py"
    exact hk
  · cases he
    obtain ⟨k0, k1, k2, k3, k4, k5, k6, k7, k8, k9, k10, k11, k12, k13, k14, kv⟩ := T.kt_NoText
    refine ws_cut (fun ρ' => ρ' = [.val (.d (.int 13)), .val (.d (.list [.int a, .int b])), .val (.d (.list [.bool false, .bool false, .bool false, .bool false, .bool false, .bool false, .bool false, .bool false, .bool false, .bool false, .bool false, .bool false, .bool false, .bool true, .bool false, .bool true])), .val (.d (.list [])), .un]) ?_ ?_
    · refine ws_tAsF xokF_none fun W hW => ?_
      refine ws_drop (we_callSF hW ?_)
      walk_at "py"
      refine fun c' le => ⟨13, a, b, _, rfl, by decide, rfl, true, PySem.W.exm_ref T.eb_PlyError T.hd_PlyError T.et_PlyError T.sp_NoText, fun _ ea d c1 le1 xd => ?_, fun q => nomatch q⟩
      refine ws_cut (fun ρ' => ρ' = [.val (.d (.int 13)), .val (.d (.list [.int a, .int b])), .val (.d (.list [.bool false, .bool false, .bool false, .bool false])), .val (.d (.list [])), .val (.r (.ref ea))]) ?_ ?_
      · walk_at "py"
        refine rc_isD xd T.ec_NoText (fun z hz => hz) k0 ?_
        walk_at "py"
        refine rc_isD xd T.ec_NoText (fun z hz => hz) k1 ?_
        walk_at "py"
        refine rc_isD xd T.ec_NoText (fun z hz => hz) k2 ?_
        walk_at "py"
        refine rc_isD xd T.ec_NoText (fun z hz => hz) k3 ?_
        walk_at "py"
        rfl
      rintro _ rfl
      refine ws_cut (fun ρ' => ρ' = [.val (.d (.int 13)), .val (.d (.list [.int a, .int b])), .val (.d (.list [.bool false, .bool false, .bool false, .bool false, .bool false, .bool false, .bool false])), .val (.d (.list [])), .val (.r (.ref ea))]) ?_ ?_
      · refine ws_asg (we_fresh (wf_cat (we_var rfl ⟨_, rfl, wf_lst ?_⟩)))
        walk_at "py"
        refine rc_isD xd T.ec_NoText (fun z hz => hz) k4 ?_
        walk_at "py"
        refine rc_isD xd T.ec_NoText (fun z hz => hz) k5 ?_
        walk_at "py"
        refine rc_isD xd T.ec_NoText (fun z hz => hz) k6 ?_
        walk_at "py"
        exact ⟨by decide, rfl⟩
      rintro _ rfl
      refine ws_cut (fun ρ' => ρ' = [.val (.d (.int 13)), .val (.d (.list [.int a, .int b])), .val (.d (.list [.bool false, .bool false, .bool false, .bool false, .bool false, .bool false, .bool false, .bool false, .bool false, .bool false, .bool false])), .val (.d (.list [])), .val (.r (.ref ea))]) ?_ ?_
      · refine ws_asg (we_fresh (wf_cat (we_var rfl ⟨_, rfl, wf_lst ?_⟩)))
        walk_at "py"
        refine rc_isD xd T.ec_NoText (fun z hz => hz) k7 ?_
        walk_at "py"
        refine rc_isD xd T.ec_NoText (fun z hz => hz) k8 ?_
        walk_at "py"
        refine rc_isD xd T.ec_NoText (fun z hz => hz) k9 ?_
        walk_at "py"
        refine rc_isD xd T.ec_NoText (fun z hz => hz) k10 ?_
        walk_at "py"
        exact ⟨by decide, rfl⟩
      rintro _ rfl
      refine ws_cut (fun ρ' => ρ' = [.val (.d (.int 13)), .val (.d (.list [.int a, .int b])), .val (.d (.list [.bool false, .bool false, .bool false, .bool false, .bool false, .bool false, .bool false, .bool false, .bool false, .bool false, .bool false, .bool false, .bool false, .bool true, .bool false])), .val (.d (.list [])), .val (.r (.ref ea))]) ?_ ?_
      · refine ws_asg (we_fresh (wf_cat (we_var rfl ⟨_, rfl, wf_lst ?_⟩)))
        walk_at "py"
        refine rc_isD xd T.ec_NoText (fun z hz => hz) k11 ?_
        walk_at "py"
        refine rc_isD xd T.ec_NoText (fun z hz => hz) k12 ?_
        walk_at "py"
        refine rc_isD xd T.ec_NoText (fun z hz => hz) k13 ?_
        walk_at "py"
        refine rc_isD xd T.ec_NoText (fun z hz => hz) k14 ?_
        walk_at "py"
        exact ⟨by decide, rfl⟩
      rintro _ rfl
      refine ws_cut (fun ρ' => ρ' = [.val (.d (.int 13)), .val (.d (.list [.int a, .int b])), .val (.d (.list [.bool false, .bool false, .bool false, .bool false, .bool false, .bool false, .bool false, .bool false, .bool false, .bool false, .bool false, .bool false, .bool false, .bool true, .bool false, .bool true])), .val (.d (.list [])), .val (.r (.ref ea))]) ?_ ?_
      · refine ws_asg (we_fresh (wf_cat (we_var rfl ⟨_, rfl, wf_lst ?_⟩)))
        walk_at "py"
        refine rc_isD xd T.ec_NoText (fun z hz => hz) kv ?_
        walk_at "py"
        exact ⟨by decide, rfl⟩
      rintro _ rfl
      refine ws_seq (ws_if (wt_split false ?_ (fun h => by cases h) (fun _ => ws_next ?_)))
      · walk_at "py"
        all_goals rfl
      refine ws_seq (ws_if (wt_split false ?_ (fun h => by cases h) (fun _ => ws_next ?_)))
      · walk_at "py"
        all_goals rfl
      refine ws_seq (ws_if (wt_split false ?_ (fun h => by cases h) (fun _ => ws_next ?_)))
      · walk_at "py"
        all_goals rfl
      refine ws_seq (ws_if (wt_split false ?_ (fun h => by cases h) (fun _ => ws_next ?_)))
      · walk_at "py"
        all_goals rfl
      refine ws_if (wt_split false ?_ (fun h => by cases h) (fun _ => ws_next rfl))
      walk_at "py"
      all_goals rfl
    rintro _ rfl
    walk_at "py"
    exact hk
  · cases he
    obtain ⟨k0, k1, k2, k3, k4, k5, k6, k7, k8, k9, k10, k11, k12, k13, k14, kv⟩ := T.kt_NoRow
    refine ws_cut (fun ρ' => ρ' = [.val (.d (.int 14)), .val (.d (.list [.int a, .int b])), .val (.d (.list [.bool false, .bool false, .bool false, .bool false, .bool false, .bool false, .bool false, .bool false, .bool false, .bool false, .bool false, .bool false, .bool false, .bool false, .bool true, .bool true])), .val (.d (.list [])), .un]) ?_ ?_
    · refine ws_tAsF xokF_none fun W hW => ?_
      refine ws_drop (we_callSF hW ?_)
      walk_at "py"
      refine fun c' le => ⟨14, a, b, _, rfl, by decide, rfl, true, PySem.W.exm_ref T.eb_PlyError T.hd_PlyError T.et_PlyError T.sp_NoRow, fun _ ea d c1 le1 xd => ?_, fun q => nomatch q⟩
      refine ws_cut (fun ρ' => ρ' = [.val (.d (.int 14)), .val (.d (.list [.int a, .int b])), .val (.d (.list [.bool false, .bool false, .bool false, .bool false])), .val (.d (.list [])), .val (.r (.ref ea))]) ?_ ?_
      · walk_at "py"
        refine rc_isD xd T.ec_NoRow (fun z hz => hz) k0 ?_
        walk_at "py"
        refine rc_isD xd T.ec_NoRow (fun z hz => hz) k1 ?_
        walk_at "py"
        refine rc_isD xd T.ec_NoRow (fun z hz => hz) k2 ?_
        walk_at "py"
        refine rc_isD xd T.ec_NoRow (fun z hz => hz) k3 ?_
        walk_at "py"
        rfl
      rintro _ rfl
      refine ws_cut (fun ρ' => ρ' = [.val (.d (.int 14)), .val (.d (.list [.int a, .int b])), .val (.d (.list [.bool false, .bool false, .bool false, .bool false, .bool false, .bool false, .bool false])), .val (.d (.list [])), .val (.r (.ref ea))]) ?_ ?_
      · refine ws_asg (we_fresh (wf_cat (we_var rfl ⟨_, rfl, wf_lst ?_⟩)))
        walk_at "py"
        refine rc_isD xd T.ec_NoRow (fun z hz => hz) k4 ?_
        walk_at "py"
        refine rc_isD xd T.ec_NoRow (fun z hz => hz) k5 ?_
        walk_at "py"
        refine rc_isD xd T.ec_NoRow (fun z hz => hz) k6 ?_
        walk_at "py"
        exact ⟨by decide, rfl⟩
      rintro _ rfl
      refine ws_cut (fun ρ' => ρ' = [.val (.d (.int 14)), .val (.d (.list [.int a, .int b])), .val (.d (.list [.bool false, .bool false, .bool false, .bool false, .bool false, .bool false, .bool false, .bool false, .bool false, .bool false, .bool false])), .val (.d (.list [])), .val (.r (.ref ea))]) ?_ ?_
      · refine ws_asg (we_fresh (wf_cat (we_var rfl ⟨_, rfl, wf_lst ?_⟩)))
        walk_at "py"
        refine rc_isD xd T.ec_NoRow (fun z hz => hz) k7 ?_
        walk_at "py"
        refine rc_isD xd T.ec_NoRow (fun z hz => hz) k8 ?_
        walk_at "py"
        refine rc_isD xd T.ec_NoRow (fun z hz => hz) k9 ?_
        walk_at "py"
        refine rc_isD xd T.ec_NoRow (fun z hz => hz) k10 ?_
        walk_at "py"
        exact ⟨by decide, rfl⟩
      rintro _ rfl
      refine ws_cut (fun ρ' => ρ' = [.val (.d (.int 14)), .val (.d (.list [.int a, .int b])), .val (.d (.list [.bool false, .bool false, .bool false, .bool false, .bool false, .bool false, .bool false, .bool false, .bool false, .bool false, .bool false, .bool false, .bool false, .bool false, .bool true])), .val (.d (.list [])), .val (.r (.ref ea))]) ?_ ?_
      · refine ws_asg (we_fresh (wf_cat (we_var rfl ⟨_, rfl, wf_lst ?_⟩)))
        walk_at "py"
        refine rc_isD xd T.ec_NoRow (fun z hz => hz) k11 ?_
        walk_at "py"
        refine rc_isD xd T.ec_NoRow (fun z hz => hz) k12 ?_
        walk_at "py"
        refine rc_isD xd T.ec_NoRow (fun z hz => hz) k13 ?_
        walk_at "py"
        refine rc_isD xd T.ec_NoRow (fun z hz => hz) k14 ?_
        walk_at "py"
        exact ⟨by decide, rfl⟩
      rintro _ rfl
      refine ws_cut (fun ρ' => ρ' = [.val (.d (.int 14)), .val (.d (.list [.int a, .int b])), .val (.d (.list [.bool false, .bool false, .bool false, .bool false, .bool false, .bool false, .bool false, .bool false, .bool false, .bool false, .bool false, .bool false, .bool false, .bool false, .bool true, .bool true])), .val (.d (.list [])), .val (.r (.ref ea))]) ?_ ?_
      · refine ws_asg (we_fresh (wf_cat (we_var rfl ⟨_, rfl, wf_lst ?_⟩)))
        walk_at "py"
        refine rc_isD xd T.ec_NoRow (fun z hz => hz) kv ?_
        walk_at "py"
        exact ⟨by decide, rfl⟩
      rintro _ rfl
      refine ws_seq (ws_if (wt_split false ?_ (fun h => by cases h) (fun _ => ws_next ?_)))
      · walk_at "py"
        all_goals rfl
      refine ws_seq (ws_if (wt_split false ?_ (fun h => by cases h) (fun _ => ws_next ?_)))
      · walk_at "py"
        all_goals rfl
      refine ws_seq (ws_if (wt_split false ?_ (fun h => by cases h) (fun _ => ws_next ?_)))
      · walk_at "py"
        all_goals rfl
      refine ws_seq (ws_if (wt_split false ?_ (fun h => by cases h) (fun _ => ws_next ?_)))
      · walk_at "py"
        all_goals rfl
      refine ws_if (wt_split false ?_ (fun h => by cases h) (fun _ => ws_next rfl))
      walk_at "py"
      all_goals rfl
    rintro _ rfl
    walk_at "py"
    exact hk
  · cases he
    obtain ⟨k0, k1, k2, k3, k4, k5, k6, k7, k8, k9, k10, k11, k12, k13, k14, kv⟩ := T.kt_NoNumber
    refine ws_cut (fun ρ' => ρ' = [.val (.d (.int 15)), .val (.d (.list [.int a, .int b])), .val (.d (.list [.bool true, .bool false, .bool false, .bool false, .bool false, .bool false, .bool false, .bool false, .bool false, .bool false, .bool false, .bool false, .bool false, .bool false, .bool false, .bool true])), .val (.d (.list [])), .un]) ?_ ?_
    · refine ws_tAsF xokF_none fun W hW => ?_
      refine ws_drop (we_callSF hW ?_)
      walk_at "py"
      refine fun c' le => ⟨15, a, b, _, rfl, by decide, rfl, true, PySem.W.exm_ref T.eb_PlyError T.hd_PlyError T.et_PlyError T.sp_NoNumber, fun _ ea d c1 le1 xd => ?_, fun q => nomatch q⟩
      refine ws_cut (fun ρ' => ρ' = [.val (.d (.int 15)), .val (.d (.list [.int a, .int b])), .val (.d (.list [.bool true, .bool false, .bool false, .bool false])), .val (.d (.list [])), .val (.r (.ref ea))]) ?_ ?_
      · walk_at "py"
        refine rc_isD xd T.ec_NoNumber (fun z hz => hz) k0 ?_
        walk_at "py"
        refine rc_isD xd T.ec_NoNumber (fun z hz => hz) k1 ?_
        walk_at "py"
        refine rc_isD xd T.ec_NoNumber (fun z hz => hz) k2 ?_
        walk_at "py"
        refine rc_isD xd T.ec_NoNumber (fun z hz => hz) k3 ?_
        walk_at "py"
        rfl
      rintro _ rfl
      refine ws_cut (fun ρ' => ρ' = [.val (.d (.int 15)), .val (.d (.list [.int a, .int b])), .val (.d (.list [.bool true, .bool false, .bool false, .bool false, .bool false, .bool false, .bool false])), .val (.d (.list [])), .val (.r (.ref ea))]) ?_ ?_
      · refine ws_asg (we_fresh (wf_cat (we_var rfl ⟨_, rfl, wf_lst ?_⟩)))
        walk_at "py"
        refine rc_isD xd T.ec_NoNumber (fun z hz => hz) k4 ?_
        walk_at "py"
        refine rc_isD xd T.ec_NoNumber (fun z hz => hz) k5 ?_
        walk_at "py"
        refine rc_isD xd T.ec_NoNumber (fun z hz => hz) k6 ?_
        walk_at "py"
        exact ⟨by decide, rfl⟩
      rintro _ rfl
      refine ws_cut (fun ρ' => ρ' = [.val (.d (.int 15)), .val (.d (.list [.int a, .int b])), .val (.d (.list [.bool true, .bool false, .bool false, .bool false, .bool false, .bool false, .bool false, .bool false, .bool false, .bool false, .bool false])), .val (.d (.list [])), .val (.r (.ref ea))]) ?_ ?_
      · refine ws_asg (we_fresh (wf_cat (we_var rfl ⟨_, rfl, wf_lst ?_⟩)))
        walk_at "py"
        refine rc_isD xd T.ec_NoNumber (fun z hz => hz) k7 ?_
        walk_at "py"
        refine rc_isD xd T.ec_NoNumber (fun z hz => hz) k8 ?_
        walk_at "py"
        refine rc_isD xd T.ec_NoNumber (fun z hz => hz) k9 ?_
        walk_at "py"
        refine rc_isD xd T.ec_NoNumber (fun z hz => hz) k10 ?_
        walk_at "py"
        exact ⟨by decide, rfl⟩
      rintro _ rfl
      refine ws_cut (fun ρ' => ρ' = [.val (.d (.int 15)), .val (.d (.list [.int a, .int b])), .val (.d (.list [.bool true, .bool false, .bool false, .bool false, .bool false, .bool false, .bool false, .bool false, .bool false, .bool false, .bool false, .bool false, .bool false, .bool false, .bool false])), .val (.d (.list [])), .val (.r (.ref ea))]) ?_ ?_
      · refine ws_asg (we_fresh (wf_cat (we_var rfl ⟨_, rfl, wf_lst ?_⟩)))
        walk_at "py"
        refine rc_isD xd T.ec_NoNumber (fun z hz => hz) k11 ?_
        walk_at "py"
        refine rc_isD xd T.ec_NoNumber (fun z hz => hz) k12 ?_
        walk_at "py"
        refine rc_isD xd T.ec_NoNumber (fun z hz => hz) k13 ?_
        walk_at "py"
        refine rc_isD xd T.ec_NoNumber (fun z hz => hz) k14 ?_
        walk_at "py"
        exact ⟨by decide, rfl⟩
      rintro _ rfl
      refine ws_cut (fun ρ' => ρ' = [.val (.d (.int 15)), .val (.d (.list [.int a, .int b])), .val (.d (.list [.bool true, .bool false, .bool false, .bool false, .bool false, .bool false, .bool false, .bool false, .bool false, .bool false, .bool false, .bool false, .bool false, .bool false, .bool false, .bool true])), .val (.d (.list [])), .val (.r (.ref ea))]) ?_ ?_
      · refine ws_asg (we_fresh (wf_cat (we_var rfl ⟨_, rfl, wf_lst ?_⟩)))
        walk_at "py"
        refine rc_isD xd T.ec_NoNumber (fun z hz => hz) kv ?_
        walk_at "py"
        exact ⟨by decide, rfl⟩
      rintro _ rfl
      refine ws_seq (ws_if (wt_split false ?_ (fun h => by cases h) (fun _ => ws_next ?_)))
      · walk_at "py"
        all_goals rfl
      refine ws_seq (ws_if (wt_split false ?_ (fun h => by cases h) (fun _ => ws_next ?_)))
      · walk_at "py"
        all_goals rfl
      refine ws_seq (ws_if (wt_split false ?_ (fun h => by cases h) (fun _ => ws_next ?_)))
      · walk_at "py"
        all_goals rfl
      refine ws_seq (ws_if (wt_split false ?_ (fun h => by cases h) (fun _ => ws_next ?_)))
      · walk_at "py"
        all_goals rfl
      refine ws_if (wt_split false ?_ (fun h => by cases h) (fun _ => ws_next rfl))
      walk_at "py"
      all_goals rfl
    rintro _ rfl
    walk_at "py"
    exact hk
  · cases he
    obtain ⟨k0, k1, k2, k3, k4, k5, k6, k7, k8, k9, k10, k11, k12, k13, k14, kv⟩ := T.kt_NoPoint
    refine ws_cut (fun ρ' => ρ' = [.val (.d (.int 16)), .val (.d (.list [.int a, .int b])), .val (.d (.list [.bool false, .bool true, .bool false, .bool false, .bool false, .bool false, .bool false, .bool false, .bool false, .bool false, .bool false, .bool false, .bool false, .bool false, .bool false, .bool true])), .val (.d (.list [])), .un]) ?_ ?_
    · refine ws_tAsF xokF_none fun W hW => ?_
      refine ws_drop (we_callSF hW ?_)
      walk_at "py"
      refine fun c' le => ⟨16, a, b, _, rfl, by decide, rfl, true, PySem.W.exm_ref T.eb_PlyError T.hd_PlyError T.et_PlyError T.sp_NoPoint, fun _ ea d c1 le1 xd => ?_, fun q => nomatch q⟩
      refine ws_cut (fun ρ' => ρ' = [.val (.d (.int 16)), .val (.d (.list [.int a, .int b])), .val (.d (.list [.bool false, .bool true, .bool false, .bool false])), .val (.d (.list [])), .val (.r (.ref ea))]) ?_ ?_
      · walk_at "py"
        refine rc_isD xd T.ec_NoPoint (fun z hz => hz) k0 ?_
        walk_at "py"
        refine rc_isD xd T.ec_NoPoint (fun z hz => hz) k1 ?_
        walk_at "py"
        refine rc_isD xd T.ec_NoPoint (fun z hz => hz) k2 ?_
        walk_at "py"
        refine rc_isD xd T.ec_NoPoint (fun z hz => hz) k3 ?_
        walk_at "py"
        rfl
      rintro _ rfl
      refine ws_cut (fun ρ' => ρ' = [.val (.d (.int 16)), .val (.d (.list [.int a, .int b])), .val (.d (.list [.bool false, .bool true, .bool false, .bool false, .bool false, .bool false, .bool false])), .val (.d (.list [])), .val (.r (.ref ea))]) ?_ ?_
      · refine ws_asg (we_fresh (wf_cat (we_var rfl ⟨_, rfl, wf_lst ?_⟩)))
        walk_at "py"
        refine rc_isD xd T.ec_NoPoint (fun z hz => hz) k4 ?_
        walk_at "py"
        refine rc_isD xd T.ec_NoPoint (fun z hz => hz) k5 ?_
        walk_at "py"
        refine rc_isD xd T.ec_NoPoint (fun z hz => hz) k6 ?_
        walk_at "py"
        exact ⟨by decide, rfl⟩
      rintro _ rfl
      refine ws_cut (fun ρ' => ρ' = [.val (.d (.int 16)), .val (.d (.list [.int a, .int b])), .val (.d (.list [.bool false, .bool true, .bool false, .bool false, .bool false, .bool false, .bool false, .bool false, .bool false, .bool false, .bool false])), .val (.d (.list [])), .val (.r (.ref ea))]) ?_ ?_
      · refine ws_asg (we_fresh (wf_cat (we_var rfl ⟨_, rfl, wf_lst ?_⟩)))
        walk_at "py"
        refine rc_isD xd T.ec_NoPoint (fun z hz => hz) k7 ?_
        walk_at "py"
        refine rc_isD xd T.ec_NoPoint (fun z hz => hz) k8 ?_
        walk_at "py"
        refine rc_isD xd T.ec_NoPoint (fun z hz => hz) k9 ?_
        walk_at "py"
        refine rc_isD xd T.ec_NoPoint (fun z hz => hz) k10 ?_
        walk_at "py"
        exact ⟨by decide, rfl⟩
      rintro _ rfl
      refine ws_cut (fun ρ' => ρ' = [.val (.d (.int 16)), .val (.d (.list [.int a, .int b])), .val (.d (.list [.bool false, .bool true, .bool false, .bool false, .bool false, .bool false, .bool false, .bool false, .bool false, .bool false, .bool false, .bool false, .bool false, .bool false, .bool false])), .val (.d (.list [])), .val (.r (.ref ea))]) ?_ ?_
      · refine ws_asg (we_fresh (wf_cat (we_var rfl ⟨_, rfl, wf_lst ?_⟩)))
        walk_at "py"
        refine rc_isD xd T.ec_NoPoint (fun z hz => hz) k11 ?_
        walk_at "py"
        refine rc_isD xd T.ec_NoPoint (fun z hz => hz) k12 ?_
        walk_at "py"
        refine rc_isD xd T.ec_NoPoint (fun z hz => hz) k13 ?_
        walk_at "py"
        refine rc_isD xd T.ec_NoPoint (fun z hz => hz) k14 ?_
        walk_at "py"
        exact ⟨by decide, rfl⟩
      rintro _ rfl
      refine ws_cut (fun ρ' => ρ' = [.val (.d (.int 16)), .val (.d (.list [.int a, .int b])), .val (.d (.list [.bool false, .bool true, .bool false, .bool false, .bool false, .bool false, .bool false, .bool false, .bool false, .bool false, .bool false, .bool false, .bool false, .bool false, .bool false, .bool true])), .val (.d (.list [])), .val (.r (.ref ea))]) ?_ ?_
      · refine ws_asg (we_fresh (wf_cat (we_var rfl ⟨_, rfl, wf_lst ?_⟩)))
        walk_at "py"
        refine rc_isD xd T.ec_NoPoint (fun z hz => hz) kv ?_
        walk_at "py"
        exact ⟨by decide, rfl⟩
      rintro _ rfl
      refine ws_seq (ws_if (wt_split false ?_ (fun h => by cases h) (fun _ => ws_next ?_)))
      · walk_at "py"
        all_goals rfl
      refine ws_seq (ws_if (wt_split false ?_ (fun h => by cases h) (fun _ => ws_next ?_)))
      · walk_at "py"
        all_goals rfl
      refine ws_seq (ws_if (wt_split false ?_ (fun h => by cases h) (fun _ => ws_next ?_)))
      · walk_at "py"
        all_goals rfl
      refine ws_seq (ws_if (wt_split false ?_ (fun h => by cases h) (fun _ => ws_next ?_)))
      · walk_at "py"
        all_goals rfl
      refine ws_if (wt_split false ?_ (fun h => by cases h) (fun _ => ws_next rfl))
      walk_at "py"
      all_goals rfl
    rintro _ rfl
    walk_at "py"
    exact hk

theorem call__law_sorts {K : PySem.W.Frag} {c : Py.Ctx K} {k : Dv → Prop} {x : Value → Prop} {a b w : Int} {d : PyData} (h0 : 0 ≤ w) (hd : (told a b)[w.toNat]? = some d) (h : k (.d d)) : ∀ c', Le c c' → p__law_sorts K c' [.d (.int w), .d (.list [.int a, .int b])] k x := fun c' le => ⟨w, a, b, d, rfl, h0, hd, h⟩
local macro_rules | `(tactic| walk_at "py1") => `(tactic| with_reducible refine call__law_sorts ?_ ?_ ?_)
def p__law_told (K : PySem.W.Frag) : PT0 K := fun c xs k _ => ∃ a b : Bool, xs = [.d (.bool a), .d (.bool b)] ∧ k (.d (.bool (decide (a = b))))
theorem len__law_told {K : PySem.W.Frag} : ∀ (c : Py.Ctx K) xs k x, p__law_told K c xs k x → xs.length = 2 := by
  rintro c xs k x ⟨a, b, rfl, _⟩
  rfl
abbrev s__law_told : Stmt := top 36
theorem sc__law_told : FnScope ["_law_told_here", "_law_due"] ["_law_told_here", "_law_due"] (defScope s__law_told) := ⟨rfl, rfl, rfl, by decide +kernel, rfl, by decide +kernel, by decide +kernel⟩
theorem ok__law_told (T : Txt K mg AA) (R : Raw K mg "_law_told" s__law_told) : Def P w K mg base "_law_told" ["_law_told_here", "_law_due"] CX0 1 (spD K (p__law_told K)) := R.def fun f fd F => by
  refine ⟨F.binds (ps := ["_law_told_here", "_law_due"]) fun _ _ _ _ _ _ us hl => match us, hl with | [_, _], _ => rfl, F.ok sc__law_told (spD_len len__law_told) (fun cdv A outer s H vs Q E hr h => ?_)⟩
  refine ⟨_, (pss_one (ps_ret (pe_and (pe_callB (call_isis K) (by rfl) T.b_isinstance (by decide +kernel) (pa_cons (pv 0) (pa_cons (pe_bltn (v := .ty "bool") (by rfl) T.b_bool (by decide +kernel) rfl) pa_nil))) (pe_one (pe_cmpR (op_eqs K hr.units) (pv 0) (pv 1) (nomark _)))))), ?_⟩
  refine run_spD h (fun c xs k x p => ?_)
  obtain ⟨a, b, rfl, hk⟩ := p
  refine ⟨Nat.le_of_ble_eq_true rfl, fun hx => ?_⟩
  show Ws c _ [.val (.d (.bool a)), .val (.d (.bool b))] _
  walk_at "py"
  all_goals first | exact hk | (rename_i hb; cases hb)

theorem call__law_told {K : PySem.W.Frag} {c : Py.Ctx K} {k : Dv → Prop} {x : Value → Prop} {a b : Bool} (h : k (.d (.bool (decide (a = b))))) : ∀ c', Le c c' → p__law_told K c' [.d (.bool a), .d (.bool b)] k x := fun c' le => ⟨a, b, rfl, h⟩
local macro_rules | `(tactic| walk_at "py1") => `(tactic| with_reducible refine call__law_told ?_)
def p__law_apart (K : PySem.W.Frag) : PT0 K := fun c xs k _ => ∃ (w a b : Int), xs = [.d (.int w), .d (.list [.int a, .int b])] ∧ 0 ≤ w ∧ w < 17 ∧ k (.d (.bool true))
theorem len__law_apart {K : PySem.W.Frag} : ∀ (c : Py.Ctx K) xs k x, p__law_apart K c xs k x → xs.length = 2 := by
  rintro c xs k x ⟨w, a, b, rfl, _⟩
  rfl
abbrev s__law_apart : Stmt := top 39
theorem sc__law_apart : FnScope ["_law_which", "_law_some", "_law_wants", "_law_k", "_law_fields"] ["_law_which", "_law_some"] (defScope s__law_apart) := ⟨rfl, rfl, rfl, by decide +kernel, rfl, by decide +kernel, by decide +kernel⟩
theorem ok__law_apart (T : Txt K mg AA) (d__law_sorts : Def P w K mg base "_law_sorts" ["_law_which", "_law_some"] CX0 4 (spD K (p__law_sorts K))) (R : Raw K mg "_law_apart" s__law_apart) : Def P w K mg base "_law_apart" ["_law_which", "_law_some"] CX0 5 (spD K (p__law_apart K)) := R.def fun f fd F => by
  refine ⟨F.binds (ps := ["_law_which", "_law_some"]) fun _ _ _ _ _ _ us hl => match us, hl with | [_, _], _ => rfl, F.ok sc__law_apart (spD_len len__law_apart) (fun cdv A outer s H vs Q E hr h => ?_)⟩
  refine ⟨_, (pss_cons (ps_set (i := 2) sc__law_apart.nd rfl (Or.inl rfl) (pe_op (op_adds K) (pe_lc (own := [("_law_k", 3)]) (g := gName 3) (tt := tYes) rfl sc__law_apart.nd (pi_range1 (by rfl) T.b_range (pa_cons pe_int pa_nil)) (blkOk_by (own := [("_law_k", 3)]) (N := ["_law_which", "_law_some", "_law_wants", "_law_k", "_law_fields"]) (sc := defScope s__law_apart) (by decide +kernel)) (fun _ _ _ _ _ => (pg_name (i := 3) sc__law_apart.nd rfl (Or.inl rfl))) (fun _ _ _ _ _ => pts_nil) (fun _ _ _ _ _ => (pe_cmpR (op_eqs K hr.units) (pv 3) (pe_op op_modN (pv 0) pe_int) (nomark _)))) (pe_lst (pa_cons pe_bl pa_nil))))
      (pss_cons (ps_set (i := 4) sc__law_apart.nd rfl (Or.inl rfl) (pe_lst pa_nil))
      (pss_cons (ps_if (pt_cmpR (op_eqs K hr.units) (pv 0) pe_int (nomark _)) (pss_one (ps_set (i := 4) sc__law_apart.nd rfl (Or.inl rfl) (pe_lst (pa_cons (pe_ix (ix_s K) (pv 1) pe_int (fun _ _ => rfl)) (pa_cons (pe_ix (ix_s K) (pv 1) pe_int (fun _ _ => rfl)) pa_nil))))) pss_nil)
      (pss_cons (ps_if (PW.pt (pw_or (pt_cmpR (op_eqs K hr.units) (pv 0) pe_int (nomark _)) (pw_or1 (pt_cmpR (op_eqs K hr.units) (pv 0) pe_int (nomark _))))) (pss_one (ps_set (i := 4) sc__law_apart.nd rfl (Or.inl rfl) (pe_lst (pa_cons (pe_ix (ix_s K) (pv 1) pe_int (fun _ _ => rfl)) pa_nil)))) pss_nil)
      (pss_cons (ps_if (pt_cmpR (op_eqs K hr.units) (pv 0) pe_int (nomark _)) (pss_one (ps_set (i := 4) sc__law_apart.nd rfl (Or.inl rfl) (pe_lst (pa_cons (pe_tup (pa_cons (pe_ix (ix_s K) (pv 1) pe_int (fun _ _ => rfl)) (pa_cons (pe_ix (ix_s K) (pv 1) pe_int (fun _ _ => rfl)) (pa_cons pe_int pa_nil)))) pa_nil)))) pss_nil)
      (pss_cons (ps_if (PW.pt (pw_or (pt_cmpR (op_eqs K hr.units) (pv 0) pe_int (nomark _)) (pw_or1 (pt_cmpR (op_eqs K hr.units) (pv 0) pe_int (nomark _))))) (pss_one (ps_set (i := 4) sc__law_apart.nd rfl (Or.inl rfl) (pe_lst (pa_cons (pe_ix (ix_s K) (pe_lst (pa_cons pe_str (pa_cons pe_str pa_nil))) (pe_op op_sub (pv 0) pe_int) (fun _ _ => rfl)) pa_nil)))) pss_nil)
      (pss_one (ps_ret (pe_cmpR (op_eqs K hr.units) (pe_D0 d__law_sorts (by decide) hr pass0 (pa_cons (pv 0) (pa_cons (pv 1) pa_nil))) (pe_tup (pa_cons (pv 2) (pa_cons (pv 4) pa_nil))) (nomark _)))))))))), ?_⟩
  refine run_spD h (fun c xs k x p => ?_)
  obtain ⟨w, a, b, rfl, w0, w1, hk⟩ := p
  refine ⟨Nat.le_of_ble_eq_true rfl, fun hx => ?_⟩
  show Ws c _ [.val (.d (.int w)), .val (.d (.list [.int a, .int b])), .un, .un, .un] _
  have hw : w = 0 ∨ w = 1 ∨ w = 2 ∨ w = 3 ∨ w = 4 ∨ w = 5 ∨ w = 6 ∨ w = 7 ∨ w = 8 ∨ w = 9 ∨ w = 10 ∨ w = 11 ∨ w = 12 ∨ w = 13 ∨ w = 14 ∨ w = 15 ∨ w = 16 := by omega
  rcases hw with rfl | rfl | rfl | rfl | rfl | rfl | rfl | rfl | rfl | rfl | rfl | rfl | rfl | rfl | rfl | rfl | rfl
  · refine ws_cut (fun ρ' => ρ' = [.val (.d (.int 0)), .val (.d (.list [.int a, .int b])), .val (.d (.list [.bool true, .bool false, .bool false, .bool false, .bool false, .bool false, .bool false, .bool false, .bool false, .bool false, .bool false, .bool false, .bool false, .bool false, .bool false, .bool true])), .un, .un]) ?_ ?_
    · refine ws_asg (we_fresh (wf_cat (we_fresh (wf_lcR [3] (by decide) rfl ?_))))
      walk_at "py"
      refine ⟨15, rfl, by decide, by decide, fun i acc => acc = ([.bool true, .bool false, .bool false, .bool false, .bool false, .bool false, .bool false, .bool false, .bool false, .bool false, .bool false, .bool false, .bool false, .bool false, .bool false].take i), rfl, fun c' le i acc hi _ hp => ?_, fun acc _ hp => ?_⟩
      · have hi : i < 15 := hi
        have : i = 0 ∨ i = 1 ∨ i = 2 ∨ i = 3 ∨ i = 4 ∨ i = 5 ∨ i = 6 ∨ i = 7 ∨ i = 8 ∨ i = 9 ∨ i = 10 ∨ i = 11 ∨ i = 12 ∨ i = 13 ∨ i = 14 := by omega
        rcases this with rfl | rfl | rfl | rfl | rfl | rfl | rfl | rfl | rfl | rfl | rfl | rfl | rfl | rfl | rfl <;> (subst hp; refine wg_name rfl (wt_yes ⟨fun _ => ?_, fun q => Bool.noConfusion q⟩); walk_at "py"; first | rfl | exact ⟨_, rfl, rfl⟩)
      · have hp : acc = [.bool true, .bool false, .bool false, .bool false, .bool false, .bool false, .bool false, .bool false, .bool false, .bool false, .bool false, .bool false, .bool false, .bool false, .bool false] := hp
        subst hp
        refine ⟨_, rfl, wf_lst ?_⟩
        walk_at "py"
        exact ⟨by decide, rfl⟩
    rintro _ rfl
    walk_at "py"
    all_goals try rfl
    refine call__law_sorts (w := 0) (by decide) rfl ?_
    walk_at "py"
    refine rv_eqD (by first | rfl | decide +kernel) (by first | rfl | decide +kernel) ?_
    have e : PyData.eqv (.tuple [.list [.bool true, .bool false, .bool false, .bool false, .bool false, .bool false, .bool false, .bool false, .bool false, .bool false, .bool false, .bool false, .bool false, .bool false, .bool false, .bool true], .list []]) (.tuple [.list [.bool true, .bool false, .bool false, .bool false, .bool false, .bool false, .bool false, .bool false, .bool false, .bool false, .bool false, .bool false, .bool false, .bool false, .bool false, .bool true], .list []]) = true := by simp [PyData.eqv, PyData.eqvAll]
    exact (congrArg (fun z => k (.d (.bool z))) e).mpr hk
  · refine ws_cut (fun ρ' => ρ' = [.val (.d (.int 1)), .val (.d (.list [.int a, .int b])), .val (.d (.list [.bool false, .bool true, .bool false, .bool false, .bool false, .bool false, .bool false, .bool false, .bool false, .bool false, .bool false, .bool false, .bool false, .bool false, .bool false, .bool true])), .un, .un]) ?_ ?_
    · refine ws_asg (we_fresh (wf_cat (we_fresh (wf_lcR [3] (by decide) rfl ?_))))
      walk_at "py"
      refine ⟨15, rfl, by decide, by decide, fun i acc => acc = ([.bool false, .bool true, .bool false, .bool false, .bool false, .bool false, .bool false, .bool false, .bool false, .bool false, .bool false, .bool false, .bool false, .bool false, .bool false].take i), rfl, fun c' le i acc hi _ hp => ?_, fun acc _ hp => ?_⟩
      · have hi : i < 15 := hi
        have : i = 0 ∨ i = 1 ∨ i = 2 ∨ i = 3 ∨ i = 4 ∨ i = 5 ∨ i = 6 ∨ i = 7 ∨ i = 8 ∨ i = 9 ∨ i = 10 ∨ i = 11 ∨ i = 12 ∨ i = 13 ∨ i = 14 := by omega
        rcases this with rfl | rfl | rfl | rfl | rfl | rfl | rfl | rfl | rfl | rfl | rfl | rfl | rfl | rfl | rfl <;> (subst hp; refine wg_name rfl (wt_yes ⟨fun _ => ?_, fun q => Bool.noConfusion q⟩); walk_at "py"; first | rfl | exact ⟨_, rfl, rfl⟩)
      · have hp : acc = [.bool false, .bool true, .bool false, .bool false, .bool false, .bool false, .bool false, .bool false, .bool false, .bool false, .bool false, .bool false, .bool false, .bool false, .bool false] := hp
        subst hp
        refine ⟨_, rfl, wf_lst ?_⟩
        walk_at "py"
        exact ⟨by decide, rfl⟩
    rintro _ rfl
    walk_at "py"
    all_goals try rfl
    refine call__law_sorts (w := 1) (by decide) rfl ?_
    walk_at "py"
    refine rv_eqD (by first | rfl | decide +kernel) (by first | rfl | decide +kernel) ?_
    have e : PyData.eqv (.tuple [.list [.bool false, .bool true, .bool false, .bool false, .bool false, .bool false, .bool false, .bool false, .bool false, .bool false, .bool false, .bool false, .bool false, .bool false, .bool false, .bool true], .list []]) (.tuple [.list [.bool false, .bool true, .bool false, .bool false, .bool false, .bool false, .bool false, .bool false, .bool false, .bool false, .bool false, .bool false, .bool false, .bool false, .bool false, .bool true], .list []]) = true := by simp [PyData.eqv, PyData.eqvAll]
    exact (congrArg (fun z => k (.d (.bool z))) e).mpr hk
  · refine ws_cut (fun ρ' => ρ' = [.val (.d (.int 2)), .val (.d (.list [.int a, .int b])), .val (.d (.list [.bool false, .bool false, .bool true, .bool false, .bool false, .bool false, .bool false, .bool false, .bool false, .bool false, .bool false, .bool false, .bool false, .bool false, .bool false, .bool true])), .un, .un]) ?_ ?_
    · refine ws_asg (we_fresh (wf_cat (we_fresh (wf_lcR [3] (by decide) rfl ?_))))
      walk_at "py"
      refine ⟨15, rfl, by decide, by decide, fun i acc => acc = ([.bool false, .bool false, .bool true, .bool false, .bool false, .bool false, .bool false, .bool false, .bool false, .bool false, .bool false, .bool false, .bool false, .bool false, .bool false].take i), rfl, fun c' le i acc hi _ hp => ?_, fun acc _ hp => ?_⟩
      · have hi : i < 15 := hi
        have : i = 0 ∨ i = 1 ∨ i = 2 ∨ i = 3 ∨ i = 4 ∨ i = 5 ∨ i = 6 ∨ i = 7 ∨ i = 8 ∨ i = 9 ∨ i = 10 ∨ i = 11 ∨ i = 12 ∨ i = 13 ∨ i = 14 := by omega
        rcases this with rfl | rfl | rfl | rfl | rfl | rfl | rfl | rfl | rfl | rfl | rfl | rfl | rfl | rfl | rfl <;> (subst hp; refine wg_name rfl (wt_yes ⟨fun _ => ?_, fun q => Bool.noConfusion q⟩); walk_at "py"; first | rfl | exact ⟨_, rfl, rfl⟩)
      · have hp : acc = [.bool false, .bool false, .bool true, .bool false, .bool false, .bool false, .bool false, .bool false, .bool false, .bool false, .bool false, .bool false, .bool false, .bool false, .bool false] := hp
        subst hp
        refine ⟨_, rfl, wf_lst ?_⟩
        walk_at "py"
        exact ⟨by decide, rfl⟩
    rintro _ rfl
    walk_at "py"
    all_goals try rfl
    refine call__law_sorts (w := 2) (by decide) rfl ?_
    walk_at "py"
    refine rv_eqD (by first | rfl | decide +kernel) (by first | rfl | decide +kernel) ?_
    have e : PyData.eqv (.tuple [.list [.bool false, .bool false, .bool true, .bool false, .bool false, .bool false, .bool false, .bool false, .bool false, .bool false, .bool false, .bool false, .bool false, .bool false, .bool false, .bool true], .list [.int a, .int b]]) (.tuple [.list [.bool false, .bool false, .bool true, .bool false, .bool false, .bool false, .bool false, .bool false, .bool false, .bool false, .bool false, .bool false, .bool false, .bool false, .bool false, .bool true], .list [.int a, .int b]]) = true := by simp [PyData.eqv, PyData.eqvAll]
    exact (congrArg (fun z => k (.d (.bool z))) e).mpr hk
  · refine ws_cut (fun ρ' => ρ' = [.val (.d (.int 3)), .val (.d (.list [.int a, .int b])), .val (.d (.list [.bool false, .bool false, .bool false, .bool true, .bool false, .bool false, .bool false, .bool false, .bool false, .bool false, .bool false, .bool false, .bool false, .bool false, .bool false, .bool true])), .un, .un]) ?_ ?_
    · refine ws_asg (we_fresh (wf_cat (we_fresh (wf_lcR [3] (by decide) rfl ?_))))
      walk_at "py"
      refine ⟨15, rfl, by decide, by decide, fun i acc => acc = ([.bool false, .bool false, .bool false, .bool true, .bool false, .bool false, .bool false, .bool false, .bool false, .bool false, .bool false, .bool false, .bool false, .bool false, .bool false].take i), rfl, fun c' le i acc hi _ hp => ?_, fun acc _ hp => ?_⟩
      · have hi : i < 15 := hi
        have : i = 0 ∨ i = 1 ∨ i = 2 ∨ i = 3 ∨ i = 4 ∨ i = 5 ∨ i = 6 ∨ i = 7 ∨ i = 8 ∨ i = 9 ∨ i = 10 ∨ i = 11 ∨ i = 12 ∨ i = 13 ∨ i = 14 := by omega
        rcases this with rfl | rfl | rfl | rfl | rfl | rfl | rfl | rfl | rfl | rfl | rfl | rfl | rfl | rfl | rfl <;> (subst hp; refine wg_name rfl (wt_yes ⟨fun _ => ?_, fun q => Bool.noConfusion q⟩); walk_at "py"; first | rfl | exact ⟨_, rfl, rfl⟩)
      · have hp : acc = [.bool false, .bool false, .bool false, .bool true, .bool false, .bool false, .bool false, .bool false, .bool false, .bool false, .bool false, .bool false, .bool false, .bool false, .bool false] := hp
        subst hp
        refine ⟨_, rfl, wf_lst ?_⟩
        walk_at "py"
        exact ⟨by decide, rfl⟩
    rintro _ rfl
    walk_at "py"
    all_goals try rfl
    refine call__law_sorts (w := 3) (by decide) rfl ?_
    walk_at "py"
    refine rv_eqD (by first | rfl | decide +kernel) (by first | rfl | decide +kernel) ?_
    have e : PyData.eqv (.tuple [.list [.bool false, .bool false, .bool false, .bool true, .bool false, .bool false, .bool false, .bool false, .bool false, .bool false, .bool false, .bool false, .bool false, .bool false, .bool false, .bool true], .list []]) (.tuple [.list [.bool false, .bool false, .bool false, .bool true, .bool false, .bool false, .bool false, .bool false, .bool false, .bool false, .bool false, .bool false, .bool false, .bool false, .bool false, .bool true], .list []]) = true := by simp [PyData.eqv, PyData.eqvAll]
    exact (congrArg (fun z => k (.d (.bool z))) e).mpr hk
  · refine ws_cut (fun ρ' => ρ' = [.val (.d (.int 4)), .val (.d (.list [.int a, .int b])), .val (.d (.list [.bool false, .bool false, .bool false, .bool false, .bool true, .bool false, .bool false, .bool false, .bool false, .bool false, .bool false, .bool false, .bool false, .bool false, .bool false, .bool true])), .un, .un]) ?_ ?_
    · refine ws_asg (we_fresh (wf_cat (we_fresh (wf_lcR [3] (by decide) rfl ?_))))
      walk_at "py"
      refine ⟨15, rfl, by decide, by decide, fun i acc => acc = ([.bool false, .bool false, .bool false, .bool false, .bool true, .bool false, .bool false, .bool false, .bool false, .bool false, .bool false, .bool false, .bool false, .bool false, .bool false].take i), rfl, fun c' le i acc hi _ hp => ?_, fun acc _ hp => ?_⟩
      · have hi : i < 15 := hi
        have : i = 0 ∨ i = 1 ∨ i = 2 ∨ i = 3 ∨ i = 4 ∨ i = 5 ∨ i = 6 ∨ i = 7 ∨ i = 8 ∨ i = 9 ∨ i = 10 ∨ i = 11 ∨ i = 12 ∨ i = 13 ∨ i = 14 := by omega
        rcases this with rfl | rfl | rfl | rfl | rfl | rfl | rfl | rfl | rfl | rfl | rfl | rfl | rfl | rfl | rfl <;> (subst hp; refine wg_name rfl (wt_yes ⟨fun _ => ?_, fun q => Bool.noConfusion q⟩); walk_at "py"; first | rfl | exact ⟨_, rfl, rfl⟩)
      · have hp : acc = [.bool false, .bool false, .bool false, .bool false, .bool true, .bool false, .bool false, .bool false, .bool false, .bool false, .bool false, .bool false, .bool false, .bool false, .bool false] := hp
        subst hp
        refine ⟨_, rfl, wf_lst ?_⟩
        walk_at "py"
        exact ⟨by decide, rfl⟩
    rintro _ rfl
    walk_at "py"
    all_goals try rfl
    refine call__law_sorts (w := 4) (by decide) rfl ?_
    walk_at "py"
    refine rv_eqD (by first | rfl | decide +kernel) (by first | rfl | decide +kernel) ?_
    have e : PyData.eqv (.tuple [.list [.bool false, .bool false, .bool false, .bool false, .bool true, .bool false, .bool false, .bool false, .bool false, .bool false, .bool false, .bool false, .bool false, .bool false, .bool false, .bool true], .list [.int a]]) (.tuple [.list [.bool false, .bool false, .bool false, .bool false, .bool true, .bool false, .bool false, .bool false, .bool false, .bool false, .bool false, .bool false, .bool false, .bool false, .bool false, .bool true], .list [.int a]]) = true := by simp [PyData.eqv, PyData.eqvAll]
    exact (congrArg (fun z => k (.d (.bool z))) e).mpr hk
  · refine ws_cut (fun ρ' => ρ' = [.val (.d (.int 5)), .val (.d (.list [.int a, .int b])), .val (.d (.list [.bool false, .bool false, .bool false, .bool false, .bool false, .bool true, .bool false, .bool false, .bool false, .bool false, .bool false, .bool false, .bool false, .bool false, .bool false, .bool true])), .un, .un]) ?_ ?_
    · refine ws_asg (we_fresh (wf_cat (we_fresh (wf_lcR [3] (by decide) rfl ?_))))
      walk_at "py"
      refine ⟨15, rfl, by decide, by decide, fun i acc => acc = ([.bool false, .bool false, .bool false, .bool false, .bool false, .bool true, .bool false, .bool false, .bool false, .bool false, .bool false, .bool false, .bool false, .bool false, .bool false].take i), rfl, fun c' le i acc hi _ hp => ?_, fun acc _ hp => ?_⟩
      · have hi : i < 15 := hi
        have : i = 0 ∨ i = 1 ∨ i = 2 ∨ i = 3 ∨ i = 4 ∨ i = 5 ∨ i = 6 ∨ i = 7 ∨ i = 8 ∨ i = 9 ∨ i = 10 ∨ i = 11 ∨ i = 12 ∨ i = 13 ∨ i = 14 := by omega
        rcases this with rfl | rfl | rfl | rfl | rfl | rfl | rfl | rfl | rfl | rfl | rfl | rfl | rfl | rfl | rfl <;> (subst hp; refine wg_name rfl (wt_yes ⟨fun _ => ?_, fun q => Bool.noConfusion q⟩); walk_at "py"; first | rfl | exact ⟨_, rfl, rfl⟩)
      · have hp : acc = [.bool false, .bool false, .bool false, .bool false, .bool false, .bool true, .bool false, .bool false, .bool false, .bool false, .bool false, .bool false, .bool false, .bool false, .bool false] := hp
        subst hp
        refine ⟨_, rfl, wf_lst ?_⟩
        walk_at "py"
        exact ⟨by decide, rfl⟩
    rintro _ rfl
    walk_at "py"
    all_goals try rfl
    refine call__law_sorts (w := 5) (by decide) rfl ?_
    walk_at "py"
    refine rv_eqD (by first | rfl | decide +kernel) (by first | rfl | decide +kernel) ?_
    have e : PyData.eqv (.tuple [.list [.bool false, .bool false, .bool false, .bool false, .bool false, .bool true, .bool false, .bool false, .bool false, .bool false, .bool false, .bool false, .bool false, .bool false, .bool false, .bool true], .list []]) (.tuple [.list [.bool false, .bool false, .bool false, .bool false, .bool false, .bool true, .bool false, .bool false, .bool false, .bool false, .bool false, .bool false, .bool false, .bool false, .bool false, .bool true], .list []]) = true := by simp [PyData.eqv, PyData.eqvAll]
    exact (congrArg (fun z => k (.d (.bool z))) e).mpr hk
  · refine ws_cut (fun ρ' => ρ' = [.val (.d (.int 6)), .val (.d (.list [.int a, .int b])), .val (.d (.list [.bool false, .bool false, .bool false, .bool false, .bool false, .bool false, .bool true, .bool false, .bool false, .bool false, .bool false, .bool false, .bool false, .bool false, .bool false, .bool true])), .un, .un]) ?_ ?_
    · refine ws_asg (we_fresh (wf_cat (we_fresh (wf_lcR [3] (by decide) rfl ?_))))
      walk_at "py"
      refine ⟨15, rfl, by decide, by decide, fun i acc => acc = ([.bool false, .bool false, .bool false, .bool false, .bool false, .bool false, .bool true, .bool false, .bool false, .bool false, .bool false, .bool false, .bool false, .bool false, .bool false].take i), rfl, fun c' le i acc hi _ hp => ?_, fun acc _ hp => ?_⟩
      · have hi : i < 15 := hi
        have : i = 0 ∨ i = 1 ∨ i = 2 ∨ i = 3 ∨ i = 4 ∨ i = 5 ∨ i = 6 ∨ i = 7 ∨ i = 8 ∨ i = 9 ∨ i = 10 ∨ i = 11 ∨ i = 12 ∨ i = 13 ∨ i = 14 := by omega
        rcases this with rfl | rfl | rfl | rfl | rfl | rfl | rfl | rfl | rfl | rfl | rfl | rfl | rfl | rfl | rfl <;> (subst hp; refine wg_name rfl (wt_yes ⟨fun _ => ?_, fun q => Bool.noConfusion q⟩); walk_at "py"; first | rfl | exact ⟨_, rfl, rfl⟩)
      · have hp : acc = [.bool false, .bool false, .bool false, .bool false, .bool false, .bool false, .bool true, .bool false, .bool false, .bool false, .bool false, .bool false, .bool false, .bool false, .bool false] := hp
        subst hp
        refine ⟨_, rfl, wf_lst ?_⟩
        walk_at "py"
        exact ⟨by decide, rfl⟩
    rintro _ rfl
    walk_at "py"
    all_goals try rfl
    refine call__law_sorts (w := 6) (by decide) rfl ?_
    walk_at "py"
    refine rv_eqD (by first | rfl | decide +kernel) (by first | rfl | decide +kernel) ?_
    have e : PyData.eqv (.tuple [.list [.bool false, .bool false, .bool false, .bool false, .bool false, .bool false, .bool true, .bool false, .bool false, .bool false, .bool false, .bool false, .bool false, .bool false, .bool false, .bool true], .list [.tuple [.int a, .int b, .int 1]]]) (.tuple [.list [.bool false, .bool false, .bool false, .bool false, .bool false, .bool false, .bool true, .bool false, .bool false, .bool false, .bool false, .bool false, .bool false, .bool false, .bool false, .bool true], .list [.tuple [.int a, .int b, .int 1]]]) = true := by simp [PyData.eqv, PyData.eqvAll]
    exact (congrArg (fun z => k (.d (.bool z))) e).mpr hk
  · refine ws_cut (fun ρ' => ρ' = [.val (.d (.int 7)), .val (.d (.list [.int a, .int b])), .val (.d (.list [.bool false, .bool false, .bool false, .bool false, .bool false, .bool false, .bool false, .bool true, .bool false, .bool false, .bool false, .bool false, .bool false, .bool false, .bool false, .bool true])), .un, .un]) ?_ ?_
    · refine ws_asg (we_fresh (wf_cat (we_fresh (wf_lcR [3] (by decide) rfl ?_))))
      walk_at "py"
      refine ⟨15, rfl, by decide, by decide, fun i acc => acc = ([.bool false, .bool false, .bool false, .bool false, .bool false, .bool false, .bool false, .bool true, .bool false, .bool false, .bool false, .bool false, .bool false, .bool false, .bool false].take i), rfl, fun c' le i acc hi _ hp => ?_, fun acc _ hp => ?_⟩
      · have hi : i < 15 := hi
        have : i = 0 ∨ i = 1 ∨ i = 2 ∨ i = 3 ∨ i = 4 ∨ i = 5 ∨ i = 6 ∨ i = 7 ∨ i = 8 ∨ i = 9 ∨ i = 10 ∨ i = 11 ∨ i = 12 ∨ i = 13 ∨ i = 14 := by omega
        rcases this with rfl | rfl | rfl | rfl | rfl | rfl | rfl | rfl | rfl | rfl | rfl | rfl | rfl | rfl | rfl <;> (subst hp; refine wg_name rfl (wt_yes ⟨fun _ => ?_, fun q => Bool.noConfusion q⟩); walk_at "py"; first | rfl | exact ⟨_, rfl, rfl⟩)
      · have hp : acc = [.bool false, .bool false, .bool false, .bool false, .bool false, .bool false, .bool false, .bool true, .bool false, .bool false, .bool false, .bool false, .bool false, .bool false, .bool false] := hp
        subst hp
        refine ⟨_, rfl, wf_lst ?_⟩
        walk_at "py"
        exact ⟨by decide, rfl⟩
    rintro _ rfl
    walk_at "py"
    all_goals try rfl
    refine call__law_sorts (w := 7) (by decide) rfl ?_
    walk_at "py"
    refine rv_eqD (by first | rfl | decide +kernel) (by first | rfl | decide +kernel) ?_
    have e : PyData.eqv (.tuple [.list [.bool false, .bool false, .bool false, .bool false, .bool false, .bool false, .bool false, .bool true, .bool false, .bool false, .bool false, .bool false, .bool false, .bool false, .bool false, .bool true], .list []]) (.tuple [.list [.bool false, .bool false, .bool false, .bool false, .bool false, .bool false, .bool false, .bool true, .bool false, .bool false, .bool false, .bool false, .bool false, .bool false, .bool false, .bool true], .list []]) = true := by simp [PyData.eqv, PyData.eqvAll]
    exact (congrArg (fun z => k (.d (.bool z))) e).mpr hk
  · refine ws_cut (fun ρ' => ρ' = [.val (.d (.int 8)), .val (.d (.list [.int a, .int b])), .val (.d (.list [.bool false, .bool false, .bool false, .bool false, .bool false, .bool false, .bool false, .bool false, .bool true, .bool false, .bool false, .bool false, .bool false, .bool false, .bool false, .bool true])), .un, .un]) ?_ ?_
    · refine ws_asg (we_fresh (wf_cat (we_fresh (wf_lcR [3] (by decide) rfl ?_))))
      walk_at "py"
      refine ⟨15, rfl, by decide, by decide, fun i acc => acc = ([.bool false, .bool false, .bool false, .bool false, .bool false, .bool false, .bool false, .bool false, .bool true, .bool false, .bool false, .bool false, .bool false, .bool false, .bool false].take i), rfl, fun c' le i acc hi _ hp => ?_, fun acc _ hp => ?_⟩
      · have hi : i < 15 := hi
        have : i = 0 ∨ i = 1 ∨ i = 2 ∨ i = 3 ∨ i = 4 ∨ i = 5 ∨ i = 6 ∨ i = 7 ∨ i = 8 ∨ i = 9 ∨ i = 10 ∨ i = 11 ∨ i = 12 ∨ i = 13 ∨ i = 14 := by omega
        rcases this with rfl | rfl | rfl | rfl | rfl | rfl | rfl | rfl | rfl | rfl | rfl | rfl | rfl | rfl | rfl <;> (subst hp; refine wg_name rfl (wt_yes ⟨fun _ => ?_, fun q => Bool.noConfusion q⟩); walk_at "py"; first | rfl | exact ⟨_, rfl, rfl⟩)
      · have hp : acc = [.bool false, .bool false, .bool false, .bool false, .bool false, .bool false, .bool false, .bool false, .bool true, .bool false, .bool false, .bool false, .bool false, .bool false, .bool false] := hp
        subst hp
        refine ⟨_, rfl, wf_lst ?_⟩
        walk_at "py"
        exact ⟨by decide, rfl⟩
    rintro _ rfl
    walk_at "py"
    all_goals try rfl
    refine call__law_sorts (w := 8) (by decide) rfl ?_
    walk_at "py"
    refine rv_eqD (by first | rfl | decide +kernel) (by first | rfl | decide +kernel) ?_
    have e : PyData.eqv (.tuple [.list [.bool false, .bool false, .bool false, .bool false, .bool false, .bool false, .bool false, .bool false, .bool true, .bool false, .bool false, .bool false, .bool false, .bool false, .bool false, .bool true], .list [.str "a"]]) (.tuple [.list [.bool false, .bool false, .bool false, .bool false, .bool false, .bool false, .bool false, .bool false, .bool true, .bool false, .bool false, .bool false, .bool false, .bool false, .bool false, .bool true], .list [.str "a"]]) = true := by simp [PyData.eqv, PyData.eqvAll]
    exact (congrArg (fun z => k (.d (.bool z))) e).mpr hk
  · refine ws_cut (fun ρ' => ρ' = [.val (.d (.int 9)), .val (.d (.list [.int a, .int b])), .val (.d (.list [.bool false, .bool false, .bool false, .bool false, .bool false, .bool false, .bool false, .bool false, .bool false, .bool true, .bool false, .bool false, .bool false, .bool false, .bool false, .bool true])), .un, .un]) ?_ ?_
    · refine ws_asg (we_fresh (wf_cat (we_fresh (wf_lcR [3] (by decide) rfl ?_))))
      walk_at "py"
      refine ⟨15, rfl, by decide, by decide, fun i acc => acc = ([.bool false, .bool false, .bool false, .bool false, .bool false, .bool false, .bool false, .bool false, .bool false, .bool true, .bool false, .bool false, .bool false, .bool false, .bool false].take i), rfl, fun c' le i acc hi _ hp => ?_, fun acc _ hp => ?_⟩
      · have hi : i < 15 := hi
        have : i = 0 ∨ i = 1 ∨ i = 2 ∨ i = 3 ∨ i = 4 ∨ i = 5 ∨ i = 6 ∨ i = 7 ∨ i = 8 ∨ i = 9 ∨ i = 10 ∨ i = 11 ∨ i = 12 ∨ i = 13 ∨ i = 14 := by omega
        rcases this with rfl | rfl | rfl | rfl | rfl | rfl | rfl | rfl | rfl | rfl | rfl | rfl | rfl | rfl | rfl <;> (subst hp; refine wg_name rfl (wt_yes ⟨fun _ => ?_, fun q => Bool.noConfusion q⟩); walk_at "py"; first | rfl | exact ⟨_, rfl, rfl⟩)
      · have hp : acc = [.bool false, .bool false, .bool false, .bool false, .bool false, .bool false, .bool false, .bool false, .bool false, .bool true, .bool false, .bool false, .bool false, .bool false, .bool false] := hp
        subst hp
        refine ⟨_, rfl, wf_lst ?_⟩
        walk_at "py"
        exact ⟨by decide, rfl⟩
    rintro _ rfl
    walk_at "py"
    all_goals try rfl
    refine call__law_sorts (w := 9) (by decide) rfl ?_
    walk_at "py"
    refine rv_eqD (by first | rfl | decide +kernel) (by first | rfl | decide +kernel) ?_
    have e : PyData.eqv (.tuple [.list [.bool false, .bool false, .bool false, .bool false, .bool false, .bool false, .bool false, .bool false, .bool false, .bool true, .bool false, .bool false, .bool false, .bool false, .bool false, .bool true], .list [.str "b"]]) (.tuple [.list [.bool false, .bool false, .bool false, .bool false, .bool false, .bool false, .bool false, .bool false, .bool false, .bool true, .bool false, .bool false, .bool false, .bool false, .bool false, .bool true], .list [.str "b"]]) = true := by simp [PyData.eqv, PyData.eqvAll]
    exact (congrArg (fun z => k (.d (.bool z))) e).mpr hk
  · refine ws_cut (fun ρ' => ρ' = [.val (.d (.int 10)), .val (.d (.list [.int a, .int b])), .val (.d (.list [.bool false, .bool false, .bool false, .bool false, .bool false, .bool false, .bool false, .bool false, .bool false, .bool false, .bool true, .bool false, .bool false, .bool false, .bool false, .bool true])), .un, .un]) ?_ ?_
    · refine ws_asg (we_fresh (wf_cat (we_fresh (wf_lcR [3] (by decide) rfl ?_))))
      walk_at "py"
      refine ⟨15, rfl, by decide, by decide, fun i acc => acc = ([.bool false, .bool false, .bool false, .bool false, .bool false, .bool false, .bool false, .bool false, .bool false, .bool false, .bool true, .bool false, .bool false, .bool false, .bool false].take i), rfl, fun c' le i acc hi _ hp => ?_, fun acc _ hp => ?_⟩
      · have hi : i < 15 := hi
        have : i = 0 ∨ i = 1 ∨ i = 2 ∨ i = 3 ∨ i = 4 ∨ i = 5 ∨ i = 6 ∨ i = 7 ∨ i = 8 ∨ i = 9 ∨ i = 10 ∨ i = 11 ∨ i = 12 ∨ i = 13 ∨ i = 14 := by omega
        rcases this with rfl | rfl | rfl | rfl | rfl | rfl | rfl | rfl | rfl | rfl | rfl | rfl | rfl | rfl | rfl <;> (subst hp; refine wg_name rfl (wt_yes ⟨fun _ => ?_, fun q => Bool.noConfusion q⟩); walk_at "py"; first | rfl | exact ⟨_, rfl, rfl⟩)
      · have hp : acc = [.bool false, .bool false, .bool false, .bool false, .bool false, .bool false, .bool false, .bool false, .bool false, .bool false, .bool true, .bool false, .bool false, .bool false, .bool false] := hp
        subst hp
        refine ⟨_, rfl, wf_lst ?_⟩
        walk_at "py"
        exact ⟨by decide, rfl⟩
    rintro _ rfl
    walk_at "py"
    all_goals try rfl
    refine call__law_sorts (w := 10) (by decide) rfl ?_
    walk_at "py"
    refine rv_eqD (by first | rfl | decide +kernel) (by first | rfl | decide +kernel) ?_
    have e : PyData.eqv (.tuple [.list [.bool false, .bool false, .bool false, .bool false, .bool false, .bool false, .bool false, .bool false, .bool false, .bool false, .bool true, .bool false, .bool false, .bool false, .bool false, .bool true], .list [.int a]]) (.tuple [.list [.bool false, .bool false, .bool false, .bool false, .bool false, .bool false, .bool false, .bool false, .bool false, .bool false, .bool true, .bool false, .bool false, .bool false, .bool false, .bool true], .list [.int a]]) = true := by simp [PyData.eqv, PyData.eqvAll]
    exact (congrArg (fun z => k (.d (.bool z))) e).mpr hk
  · refine ws_cut (fun ρ' => ρ' = [.val (.d (.int 11)), .val (.d (.list [.int a, .int b])), .val (.d (.list [.bool false, .bool false, .bool false, .bool false, .bool false, .bool false, .bool false, .bool false, .bool false, .bool false, .bool false, .bool true, .bool false, .bool false, .bool false, .bool true])), .un, .un]) ?_ ?_
    · refine ws_asg (we_fresh (wf_cat (we_fresh (wf_lcR [3] (by decide) rfl ?_))))
      walk_at "py"
      refine ⟨15, rfl, by decide, by decide, fun i acc => acc = ([.bool false, .bool false, .bool false, .bool false, .bool false, .bool false, .bool false, .bool false, .bool false, .bool false, .bool false, .bool true, .bool false, .bool false, .bool false].take i), rfl, fun c' le i acc hi _ hp => ?_, fun acc _ hp => ?_⟩
      · have hi : i < 15 := hi
        have : i = 0 ∨ i = 1 ∨ i = 2 ∨ i = 3 ∨ i = 4 ∨ i = 5 ∨ i = 6 ∨ i = 7 ∨ i = 8 ∨ i = 9 ∨ i = 10 ∨ i = 11 ∨ i = 12 ∨ i = 13 ∨ i = 14 := by omega
        rcases this with rfl | rfl | rfl | rfl | rfl | rfl | rfl | rfl | rfl | rfl | rfl | rfl | rfl | rfl | rfl <;> (subst hp; refine wg_name rfl (wt_yes ⟨fun _ => ?_, fun q => Bool.noConfusion q⟩); walk_at "py"; first | rfl | exact ⟨_, rfl, rfl⟩)
      · have hp : acc = [.bool false, .bool false, .bool false, .bool false, .bool false, .bool false, .bool false, .bool false, .bool false, .bool false, .bool false, .bool true, .bool false, .bool false, .bool false] := hp
        subst hp
        refine ⟨_, rfl, wf_lst ?_⟩
        walk_at "py"
        exact ⟨by decide, rfl⟩
    rintro _ rfl
    walk_at "py"
    all_goals try rfl
    refine call__law_sorts (w := 11) (by decide) rfl ?_
    walk_at "py"
    refine rv_eqD (by first | rfl | decide +kernel) (by first | rfl | decide +kernel) ?_
    have e : PyData.eqv (.tuple [.list [.bool false, .bool false, .bool false, .bool false, .bool false, .bool false, .bool false, .bool false, .bool false, .bool false, .bool false, .bool true, .bool false, .bool false, .bool false, .bool true], .list []]) (.tuple [.list [.bool false, .bool false, .bool false, .bool false, .bool false, .bool false, .bool false, .bool false, .bool false, .bool false, .bool false, .bool true, .bool false, .bool false, .bool false, .bool true], .list []]) = true := by simp [PyData.eqv, PyData.eqvAll]
    exact (congrArg (fun z => k (.d (.bool z))) e).mpr hk
  · refine ws_cut (fun ρ' => ρ' = [.val (.d (.int 12)), .val (.d (.list [.int a, .int b])), .val (.d (.list [.bool false, .bool false, .bool false, .bool false, .bool false, .bool false, .bool false, .bool false, .bool false, .bool false, .bool false, .bool false, .bool true, .bool false, .bool false, .bool true])), .un, .un]) ?_ ?_
    · refine ws_asg (we_fresh (wf_cat (we_fresh (wf_lcR [3] (by decide) rfl ?_))))
      walk_at "py"
      refine ⟨15, rfl, by decide, by decide, fun i acc => acc = ([.bool false, .bool false, .bool false, .bool false, .bool false, .bool false, .bool false, .bool false, .bool false, .bool false, .bool false, .bool false, .bool true, .bool false, .bool false].take i), rfl, fun c' le i acc hi _ hp => ?_, fun acc _ hp => ?_⟩
      · have hi : i < 15 := hi
        have : i = 0 ∨ i = 1 ∨ i = 2 ∨ i = 3 ∨ i = 4 ∨ i = 5 ∨ i = 6 ∨ i = 7 ∨ i = 8 ∨ i = 9 ∨ i = 10 ∨ i = 11 ∨ i = 12 ∨ i = 13 ∨ i = 14 := by omega
        rcases this with rfl | rfl | rfl | rfl | rfl | rfl | rfl | rfl | rfl | rfl | rfl | rfl | rfl | rfl | rfl <;> (subst hp; refine wg_name rfl (wt_yes ⟨fun _ => ?_, fun q => Bool.noConfusion q⟩); walk_at "py"; first | rfl | exact ⟨_, rfl, rfl⟩)
      · have hp : acc = [.bool false, .bool false, .bool false, .bool false, .bool false, .bool false, .bool false, .bool false, .bool false, .bool false, .bool false, .bool false, .bool true, .bool false, .bool false] := hp
        subst hp
        refine ⟨_, rfl, wf_lst ?_⟩
        walk_at "py"
        exact ⟨by decide, rfl⟩
    rintro _ rfl
    walk_at "py"
    all_goals try rfl
    refine call__law_sorts (w := 12) (by decide) rfl ?_
    walk_at "py"
    refine rv_eqD (by first | rfl | decide +kernel) (by first | rfl | decide +kernel) ?_
    have e : PyData.eqv (.tuple [.list [.bool false, .bool false, .bool false, .bool false, .bool false, .bool false, .bool false, .bool false, .bool false, .bool false, .bool false, .bool false, .bool true, .bool false, .bool false, .bool true], .list []]) (.tuple [.list [.bool false, .bool false, .bool false, .bool false, .bool false, .bool false, .bool false, .bool false, .bool false, .bool false, .bool false, .bool false, .bool true, .bool false, .bool false, .bool true], .list []]) = true := by simp [PyData.eqv, PyData.eqvAll]
    exact (congrArg (fun z => k (.d (.bool z))) e).mpr hk
  · refine ws_cut (fun ρ' => ρ' = [.val (.d (.int 13)), .val (.d (.list [.int a, .int b])), .val (.d (.list [.bool false, .bool false, .bool false, .bool false, .bool false, .bool false, .bool false, .bool false, .bool false, .bool false, .bool false, .bool false, .bool false, .bool true, .bool false, .bool true])), .un, .un]) ?_ ?_
    · refine ws_asg (we_fresh (wf_cat (we_fresh (wf_lcR [3] (by decide) rfl ?_))))
      walk_at "py"
      refine ⟨15, rfl, by decide, by decide, fun i acc => acc = ([.bool false, .bool false, .bool false, .bool false, .bool false, .bool false, .bool false, .bool false, .bool false, .bool false, .bool false, .bool false, .bool false, .bool true, .bool false].take i), rfl, fun c' le i acc hi _ hp => ?_, fun acc _ hp => ?_⟩
      · have hi : i < 15 := hi
        have : i = 0 ∨ i = 1 ∨ i = 2 ∨ i = 3 ∨ i = 4 ∨ i = 5 ∨ i = 6 ∨ i = 7 ∨ i = 8 ∨ i = 9 ∨ i = 10 ∨ i = 11 ∨ i = 12 ∨ i = 13 ∨ i = 14 := by omega
        rcases this with rfl | rfl | rfl | rfl | rfl | rfl | rfl | rfl | rfl | rfl | rfl | rfl | rfl | rfl | rfl <;> (subst hp; refine wg_name rfl (wt_yes ⟨fun _ => ?_, fun q => Bool.noConfusion q⟩); walk_at "py"; first | rfl | exact ⟨_, rfl, rfl⟩)
      · have hp : acc = [.bool false, .bool false, .bool false, .bool false, .bool false, .bool false, .bool false, .bool false, .bool false, .bool false, .bool false, .bool false, .bool false, .bool true, .bool false] := hp
        subst hp
        refine ⟨_, rfl, wf_lst ?_⟩
        walk_at "py"
        exact ⟨by decide, rfl⟩
    rintro _ rfl
    walk_at "py"
    all_goals try rfl
    refine call__law_sorts (w := 13) (by decide) rfl ?_
    walk_at "py"
    refine rv_eqD (by first | rfl | decide +kernel) (by first | rfl | decide +kernel) ?_
    have e : PyData.eqv (.tuple [.list [.bool false, .bool false, .bool false, .bool false, .bool false, .bool false, .bool false, .bool false, .bool false, .bool false, .bool false, .bool false, .bool false, .bool true, .bool false, .bool true], .list []]) (.tuple [.list [.bool false, .bool false, .bool false, .bool false, .bool false, .bool false, .bool false, .bool false, .bool false, .bool false, .bool false, .bool false, .bool false, .bool true, .bool false, .bool true], .list []]) = true := by simp [PyData.eqv, PyData.eqvAll]
    exact (congrArg (fun z => k (.d (.bool z))) e).mpr hk
  · refine ws_cut (fun ρ' => ρ' = [.val (.d (.int 14)), .val (.d (.list [.int a, .int b])), .val (.d (.list [.bool false, .bool false, .bool false, .bool false, .bool false, .bool false, .bool false, .bool false, .bool false, .bool false, .bool false, .bool false, .bool false, .bool false, .bool true, .bool true])), .un, .un]) ?_ ?_
    · refine ws_asg (we_fresh (wf_cat (we_fresh (wf_lcR [3] (by decide) rfl ?_))))
      walk_at "py"
      refine ⟨15, rfl, by decide, by decide, fun i acc => acc = ([.bool false, .bool false, .bool false, .bool false, .bool false, .bool false, .bool false, .bool false, .bool false, .bool false, .bool false, .bool false, .bool false, .bool false, .bool true].take i), rfl, fun c' le i acc hi _ hp => ?_, fun acc _ hp => ?_⟩
      · have hi : i < 15 := hi
        have : i = 0 ∨ i = 1 ∨ i = 2 ∨ i = 3 ∨ i = 4 ∨ i = 5 ∨ i = 6 ∨ i = 7 ∨ i = 8 ∨ i = 9 ∨ i = 10 ∨ i = 11 ∨ i = 12 ∨ i = 13 ∨ i = 14 := by omega
        rcases this with rfl | rfl | rfl | rfl | rfl | rfl | rfl | rfl | rfl | rfl | rfl | rfl | rfl | rfl | rfl <;> (subst hp; refine wg_name rfl (wt_yes ⟨fun _ => ?_, fun q => Bool.noConfusion q⟩); walk_at "py"; first | rfl | exact ⟨_, rfl, rfl⟩)
      · have hp : acc = [.bool false, .bool false, .bool false, .bool false, .bool false, .bool false, .bool false, .bool false, .bool false, .bool false, .bool false, .bool false, .bool false, .bool false, .bool true] := hp
        subst hp
        refine ⟨_, rfl, wf_lst ?_⟩
        walk_at "py"
        exact ⟨by decide, rfl⟩
    rintro _ rfl
    walk_at "py"
    all_goals try rfl
    refine call__law_sorts (w := 14) (by decide) rfl ?_
    walk_at "py"
    refine rv_eqD (by first | rfl | decide +kernel) (by first | rfl | decide +kernel) ?_
    have e : PyData.eqv (.tuple [.list [.bool false, .bool false, .bool false, .bool false, .bool false, .bool false, .bool false, .bool false, .bool false, .bool false, .bool false, .bool false, .bool false, .bool false, .bool true, .bool true], .list []]) (.tuple [.list [.bool false, .bool false, .bool false, .bool false, .bool false, .bool false, .bool false, .bool false, .bool false, .bool false, .bool false, .bool false, .bool false, .bool false, .bool true, .bool true], .list []]) = true := by simp [PyData.eqv, PyData.eqvAll]
    exact (congrArg (fun z => k (.d (.bool z))) e).mpr hk
  · refine ws_cut (fun ρ' => ρ' = [.val (.d (.int 15)), .val (.d (.list [.int a, .int b])), .val (.d (.list [.bool true, .bool false, .bool false, .bool false, .bool false, .bool false, .bool false, .bool false, .bool false, .bool false, .bool false, .bool false, .bool false, .bool false, .bool false, .bool true])), .un, .un]) ?_ ?_
    · refine ws_asg (we_fresh (wf_cat (we_fresh (wf_lcR [3] (by decide) rfl ?_))))
      walk_at "py"
      refine ⟨15, rfl, by decide, by decide, fun i acc => acc = ([.bool true, .bool false, .bool false, .bool false, .bool false, .bool false, .bool false, .bool false, .bool false, .bool false, .bool false, .bool false, .bool false, .bool false, .bool false].take i), rfl, fun c' le i acc hi _ hp => ?_, fun acc _ hp => ?_⟩
      · have hi : i < 15 := hi
        have : i = 0 ∨ i = 1 ∨ i = 2 ∨ i = 3 ∨ i = 4 ∨ i = 5 ∨ i = 6 ∨ i = 7 ∨ i = 8 ∨ i = 9 ∨ i = 10 ∨ i = 11 ∨ i = 12 ∨ i = 13 ∨ i = 14 := by omega
        rcases this with rfl | rfl | rfl | rfl | rfl | rfl | rfl | rfl | rfl | rfl | rfl | rfl | rfl | rfl | rfl <;> (subst hp; refine wg_name rfl (wt_yes ⟨fun _ => ?_, fun q => Bool.noConfusion q⟩); walk_at "py"; first | rfl | exact ⟨_, rfl, rfl⟩)
      · have hp : acc = [.bool true, .bool false, .bool false, .bool false, .bool false, .bool false, .bool false, .bool false, .bool false, .bool false, .bool false, .bool false, .bool false, .bool false, .bool false] := hp
        subst hp
        refine ⟨_, rfl, wf_lst ?_⟩
        walk_at "py"
        exact ⟨by decide, rfl⟩
    rintro _ rfl
    walk_at "py"
    all_goals try rfl
    refine call__law_sorts (w := 15) (by decide) rfl ?_
    walk_at "py"
    refine rv_eqD (by first | rfl | decide +kernel) (by first | rfl | decide +kernel) ?_
    have e : PyData.eqv (.tuple [.list [.bool true, .bool false, .bool false, .bool false, .bool false, .bool false, .bool false, .bool false, .bool false, .bool false, .bool false, .bool false, .bool false, .bool false, .bool false, .bool true], .list []]) (.tuple [.list [.bool true, .bool false, .bool false, .bool false, .bool false, .bool false, .bool false, .bool false, .bool false, .bool false, .bool false, .bool false, .bool false, .bool false, .bool false, .bool true], .list []]) = true := by simp [PyData.eqv, PyData.eqvAll]
    exact (congrArg (fun z => k (.d (.bool z))) e).mpr hk
  · refine ws_cut (fun ρ' => ρ' = [.val (.d (.int 16)), .val (.d (.list [.int a, .int b])), .val (.d (.list [.bool false, .bool true, .bool false, .bool false, .bool false, .bool false, .bool false, .bool false, .bool false, .bool false, .bool false, .bool false, .bool false, .bool false, .bool false, .bool true])), .un, .un]) ?_ ?_
    · refine ws_asg (we_fresh (wf_cat (we_fresh (wf_lcR [3] (by decide) rfl ?_))))
      walk_at "py"
      refine ⟨15, rfl, by decide, by decide, fun i acc => acc = ([.bool false, .bool true, .bool false, .bool false, .bool false, .bool false, .bool false, .bool false, .bool false, .bool false, .bool false, .bool false, .bool false, .bool false, .bool false].take i), rfl, fun c' le i acc hi _ hp => ?_, fun acc _ hp => ?_⟩
      · have hi : i < 15 := hi
        have : i = 0 ∨ i = 1 ∨ i = 2 ∨ i = 3 ∨ i = 4 ∨ i = 5 ∨ i = 6 ∨ i = 7 ∨ i = 8 ∨ i = 9 ∨ i = 10 ∨ i = 11 ∨ i = 12 ∨ i = 13 ∨ i = 14 := by omega
        rcases this with rfl | rfl | rfl | rfl | rfl | rfl | rfl | rfl | rfl | rfl | rfl | rfl | rfl | rfl | rfl <;> (subst hp; refine wg_name rfl (wt_yes ⟨fun _ => ?_, fun q => Bool.noConfusion q⟩); walk_at "py"; first | rfl | exact ⟨_, rfl, rfl⟩)
      · have hp : acc = [.bool false, .bool true, .bool false, .bool false, .bool false, .bool false, .bool false, .bool false, .bool false, .bool false, .bool false, .bool false, .bool false, .bool false, .bool false] := hp
        subst hp
        refine ⟨_, rfl, wf_lst ?_⟩
        walk_at "py"
        exact ⟨by decide, rfl⟩
    rintro _ rfl
    walk_at "py"
    all_goals try rfl
    refine call__law_sorts (w := 16) (by decide) rfl ?_
    walk_at "py"
    refine rv_eqD (by first | rfl | decide +kernel) (by first | rfl | decide +kernel) ?_
    have e : PyData.eqv (.tuple [.list [.bool false, .bool true, .bool false, .bool false, .bool false, .bool false, .bool false, .bool false, .bool false, .bool false, .bool false, .bool false, .bool false, .bool false, .bool false, .bool true], .list []]) (.tuple [.list [.bool false, .bool true, .bool false, .bool false, .bool false, .bool false, .bool false, .bool false, .bool false, .bool false, .bool false, .bool false, .bool false, .bool false, .bool false, .bool true], .list []]) = true := by simp [PyData.eqv, PyData.eqvAll]
    exact (congrArg (fun z => k (.d (.bool z))) e).mpr hk

theorem call__law_apart {K : PySem.W.Frag} {c : Py.Ctx K} {k : Dv → Prop} {x : Value → Prop} {a b w : Int} (h0 : 0 ≤ w) (h1 : w < 17) (h : k (.d (.bool true))) : ∀ c', Le c c' → p__law_apart K c' [.d (.int w), .d (.list [.int a, .int b])] k x := fun c' le => ⟨w, a, b, rfl, h0, h1, h⟩
local macro_rules | `(tactic| walk_at "py1") => `(tactic| with_reducible refine call__law_apart ?_ ?_ ?_)
def p__law_divisor (K : PySem.W.Frag) : PT0 K := fun c xs k _ => ∃ a b : Int, xs = [.d (.int a), .d (.int b)] ∧ k (.d (.int (Int.gcd a b)))
theorem len__law_divisor {K : PySem.W.Frag} : ∀ (c : Py.Ctx K) xs k x, p__law_divisor K c xs k x → xs.length = 2 := by
  rintro c xs k x ⟨a, b, rfl, _⟩
  rfl
abbrev s__law_divisor : Stmt := top 30
theorem sc__law_divisor : FnScope ["_law_one", "_law_other"] ["_law_one", "_law_other"] (defScope s__law_divisor) := ⟨rfl, rfl, rfl, by decide +kernel, rfl, by decide +kernel, by decide +kernel⟩
theorem ok__law_divisor (T : Txt K mg AA) (R : Raw K mg "_law_divisor" s__law_divisor) : Def P w K mg base "_law_divisor" ["_law_one", "_law_other"] CX0 1 (spD K (p__law_divisor K)) := R.def fun f fd F => by
  refine ⟨F.binds (ps := ["_law_one", "_law_other"]) fun _ _ _ _ _ _ us hl => match us, hl with | [_, _], _ => rfl, F.ok sc__law_divisor (spD_len len__law_divisor) (fun cdv A outer s H vs Q E hr h => ?_)⟩
  refine ⟨_, (pss_cons (ps_set (i := 0) sc__law_divisor.nd rfl (Or.inl rfl) (pe_callB call_abss (by rfl) T.b_abs (by decide +kernel) (pa_cons (pv 0) pa_nil)))
      (pss_cons (ps_set (i := 1) sc__law_divisor.nd rfl (Or.inl rfl) (pe_callB call_abss (by rfl) T.b_abs (by decide +kernel) (pa_cons (pv 1) pa_nil)))
      (pss_cons (ps_while PassesOwn.never (pt_cmpR op_gtU (pv 1) pe_int (nomark _)) (pss_one (ps_par (i := 0) (j := 1) (by rfl) sc__law_divisor.nd rfl rfl (by decide) rfl rfl (pa_cons (pv 1) (pa_cons (pe_op op_modN (pv 0) (pv 1)) pa_nil)) (by rfl))))
      (pss_one (ps_ret (pv 0)))))), ?_⟩
  refine run_spD h (fun c xs k x p => ?_)
  obtain ⟨a, b, rfl, hk⟩ := p
  refine ⟨Nat.le_of_ble_eq_true rfl, fun hx => ?_⟩
  show Ws c _ [.val (.d (.int a)), .val (.d (.int b))] _
  walk_at "py"
  refine ws_while (m0 := b.natAbs) (fun m ρ' => ∃ a' b' : Int, ρ' = [.val (.d (.int a')), .val (.d (.int b'))] ∧ 0 ≤ a' ∧ 0 ≤ b' ∧ b'.toNat = m ∧ Int.gcd a' b' = Int.gcd a b) ?_ ?_
  · exact ⟨_, _, rfl, by omega, by omega, by omega, gcd_abs a b⟩
  · rintro m ρ' ⟨a', b', rfl, ha, hb, hm, hg⟩
    walk_at "py"
    · rename_i hlt
      have hlt : 0 < b' := of_decide_eq_true hlt
      refine rv_mod (by omega) ?_
      walk_at "py"
      refine ⟨(a'.fmod b').toNat, ?_, _, _, rfl, by omega, Int.fmod_nonneg_of_pos _ hlt, rfl, ?_⟩
      · have := Int.fmod_lt_of_pos a' hlt
        have := Int.fmod_nonneg_of_pos a' hlt
        omega
      · rw [gcd_step ha hlt, hg]
    · rename_i hge
      have hge : ¬ 0 < b' := of_decide_eq_false hge
      have : b' = 0 := by omega
      subst this
      walk_at "py"
      have e : (Int.gcd a b : Int) = a' := by
        rw [← hg, Int.gcd_zero_right]; omega
      rw [← e]
      exact hk

theorem call__law_divisor {K : PySem.W.Frag} {c : Py.Ctx K} {k : Dv → Prop} {x : Value → Prop} {a b : Int} (h : k (.d (.int (Int.gcd a b)))) : ∀ c', Le c c' → p__law_divisor K c' [.d (.int a), .d (.int b)] k x := fun c' le => ⟨a, b, rfl, h⟩
local macro_rules | `(tactic| walk_at "py1") => `(tactic| with_reducible refine call__law_divisor ?_)
def p__law_lowest (K : PySem.W.Frag) : PT0 K := fun c xs k _ => ∃ t b : Int, xs = [.d (.int t), .d (.int b)] ∧ b ≠ 0 ∧ (Int.gcd t b).log2 < 9000 ∧ k (.d (frD (Rat.divInt t b)))
theorem len__law_lowest {K : PySem.W.Frag} : ∀ (c : Py.Ctx K) xs k x, p__law_lowest K c xs k x → xs.length = 2 := by
  rintro c xs k x ⟨a, b, rfl, _⟩
  rfl
abbrev s__law_lowest : Stmt := top 31
theorem sc__law_lowest : FnScope ["_law_top", "_law_bottom", "_law_by"] ["_law_top", "_law_bottom"] (defScope s__law_lowest) := ⟨rfl, rfl, rfl, by decide +kernel, rfl, by decide +kernel, by decide +kernel⟩
theorem ok__law_lowest (T : Txt K mg AA) (d__law_divisor : Def P w K mg base "_law_divisor" ["_law_one", "_law_other"] CX0 1 (spD K (p__law_divisor K))) (R : Raw K mg "_law_lowest" s__law_lowest) : Def P w K mg base "_law_lowest" ["_law_top", "_law_bottom"] CX0 2 (spD K (p__law_lowest K)) := R.def fun f fd F => by
  refine ⟨F.binds (ps := ["_law_top", "_law_bottom"]) fun _ _ _ _ _ _ us hl => match us, hl with | [_, _], _ => rfl, F.ok sc__law_lowest (spD_len len__law_lowest) (fun cdv A outer s H vs Q E hr h => ?_)⟩
  refine ⟨_, (pss_cons (ps_set (i := 2) sc__law_lowest.nd rfl (Or.inl rfl) (pe_D0 d__law_divisor (by decide) hr pass0 (pa_cons (pv 0) (pa_cons (pv 1) pa_nil))))
      (pss_cons (ps_if (pt_cmpR op_ltU (pv 1) pe_int (nomark _)) (pss_one (ps_set (i := 2) sc__law_lowest.nd rfl (Or.inl rfl) (pe_op op_sub pe_int (pv 2)))) pss_nil)
      (pss_one (ps_ret (pe_tup (pa_cons (pe_op op_fdivX (pv 0) (pv 2)) (pa_cons (pe_op op_fdivX (pv 1) (pv 2)) pa_nil))))))), ?_⟩
  refine run_spD h (fun c xs k x p => ?_)
  obtain ⟨t, b, rfl, hb, hl, hk⟩ := p
  refine ⟨Nat.le_of_ble_eq_true rfl, fun hx => ?_⟩
  show Ws c _ [.val (.d (.int t)), .val (.d (.int b)), .un] _
  walk_at "py"
  all_goals
    rename_i hn
    have hg : (Int.gcd t b : Int) ≠ 0 := by
      intro h
      have : Int.gcd t b = 0 := by exact_mod_cast h
      exact hb (Int.gcd_eq_zero_iff.mp this).2
    obtain ⟨e1, e2⟩ := fdiv_num (t := t) hb
  · rw [if_pos (of_decide_eq_true hn)] at e1 e2
    have hc : CDivX t (0 - (Int.gcd t b : Int)) := ⟨by omega, by rw [show (0 - (Int.gcd t b : Int)).natAbs = Int.gcd t b by omega]; exact hl⟩
    have hc' : CDivX b (0 - (Int.gcd t b : Int)) := hc
    walk_at "py"
    rw [e1, e2]
    exact hk
  · rw [if_neg (of_decide_eq_false hn)] at e1 e2
    have hc : CDivX t (Int.gcd t b : Int) := ⟨hg, hl⟩
    have hc' : CDivX b (Int.gcd t b : Int) := hc
    walk_at "py"
    rw [e1, e2]
    exact hk

theorem call__law_lowest {K : PySem.W.Frag} {c : Py.Ctx K} {k : Dv → Prop} {x : Value → Prop} {t b : Int} (hb : b ≠ 0) (hl : (Int.gcd t b).log2 < 9000) (h : k (.d (frD (Rat.divInt t b)))) : ∀ c', Le c c' → p__law_lowest K c' [.d (.int t), .d (.int b)] k x := fun c' le => ⟨t, b, rfl, hb, hl, h⟩
local macro_rules | `(tactic| walk_at "py1") => `(tactic| with_reducible refine call__law_lowest ?_ ?_ ?_)
def p__law_point (K : PySem.W.Frag) : PT0 K := fun c xs k _ => ∃ a b d : Int, ∃ hd : 0 < d, xs = [.d (.int a), .d (.int b), .d (.int d)] ∧ d.natAbs < 2 ^ 9000 ∧ k (.d (ptD (ptBy a b d (by omega))))
theorem len__law_point {K : PySem.W.Frag} : ∀ (c : Py.Ctx K) xs k x, p__law_point K c xs k x → xs.length = 3 := by
  rintro c xs k x ⟨a, b, d, hd, rfl, _⟩
  rfl
abbrev s__law_point : Stmt := top 32
theorem sc__law_point : FnScope ["_law_a", "_law_b", "_law_c", "_law_d"] ["_law_a", "_law_b", "_law_c"] (defScope s__law_point) := ⟨rfl, rfl, rfl, by decide +kernel, rfl, by decide +kernel, by decide +kernel⟩
theorem ok__law_point (T : Txt K mg AA) (d__law_divisor : Def P w K mg base "_law_divisor" ["_law_one", "_law_other"] CX0 1 (spD K (p__law_divisor K))) (R : Raw K mg "_law_point" s__law_point) : Def P w K mg base "_law_point" ["_law_a", "_law_b", "_law_c"] CX0 2 (spD K (p__law_point K)) := R.def fun f fd F => by
  refine ⟨F.binds (ps := ["_law_a", "_law_b", "_law_c"]) fun _ _ _ _ _ _ us hl => match us, hl with | [_, _, _], _ => rfl, F.ok sc__law_point (spD_len len__law_point) (fun cdv A outer s H vs Q E hr h => ?_)⟩
  refine ⟨_, (pss_cons (ps_set (i := 3) sc__law_point.nd rfl (Or.inl rfl) (pe_D0 d__law_divisor (by decide) hr pass0 (pa_cons (pe_D0 d__law_divisor (by decide) hr pass0 (pa_cons (pv 2) (pa_cons (pv 0) pa_nil))) (pa_cons (pv 1) pa_nil))))
      (pss_one (ps_ret (pe_tup (pa_cons (pe_op op_fdivX (pv 0) (pv 3)) (pa_cons (pe_op op_fdivX (pv 1) (pv 3)) (pa_cons (pe_op op_fdivX (pv 2) (pv 3)) pa_nil))))))), ?_⟩
  refine run_spD h (fun c xs k x p => ?_)
  obtain ⟨a, b, d, hd, rfl, hl, hk⟩ := p
  refine ⟨Nat.le_of_ble_eq_true rfl, fun hx => ?_⟩
  show Ws c _ [.val (.d (.int a)), .val (.d (.int b)), .val (.d (.int d)), .un] _
  have hc := fun z => by3_div (a := a) (b := b) (c := d) (by omega) hl (by decide) (by decide) z
  have c1 := hc a
  have c2 := hc b
  have c3 := hc d
  rw [by3_pos hd, ← gcd_rot] at c1 c2 c3
  walk_at "py"
  rw [gcd_rot, ← by3_pos hd]
  exact hk

theorem call__law_point {K : PySem.W.Frag} {c : Py.Ctx K} {k : Dv → Prop} {x : Value → Prop} {a b d : Int} (hd : 0 < d) (hl : d.natAbs < 2 ^ 9000) (h : k (.d (ptD (ptBy a b d (by omega))))) : ∀ c', Le c c' → p__law_point K c' [.d (.int a), .d (.int b), .d (.int d)] k x := fun c' le => ⟨a, b, d, hd, rfl, hl, h⟩
local macro_rules | `(tactic| walk_at "py1") => `(tactic| with_reducible refine call__law_point ?_ ?_ ?_)
def p__law_number (K : PySem.W.Frag) : PT0 K := fun c xs k _ => ∃ p, xs = [.r (.ref p)] ∧ HandIn c p ∧ ∀ v : Int, v.natAbs ≤ 10 ^ 60 → k (.d (.int v))
theorem len__law_number {K : PySem.W.Frag} : ∀ (c : Py.Ctx K) xs k x, p__law_number K c xs k x → xs.length = 1 := by
  rintro c xs k x ⟨p, rfl, _⟩
  rfl
abbrev s__law_number : Stmt := top 33
theorem sc__law_number : FnScope ["_law_hand_here", "_law_size"] ["_law_hand_here"] (defScope s__law_number) := ⟨rfl, rfl, rfl, by decide +kernel, rfl, by decide +kernel, by decide +kernel⟩
theorem ok__law_number (T : Txt K mg AA) (d__law_draw : Def P w K mg base "_law_draw" ["_law_hand_here", "_law_many"] CX0 3 (spD K (p_draw K))) (R : Raw K mg "_law_number" s__law_number) : Def P w K mg base "_law_number" ["_law_hand_here"] CX0 4 (spD K (p__law_number K)) := R.def fun f fd F => by
  refine ⟨F.binds (ps := ["_law_hand_here"]) fun _ _ _ _ _ _ us hl => match us, hl with | [_], _ => rfl, F.ok sc__law_number (spD_len len__law_number) (fun cdv A outer s H vs Q E hr h => ?_)⟩
  refine ⟨_, (pss_cons (ps_set (i := 1) sc__law_number.nd rfl (Or.inl rfl) (pe_ix (ix_s K) (pe_lst (pa_cons pe_int (pa_cons pe_int (pa_cons pe_int (pa_cons (pe_op op_powX pe_int pe_int) (pa_cons (pe_op op_powX pe_int pe_int) pa_nil)))))) (pe_D0 d__law_draw (by decide) hr pass0 (pa_cons (pv 0) (pa_cons pe_int pa_nil))) (fun _ _ => rfl)))
      (pss_one (ps_ret (pe_op op_sub (pe_D0 d__law_draw (by decide) hr pass0 (pa_cons (pv 0) (pa_cons (pe_op (op_adds K) (pe_op (op_muls K) pe_int (pv 1)) pe_int) pa_nil))) (pv 1))))), ?_⟩
  refine run_spD h (fun c xs k x p => ?_)
  obtain ⟨p, rfl, HI, hk⟩ := p
  refine ⟨Nat.le_of_ble_eq_true rfl, fun hx => ?_⟩
  show Ws c _ [.val (.r (.ref p)), .un] _
  walk_at "py"
  rename_i v h0 h1
  have hs : ∃ s : Int, atI [PyData.int 2, .int 9, .int 1000, .int (10 ^ (18 : Int).toNat), .int (10 ^ (60 : Int).toNat)] v = some (.int s) ∧ 0 ≤ s ∧ s ≤ 10 ^ 60 := by
    have : v = 0 ∨ v = 1 ∨ v = 2 ∨ v = 3 ∨ v = 4 := by omega
    rcases this with rfl | rfl | rfl | rfl | rfl
    · exact ⟨2, rfl, by decide, by decide⟩
    · exact ⟨9, rfl, by decide, by decide⟩
    · exact ⟨1000, rfl, by decide, by decide⟩
    · exact ⟨10 ^ 18, rfl, by decide, by decide⟩
    · exact ⟨10 ^ 60, rfl, by decide, by decide⟩
  obtain ⟨s, e, s0, s1⟩ := hs
  refine rv_ixL e ?_
  have hm : CMulW 2 s := wide_mul (a := 10) (b := 1000) (by decide) (by omega) (by decide) (by decide) (by decide)
  walk_at "py"
  rename_i u u0 u1
  exact hk _ (by omega)

theorem call__law_number {K : PySem.W.Frag} {c : Py.Ctx K} {k : Dv → Prop} {x : Value → Prop} {p : Addr} (HI : HandIn c p) (h : ∀ v : Int, v.natAbs ≤ 10 ^ 60 → k (.d (.int v))) : ∀ c', Le c c' → p__law_number K c' [.r (.ref p)] k x := fun c' le => ⟨p, rfl, HI.le le, h⟩
local macro_rules | `(tactic| walk_at "py1") => `(tactic| with_reducible refine call__law_number ?_ ?_)
local macro_rules | `(tactic| walk_at "py1") => `(tactic| with_reducible refine call__law_number (by assumption) (fun v hv => ?_))
/-- what the laws draw -/
structure anyP (p : Pt) : Prop where
  s : ptS 201 p
  c : p.c.natAbs < 2 ^ 61
def p__law_any (K : PySem.W.Frag) : PT0 K := fun c xs k _ => ∃ p, xs = [.r (.ref p)] ∧ HandIn c p ∧ ∀ q : Pt, anyP q → k (.d (ptD q))
theorem len__law_any {K : PySem.W.Frag} : ∀ (c : Py.Ctx K) xs k x, p__law_any K c xs k x → xs.length = 1 := by
  rintro c xs k x ⟨p, rfl, _⟩
  rfl
theorem anyP_by {a b d : Int} (hd : 0 < d) (ha : a.natAbs ≤ 10 ^ 60) (hb : b.natAbs ≤ 10 ^ 60) (h : d ≤ 10 ^ 18) : anyP (ptBy a b d (by omega)) := by
  have B := ptB_by (n := 201) (a := a) (b := b) (c := d) (by omega) (by decide) (Nat.lt_of_le_of_lt ha (by decide)) (Nat.lt_of_le_of_lt hb (by decide)) (by omega)
  obtain ⟨a', b', c', h1, h2, h3, h4, h5, h6, _⟩ := by3_facts (a := a) (b := b) (c := d) (by omega)
  exact ⟨B.S, Nat.lt_of_le_of_lt (fdiv_le h3 h6) (by omega)⟩
abbrev s__law_any : Stmt := top 34
theorem sc__law_any : FnScope ["_law_hand_here", "_law_a", "_law_b"] ["_law_hand_here"] (defScope s__law_any) := ⟨rfl, rfl, rfl, by decide +kernel, rfl, by decide +kernel, by decide +kernel⟩
theorem ok__law_any (T : Txt K mg AA) (d__law_number : Def P w K mg base "_law_number" ["_law_hand_here"] CX0 4 (spD K (p__law_number K))) (d__law_point : Def P w K mg base "_law_point" ["_law_a", "_law_b", "_law_c"] CX0 2 (spD K (p__law_point K))) (d__law_draw : Def P w K mg base "_law_draw" ["_law_hand_here", "_law_many"] CX0 3 (spD K (p_draw K))) (R : Raw K mg "_law_any" s__law_any) : Def P w K mg base "_law_any" ["_law_hand_here"] CX0 5 (spD K (p__law_any K)) := R.def fun f fd F => by
  refine ⟨F.binds (ps := ["_law_hand_here"]) fun _ _ _ _ _ _ us hl => match us, hl with | [_], _ => rfl, F.ok sc__law_any (spD_len len__law_any) (fun cdv A outer s H vs Q E hr h => ?_)⟩
  refine ⟨_, (pss_cons (ps_set (i := 1) sc__law_any.nd rfl (Or.inl rfl) (pe_D0 d__law_number (by decide) hr pass0 (pa_cons (pv 0) pa_nil)))
      (pss_cons (ps_set (i := 2) sc__law_any.nd rfl (Or.inl rfl) (pe_D0 d__law_number (by decide) hr pass0 (pa_cons (pv 0) pa_nil)))
      (pss_one (ps_ret (pe_D0 d__law_point (by decide) hr pass0 (pa_cons (pv 1) (pa_cons (pv 2) (pa_cons (pe_op (op_adds K) pe_int (pe_D0 d__law_draw (by decide) hr pass0 (pa_cons (pv 0) (pa_cons (pe_ix (ix_s K) (pe_lst (pa_cons pe_int (pa_cons pe_int (pa_cons pe_int (pa_cons (pe_op op_powX pe_int pe_int) pa_nil))))) (pe_D0 d__law_draw (by decide) hr pass0 (pa_cons (pv 0) (pa_cons pe_int pa_nil))) (fun _ _ => rfl)) pa_nil)))) pa_nil)))))))), ?_⟩
  refine run_spD h (fun c xs k x p => ?_)
  obtain ⟨p, rfl, HI, hk⟩ := p
  refine ⟨Nat.le_of_ble_eq_true rfl, fun hx => ?_⟩
  show Ws c _ [.val (.r (.ref p)), .un, .un] _
  walk_at "py"
  rename_i a ha b hb v h0 h1
  have hs : ∃ s : Int, atI [PyData.int 1, .int 3, .int 1000, .int (10 ^ (18 : Int).toNat)] v = some (.int s) ∧ 1 ≤ s ∧ s ≤ 10 ^ 18 := by
    have : v = 0 ∨ v = 1 ∨ v = 2 ∨ v = 3 := by omega
    rcases this with rfl | rfl | rfl | rfl
    · exact ⟨1, rfl, by decide, by decide⟩
    · exact ⟨3, rfl, by decide, by decide⟩
    · exact ⟨1000, rfl, by decide, by decide⟩
    · exact ⟨10 ^ 18, rfl, by decide, by decide⟩
  obtain ⟨s, e, s0, s1⟩ := hs
  refine rv_ixL e ?_
  walk_at "py"
  · omega
  · omega
  · rename_i u u0 u1
    exact hk _ (anyP_by (by omega) ha hb (by omega))

theorem call__law_any {K : PySem.W.Frag} {c : Py.Ctx K} {k : Dv → Prop} {x : Value → Prop} {p : Addr} (HI : HandIn c p) (h : ∀ q : Pt, anyP q → k (.d (ptD q))) : ∀ c', Le c c' → p__law_any K c' [.r (.ref p)] k x := fun c' le => ⟨p, rfl, HI.le le, h⟩
local macro_rules | `(tactic| walk_at "py1") => `(tactic| with_reducible refine call__law_any ?_ ?_)
local macro_rules | `(tactic| walk_at "py1") => `(tactic| with_reducible refine call__law_any (by assumption) (fun q hq => ?_))
def isFr : PyData → Bool
  | .tuple [.int a, .int b] => decide (1 ≤ b) && decide (Int.gcd a b = 1)
  | _ => false
def p_is_fraction (K : PySem.W.Frag) : PT0 K := fun c xs k _ => ∃ d, xs = [.d d] ∧ k (.d (.bool (isFr d)))
theorem isFr_len {ds : List PyData} (h : ds.length ≠ 2) : isFr (.tuple ds) = false := by
  match ds, h with
  | [], _ => rfl
  | [x], _ => cases x <;> rfl
  | [x, y], h => exact absurd rfl h
  | x :: y :: z :: r, _ => cases x <;> cases y <;> rfl
theorem len_is_fraction {K : PySem.W.Frag} : ∀ (c : Py.Ctx K) xs k x, p_is_fraction K c xs k x → xs.length = 1 := by
  rintro c xs k x ⟨d, rfl, _⟩
  rfl
abbrev s_is_fraction : Stmt := top 21
theorem sc_is_fraction : FnScope ["thing"] ["thing"] (defScope s_is_fraction) := ⟨rfl, rfl, rfl, by decide +kernel, rfl, by decide +kernel, by decide +kernel⟩
theorem ok_is_fraction (T : Txt K mg AA) (d_is_whole : Def P w K mg base "is_whole" ["thing"] CX0 1 (spD K (p_is_whole K))) (d_divisor_of : Def P w K mg base "divisor_of" ["one", "other"] CX0 1 (spD K (p_divisor_of K))) (R : Raw K mg "is_fraction" s_is_fraction) : Def P w K mg base "is_fraction" ["thing"] CX0 2 (spD K (p_is_fraction K)) := R.def fun f fd F => by
  refine ⟨F.binds (ps := ["thing"]) fun _ _ _ _ _ _ us hl => match us, hl with | [_], _ => rfl, F.ok sc_is_fraction (spD_len len_is_fraction) (fun cdv A outer s H vs Q E hr h => ?_)⟩
  refine ⟨_, (pss_cons (ps_if (PW.pt (pw_or (pt_not (pt_tru K (pe_callB (call_isis K) (by rfl) T.b_isinstance (by decide +kernel) (pa_cons (pv 0) (pa_cons (pe_bltn (v := .ty "tuple") (by rfl) T.b_tuple (by decide +kernel) rfl) pa_nil))) (by intro _; rfl))) (pw_or1 (pt_cmpR (op_nes K hr.units) (pe_callB (call_lens K) (by rfl) T.b_len (by decide +kernel) (pa_cons (pv 0) pa_nil)) pe_int (nomark _))))) (pss_one (ps_ret pe_bl)) pss_nil)
      (pss_cons (ps_if (PW.pt (pw_or (pt_not (pt_tru K (pe_D0 d_is_whole (by decide) hr pass0 (pa_cons (pe_ix (ix_s K) (pv 0) pe_int (fun _ _ => rfl)) pa_nil)) (by intro _; rfl))) (pw_or1 (pt_not (pt_tru K (pe_D0 d_is_whole (by decide) hr pass0 (pa_cons (pe_ix (ix_s K) (pv 0) pe_int (fun _ _ => rfl)) pa_nil)) (by intro _; rfl)))))) (pss_one (ps_ret pe_bl)) pss_nil)
      (pss_one (ps_ret (pe_and (pe_cmpR op_geU (pe_ix (ix_s K) (pv 0) pe_int (fun _ _ => rfl)) pe_int (nomark _)) (pe_one (pe_cmpR (op_eqs K hr.units) (pe_D0 d_divisor_of (by decide) hr pass0 (pa_cons (pe_ix (ix_s K) (pv 0) pe_int (fun _ _ => rfl)) (pa_cons (pe_ix (ix_s K) (pv 0) pe_int (fun _ _ => rfl)) pa_nil))) pe_int (nomark _)))))))), ?_⟩
  refine run_spD h (fun c xs k x p => ?_)
  obtain ⟨d, rfl, hk⟩ := p
  refine ⟨Nat.le_of_ble_eq_true rfl, fun hx => ?_⟩
  show Ws c _ [.val (.d d)] _
  cases d with
  | none => walk_at "py"; exact hk
  | bool b => walk_at "py"; exact hk
  | int b => walk_at "py"; exact hk
  | str b => walk_at "py"; exact hk
  | list b => walk_at "py"; exact hk
  | dict b => walk_at "py"; exact hk
  | tuple ds =>
    match ds, hk with
    | [], hk => walk_at "py"; exact hk
    | [x], hk => rw [isFr_len (by simp)] at hk; walk_at "py"; exact hk
    | x :: y :: z :: r, hk =>
      rw [isFr_len (by simp)] at hk
      walk_at "py"
      exact hk
    | [x, y], hk =>
      cases x with
      | none => walk_at "py"; exact hk
      | bool b => walk_at "py"; exact hk
      | str b => walk_at "py"; exact hk
      | list b => walk_at "py"; exact hk
      | dict b => walk_at "py"; exact hk
      | tuple b => walk_at "py"; exact hk
      | int a =>
        cases y with
        | none => walk_at "py"; exact hk
        | bool b => walk_at "py"; exact hk
        | str b => walk_at "py"; exact hk
        | list b => walk_at "py"; exact hk
        | dict b => walk_at "py"; exact hk
        | tuple b => walk_at "py"; exact hk
        | int b =>
          have e : isFr (.tuple [.int a, .int b]) = (decide (1 ≤ b) && decide (((Int.gcd a b : Nat) : Int) = 1)) := by
            show (decide (1 ≤ b) && decide (Int.gcd a b = 1)) = _
            congr 1
            exact decide_eq_decide.mpr (by omega)
          rw [e] at hk
          walk_at "py"
          · rename_i hb
            rw [hb, Bool.true_and] at hk
            exact hk
          · rename_i hb
            rw [hb, Bool.false_and] at hk
            exact hk

theorem call_is_fraction {K : PySem.W.Frag} {c : Py.Ctx K} {k : Dv → Prop} {x : Value → Prop} {d : PyData} (h : k (.d (.bool (isFr d)))) : ∀ c', Le c c' → p_is_fraction K c' [.d d] k x := fun c' le => ⟨d, rfl, h⟩
local macro_rules | `(tactic| walk_at "py1") => `(tactic| with_reducible refine call_is_fraction ?_)
def isPt : PyData → Bool
  | .tuple [.int a, .int b, .int c] => decide (1 ≤ c) && decide (Int.gcd (Int.gcd a b) c = 1)
  | _ => false
def isW (d : PyData) : Bool := isInt d && !isBool d
theorem isW_int {d : PyData} (h : isW d = true) : ∃ i, d = .int i := by
  cases d <;> first | exact ⟨_, rfl⟩ | cases h
theorem isPt_ptD (p : Pt) : isPt (ptD p) = true := by
  show (decide (1 ≤ p.c) && decide (Int.gcd (Int.gcd p.a p.b) p.c = 1)) = true
  rw [p.low, decide_eq_true (show 1 ≤ p.c from p.pos)]
  rfl
theorem isPt_no {d : PyData} (h : ∀ a b c : Int, d ≠ .tuple [.int a, .int b, .int c]) : isPt d = false := by
  unfold isPt
  split
  · exact absurd rfl (h _ _ _)
  · rfl
def p_is_point (K : PySem.W.Frag) : PT0 K := fun c xs k _ => ∃ d, xs = [.d d] ∧ k (.d (.bool (isPt d)))
theorem len_is_point {K : PySem.W.Frag} : ∀ (c : Py.Ctx K) xs k x, p_is_point K c xs k x → xs.length = 1 := by
  rintro c xs k x ⟨d, rfl, _⟩
  rfl
abbrev s_is_point : Stmt := top 24
theorem sc_is_point : FnScope ["thing", "part"] ["thing"] (defScope s_is_point) := ⟨rfl, rfl, rfl, by decide +kernel, rfl, by decide +kernel, by decide +kernel⟩
theorem ok_is_point (T : Txt K mg AA) (d_divisor_of : Def P w K mg base "divisor_of" ["one", "other"] CX0 1 (spD K (p_divisor_of K))) (d_is_whole : Def P w K mg base "is_whole" ["thing"] CX0 1 (spD K (p_is_whole K))) (R : Raw K mg "is_point" s_is_point) : Def P w K mg base "is_point" ["thing"] CX0 2 (spD K (p_is_point K)) := R.def fun f fd F => by
  refine ⟨F.binds (ps := ["thing"]) fun _ _ _ _ _ _ us hl => match us, hl with | [_], _ => rfl, F.ok sc_is_point (spD_len len_is_point) (fun cdv A outer s H vs Q E hr h => ?_)⟩
  refine ⟨_, (pss_cons (ps_if (PW.pt (pw_or (pt_not (pt_tru K (pe_callB (call_isis K) (by rfl) T.b_isinstance (by decide +kernel) (pa_cons (pv 0) (pa_cons (pe_bltn (v := .ty "tuple") (by rfl) T.b_tuple (by decide +kernel) rfl) pa_nil))) (by intro _; rfl))) (pw_or1 (pt_cmpR (op_nes K hr.units) (pe_callB (call_lens K) (by rfl) T.b_len (by decide +kernel) (pa_cons (pv 0) pa_nil)) pe_int (nomark _))))) (pss_one (ps_ret pe_bl)) pss_nil)
      (pss_cons (ps_if (pt_not (pt_tru K (pe_callB (cr_alls K rfl) (by rfl) T.b_all (by decide +kernel) (pa_cons (pe_lc (own := [("part", 1)]) (g := gName 1) (tt := tYes) rfl sc_is_point.nd (pi_q K (pv 0)) (blkOk_by (own := [("part", 1)]) (N := ["thing", "part"]) (sc := defScope s_is_point) (by decide +kernel)) (fun _ _ _ _ _ => (pg_name (i := 1) sc_is_point.nd rfl (Or.inl rfl))) (fun _ _ _ _ _ => pts_nil) (fun _ _ _ _ _ => (pe_D0 d_is_whole (by decide) hr pass0 (pa_cons (pv 1) pa_nil)))) pa_nil)) (by intro _; rfl))) (pss_one (ps_ret pe_bl)) pss_nil)
      (pss_one (ps_ret (pe_and (pe_cmpR op_geU (pe_ix (ix_s K) (pv 0) pe_int (fun _ _ => rfl)) pe_int (nomark _)) (pe_one (pe_cmpR (op_eqs K hr.units) (pe_D0 d_divisor_of (by decide) hr pass0 (pa_cons (pe_D0 d_divisor_of (by decide) hr pass0 (pa_cons (pe_ix (ix_s K) (pv 0) pe_int (fun _ _ => rfl)) (pa_cons (pe_ix (ix_s K) (pv 0) pe_int (fun _ _ => rfl)) pa_nil))) (pa_cons (pe_ix (ix_s K) (pv 0) pe_int (fun _ _ => rfl)) pa_nil))) pe_int (nomark _)))))))), ?_⟩
  refine run_spD h (fun c xs k x p => ?_)
  obtain ⟨d, rfl, hk⟩ := p
  refine ⟨Nat.le_of_ble_eq_true rfl, fun hx => ?_⟩
  show Ws c _ [.val (.d d), .un] _
  have no : (∀ a b e : Int, d ≠ .tuple [.int a, .int b, .int e]) → k (.d (.bool false)) := fun h => by rw [isPt_no h] at hk; exact hk
  cases d with
  | none => walk_at "py"; exact hk
  | bool b => walk_at "py"; exact hk
  | int b => walk_at "py"; exact hk
  | str b => walk_at "py"; exact hk
  | list b => walk_at "py"; exact hk
  | dict b => walk_at "py"; exact hk
  | tuple ds =>
    match ds, hk, no with
    | [], hk, no => walk_at "py"; exact hk
    | [x], hk, no => walk_at "py"; exact no (fun a b e h => by cases h)
    | [x, y], hk, no => walk_at "py"; exact no (fun a b e h => by cases h)
    | x :: y :: z :: u :: r, hk, no => walk_at "py"; exact no (fun a b e h => by cases h)
    | [x, y, z], hk, no =>
      walk_at "py"
      refine we_fresh (wf_lcU (α := PyData) (fun z => z) (fun z => PyData.bool (isW z)) (by decide) rfl rfl ?_)
      walk_at "py"
      refine ⟨[x, y, z], rfl, Nat.le_of_ble_eq_true rfl, fun c' le v _ => ?_, ?_⟩
      · walk_at "py"
        rfl
      walk_at "py"
      refine rc_all (bs := [isW x, isW y, isW z]) ?_
      walk_at "py"
      · rename_i hb
        refine no fun a b e h => ?_
        cases h
        cases hb
      · rename_i hb
        have hb : isW x = true ∧ isW y = true ∧ isW z = true := by
          revert hb
          cases isW x <;> cases isW y <;> cases isW z <;> simp
        obtain ⟨a, rfl⟩ := isW_int hb.1
        obtain ⟨b, rfl⟩ := isW_int hb.2.1
        obtain ⟨e, rfl⟩ := isW_int hb.2.2
        have ee : isPt (.tuple [.int a, .int b, .int e]) = (decide (1 ≤ e) && decide (((Int.gcd (Int.gcd a b) e : Nat) : Int) = 1)) := by
          show (decide (1 ≤ e) && decide (Int.gcd (Int.gcd a b) e = 1)) = _
          congr 1
          exact decide_eq_decide.mpr (by omega)
        rw [ee] at hk
        walk_at "py"
        · rename_i h1
          rw [h1, Bool.true_and] at hk
          exact hk
        · rename_i h1
          rw [h1, Bool.false_and] at hk
          exact hk

theorem call_is_point {K : PySem.W.Frag} {c : Py.Ctx K} {k : Dv → Prop} {x : Value → Prop} {d : PyData} (h : k (.d (.bool (isPt d)))) : ∀ c', Le c c' → p_is_point K c' [.d d] k x := fun c' le => ⟨d, rfl, h⟩
local macro_rules | `(tactic| walk_at "py1") => `(tactic| with_reducible refine call_is_point ?_)
/-- what is asked of a row of whole numbers that is in lowest terms -/
structure Chk (f : PyData → Bool) (n : Nat) : Prop where
  nt : ∀ d, isTup d = false → f d = false
  ln : ∀ xs : List PyData, xs.length ≠ n → f (.tuple xs) = false
  el : ∀ (xs : List PyData) (i : Nat) (d : PyData), xs[i]? = some d → isW d = false → f (.tuple xs) = false
  lo : ∀ (xs : List PyData) (m : Int), m ≤ 0 → f (.tuple (xs ++ [.int m])) = false
  mul : ∀ (ns : List Int) (m : Int), 2 ≤ m → f (.tuple (ns.map fun z => .int (z * m))) = false
theorem gcd_mul_ne {a b m : Int} (h : 2 ≤ m) : Int.gcd (a * m) (b * m) ≠ 1 := fun e => by
  have h1 : m ∣ (Int.gcd (a * m) (b * m) : Int) := Int.dvd_coe_gcd ⟨a, Int.mul_comm a m⟩ ⟨b, Int.mul_comm b m⟩
  rw [e] at h1
  have := Int.le_of_dvd (by decide) h1
  omega
theorem gcd3_mul_ne {a b d m : Int} (h : 2 ≤ m) : Int.gcd (Int.gcd (a * m) (b * m)) (d * m) ≠ 1 := fun e => by
  have h1 : m ∣ (Int.gcd (a * m) (b * m) : Int) := Int.dvd_coe_gcd ⟨a, Int.mul_comm a m⟩ ⟨b, Int.mul_comm b m⟩
  have h2 : m ∣ (Int.gcd (Int.gcd (a * m) (b * m) : Int) (d * m) : Int) := Int.dvd_coe_gcd h1 ⟨d, Int.mul_comm d m⟩
  rw [e] at h2
  have := Int.le_of_dvd (by decide) h2
  omega
theorem isFr_no {d : PyData} (h : ∀ a b : Int, d ≠ .tuple [.int a, .int b]) : isFr d = false := by
  unfold isFr
  split
  · exact absurd rfl (h _ _)
  · rfl
theorem chk_fr : Chk isFr 2 where
  nt := fun d h => isFr_no fun a b e => by subst e; cases h
  ln := fun xs h => isFr_no fun a b e => h (by cases e; rfl)
  el := fun xs i d h hw => isFr_no fun a b e => by
    cases e
    match i, h with
    | 0, h => cases h; cases hw
    | 1, h => cases h; cases hw
  lo := fun xs m hm => by
    match xs with
    | [] => rfl
    | [x] =>
      cases x <;> try rfl
      rename_i a
      show (decide (1 ≤ m) && _) = false
      rw [decide_eq_false (by omega)]; rfl
    | x :: y :: r => exact isFr_len (by simp)
  mul := fun ns m hm => by
    match ns with
    | [] => rfl
    | [x] => rfl
    | [x, y] =>
      show (_ && decide (Int.gcd (x * m) (y * m) = 1)) = false
      rw [decide_eq_false (gcd_mul_ne hm), Bool.and_false]
    | x :: y :: z :: r => exact isFr_len (by simp)
theorem chk_pt : Chk isPt 3 where
  nt := fun d h => isPt_no fun a b c e => by subst e; cases h
  ln := fun xs h => isPt_no fun a b c e => h (by cases e; rfl)
  el := fun xs i d h hw => isPt_no fun a b c e => by
    cases e
    match i, h with
    | 0, h => cases h; cases hw
    | 1, h => cases h; cases hw
    | 2, h => cases h; cases hw
  lo := fun xs m hm => by
    match xs with
    | [] => exact isPt_no fun a b c e => by injection e with e; have := congrArg List.length e; simp at this
    | [x] => exact isPt_no fun a b c e => by injection e with e; have := congrArg List.length e; simp at this
    | [x, y] =>
      cases x <;> try rfl
      cases y <;> try rfl
      rename_i a b
      show (decide (1 ≤ m) && _) = false
      rw [decide_eq_false (by omega)]; rfl
    | x :: y :: z :: r => exact isPt_no fun a b c e => by injection e with e; have := congrArg List.length e; simp at this
  mul := fun ns m hm => by
    match ns with
    | [] => rfl
    | [x] => rfl
    | [x, y] => rfl
    | [x, y, z] =>
      show (_ && decide (Int.gcd (Int.gcd (x * m) (y * m)) (z * m) = 1)) = false
      rw [decide_eq_false (gcd3_mul_ne hm), Bool.and_false]
    | x :: y :: z :: u :: r => exact isPt_no fun a b c e => by injection e with e; have := congrArg List.length e; simp at this
section
variable {K : PySem.W.Frag} {c : Py.Ctx K} {ρ : Rho} {te : TE}
theorem wf_listOfT {k : List PyData → Prop} (h : We c te ρ fun x => ∃ xs, x = .d (.tuple xs) ∧ k xs) : Wf c (tCB (rListOf K) (tCons te tNil)) ρ k := fun σ H Q o q => h σ H _ o fun v x H1 o1 e1 d1 ⟨xs, hx, hk⟩ => by
  subst hx
  change Py.Dp _ _ _ _ at d1
  cases d1 with
  | @tup a vs _ _ hs ha =>
    refine ⟨a, vs, rfl, .inr (Evl.ex_t hid_sub hs), fun p hp => ?_⟩
    obtain ⟨h0, o4, s4, d4⟩ := o1.fresh e1 hp ha
    exact q p _ _ _ h0 upd_same o4 s4 d4 hk
end
theorem ixN_m1 (n : Nat) : ixN (n + 1) (-1) = some n := by
  unfold ixN
  rw [if_neg (by decide), if_pos (by omega)]
  congr 1
  omega
theorem cutD_lo {α : Type} {f : α → PyData} (xs : List α) {i : Int} (hi : 0 ≤ i) : Py.cutD (xs.map f) (some i) none = (xs.drop i.toNat).map f := by
  unfold Py.cutD
  obtain ⟨n, rfl⟩ := Int.eq_ofNat_of_zero_le hi
  rw [HT.sIx_nat, HT.sIx_none, List.length_map]
  show ((xs.map f).drop (min n xs.length)).take _ = _
  rw [List.take_of_length_le (by simp), ← List.map_drop]
  congr 1
  by_cases h : n ≤ xs.length
  · rw [Nat.min_eq_left h]; rfl
  · rw [Nat.min_eq_right (by omega)]
    show _ = List.drop n xs
    rw [List.drop_of_length_le (Nat.le_refl _), List.drop_of_length_le (by omega)]
theorem cutD_hi {α : Type} {f : α → PyData} (xs : List α) {i : Int} (hi : 0 ≤ i) : Py.cutD (xs.map f) none (some i) = (xs.take i.toNat).map f := by
  unfold Py.cutD
  obtain ⟨n, rfl⟩ := Int.eq_ofNat_of_zero_le hi
  rw [HT.sIx_nat, HT.sIx_none, List.length_map]
  show ((xs.map f).drop 0).take _ = _
  rw [List.drop_zero, ← List.map_take]
  congr 1
  show xs.take (min n xs.length - 0) = xs.take n
  by_cases h : n ≤ xs.length
  · rw [Nat.min_eq_left h]; rfl
  · rw [Nat.min_eq_right (by omega), Nat.sub_zero, List.take_of_length_le (Nat.le_refl _), List.take_of_length_le (by omega)]
theorem flat_ints : ∀ ns : List Int, flatDs (ns.map PyData.int) = true
  | [] => rfl
  | n :: ns => by
    show (true && flatDs (ns.map PyData.int)) = true
    rw [flat_ints ns]; rfl
/-- things that are no such tuple -/
def someD : List PyData := [.none, .bool true, .int 1, .int 0, .str "", .str "1/2", .list [], .tuple [], .tuple [.int 1], .dict [], .list [.int 1, .int 2], .list [.int 1, .int 2, .int 3], .dict [], .dict [], .dict [], .str "12", .str "123", .tuple [.int 2, .int (-4)], .tuple [.int 2, .int 4, .int (-2)], .tuple [.int 2, .int 4], .tuple [.int 2, .int 4, .int 2]]
theorem some_no {f : PyData → Bool} {n : Nat} (h : Chk f n) (hn : n = 2 ∨ n = 3) {i : Int} {d : PyData} (e : atI someD i = some d) : f d = false := by
  have hm : d ∈ someD := by
    unfold atI at e
    cases z : ixN someD.length i with
    | none => rw [z] at e; cases e
    | some j => rw [z] at e; exact List.mem_of_getElem? e
  have nt : isTup d = false → f d = false := h.nt d
  simp only [someD, List.mem_cons, List.not_mem_nil, or_false] at hm
  rcases hm with rfl | rfl | rfl | rfl | rfl | rfl | rfl | rfl | rfl | rfl | rfl | rfl | rfl | rfl | rfl | rfl | rfl | rfl | rfl | rfl | rfl
  all_goals first
    | exact nt rfl
    | (refine h.ln _ ?_; rcases hn with rfl | rfl <;> decide)
    | exact h.lo [.int 2] (-4) (by decide)
    | exact h.lo [.int 2, .int 4] (-2) (by decide)
    | exact h.mul [1, 2] 2 (by decide)
    | exact h.mul [1, 2, 1] 2 (by decide)
def p__law_spoilt (K : PySem.W.Frag) : PT0 K := fun c xs k _ => ∃ (p : Addr) (ns : List Int) (m : Int) (f : PyData → Bool), xs = [.r (.ref p), .d (.tuple ((ns ++ [m]).map .int))] ∧ HandIn c p ∧ Chk f (ns.length + 1) ∧ (ns.length = 1 ∨ ns.length = 2) ∧ 1 ≤ m ∧ (∀ z ∈ ns ++ [m], z.natAbs < 2 ^ 300) ∧ f (.tuple ((ns ++ [m]).map .int)) = true ∧ ∀ d b, f d = b → k (.d (.tuple [d, .bool b]))
theorem len__law_spoilt {K : PySem.W.Frag} : ∀ (c : Py.Ctx K) xs k x, p__law_spoilt K c xs k x → xs.length = 2 := by
  rintro c xs k x ⟨p, ns, m, f, rfl, _⟩
  rfl
theorem call__law_spoilt {K : PySem.W.Frag} {c : Py.Ctx K} {k : Dv → Prop} {x : Value → Prop} {p : Addr} {ns : List Int} {m : Int} (f : PyData → Bool) (HI : HandIn c p) (hc : Chk f (ns.length + 1)) (hl : ns.length = 1 ∨ ns.length = 2) (hm : 1 ≤ m) (hb : ∀ z ∈ ns ++ [m], z.natAbs < 2 ^ 300) (hg : f (.tuple ((ns ++ [m]).map .int)) = true) (h : ∀ d b, f d = b → k (.d (.tuple [d, .bool b]))) : ∀ c', Le c c' → p__law_spoilt K c' [.r (.ref p), .d (.tuple ((ns ++ [m]).map .int))] k x := fun c' le => ⟨p, ns, m, f, rfl, HI.le le, hc, hl, hm, hb, hg, h⟩
abbrev s__law_spoilt : Stmt := top 35
theorem sc__law_spoilt : FnScope ["_law_hand_here", "_law_good", "_law_way", "_law_at", "_law_row", "_law_many", "_law_part", "_law_some"] ["_law_hand_here", "_law_good"] (defScope s__law_spoilt) := ⟨rfl, rfl, rfl, by decide +kernel, rfl, by decide +kernel, by decide +kernel⟩
theorem ok__law_spoilt (T : Txt K mg AA) (d__law_draw : Def P w K mg base "_law_draw" ["_law_hand_here", "_law_many"] CX0 3 (spD K (p_draw K))) (R : Raw K mg "_law_spoilt" s__law_spoilt) : Def P w K mg base "_law_spoilt" ["_law_hand_here", "_law_good"] CX0 4 (spD K (p__law_spoilt K)) := R.def fun f fd F => by
  refine ⟨F.binds (ps := ["_law_hand_here", "_law_good"]) fun _ _ _ _ _ _ us hl => match us, hl with | [_, _], _ => rfl, F.ok sc__law_spoilt (spD_len len__law_spoilt) (fun cdv A outer s H vs Q E hr h => ?_)⟩
  refine ⟨_, (pss_cons (ps_set (i := 2) sc__law_spoilt.nd rfl (Or.inl rfl) (pe_D0 d__law_draw (by decide) hr pass0 (pa_cons (pv 0) (pa_cons pe_int pa_nil))))
      (pss_cons (ps_set (i := 3) sc__law_spoilt.nd rfl (Or.inl rfl) (pe_D0 d__law_draw (by decide) hr pass0 (pa_cons (pv 0) (pa_cons (pe_callB (call_lens K) (by rfl) T.b_len (by decide +kernel) (pa_cons (pv 1) pa_nil)) pa_nil))))
      (pss_cons (ps_set (i := 4) sc__law_spoilt.nd rfl (Or.inl rfl) (pe_callTy (call_lists K) (by rfl) T.b_list (by decide +kernel) (pa_cons (pv 1) pa_nil)))
      (pss_cons (ps_if (pt_cmpR (op_eqs K hr.units) (pv 2) pe_int (nomark _)) (pss_one (ps_ret (pe_tup (pa_cons (pv 4) (pa_cons pe_bl pa_nil))))) pss_nil)
      (pss_cons (ps_if (pt_cmpR (op_eqs K hr.units) (pv 2) pe_int (nomark _)) (pss_one (ps_ret (pe_tup (pa_cons (pe_callTy (call_tups K) (by rfl) T.b_tuple (by decide +kernel) (pa_cons (pe_op (op_adds K) (pv 4) (pe_lst (pa_cons (pe_op (op_adds K) pe_int (pe_D0 d__law_draw (by decide) hr pass0 (pa_cons (pv 0) (pa_cons pe_int pa_nil)))) pa_nil))) pa_nil)) (pa_cons pe_bl pa_nil))))) pss_nil)
      (pss_cons (ps_if (pt_cmpR (op_eqs K hr.units) (pv 2) pe_int (nomark _)) (pss_one (ps_ret (pe_tup (pa_cons (pe_callTy (call_tups K) (by rfl) T.b_tuple (by decide +kernel) (pa_cons (pe_op (op_adds K) (pe_slice (sl_s K) (pv 4) po_none (po_some (pv 3))) (pe_slice (sl_s K) (pv 4) (po_some (pe_op (op_adds K) (pv 3) pe_int)) po_none)) pa_nil)) (pa_cons pe_bl pa_nil))))) pss_nil)
      (pss_cons (ps_if (pt_cmpR (op_eqs K hr.units) (pv 2) pe_int (nomark _)) (pss_one (ps_asg (pe_ix (ix_s K) (pe_lst (pa_cons pe_bl (pa_cons pe_bl (pa_cons pe_non (pa_cons pe_str (pa_cons pe_str (pa_cons (pe_tup (pa_cons pe_int pa_nil)) (pa_cons (pe_lst (pa_cons pe_int pa_nil)) (pa_cons (pe_lst pa_nil) pa_nil))))))))) (pe_D0 d__law_draw (by decide) hr pass0 (pa_cons (pv 0) (pa_cons pe_int pa_nil))) (fun _ _ => rfl)) (pg_sub (pv 4) (pv 3) set_list))) pss_nil)
      (pss_cons (ps_if (pt_cmpR (op_eqs K hr.units) (pv 2) pe_int (nomark _)) (pss_one (ps_asg pe_int (pg_sub (pv 4) (pe_un un_neg pe_int) set_list))) pss_nil)
      (pss_cons (ps_if (pt_cmpR (op_eqs K hr.units) (pv 2) pe_int (nomark _)) (pss_one (ps_asg (pe_op op_sub pe_int (pe_ix (ix_s K) (pv 4) (pe_un un_neg pe_int) (fun _ _ => rfl))) (pg_sub (pv 4) (pe_un un_neg pe_int) set_list))) pss_nil)
      (pss_cons (ps_if (pt_cmpR (op_eqs K hr.units) (pv 2) pe_int (nomark _)) (pss_cons (ps_set (i := 5) sc__law_spoilt.nd rfl (Or.inr rfl) (pe_op (op_adds K) pe_int (pe_D0 d__law_draw (by decide) hr pass0 (pa_cons (pv 0) (pa_cons (pe_op op_powX pe_int pe_int) pa_nil)))))
      (pss_one (ps_setLc (i := 4) (own := [("_law_part", 6)]) (g := gName 6) (tt := tYes) rfl sc__law_spoilt.nd rfl rfl (sw_true rfl rfl rfl (by decide +kernel)) (pi_q K (pv 4)) (blkOk_by (own := [("_law_part", 6)]) (N := ["_law_hand_here", "_law_good", "_law_way", "_law_at", "_law_row", "_law_many", "_law_part", "_law_some"]) (sc := defScope s__law_spoilt) (by decide +kernel)) (fun _ _ _ _ _ => (pg_name (i := 6) sc__law_spoilt.nd rfl (Or.inl rfl))) (fun _ _ _ _ _ => pts_nil) (fun _ _ _ _ _ => (pe_op (op_muls K) (pv 6) (pv 5)))))) pss_nil)
      (pss_cons (ps_if (pt_cmpR (op_eqs K hr.units) (pv 2) pe_int (nomark _)) (pss_cons (ps_set (i := 7) sc__law_spoilt.nd rfl (Or.inl rfl) (pe_lst (pa_cons pe_non (pa_cons pe_bl (pa_cons pe_int (pa_cons pe_int (pa_cons pe_str (pa_cons pe_str (pa_cons (pe_lst pa_nil) (pa_cons (pe_tup pa_nil) (pa_cons (pe_tup (pa_cons pe_int pa_nil)) (pa_cons pe_dnewK (pa_cons (pe_lst (pa_cons pe_int (pa_cons pe_int pa_nil))) (pa_cons (pe_lst (pa_cons pe_int (pa_cons pe_int (pa_cons pe_int pa_nil)))) (pa_cons (pe_disp (pps_cons pe_str pe_int pps_nil) rfl rfl (by intro z; cases z) (Nat.le_of_ble_eq_true rfl)) (pa_cons (pe_disp (pps_cons pe_int pe_int (pps_cons pe_int pe_int pps_nil)) rfl rfl (by intro z; cases z) (Nat.le_of_ble_eq_true rfl)) pa_nil))))))))))))))))
      (pss_cons (ps_set (i := 7) sc__law_spoilt.nd rfl (Or.inl rfl) (pe_op (op_adds K) (pv 7) (pe_lst (pa_cons (pe_disp (pps_cons pe_int pe_int (pps_cons pe_int pe_int (pps_cons pe_int pe_int pps_nil))) rfl rfl (by intro z; cases z) (Nat.le_of_ble_eq_true rfl)) (pa_cons pe_str (pa_cons pe_str (pa_cons (pe_tup (pa_cons pe_int (pa_cons (pe_un un_neg pe_int) pa_nil))) (pa_cons (pe_tup (pa_cons pe_int (pa_cons pe_int (pa_cons (pe_un un_neg pe_int) pa_nil)))) (pa_cons (pe_tup (pa_cons pe_int (pa_cons pe_int pa_nil))) (pa_cons (pe_tup (pa_cons pe_int (pa_cons pe_int (pa_cons pe_int pa_nil)))) pa_nil))))))))))
      (pss_one (ps_ret (pe_tup (pa_cons (pe_ix (ix_s K) (pv 7) (pe_D0 d__law_draw (by decide) hr pass0 (pa_cons (pv 0) (pa_cons pe_int pa_nil))) (fun _ _ => rfl)) (pa_cons pe_bl pa_nil))))))) pss_nil)
      (pss_one (ps_ret (pe_tup (pa_cons (pe_callTy (call_tups K) (by rfl) T.b_tuple (by decide +kernel) (pa_cons (pv 4) pa_nil)) (pa_cons (pe_or (pe_cmpR (op_eqs K hr.units) (pv 2) pe_int (nomark _)) (pe_one (pe_cmpR (op_eqs K hr.units) (pv 2) pe_int (nomark _)))) pa_nil)))))))))))))))), ?_⟩
  refine run_spD h (fun c xs k x p => ?_)
  obtain ⟨p, ns, m, f, rfl, HI, hc, hl, hm, hb, hg, hk⟩ := p
  refine ⟨Nat.le_of_ble_eq_true rfl, fun hx => ?_⟩
  show Ws c _ [.val (.r (.ref p)), .val (.d (.tuple ((ns ++ [m]).map .int))), .un, .un, .un, .un, .un, .un] _
  have e0 : ((ns ++ [m]).map PyData.int).length = ns.length + 1 := by simp
  refine ws_seq ?_
  walk_at "pys"
  rename_i v v0 v1
  refine ws_seq ?_
  walk_at "pys"
  rename_i u u0 u1
  rw [e0] at u1
  refine ws_seq (ws_own (wf_listOfT ?_))
  walk_at "py"
  refine ⟨_, rfl, fun l => ?_⟩
  show Ws c _ [.val (.r (.ref p)), .val (.d (.tuple ((ns ++ [m]).map .int))), .val (.d (.int v)), .val (.d (.int u)), .own l ((ns ++ [m]).map PyData.int), .un, .un, .un] _
  have hn : ∀ z ∈ ns ++ [m], z.natAbs < 2 ^ 300 := hb
  have fl : flatDs ((ns ++ [m]).map PyData.int) = true := flat_ints _
  have lx : ((ns ++ [m]).map PyData.int).length ≤ 3 := by omega
  have hv : v = 0 ∨ v = 1 ∨ v = 2 ∨ v = 3 ∨ v = 4 ∨ v = 5 ∨ v = 6 ∨ v = 7 ∨ v = 8 ∨ v = 9 := by omega
  have lo : ∀ d : PyData, d = .int 0 ∨ d = .int (0 - m) → f (.tuple (((ns ++ [m]).map PyData.int).set ns.length d)) = false := by
    intro d hd
    rw [List.map_append, List.set_append_right _ _ (by simp)]
    rcases hd with rfl | rfl
    · simpa using hc.lo (ns.map .int) 0 (by decide)
    · simpa using hc.lo (ns.map .int) (0 - m) (by omega)
  have li : ixN ((ns ++ [m]).map PyData.int).length (-1) = some ns.length := by rw [e0]; exact ixN_m1 _
  have lu : ixN ((ns ++ [m]).map PyData.int).length u = some u.toNat := by
    obtain ⟨n, rfl⟩ := Int.eq_ofNat_of_zero_le u0
    exact (by unfold ixN; rw [if_pos (by omega), if_pos (by omega)])
  have la : atI ((ns ++ [m]).map PyData.int) (-1) = some (.int m) := by
    unfold atI; rw [li]; simp
  rcases hv with rfl | rfl | rfl | rfl | rfl | rfl | rfl | rfl | rfl | rfl
  · refine ws_freeze (i := 4) rfl ?_
    walk_at "py"
    refine rc_tupOf ?_
    walk_at "py"
    exact hk _ _ hg
  · refine ws_freeze (i := 4) rfl ?_
    walk_at "py"
    exact hk _ _ (hc.nt _ rfl)
  · refine ws_freeze (i := 4) rfl ?_
    refine ws_seq (ws_if (wt_split false ?_ (fun h => by cases h) (fun _ => ws_next ?_)))
    · walk_at "py"
      rfl
    refine ws_seq (ws_if (wt_split true ?_ (fun _ => ?_) (fun h => by cases h)))
    · walk_at "py"
      rfl
    refine ws_ret (we_tup (wa_cons (we_cb (wa_cons (we_fresh (wf_cat (we_var rfl ⟨_, rfl, wf_lst ?_⟩)))))))
    walk_at "py"
    refine ⟨by rw [e0]; show ns.length + 1 + 1 ≤ _; omega, wa_nil (rc_tupOf ?_)⟩
    walk_at "py"
    exact hk _ _ (hc.ln _ (by rw [List.length_append, e0]; show ns.length + 1 + 1 ≠ _; omega))
  · refine ws_freeze (i := 4) rfl ?_
    refine ws_seq (ws_if (wt_split false ?_ (fun h => by cases h) (fun _ => ws_next ?_)))
    · walk_at "py"
      rfl
    refine ws_seq (ws_if (wt_split false ?_ (fun h => by cases h) (fun _ => ws_next ?_)))
    · walk_at "py"
      rfl
    refine ws_seq (ws_if (wt_split true ?_ (fun _ => ?_) (fun h => by cases h)))
    · walk_at "py"
      rfl
    refine ws_ret (we_tup (wa_cons (we_cb (wa_cons (we_fresh (wf_cat (we_fresh (wf_slice (we_var rfl (wo_none (wo_some (we_var rfl ⟨u, rfl, _, rfl, ?_⟩))))))))))))
    rw [cutD_hi _ u0]
    refine ⟨_, rfl, wf_slice (we_var rfl (wo_some ?_))⟩
    walk_at "py"
    refine ⟨_, rfl, wo_none ⟨_, rfl, ?_⟩⟩
    rw [cutD_lo _ (show (0 : Int) ≤ u + 1 by omega)]
    have ll : (((ns ++ [m]).take u.toNat).map PyData.int ++ ((ns ++ [m]).drop (u + 1).toNat).map PyData.int).length = ns.length := by
      simp only [List.length_append, List.length_map, List.length_take, List.length_drop, List.length_cons, List.length_nil]
      omega
    refine ⟨by rw [← List.length_append, ll]; omega, wa_nil (rc_tupOf ?_)⟩
    walk_at "py"
    exact hk _ _ (hc.ln _ (by rw [ll]; omega))
  · refine ws_seq (ws_if (wt_split false ?_ (fun h => by cases h) (fun _ => ws_next ?_)))
    · walk_at "py"
      rfl
    refine ws_seq (ws_if (wt_split false ?_ (fun h => by cases h) (fun _ => ws_next ?_)))
    · walk_at "py"
      rfl
    refine ws_seq (ws_if (wt_split false ?_ (fun h => by cases h) (fun _ => ws_next ?_)))
    · walk_at "py"
      rfl
    refine ws_cut (fun ρ' => ∃ (l : Addr) (d : PyData), isW d = false ∧ ρ' = [.val (.r (.ref p)), .val (.d (.tuple ((ns ++ [m]).map .int))), .val (.d (.int 4)), .val (.d (.int u)), .own l (((ns ++ [m]).map PyData.int).set u.toNat d), .un, .un, .un]) ?_ ?_
    · refine ws_if (wt_split true ?_ (fun _ => ?_) (fun h => by cases h))
      · walk_at "py"
        rfl
      refine ws_setOwn (i := 4) rfl (we_op ?_)
      walk_at "py"
      rename_i w w0 w1
      have hw : w = 0 ∨ w = 1 ∨ w = 2 ∨ w = 3 ∨ w = 4 ∨ w = 5 ∨ w = 6 ∨ w = 7 := by omega
      rcases hw with rfl | rfl | rfl | rfl | rfl | rfl | rfl | rfl <;> (refine rv_ixL rfl ⟨_, rfl, we_var rfl ⟨u, u.toNat, rfl, lu, l, _, ?_, rfl⟩⟩; rfl)
    rintro _ ⟨l2, d, hd, rfl⟩
    refine ws_freeze (i := 4) rfl ?_
    walk_at "py"
    refine rc_tupOf ?_
    walk_at "py"
    exact hk _ _ (hc.el _ u.toNat d (by rw [List.getElem?_set_self (by rw [e0]; omega)]) hd)
  · refine ws_seq (ws_if (wt_split false ?_ (fun h => by cases h) (fun _ => ws_next ?_)))
    · walk_at "py"
      rfl
    refine ws_seq (ws_if (wt_split false ?_ (fun h => by cases h) (fun _ => ws_next ?_)))
    · walk_at "py"
      rfl
    refine ws_seq (ws_if (wt_split false ?_ (fun h => by cases h) (fun _ => ws_next ?_)))
    · walk_at "py"
      rfl
    refine ws_seq (ws_if (wt_split false ?_ (fun h => by cases h) (fun _ => ws_next ?_)))
    · walk_at "py"
      rfl
    refine ws_cut (fun ρ' => ∃ (l : Addr) (d : PyData), d = .int 0 ∧ ρ' = [.val (.r (.ref p)), .val (.d (.tuple ((ns ++ [m]).map .int))), .val (.d (.int 5)), .val (.d (.int u)), .own l (((ns ++ [m]).map PyData.int).set ns.length d), .un, .un, .un]) ?_ ?_
    · refine ws_if (wt_split true ?_ (fun _ => ?_) (fun h => by cases h))
      · walk_at "py"
        rfl
      refine ws_setOwn (i := 4) rfl ?_
      walk_at "py"
      refine ⟨_, rfl, ?_⟩
      walk_at "py"
      exact ⟨_, _, rfl, li, l, _, rfl, rfl⟩
    rintro _ ⟨l2, d, hd, rfl⟩
    refine ws_freeze (i := 4) rfl ?_
    walk_at "py"
    refine rc_tupOf ?_
    walk_at "py"
    exact hk _ _ (lo d (.inl hd))
  · refine ws_seq (ws_if (wt_split false ?_ (fun h => by cases h) (fun _ => ws_next ?_)))
    · walk_at "py"
      rfl
    refine ws_seq (ws_if (wt_split false ?_ (fun h => by cases h) (fun _ => ws_next ?_)))
    · walk_at "py"
      rfl
    refine ws_seq (ws_if (wt_split false ?_ (fun h => by cases h) (fun _ => ws_next ?_)))
    · walk_at "py"
      rfl
    refine ws_seq (ws_if (wt_split false ?_ (fun h => by cases h) (fun _ => ws_next ?_)))
    · walk_at "py"
      rfl
    refine ws_seq (ws_if (wt_split false ?_ (fun h => by cases h) (fun _ => ws_next ?_)))
    · walk_at "py"
      rfl
    refine ws_cut (fun ρ' => ∃ (l : Addr) (d : PyData), d = .int (0 - m) ∧ ρ' = [.val (.r (.ref p)), .val (.d (.tuple ((ns ++ [m]).map .int))), .val (.d (.int 6)), .val (.d (.int u)), .own l (((ns ++ [m]).map PyData.int).set ns.length d), .un, .un, .un]) ?_ ?_
    · refine ws_if (wt_split true ?_ (fun _ => ?_) (fun h => by cases h))
      · walk_at "py"
        rfl
      refine ws_setOwn (i := 4) rfl ?_
      walk_at "py"
      refine ⟨_, _, rfl, la, rv_sub ⟨_, rfl, ?_⟩⟩
      walk_at "py"
      exact ⟨_, _, rfl, li, l, _, rfl, rfl⟩
    rintro _ ⟨l2, d, hd, rfl⟩
    refine ws_freeze (i := 4) rfl ?_
    walk_at "py"
    refine rc_tupOf ?_
    walk_at "py"
    exact hk _ _ (lo d (.inr hd))
  · refine ws_freeze (i := 4) rfl ?_
    refine ws_seq (ws_if (wt_split false ?_ (fun h => by cases h) (fun _ => ws_next ?_)))
    · walk_at "py"
      rfl
    refine ws_seq (ws_if (wt_split false ?_ (fun h => by cases h) (fun _ => ws_next ?_)))
    · walk_at "py"
      rfl
    refine ws_seq (ws_if (wt_split false ?_ (fun h => by cases h) (fun _ => ws_next ?_)))
    · walk_at "py"
      rfl
    refine ws_seq (ws_if (wt_split false ?_ (fun h => by cases h) (fun _ => ws_next ?_)))
    · walk_at "py"
      rfl
    refine ws_seq (ws_if (wt_split false ?_ (fun h => by cases h) (fun _ => ws_next ?_)))
    · walk_at "py"
      rfl
    refine ws_seq (ws_if (wt_split false ?_ (fun h => by cases h) (fun _ => ws_next ?_)))
    · walk_at "py"
      rfl
    refine ws_cut (fun ρ' => ∃ (q : Int), 2 ≤ q ∧ ρ' = [.val (.r (.ref p)), .val (.d (.tuple ((ns ++ [m]).map .int))), .val (.d (.int 7)), .val (.d (.int u)), .val (.d (.list ((ns ++ [m]).map fun z => .int (z * q)))), .val (.d (.int q)), .un, .un]) ?_ ?_
    · refine ws_if (wt_split true ?_ (fun _ => ?_) (fun h => by cases h))
      · walk_at "py"
        rfl
      refine ws_seq ?_
      walk_at "pys"
      rename_i w w0 w1
      have w1' : w < 10 ^ 9 := w1
      refine we_fresh (wf_lcL (α := Int) .int (fun z => .int (z * (2 + w))) (by decide) rfl rfl (we_var rfl ⟨ns ++ [m], rfl, by simp; omega, fun c' le z hz => ?_, ?_⟩))
      · have z1 := hn z hz
        have z2 : (2 + w).natAbs < 2 ^ 300 := by
          have : (2 : Nat) ^ 31 ≤ 2 ^ 300 := Nat.pow_le_pow_right (by decide) (by decide)
          have : (2 + w).natAbs < 2 ^ 31 := by omega
          omega
        walk_at "py"
        rfl
      · exact ⟨2 + w, by omega, rfl⟩
    rintro _ ⟨q, q0, rfl⟩
    walk_at "py"
    refine rc_tupOf ?_
    walk_at "py"
    exact hk _ _ (hc.mul (ns ++ [m]) q q0)
  · refine ws_freeze (i := 4) rfl ?_
    refine ws_seq (ws_if (wt_split false ?_ (fun h => by cases h) (fun _ => ws_next ?_)))
    · walk_at "py"
      rfl
    refine ws_seq (ws_if (wt_split false ?_ (fun h => by cases h) (fun _ => ws_next ?_)))
    · walk_at "py"
      rfl
    refine ws_seq (ws_if (wt_split false ?_ (fun h => by cases h) (fun _ => ws_next ?_)))
    · walk_at "py"
      rfl
    refine ws_seq (ws_if (wt_split false ?_ (fun h => by cases h) (fun _ => ws_next ?_)))
    · walk_at "py"
      rfl
    refine ws_seq (ws_if (wt_split false ?_ (fun h => by cases h) (fun _ => ws_next ?_)))
    · walk_at "py"
      rfl
    refine ws_seq (ws_if (wt_split false ?_ (fun h => by cases h) (fun _ => ws_next ?_)))
    · walk_at "py"
      rfl
    refine ws_seq (ws_if (wt_split false ?_ (fun h => by cases h) (fun _ => ws_next ?_)))
    · walk_at "py"
      rfl
    refine ws_seq (ws_if (wt_split true ?_ (fun _ => ?_) (fun h => by cases h)))
    · walk_at "py"
      rfl
    refine ws_cut (fun ρ' => ρ' = [.val (.r (.ref p)), .val (.d (.tuple ((ns ++ [m]).map .int))), .val (.d (.int 8)), .val (.d (.int u)), .val (.d (.list ((ns ++ [m]).map .int))), .un, .un, .val (.d (.list (someD.take 14)))]) ?_ ?_
    · walk_at "py"
      refine we_dicN ?_
      walk_at "py"
      refine we_dicC [(.inr "a", .int 1)] (by decide) ?_
      walk_at "py"
      refine we_dicC [(.inl 0, .int 1), (.inl 1, .int 2)] (by decide) ?_
      walk_at "py"
      rfl
    rintro _ rfl
    refine ws_cut (fun ρ' => ρ' = [.val (.r (.ref p)), .val (.d (.tuple ((ns ++ [m]).map .int))), .val (.d (.int 8)), .val (.d (.int u)), .val (.d (.list ((ns ++ [m]).map .int))), .un, .un, .val (.d (.list someD))]) ?_ ?_
    · refine ws_asg (we_fresh (wf_cat (we_var rfl ⟨_, rfl, wf_lst ?_⟩)))
      refine wa_cons (we_dicC [(.inl 0, .int 1), (.inl 1, .int 2), (.inl 2, .int 3)] (by decide) ?_)
      walk_at "py"
      exact ⟨by decide, rfl⟩
    rintro _ rfl
    walk_at "py"
    rename_i w w0 w1
    obtain ⟨d, hd⟩ : ∃ d, atI someD w = some d := by
      obtain ⟨d, h, _⟩ := atI_any (l := someD) (v := w) (by show -21 ≤ w; omega) (by show w < 21; omega)
      exact ⟨d, h⟩
    refine rv_ixL hd ?_
    walk_at "py"
    exact hk _ _ (some_no hc (by omega) hd)
  · refine ws_freeze (i := 4) rfl ?_
    walk_at "py"
    refine rc_tupOf ?_
    walk_at "py"
    exact hk _ _ hg

abbrev s_law : Stmt := top 40
theorem sc_law : FnScope ["_law_script", "_law_hand_here", "_law_k", "_law_good", "_law_thing", "_law_due", "_law_some", "_law_which"] ["_law_script"] (defScope s_law) := ⟨rfl, rfl, rfl, by decide +kernel, rfl, by decide +kernel, by decide +kernel⟩
theorem ok_law (T : Txt K mg AA) (d__law_hand : Def P w K mg base "_law_hand" ["_law_script"] CX0 1 (spHand K)) (d__law_lowest : Def P w K mg base "_law_lowest" ["_law_top", "_law_bottom"] CX0 2 (spD K (p__law_lowest K))) (d__law_spoilt : Def P w K mg base "_law_spoilt" ["_law_hand_here", "_law_good"] CX0 4 (spD K (p__law_spoilt K))) (d__law_any : Def P w K mg base "_law_any" ["_law_hand_here"] CX0 5 (spD K (p__law_any K))) (d__law_number : Def P w K mg base "_law_number" ["_law_hand_here"] CX0 4 (spD K (p__law_number K))) (d__law_draw : Def P w K mg base "_law_draw" ["_law_hand_here", "_law_many"] CX0 3 (spD K (p_draw K))) (d__law_apart : Def P w K mg base "_law_apart" ["_law_which", "_law_some"] CX0 5 (spD K (p__law_apart K))) (d__law_told : Def P w K mg base "_law_told" ["_law_told_here", "_law_due"] CX0 1 (spD K (p__law_told K))) (d_is_fraction : Def P w K mg base "is_fraction" ["thing"] CX0 2 (spD K (p_is_fraction K))) (d_is_point : Def P w K mg base "is_point" ["thing"] CX0 2 (spD K (p_is_point K))) (f : Addr) (fd : FuncData) (F : Fun K "law" "law" s_law f fd) : FnOk P w K mg base CX0 6 f fd ["_law_script"] (spLaw K) := by
  refine F.ok sc_law (fun vs H Q E h => ?_) (fun cdv A outer s H vs Q E hr h => ?_)
  · obtain ⟨a, ns, rfl, _⟩ := h
    rfl
  refine ⟨_, (pss_cons (ps_set (i := 1) sc_law.nd rfl (Or.inl rfl) (pe_D0 d__law_hand (by decide) hr pass0 (pa_cons (pv 0) pa_nil)))
      (pss_cons (ps_for PassesOwn.never rfl (pi_range1 (by rfl) T.b_range (pa_cons (pe_op (op_adds K) pe_int (pe_D0 d__law_draw (by decide) hr pass0 (pa_cons (pv 1) (pa_cons pe_int pa_nil)))) pa_nil)) (pg_name (i := 2) sc_law.nd rfl (Or.inl rfl)) (pss_cons (ps_set (i := 3) sc_law.nd rfl (Or.inl rfl) (pe_D0 d__law_lowest (by decide) hr pass0 (pa_cons (pe_D0 d__law_number (by decide) hr pass0 (pa_cons (pv 1) pa_nil)) (pa_cons (pe_op (op_adds K) pe_int (pe_D0 d__law_draw (by decide) hr pass0 (pa_cons (pv 1) (pa_cons (pe_ix (ix_s K) (pe_lst (pa_cons pe_int (pa_cons pe_int (pa_cons (pe_op op_powX pe_int pe_int) pa_nil)))) (pe_D0 d__law_draw (by decide) hr pass0 (pa_cons (pv 1) (pa_cons pe_int pa_nil))) (fun _ _ => rfl)) pa_nil)))) pa_nil))))
      (pss_cons (ps_asg (pe_D0 d__law_spoilt (by decide) hr pass0 (pa_cons (pv 1) (pa_cons (pv 3) pa_nil))) (pg_tups K rfl (pgs_cons (pg_name (i := 4) sc_law.nd rfl (Or.inl rfl)) (pgs_cons (pg_name (i := 5) sc_law.nd rfl (Or.inl rfl)) pgs_nil))))
      (pss_cons (ps_if (PW.pt (pw_or (pt_not (pt_tru K (pe_D0 d__law_told (by decide) hr pass0 (pa_cons (pe_D0 d_is_fraction (by decide) hr pass0 (pa_cons (pv 3) pa_nil)) (pa_cons pe_bl pa_nil))) (by intro _; rfl))) (pw_or1 (pt_not (pt_tru K (pe_D0 d__law_told (by decide) hr pass0 (pa_cons (pe_D0 d_is_fraction (by decide) hr pass0 (pa_cons (pv 4) pa_nil)) (pa_cons (pv 5) pa_nil))) (by intro _; rfl)))))) (pss_one (ps_ret pe_bl)) pss_nil)
      (pss_cons (ps_set (i := 3) sc_law.nd rfl (Or.inl rfl) (pe_D0 d__law_any (by decide) hr pass0 (pa_cons (pv 1) pa_nil)))
      (pss_cons (ps_asg (pe_D0 d__law_spoilt (by decide) hr pass0 (pa_cons (pv 1) (pa_cons (pv 3) pa_nil))) (pg_tups K rfl (pgs_cons (pg_name (i := 4) sc_law.nd rfl (Or.inl rfl)) (pgs_cons (pg_name (i := 5) sc_law.nd rfl (Or.inl rfl)) pgs_nil))))
      (pss_one (ps_if (PW.pt (pw_or (pt_not (pt_tru K (pe_D0 d__law_told (by decide) hr pass0 (pa_cons (pe_D0 d_is_point (by decide) hr pass0 (pa_cons (pv 3) pa_nil)) (pa_cons pe_bl pa_nil))) (by intro _; rfl))) (pw_or1 (pt_not (pt_tru K (pe_D0 d__law_told (by decide) hr pass0 (pa_cons (pe_D0 d_is_point (by decide) hr pass0 (pa_cons (pv 4) pa_nil)) (pa_cons (pv 5) pa_nil))) (by intro _; rfl)))))) (pss_one (ps_ret pe_bl)) pss_nil))))))))
      (pss_cons (ps_set (i := 6) sc_law.nd rfl (Or.inr rfl) (pe_lst (pa_cons (pe_D0 d__law_number (by decide) hr pass0 (pa_cons (pv 1) pa_nil)) (pa_cons (pe_D0 d__law_number (by decide) hr pass0 (pa_cons (pv 1) pa_nil)) pa_nil))))
      (pss_one (ps_ret (pe_callB (cr_alls K rfl) (by rfl) T.b_all (by decide +kernel) (pa_cons (pe_lc (own := [("_law_which", 7)]) (g := gName 7) (tt := tYes) rfl sc_law.nd (pi_range1 (by rfl) T.b_range (pa_cons pe_int pa_nil)) (blkOk_by (own := [("_law_which", 7)]) (N := ["_law_script", "_law_hand_here", "_law_k", "_law_good", "_law_thing", "_law_due", "_law_some", "_law_which"]) (sc := defScope s_law) (by decide +kernel)) (fun _ _ _ _ _ => (pg_name (i := 7) sc_law.nd rfl (Or.inl rfl))) (fun _ _ _ _ _ => pts_nil) (fun _ _ _ _ _ => (pe_D0 d__law_apart (by decide) hr pass0 (pa_cons (pv 7) (pa_cons (pv 6) pa_nil))))) pa_nil))))))), ?_⟩
  obtain ⟨a, ns, rfl, hS, hlen, k⟩ := h
  refine law_start (K := K) (a := a) (n := 6) hS k fun c p HI => ?_
  have isFr_frD : ∀ r : Rat, isFr (frD r) = true := fun r => by
    show (decide (1 ≤ (r.den : Int)) && decide (Int.gcd r.num r.den = 1)) = true
    rw [decide_eq_true (by have := r.den_pos; omega), decide_eq_true (by exact r.reduced)]; rfl
  have big : ∀ n : Int, n < 2 ^ 300 → n < 2 ^ 2000 := fun n h => Int.lt_trans h (by decide)
  refine ws_cut (fun ρ' => ∃ s2 s3 s4 s5, ρ' = [.un, .val (.r (.ref p)), s2, s3, s4, s5, .un, .un] ∧ isOwn s2 = false ∧ isOwn s3 = false ∧ isOwn s4 = false ∧ isOwn s5 = false) ?_ ?_
  · refine ws_forR1 [2] ?_
    walk_at "py"
    rename_i v v0 v1
    refine ⟨_, rfl, by omega, by omega, fun _ ρ' => ∃ s2 s3 s4 s5, ρ' = [.un, .val (.r (.ref p)), s2, s3, s4, s5, .un, .un] ∧ isOwn s2 = false ∧ isOwn s3 = false ∧ isOwn s4 = false ∧ isOwn s5 = false, ⟨_, _, _, _, rfl, rfl, rfl, rfl, rfl⟩, ?_, ?_⟩
    · rintro i ρ' hi ⟨s2, s3, s4, s5, rfl, h2, h3, h4, h5⟩
      refine wg_name (by show some (isOwn s2) = _; rw [h2]) ?_
      refine ws_cut (fun ρ' => ∃ r : Rat, r.num.natAbs < 2 ^ 300 ∧ r.den < 2 ^ 300 ∧ ρ' = [.un, .val (.r (.ref p)), .val (.d (.int i)), .val (.d (frD r)), s4, s5, .un, .un]) ?_ ?_
      · walk_at "py"
        rename_i t ht u u0 u1
        obtain ⟨s, e, s0, s1⟩ : ∃ s : Int, atI [PyData.int 2, .int 1000, .int (10 ^ (60 : Int).toNat)] u = some (.int s) ∧ 1 ≤ s ∧ s ≤ 10 ^ 60 := by
          have : u = 0 ∨ u = 1 ∨ u = 2 := by omega
          rcases this with rfl | rfl | rfl
          · exact ⟨2, rfl, by decide, by decide⟩
          · exact ⟨1000, rfl, by decide, by decide⟩
          · exact ⟨10 ^ 60, rfl, by decide, by decide⟩
        refine rv_ixL e ?_
        walk_at "py"
        · omega
        · rename_i w w0 w1
          exact gcd_log (n := 300) (by omega) (by omega) (by decide) (by decide)
        · rename_i w w0 w1
          have q := divInt_num_le (t := t) (b := 1 + w) (by omega)
          exact ⟨_, by omega, by omega, rfl⟩
      rintro _ ⟨r, r0, r1, rfl⟩
      refine ws_seq (ws_asgG (js := [4, 5]) (we_call (wa_cons (we_var rfl (wa_cons (we_var rfl (wa_nil (call__law_spoilt (ns := [r.num]) (m := r.den) isFr HI chk_fr (.inl rfl) (by have := r.den_pos; omega) ?_ (isFr_frD r) fun d b hd => ?_))))))))
      · intro z hz
        rcases List.mem_append.mp hz with h | h
        · rw [List.mem_singleton] at h; subst h; exact r0
        · rw [List.mem_singleton] at h; subst h; omega
      refine wg_tup rfl (wgs_cons (js := [4]) (wg_name (by show some (isOwn s4) = _; rw [h4]) (wgs_cons (js := [5]) (wg_name (by show some (isOwn s5) = _; rw [h5]) (wgs_nil ?_)))))
      refine ws_cut (fun ρ' => ρ' = [.un, .val (.r (.ref p)), .val (.d (.int i)), .val (.d (frD r)), .val (.d d), .val (.d (.bool b)), .un, .un]) ?_ ?_
      · refine ws_if (wt_split false ?_ (fun h => by cases h) (fun _ => ws_next rfl))
        walk_at "py"
        all_goals first
          | exact (by rw [hd]; simp)
          | (rename_i z; rw [isFr_frD] at z; cases z; done)
      rintro _ rfl
      refine ws_cut (fun ρ' => ∃ q : Pt, anyP q ∧ ρ' = [.un, .val (.r (.ref p)), .val (.d (.int i)), .val (.d (ptD q)), .val (.d d), .val (.d (.bool b)), .un, .un]) ?_ ?_
      · walk_at "py"
        rename_i q hq
        exact ⟨q, hq, rfl⟩
      rintro _ ⟨q, hq, rfl⟩
      refine ws_seq (ws_asgG (js := [4, 5]) (we_call (wa_cons (we_var rfl (wa_cons (we_var rfl (wa_nil (call__law_spoilt (ns := [q.a, q.b]) (m := q.c) isPt HI chk_pt (.inr rfl) (by have := q.pos; omega) ?_ (isPt_ptD q) fun d b hd => ?_))))))))
      · intro z hz
        have h1 := hq.s.a
        have h2 := hq.s.b
        have h3 := hq.c
        have e1 : (2 : Nat) ^ 201 ≤ 2 ^ 300 := by decide
        have e2 : (2 : Nat) ^ 61 ≤ 2 ^ 300 := by decide
        have : z = q.a ∨ z = q.b ∨ z = q.c := by simpa using hz
        rcases this with rfl | rfl | rfl <;> omega
      refine wg_tup rfl (wgs_cons (js := [4]) (wg_name rfl (wgs_cons (js := [5]) (wg_name rfl (wgs_nil ?_)))))
      refine ws_if (wt_split false ?_ (fun h => by cases h) (fun _ => ws_next ⟨_, _, _, _, rfl, rfl, rfl, rfl, rfl⟩))
      walk_at "py"
      all_goals first
        | exact (by rw [hd]; simp)
        | (rename_i z; rw [isPt_ptD] at z; cases z; done)
    · rintro ρ' h
      exact h
  rintro _ ⟨s2, s3, s4, s5, rfl, h2, h3, h4, h5⟩
  walk_at "py"
  rename_i a0 ha0 b0 hb0
  refine we_fresh (wf_lcR [7] (by decide) rfl ?_)
  walk_at "py"
  refine ⟨17, rfl, by decide, by decide, fun i acc => acc = List.replicate i (.bool true), rfl, fun c' le i acc hi _ hp => ?_, fun acc _ hp => ?_⟩
  · refine wg_name rfl (wt_yes ⟨fun _ => ?_, fun q => Bool.noConfusion q⟩)
    walk_at "py"
    · exact Int.natCast_nonneg _
    · omega
    · show acc ++ _ = List.replicate (i + 1) _
      rw [show acc = _ from hp, List.replicate_succ']
  · walk_at "py"
    have e : acc = (List.replicate 17 true).map PyData.bool := hp
    rw [e]
    exact rc_all rfl

end
end My
namespace My
open PySem hiding start
open L2 Py PySem.Spec PyProof.Rows
open Evl (Ex)
theorem all_mk {l : PySem.W.OpenLaw} {w : World} {K : PySem.W.Frag} {h : Heap} {mg : Str → Option Value} {fa : Addr} {C_PlyError C_NoNumber C_NoPoint C_BadLayer C_BadPlan C_NoFace C_Endless C_NoGround C_NoName C_Taken C_NoLayer C_TooMany C_BadWish C_NoSize C_NoText C_NoRow : Addr}  (X : K.In h) (G : h.Ns mainGlobals mg) (hfa : mg "law" = some (.ref fa))
    (F_is_whole : FnFacts K "is_whole" s_is_whole)
    (F_divisor_of : FnFacts K "divisor_of" s_divisor_of)
    (F_fraction : FnFacts K "fraction" s_fraction)
    (F_is_fraction : FnFacts K "is_fraction" s_is_fraction)
    (F_point_by : FnFacts K "point_by" s_point_by)
    (F_is_point : FnFacts K "is_point" s_is_point)
    (F__law_hand : FnFacts K "_law_hand" s__law_hand)
    (F__law_next : FnFacts K "_law_next" s__law_next)
    (F__law_take : FnFacts K "_law_take" s__law_take)
    (F__law_draw : FnFacts K "_law_draw" s__law_draw)
    (F__law_divisor : FnFacts K "_law_divisor" s__law_divisor)
    (F__law_lowest : FnFacts K "_law_lowest" s__law_lowest)
    (F__law_point : FnFacts K "_law_point" s__law_point)
    (F__law_number : FnFacts K "_law_number" s__law_number)
    (F__law_any : FnFacts K "_law_any" s__law_any)
    (F__law_spoilt : FnFacts K "_law_spoilt" s__law_spoilt)
    (F__law_told : FnFacts K "_law_told" s__law_told)
    (F__law_raised : FnFacts K "_law_raised" s__law_raised)
    (F__law_sorts : FnFacts K "_law_sorts" s__law_sorts)
    (F__law_apart : FnFacts K "_law_apart" s__law_apart)
    (F_law : FnFacts K "law" s_law)
    (g_PlyError : PySem.W.nsIn K mainGlobals "PlyError" = some (some (.ref C_PlyError)))
    (g_NoNumber : PySem.W.nsIn K mainGlobals "NoNumber" = some (some (.ref C_NoNumber)))
    (g_NoPoint : PySem.W.nsIn K mainGlobals "NoPoint" = some (some (.ref C_NoPoint)))
    (g_BadLayer : PySem.W.nsIn K mainGlobals "BadLayer" = some (some (.ref C_BadLayer)))
    (g_BadPlan : PySem.W.nsIn K mainGlobals "BadPlan" = some (some (.ref C_BadPlan)))
    (g_NoFace : PySem.W.nsIn K mainGlobals "NoFace" = some (some (.ref C_NoFace)))
    (g_Endless : PySem.W.nsIn K mainGlobals "Endless" = some (some (.ref C_Endless)))
    (g_NoGround : PySem.W.nsIn K mainGlobals "NoGround" = some (some (.ref C_NoGround)))
    (g_NoName : PySem.W.nsIn K mainGlobals "NoName" = some (some (.ref C_NoName)))
    (g_Taken : PySem.W.nsIn K mainGlobals "Taken" = some (some (.ref C_Taken)))
    (g_NoLayer : PySem.W.nsIn K mainGlobals "NoLayer" = some (some (.ref C_NoLayer)))
    (g_TooMany : PySem.W.nsIn K mainGlobals "TooMany" = some (some (.ref C_TooMany)))
    (g_BadWish : PySem.W.nsIn K mainGlobals "BadWish" = some (some (.ref C_BadWish)))
    (g_NoSize : PySem.W.nsIn K mainGlobals "NoSize" = some (some (.ref C_NoSize)))
    (g_NoText : PySem.W.nsIn K mainGlobals "NoText" = some (some (.ref C_NoText)))
    (g_NoRow : PySem.W.nsIn K mainGlobals "NoRow" = some (some (.ref C_NoRow)))
    (b_ValueError : PySem.W.nsIn K mainGlobals "ValueError" = some none)
    (b_abs : PySem.W.nsIn K mainGlobals "abs" = some none)
    (b_all : PySem.W.nsIn K mainGlobals "all" = some none)
    (b_bool : PySem.W.nsIn K mainGlobals "bool" = some none)
    (b_int : PySem.W.nsIn K mainGlobals "int" = some none)
    (b_isinstance : PySem.W.nsIn K mainGlobals "isinstance" = some none)
    (b_len : PySem.W.nsIn K mainGlobals "len" = some none)
    (b_list : PySem.W.nsIn K mainGlobals "list" = some none)
    (b_range : PySem.W.nsIn K mainGlobals "range" = some none)
    (b_tuple : PySem.W.nsIn K mainGlobals "tuple" = some none)
    (x_NoNumber : PySem.W.excIn K C_NoNumber [.type "ValueError", .type "Exception", .type "BaseException", .type "object"] "ValueError.__new__" = true)
    (kp_NoNumber : PySem.W.keepIn K (.ref C_NoNumber) = true)
    (eb_NoNumber : PySem.W.subIn K (.ref C_NoNumber) (.type "BaseException") = some true)
    (et_NoNumber : PySem.W.typeIn K (.ref C_NoNumber) = some (.type "type"))
    (x_NoPoint : PySem.W.excIn K C_NoPoint [.type "ValueError", .type "Exception", .type "BaseException", .type "object"] "ValueError.__new__" = true)
    (kp_NoPoint : PySem.W.keepIn K (.ref C_NoPoint) = true)
    (eb_NoPoint : PySem.W.subIn K (.ref C_NoPoint) (.type "BaseException") = some true)
    (et_NoPoint : PySem.W.typeIn K (.ref C_NoPoint) = some (.type "type"))
    (x_BadPlan : PySem.W.excIn K C_BadPlan [.type "ValueError", .type "Exception", .type "BaseException", .type "object"] "ValueError.__new__" = true)
    (kp_BadPlan : PySem.W.keepIn K (.ref C_BadPlan) = true)
    (eb_BadPlan : PySem.W.subIn K (.ref C_BadPlan) (.type "BaseException") = some true)
    (et_BadPlan : PySem.W.typeIn K (.ref C_BadPlan) = some (.type "type"))
    (x_Endless : PySem.W.excIn K C_Endless [.type "ValueError", .type "Exception", .type "BaseException", .type "object"] "ValueError.__new__" = true)
    (kp_Endless : PySem.W.keepIn K (.ref C_Endless) = true)
    (eb_Endless : PySem.W.subIn K (.ref C_Endless) (.type "BaseException") = some true)
    (et_Endless : PySem.W.typeIn K (.ref C_Endless) = some (.type "type"))
    (x_NoName : PySem.W.excIn K C_NoName [.type "ValueError", .type "Exception", .type "BaseException", .type "object"] "ValueError.__new__" = true)
    (kp_NoName : PySem.W.keepIn K (.ref C_NoName) = true)
    (eb_NoName : PySem.W.subIn K (.ref C_NoName) (.type "BaseException") = some true)
    (et_NoName : PySem.W.typeIn K (.ref C_NoName) = some (.type "type"))
    (x_BadWish : PySem.W.excIn K C_BadWish [.type "ValueError", .type "Exception", .type "BaseException", .type "object"] "ValueError.__new__" = true)
    (kp_BadWish : PySem.W.keepIn K (.ref C_BadWish) = true)
    (eb_BadWish : PySem.W.subIn K (.ref C_BadWish) (.type "BaseException") = some true)
    (et_BadWish : PySem.W.typeIn K (.ref C_BadWish) = some (.type "type"))
    (x_NoSize : PySem.W.excIn K C_NoSize [.type "ValueError", .type "Exception", .type "BaseException", .type "object"] "ValueError.__new__" = true)
    (kp_NoSize : PySem.W.keepIn K (.ref C_NoSize) = true)
    (eb_NoSize : PySem.W.subIn K (.ref C_NoSize) (.type "BaseException") = some true)
    (et_NoSize : PySem.W.typeIn K (.ref C_NoSize) = some (.type "type"))
    (x_NoText : PySem.W.excIn K C_NoText [.type "ValueError", .type "Exception", .type "BaseException", .type "object"] "ValueError.__new__" = true)
    (kp_NoText : PySem.W.keepIn K (.ref C_NoText) = true)
    (eb_NoText : PySem.W.subIn K (.ref C_NoText) (.type "BaseException") = some true)
    (et_NoText : PySem.W.typeIn K (.ref C_NoText) = some (.type "type"))
    (x_NoRow : PySem.W.excIn K C_NoRow [.type "ValueError", .type "Exception", .type "BaseException", .type "object"] "ValueError.__new__" = true)
    (kp_NoRow : PySem.W.keepIn K (.ref C_NoRow) = true)
    (eb_NoRow : PySem.W.subIn K (.ref C_NoRow) (.type "BaseException") = some true)
    (et_NoRow : PySem.W.typeIn K (.ref C_NoRow) = some (.type "type"))
    (e_NoNumber_hg : PySem.W.findIn K (.ref C_NoNumber) "__getattribute__" = some (some (.builtin "BaseException.__getattribute__")))
    (e_NoNumber_hk : PySem.W.findIn K (.ref C_NoNumber) "__getattr__" = some none)
    (e_NoNumber_ha : PySem.W.findIn K (.ref C_NoNumber) "__class__" = some (some (.builtin "object.__class__")))
    (e_NoNumber_hm : PySem.W.mroIn K C_NoNumber (.type "object") = some true)
    (e_NoNumber_hd : PySem.W.hasDictIn K C_NoNumber = true)
    (e_NoNumber_sp : PySem.W.subIn K (.ref C_NoNumber) (.ref C_PlyError) = some true)
    (e_NoNumber_kv : PySem.W.kitOne K (.ref C_NoNumber) (.type "ValueError") = some true)
    (e_NoNumber_kNoNumber : PySem.W.kitOne K (.ref C_NoNumber) (.ref C_NoNumber) = some true)
    (e_NoNumber_kNoPoint : PySem.W.kitOne K (.ref C_NoNumber) (.ref C_NoPoint) = some false)
    (e_NoNumber_kBadLayer : PySem.W.kitOne K (.ref C_NoNumber) (.ref C_BadLayer) = some false)
    (e_NoNumber_kBadPlan : PySem.W.kitOne K (.ref C_NoNumber) (.ref C_BadPlan) = some false)
    (e_NoNumber_kNoFace : PySem.W.kitOne K (.ref C_NoNumber) (.ref C_NoFace) = some false)
    (e_NoNumber_kEndless : PySem.W.kitOne K (.ref C_NoNumber) (.ref C_Endless) = some false)
    (e_NoNumber_kNoGround : PySem.W.kitOne K (.ref C_NoNumber) (.ref C_NoGround) = some false)
    (e_NoNumber_kNoName : PySem.W.kitOne K (.ref C_NoNumber) (.ref C_NoName) = some false)
    (e_NoNumber_kTaken : PySem.W.kitOne K (.ref C_NoNumber) (.ref C_Taken) = some false)
    (e_NoNumber_kNoLayer : PySem.W.kitOne K (.ref C_NoNumber) (.ref C_NoLayer) = some false)
    (e_NoNumber_kTooMany : PySem.W.kitOne K (.ref C_NoNumber) (.ref C_TooMany) = some false)
    (e_NoNumber_kBadWish : PySem.W.kitOne K (.ref C_NoNumber) (.ref C_BadWish) = some false)
    (e_NoNumber_kNoSize : PySem.W.kitOne K (.ref C_NoNumber) (.ref C_NoSize) = some false)
    (e_NoNumber_kNoText : PySem.W.kitOne K (.ref C_NoNumber) (.ref C_NoText) = some false)
    (e_NoNumber_kNoRow : PySem.W.kitOne K (.ref C_NoNumber) (.ref C_NoRow) = some false)
    (e_NoPoint_hg : PySem.W.findIn K (.ref C_NoPoint) "__getattribute__" = some (some (.builtin "BaseException.__getattribute__")))
    (e_NoPoint_hk : PySem.W.findIn K (.ref C_NoPoint) "__getattr__" = some none)
    (e_NoPoint_ha : PySem.W.findIn K (.ref C_NoPoint) "__class__" = some (some (.builtin "object.__class__")))
    (e_NoPoint_hm : PySem.W.mroIn K C_NoPoint (.type "object") = some true)
    (e_NoPoint_hd : PySem.W.hasDictIn K C_NoPoint = true)
    (e_NoPoint_sp : PySem.W.subIn K (.ref C_NoPoint) (.ref C_PlyError) = some true)
    (e_NoPoint_kv : PySem.W.kitOne K (.ref C_NoPoint) (.type "ValueError") = some true)
    (e_NoPoint_kNoNumber : PySem.W.kitOne K (.ref C_NoPoint) (.ref C_NoNumber) = some false)
    (e_NoPoint_kNoPoint : PySem.W.kitOne K (.ref C_NoPoint) (.ref C_NoPoint) = some true)
    (e_NoPoint_kBadLayer : PySem.W.kitOne K (.ref C_NoPoint) (.ref C_BadLayer) = some false)
    (e_NoPoint_kBadPlan : PySem.W.kitOne K (.ref C_NoPoint) (.ref C_BadPlan) = some false)
    (e_NoPoint_kNoFace : PySem.W.kitOne K (.ref C_NoPoint) (.ref C_NoFace) = some false)
    (e_NoPoint_kEndless : PySem.W.kitOne K (.ref C_NoPoint) (.ref C_Endless) = some false)
    (e_NoPoint_kNoGround : PySem.W.kitOne K (.ref C_NoPoint) (.ref C_NoGround) = some false)
    (e_NoPoint_kNoName : PySem.W.kitOne K (.ref C_NoPoint) (.ref C_NoName) = some false)
    (e_NoPoint_kTaken : PySem.W.kitOne K (.ref C_NoPoint) (.ref C_Taken) = some false)
    (e_NoPoint_kNoLayer : PySem.W.kitOne K (.ref C_NoPoint) (.ref C_NoLayer) = some false)
    (e_NoPoint_kTooMany : PySem.W.kitOne K (.ref C_NoPoint) (.ref C_TooMany) = some false)
    (e_NoPoint_kBadWish : PySem.W.kitOne K (.ref C_NoPoint) (.ref C_BadWish) = some false)
    (e_NoPoint_kNoSize : PySem.W.kitOne K (.ref C_NoPoint) (.ref C_NoSize) = some false)
    (e_NoPoint_kNoText : PySem.W.kitOne K (.ref C_NoPoint) (.ref C_NoText) = some false)
    (e_NoPoint_kNoRow : PySem.W.kitOne K (.ref C_NoPoint) (.ref C_NoRow) = some false)
    (e_BadLayer_hg : PySem.W.findIn K (.ref C_BadLayer) "__getattribute__" = some (some (.builtin "BaseException.__getattribute__")))
    (e_BadLayer_hk : PySem.W.findIn K (.ref C_BadLayer) "__getattr__" = some none)
    (e_BadLayer_ha : PySem.W.findIn K (.ref C_BadLayer) "__class__" = some (some (.builtin "object.__class__")))
    (e_BadLayer_hm : PySem.W.mroIn K C_BadLayer (.type "object") = some true)
    (e_BadLayer_hd : PySem.W.hasDictIn K C_BadLayer = true)
    (e_BadLayer_sp : PySem.W.subIn K (.ref C_BadLayer) (.ref C_PlyError) = some true)
    (e_BadLayer_kv : PySem.W.kitOne K (.ref C_BadLayer) (.type "ValueError") = some true)
    (e_BadLayer_kNoNumber : PySem.W.kitOne K (.ref C_BadLayer) (.ref C_NoNumber) = some false)
    (e_BadLayer_kNoPoint : PySem.W.kitOne K (.ref C_BadLayer) (.ref C_NoPoint) = some false)
    (e_BadLayer_kBadLayer : PySem.W.kitOne K (.ref C_BadLayer) (.ref C_BadLayer) = some true)
    (e_BadLayer_kBadPlan : PySem.W.kitOne K (.ref C_BadLayer) (.ref C_BadPlan) = some false)
    (e_BadLayer_kNoFace : PySem.W.kitOne K (.ref C_BadLayer) (.ref C_NoFace) = some false)
    (e_BadLayer_kEndless : PySem.W.kitOne K (.ref C_BadLayer) (.ref C_Endless) = some false)
    (e_BadLayer_kNoGround : PySem.W.kitOne K (.ref C_BadLayer) (.ref C_NoGround) = some false)
    (e_BadLayer_kNoName : PySem.W.kitOne K (.ref C_BadLayer) (.ref C_NoName) = some false)
    (e_BadLayer_kTaken : PySem.W.kitOne K (.ref C_BadLayer) (.ref C_Taken) = some false)
    (e_BadLayer_kNoLayer : PySem.W.kitOne K (.ref C_BadLayer) (.ref C_NoLayer) = some false)
    (e_BadLayer_kTooMany : PySem.W.kitOne K (.ref C_BadLayer) (.ref C_TooMany) = some false)
    (e_BadLayer_kBadWish : PySem.W.kitOne K (.ref C_BadLayer) (.ref C_BadWish) = some false)
    (e_BadLayer_kNoSize : PySem.W.kitOne K (.ref C_BadLayer) (.ref C_NoSize) = some false)
    (e_BadLayer_kNoText : PySem.W.kitOne K (.ref C_BadLayer) (.ref C_NoText) = some false)
    (e_BadLayer_kNoRow : PySem.W.kitOne K (.ref C_BadLayer) (.ref C_NoRow) = some false)
    (e_BadLayer_row : Py.OexRow K C_BadLayer)
    (e_BadLayer_sa : PySem.W.findIn K (.ref C_BadLayer) "__setattr__" = some (some (.builtin "object.__setattr__")))
    (e_BadLayer_eb : PySem.W.subIn K (.ref C_BadLayer) (.type "BaseException") = some true)
    (e_BadLayer_et : PySem.W.typeIn K (.ref C_BadLayer) = some (.type "type"))
    (e_BadLayer_kp : PySem.W.keepIn K (.ref C_BadLayer) = true)
    (e_BadLayer_in : Py.InF K C_BadLayer "BadLayer.__init__" (Py.inCls (top 4) 0))
    (e_BadLayer_nf_ring : PySem.W.findIn K (.ref C_BadLayer) "ring" = some none)
    (e_BadLayer_nf_at : PySem.W.findIn K (.ref C_BadLayer) "at" = some none)
    (e_BadPlan_hg : PySem.W.findIn K (.ref C_BadPlan) "__getattribute__" = some (some (.builtin "BaseException.__getattribute__")))
    (e_BadPlan_hk : PySem.W.findIn K (.ref C_BadPlan) "__getattr__" = some none)
    (e_BadPlan_ha : PySem.W.findIn K (.ref C_BadPlan) "__class__" = some (some (.builtin "object.__class__")))
    (e_BadPlan_hm : PySem.W.mroIn K C_BadPlan (.type "object") = some true)
    (e_BadPlan_hd : PySem.W.hasDictIn K C_BadPlan = true)
    (e_BadPlan_sp : PySem.W.subIn K (.ref C_BadPlan) (.ref C_PlyError) = some true)
    (e_BadPlan_kv : PySem.W.kitOne K (.ref C_BadPlan) (.type "ValueError") = some true)
    (e_BadPlan_kNoNumber : PySem.W.kitOne K (.ref C_BadPlan) (.ref C_NoNumber) = some false)
    (e_BadPlan_kNoPoint : PySem.W.kitOne K (.ref C_BadPlan) (.ref C_NoPoint) = some false)
    (e_BadPlan_kBadLayer : PySem.W.kitOne K (.ref C_BadPlan) (.ref C_BadLayer) = some false)
    (e_BadPlan_kBadPlan : PySem.W.kitOne K (.ref C_BadPlan) (.ref C_BadPlan) = some true)
    (e_BadPlan_kNoFace : PySem.W.kitOne K (.ref C_BadPlan) (.ref C_NoFace) = some false)
    (e_BadPlan_kEndless : PySem.W.kitOne K (.ref C_BadPlan) (.ref C_Endless) = some false)
    (e_BadPlan_kNoGround : PySem.W.kitOne K (.ref C_BadPlan) (.ref C_NoGround) = some false)
    (e_BadPlan_kNoName : PySem.W.kitOne K (.ref C_BadPlan) (.ref C_NoName) = some false)
    (e_BadPlan_kTaken : PySem.W.kitOne K (.ref C_BadPlan) (.ref C_Taken) = some false)
    (e_BadPlan_kNoLayer : PySem.W.kitOne K (.ref C_BadPlan) (.ref C_NoLayer) = some false)
    (e_BadPlan_kTooMany : PySem.W.kitOne K (.ref C_BadPlan) (.ref C_TooMany) = some false)
    (e_BadPlan_kBadWish : PySem.W.kitOne K (.ref C_BadPlan) (.ref C_BadWish) = some false)
    (e_BadPlan_kNoSize : PySem.W.kitOne K (.ref C_BadPlan) (.ref C_NoSize) = some false)
    (e_BadPlan_kNoText : PySem.W.kitOne K (.ref C_BadPlan) (.ref C_NoText) = some false)
    (e_BadPlan_kNoRow : PySem.W.kitOne K (.ref C_BadPlan) (.ref C_NoRow) = some false)
    (e_NoFace_hg : PySem.W.findIn K (.ref C_NoFace) "__getattribute__" = some (some (.builtin "BaseException.__getattribute__")))
    (e_NoFace_hk : PySem.W.findIn K (.ref C_NoFace) "__getattr__" = some none)
    (e_NoFace_ha : PySem.W.findIn K (.ref C_NoFace) "__class__" = some (some (.builtin "object.__class__")))
    (e_NoFace_hm : PySem.W.mroIn K C_NoFace (.type "object") = some true)
    (e_NoFace_hd : PySem.W.hasDictIn K C_NoFace = true)
    (e_NoFace_sp : PySem.W.subIn K (.ref C_NoFace) (.ref C_PlyError) = some true)
    (e_NoFace_kv : PySem.W.kitOne K (.ref C_NoFace) (.type "ValueError") = some true)
    (e_NoFace_kNoNumber : PySem.W.kitOne K (.ref C_NoFace) (.ref C_NoNumber) = some false)
    (e_NoFace_kNoPoint : PySem.W.kitOne K (.ref C_NoFace) (.ref C_NoPoint) = some false)
    (e_NoFace_kBadLayer : PySem.W.kitOne K (.ref C_NoFace) (.ref C_BadLayer) = some false)
    (e_NoFace_kBadPlan : PySem.W.kitOne K (.ref C_NoFace) (.ref C_BadPlan) = some false)
    (e_NoFace_kNoFace : PySem.W.kitOne K (.ref C_NoFace) (.ref C_NoFace) = some true)
    (e_NoFace_kEndless : PySem.W.kitOne K (.ref C_NoFace) (.ref C_Endless) = some false)
    (e_NoFace_kNoGround : PySem.W.kitOne K (.ref C_NoFace) (.ref C_NoGround) = some false)
    (e_NoFace_kNoName : PySem.W.kitOne K (.ref C_NoFace) (.ref C_NoName) = some false)
    (e_NoFace_kTaken : PySem.W.kitOne K (.ref C_NoFace) (.ref C_Taken) = some false)
    (e_NoFace_kNoLayer : PySem.W.kitOne K (.ref C_NoFace) (.ref C_NoLayer) = some false)
    (e_NoFace_kTooMany : PySem.W.kitOne K (.ref C_NoFace) (.ref C_TooMany) = some false)
    (e_NoFace_kBadWish : PySem.W.kitOne K (.ref C_NoFace) (.ref C_BadWish) = some false)
    (e_NoFace_kNoSize : PySem.W.kitOne K (.ref C_NoFace) (.ref C_NoSize) = some false)
    (e_NoFace_kNoText : PySem.W.kitOne K (.ref C_NoFace) (.ref C_NoText) = some false)
    (e_NoFace_kNoRow : PySem.W.kitOne K (.ref C_NoFace) (.ref C_NoRow) = some false)
    (e_NoFace_row : Py.OexRow K C_NoFace)
    (e_NoFace_sa : PySem.W.findIn K (.ref C_NoFace) "__setattr__" = some (some (.builtin "object.__setattr__")))
    (e_NoFace_eb : PySem.W.subIn K (.ref C_NoFace) (.type "BaseException") = some true)
    (e_NoFace_et : PySem.W.typeIn K (.ref C_NoFace) = some (.type "type"))
    (e_NoFace_kp : PySem.W.keepIn K (.ref C_NoFace) = true)
    (e_NoFace_in : Py.InF K C_NoFace "NoFace.__init__" (Py.inCls (top 6) 0))
    (e_NoFace_nf_number : PySem.W.findIn K (.ref C_NoFace) "number" = some none)
    (e_Endless_hg : PySem.W.findIn K (.ref C_Endless) "__getattribute__" = some (some (.builtin "BaseException.__getattribute__")))
    (e_Endless_hk : PySem.W.findIn K (.ref C_Endless) "__getattr__" = some none)
    (e_Endless_ha : PySem.W.findIn K (.ref C_Endless) "__class__" = some (some (.builtin "object.__class__")))
    (e_Endless_hm : PySem.W.mroIn K C_Endless (.type "object") = some true)
    (e_Endless_hd : PySem.W.hasDictIn K C_Endless = true)
    (e_Endless_sp : PySem.W.subIn K (.ref C_Endless) (.ref C_PlyError) = some true)
    (e_Endless_kv : PySem.W.kitOne K (.ref C_Endless) (.type "ValueError") = some true)
    (e_Endless_kNoNumber : PySem.W.kitOne K (.ref C_Endless) (.ref C_NoNumber) = some false)
    (e_Endless_kNoPoint : PySem.W.kitOne K (.ref C_Endless) (.ref C_NoPoint) = some false)
    (e_Endless_kBadLayer : PySem.W.kitOne K (.ref C_Endless) (.ref C_BadLayer) = some false)
    (e_Endless_kBadPlan : PySem.W.kitOne K (.ref C_Endless) (.ref C_BadPlan) = some false)
    (e_Endless_kNoFace : PySem.W.kitOne K (.ref C_Endless) (.ref C_NoFace) = some false)
    (e_Endless_kEndless : PySem.W.kitOne K (.ref C_Endless) (.ref C_Endless) = some true)
    (e_Endless_kNoGround : PySem.W.kitOne K (.ref C_Endless) (.ref C_NoGround) = some false)
    (e_Endless_kNoName : PySem.W.kitOne K (.ref C_Endless) (.ref C_NoName) = some false)
    (e_Endless_kTaken : PySem.W.kitOne K (.ref C_Endless) (.ref C_Taken) = some false)
    (e_Endless_kNoLayer : PySem.W.kitOne K (.ref C_Endless) (.ref C_NoLayer) = some false)
    (e_Endless_kTooMany : PySem.W.kitOne K (.ref C_Endless) (.ref C_TooMany) = some false)
    (e_Endless_kBadWish : PySem.W.kitOne K (.ref C_Endless) (.ref C_BadWish) = some false)
    (e_Endless_kNoSize : PySem.W.kitOne K (.ref C_Endless) (.ref C_NoSize) = some false)
    (e_Endless_kNoText : PySem.W.kitOne K (.ref C_Endless) (.ref C_NoText) = some false)
    (e_Endless_kNoRow : PySem.W.kitOne K (.ref C_Endless) (.ref C_NoRow) = some false)
    (e_NoGround_hg : PySem.W.findIn K (.ref C_NoGround) "__getattribute__" = some (some (.builtin "BaseException.__getattribute__")))
    (e_NoGround_hk : PySem.W.findIn K (.ref C_NoGround) "__getattr__" = some none)
    (e_NoGround_ha : PySem.W.findIn K (.ref C_NoGround) "__class__" = some (some (.builtin "object.__class__")))
    (e_NoGround_hm : PySem.W.mroIn K C_NoGround (.type "object") = some true)
    (e_NoGround_hd : PySem.W.hasDictIn K C_NoGround = true)
    (e_NoGround_sp : PySem.W.subIn K (.ref C_NoGround) (.ref C_PlyError) = some true)
    (e_NoGround_kv : PySem.W.kitOne K (.ref C_NoGround) (.type "ValueError") = some true)
    (e_NoGround_kNoNumber : PySem.W.kitOne K (.ref C_NoGround) (.ref C_NoNumber) = some false)
    (e_NoGround_kNoPoint : PySem.W.kitOne K (.ref C_NoGround) (.ref C_NoPoint) = some false)
    (e_NoGround_kBadLayer : PySem.W.kitOne K (.ref C_NoGround) (.ref C_BadLayer) = some false)
    (e_NoGround_kBadPlan : PySem.W.kitOne K (.ref C_NoGround) (.ref C_BadPlan) = some false)
    (e_NoGround_kNoFace : PySem.W.kitOne K (.ref C_NoGround) (.ref C_NoFace) = some false)
    (e_NoGround_kEndless : PySem.W.kitOne K (.ref C_NoGround) (.ref C_Endless) = some false)
    (e_NoGround_kNoGround : PySem.W.kitOne K (.ref C_NoGround) (.ref C_NoGround) = some true)
    (e_NoGround_kNoName : PySem.W.kitOne K (.ref C_NoGround) (.ref C_NoName) = some false)
    (e_NoGround_kTaken : PySem.W.kitOne K (.ref C_NoGround) (.ref C_Taken) = some false)
    (e_NoGround_kNoLayer : PySem.W.kitOne K (.ref C_NoGround) (.ref C_NoLayer) = some false)
    (e_NoGround_kTooMany : PySem.W.kitOne K (.ref C_NoGround) (.ref C_TooMany) = some false)
    (e_NoGround_kBadWish : PySem.W.kitOne K (.ref C_NoGround) (.ref C_BadWish) = some false)
    (e_NoGround_kNoSize : PySem.W.kitOne K (.ref C_NoGround) (.ref C_NoSize) = some false)
    (e_NoGround_kNoText : PySem.W.kitOne K (.ref C_NoGround) (.ref C_NoText) = some false)
    (e_NoGround_kNoRow : PySem.W.kitOne K (.ref C_NoGround) (.ref C_NoRow) = some false)
    (e_NoGround_row : Py.OexRow K C_NoGround)
    (e_NoGround_sa : PySem.W.findIn K (.ref C_NoGround) "__setattr__" = some (some (.builtin "object.__setattr__")))
    (e_NoGround_eb : PySem.W.subIn K (.ref C_NoGround) (.type "BaseException") = some true)
    (e_NoGround_et : PySem.W.typeIn K (.ref C_NoGround) = some (.type "type"))
    (e_NoGround_kp : PySem.W.keepIn K (.ref C_NoGround) = true)
    (e_NoGround_in : Py.InF K C_NoGround "NoGround.__init__" (Py.inCls (top 8) 0))
    (e_NoGround_nf_point : PySem.W.findIn K (.ref C_NoGround) "point" = some none)
    (e_NoName_hg : PySem.W.findIn K (.ref C_NoName) "__getattribute__" = some (some (.builtin "BaseException.__getattribute__")))
    (e_NoName_hk : PySem.W.findIn K (.ref C_NoName) "__getattr__" = some none)
    (e_NoName_ha : PySem.W.findIn K (.ref C_NoName) "__class__" = some (some (.builtin "object.__class__")))
    (e_NoName_hm : PySem.W.mroIn K C_NoName (.type "object") = some true)
    (e_NoName_hd : PySem.W.hasDictIn K C_NoName = true)
    (e_NoName_sp : PySem.W.subIn K (.ref C_NoName) (.ref C_PlyError) = some true)
    (e_NoName_kv : PySem.W.kitOne K (.ref C_NoName) (.type "ValueError") = some true)
    (e_NoName_kNoNumber : PySem.W.kitOne K (.ref C_NoName) (.ref C_NoNumber) = some false)
    (e_NoName_kNoPoint : PySem.W.kitOne K (.ref C_NoName) (.ref C_NoPoint) = some false)
    (e_NoName_kBadLayer : PySem.W.kitOne K (.ref C_NoName) (.ref C_BadLayer) = some false)
    (e_NoName_kBadPlan : PySem.W.kitOne K (.ref C_NoName) (.ref C_BadPlan) = some false)
    (e_NoName_kNoFace : PySem.W.kitOne K (.ref C_NoName) (.ref C_NoFace) = some false)
    (e_NoName_kEndless : PySem.W.kitOne K (.ref C_NoName) (.ref C_Endless) = some false)
    (e_NoName_kNoGround : PySem.W.kitOne K (.ref C_NoName) (.ref C_NoGround) = some false)
    (e_NoName_kNoName : PySem.W.kitOne K (.ref C_NoName) (.ref C_NoName) = some true)
    (e_NoName_kTaken : PySem.W.kitOne K (.ref C_NoName) (.ref C_Taken) = some false)
    (e_NoName_kNoLayer : PySem.W.kitOne K (.ref C_NoName) (.ref C_NoLayer) = some false)
    (e_NoName_kTooMany : PySem.W.kitOne K (.ref C_NoName) (.ref C_TooMany) = some false)
    (e_NoName_kBadWish : PySem.W.kitOne K (.ref C_NoName) (.ref C_BadWish) = some false)
    (e_NoName_kNoSize : PySem.W.kitOne K (.ref C_NoName) (.ref C_NoSize) = some false)
    (e_NoName_kNoText : PySem.W.kitOne K (.ref C_NoName) (.ref C_NoText) = some false)
    (e_NoName_kNoRow : PySem.W.kitOne K (.ref C_NoName) (.ref C_NoRow) = some false)
    (e_Taken_hg : PySem.W.findIn K (.ref C_Taken) "__getattribute__" = some (some (.builtin "BaseException.__getattribute__")))
    (e_Taken_hk : PySem.W.findIn K (.ref C_Taken) "__getattr__" = some none)
    (e_Taken_ha : PySem.W.findIn K (.ref C_Taken) "__class__" = some (some (.builtin "object.__class__")))
    (e_Taken_hm : PySem.W.mroIn K C_Taken (.type "object") = some true)
    (e_Taken_hd : PySem.W.hasDictIn K C_Taken = true)
    (e_Taken_sp : PySem.W.subIn K (.ref C_Taken) (.ref C_PlyError) = some true)
    (e_Taken_kv : PySem.W.kitOne K (.ref C_Taken) (.type "ValueError") = some true)
    (e_Taken_kNoNumber : PySem.W.kitOne K (.ref C_Taken) (.ref C_NoNumber) = some false)
    (e_Taken_kNoPoint : PySem.W.kitOne K (.ref C_Taken) (.ref C_NoPoint) = some false)
    (e_Taken_kBadLayer : PySem.W.kitOne K (.ref C_Taken) (.ref C_BadLayer) = some false)
    (e_Taken_kBadPlan : PySem.W.kitOne K (.ref C_Taken) (.ref C_BadPlan) = some false)
    (e_Taken_kNoFace : PySem.W.kitOne K (.ref C_Taken) (.ref C_NoFace) = some false)
    (e_Taken_kEndless : PySem.W.kitOne K (.ref C_Taken) (.ref C_Endless) = some false)
    (e_Taken_kNoGround : PySem.W.kitOne K (.ref C_Taken) (.ref C_NoGround) = some false)
    (e_Taken_kNoName : PySem.W.kitOne K (.ref C_Taken) (.ref C_NoName) = some false)
    (e_Taken_kTaken : PySem.W.kitOne K (.ref C_Taken) (.ref C_Taken) = some true)
    (e_Taken_kNoLayer : PySem.W.kitOne K (.ref C_Taken) (.ref C_NoLayer) = some false)
    (e_Taken_kTooMany : PySem.W.kitOne K (.ref C_Taken) (.ref C_TooMany) = some false)
    (e_Taken_kBadWish : PySem.W.kitOne K (.ref C_Taken) (.ref C_BadWish) = some false)
    (e_Taken_kNoSize : PySem.W.kitOne K (.ref C_Taken) (.ref C_NoSize) = some false)
    (e_Taken_kNoText : PySem.W.kitOne K (.ref C_Taken) (.ref C_NoText) = some false)
    (e_Taken_kNoRow : PySem.W.kitOne K (.ref C_Taken) (.ref C_NoRow) = some false)
    (e_Taken_row : Py.OexRow K C_Taken)
    (e_Taken_sa : PySem.W.findIn K (.ref C_Taken) "__setattr__" = some (some (.builtin "object.__setattr__")))
    (e_Taken_eb : PySem.W.subIn K (.ref C_Taken) (.type "BaseException") = some true)
    (e_Taken_et : PySem.W.typeIn K (.ref C_Taken) = some (.type "type"))
    (e_Taken_kp : PySem.W.keepIn K (.ref C_Taken) = true)
    (e_Taken_in : Py.InF K C_Taken "Taken.__init__" (Py.inCls (top 10) 0))
    (e_Taken_nf_name : PySem.W.findIn K (.ref C_Taken) "name" = some none)
    (e_NoLayer_hg : PySem.W.findIn K (.ref C_NoLayer) "__getattribute__" = some (some (.builtin "BaseException.__getattribute__")))
    (e_NoLayer_hk : PySem.W.findIn K (.ref C_NoLayer) "__getattr__" = some none)
    (e_NoLayer_ha : PySem.W.findIn K (.ref C_NoLayer) "__class__" = some (some (.builtin "object.__class__")))
    (e_NoLayer_hm : PySem.W.mroIn K C_NoLayer (.type "object") = some true)
    (e_NoLayer_hd : PySem.W.hasDictIn K C_NoLayer = true)
    (e_NoLayer_sp : PySem.W.subIn K (.ref C_NoLayer) (.ref C_PlyError) = some true)
    (e_NoLayer_kv : PySem.W.kitOne K (.ref C_NoLayer) (.type "ValueError") = some true)
    (e_NoLayer_kNoNumber : PySem.W.kitOne K (.ref C_NoLayer) (.ref C_NoNumber) = some false)
    (e_NoLayer_kNoPoint : PySem.W.kitOne K (.ref C_NoLayer) (.ref C_NoPoint) = some false)
    (e_NoLayer_kBadLayer : PySem.W.kitOne K (.ref C_NoLayer) (.ref C_BadLayer) = some false)
    (e_NoLayer_kBadPlan : PySem.W.kitOne K (.ref C_NoLayer) (.ref C_BadPlan) = some false)
    (e_NoLayer_kNoFace : PySem.W.kitOne K (.ref C_NoLayer) (.ref C_NoFace) = some false)
    (e_NoLayer_kEndless : PySem.W.kitOne K (.ref C_NoLayer) (.ref C_Endless) = some false)
    (e_NoLayer_kNoGround : PySem.W.kitOne K (.ref C_NoLayer) (.ref C_NoGround) = some false)
    (e_NoLayer_kNoName : PySem.W.kitOne K (.ref C_NoLayer) (.ref C_NoName) = some false)
    (e_NoLayer_kTaken : PySem.W.kitOne K (.ref C_NoLayer) (.ref C_Taken) = some false)
    (e_NoLayer_kNoLayer : PySem.W.kitOne K (.ref C_NoLayer) (.ref C_NoLayer) = some true)
    (e_NoLayer_kTooMany : PySem.W.kitOne K (.ref C_NoLayer) (.ref C_TooMany) = some false)
    (e_NoLayer_kBadWish : PySem.W.kitOne K (.ref C_NoLayer) (.ref C_BadWish) = some false)
    (e_NoLayer_kNoSize : PySem.W.kitOne K (.ref C_NoLayer) (.ref C_NoSize) = some false)
    (e_NoLayer_kNoText : PySem.W.kitOne K (.ref C_NoLayer) (.ref C_NoText) = some false)
    (e_NoLayer_kNoRow : PySem.W.kitOne K (.ref C_NoLayer) (.ref C_NoRow) = some false)
    (e_NoLayer_row : Py.OexRow K C_NoLayer)
    (e_NoLayer_sa : PySem.W.findIn K (.ref C_NoLayer) "__setattr__" = some (some (.builtin "object.__setattr__")))
    (e_NoLayer_eb : PySem.W.subIn K (.ref C_NoLayer) (.type "BaseException") = some true)
    (e_NoLayer_et : PySem.W.typeIn K (.ref C_NoLayer) = some (.type "type"))
    (e_NoLayer_kp : PySem.W.keepIn K (.ref C_NoLayer) = true)
    (e_NoLayer_in : Py.InF K C_NoLayer "NoLayer.__init__" (Py.inCls (top 11) 0))
    (e_NoLayer_nf_name : PySem.W.findIn K (.ref C_NoLayer) "name" = some none)
    (e_TooMany_hg : PySem.W.findIn K (.ref C_TooMany) "__getattribute__" = some (some (.builtin "BaseException.__getattribute__")))
    (e_TooMany_hk : PySem.W.findIn K (.ref C_TooMany) "__getattr__" = some none)
    (e_TooMany_ha : PySem.W.findIn K (.ref C_TooMany) "__class__" = some (some (.builtin "object.__class__")))
    (e_TooMany_hm : PySem.W.mroIn K C_TooMany (.type "object") = some true)
    (e_TooMany_hd : PySem.W.hasDictIn K C_TooMany = true)
    (e_TooMany_sp : PySem.W.subIn K (.ref C_TooMany) (.ref C_PlyError) = some true)
    (e_TooMany_kv : PySem.W.kitOne K (.ref C_TooMany) (.type "ValueError") = some true)
    (e_TooMany_kNoNumber : PySem.W.kitOne K (.ref C_TooMany) (.ref C_NoNumber) = some false)
    (e_TooMany_kNoPoint : PySem.W.kitOne K (.ref C_TooMany) (.ref C_NoPoint) = some false)
    (e_TooMany_kBadLayer : PySem.W.kitOne K (.ref C_TooMany) (.ref C_BadLayer) = some false)
    (e_TooMany_kBadPlan : PySem.W.kitOne K (.ref C_TooMany) (.ref C_BadPlan) = some false)
    (e_TooMany_kNoFace : PySem.W.kitOne K (.ref C_TooMany) (.ref C_NoFace) = some false)
    (e_TooMany_kEndless : PySem.W.kitOne K (.ref C_TooMany) (.ref C_Endless) = some false)
    (e_TooMany_kNoGround : PySem.W.kitOne K (.ref C_TooMany) (.ref C_NoGround) = some false)
    (e_TooMany_kNoName : PySem.W.kitOne K (.ref C_TooMany) (.ref C_NoName) = some false)
    (e_TooMany_kTaken : PySem.W.kitOne K (.ref C_TooMany) (.ref C_Taken) = some false)
    (e_TooMany_kNoLayer : PySem.W.kitOne K (.ref C_TooMany) (.ref C_NoLayer) = some false)
    (e_TooMany_kTooMany : PySem.W.kitOne K (.ref C_TooMany) (.ref C_TooMany) = some true)
    (e_TooMany_kBadWish : PySem.W.kitOne K (.ref C_TooMany) (.ref C_BadWish) = some false)
    (e_TooMany_kNoSize : PySem.W.kitOne K (.ref C_TooMany) (.ref C_NoSize) = some false)
    (e_TooMany_kNoText : PySem.W.kitOne K (.ref C_TooMany) (.ref C_NoText) = some false)
    (e_TooMany_kNoRow : PySem.W.kitOne K (.ref C_TooMany) (.ref C_NoRow) = some false)
    (e_TooMany_row : Py.OexRow K C_TooMany)
    (e_TooMany_sa : PySem.W.findIn K (.ref C_TooMany) "__setattr__" = some (some (.builtin "object.__setattr__")))
    (e_TooMany_eb : PySem.W.subIn K (.ref C_TooMany) (.type "BaseException") = some true)
    (e_TooMany_et : PySem.W.typeIn K (.ref C_TooMany) = some (.type "type"))
    (e_TooMany_kp : PySem.W.keepIn K (.ref C_TooMany) = true)
    (e_TooMany_in : Py.InF K C_TooMany "TooMany.__init__" (Py.inCls (top 12) 0))
    (e_TooMany_nf_most : PySem.W.findIn K (.ref C_TooMany) "most" = some none)
    (e_BadWish_hg : PySem.W.findIn K (.ref C_BadWish) "__getattribute__" = some (some (.builtin "BaseException.__getattribute__")))
    (e_BadWish_hk : PySem.W.findIn K (.ref C_BadWish) "__getattr__" = some none)
    (e_BadWish_ha : PySem.W.findIn K (.ref C_BadWish) "__class__" = some (some (.builtin "object.__class__")))
    (e_BadWish_hm : PySem.W.mroIn K C_BadWish (.type "object") = some true)
    (e_BadWish_hd : PySem.W.hasDictIn K C_BadWish = true)
    (e_BadWish_sp : PySem.W.subIn K (.ref C_BadWish) (.ref C_PlyError) = some true)
    (e_BadWish_kv : PySem.W.kitOne K (.ref C_BadWish) (.type "ValueError") = some true)
    (e_BadWish_kNoNumber : PySem.W.kitOne K (.ref C_BadWish) (.ref C_NoNumber) = some false)
    (e_BadWish_kNoPoint : PySem.W.kitOne K (.ref C_BadWish) (.ref C_NoPoint) = some false)
    (e_BadWish_kBadLayer : PySem.W.kitOne K (.ref C_BadWish) (.ref C_BadLayer) = some false)
    (e_BadWish_kBadPlan : PySem.W.kitOne K (.ref C_BadWish) (.ref C_BadPlan) = some false)
    (e_BadWish_kNoFace : PySem.W.kitOne K (.ref C_BadWish) (.ref C_NoFace) = some false)
    (e_BadWish_kEndless : PySem.W.kitOne K (.ref C_BadWish) (.ref C_Endless) = some false)
    (e_BadWish_kNoGround : PySem.W.kitOne K (.ref C_BadWish) (.ref C_NoGround) = some false)
    (e_BadWish_kNoName : PySem.W.kitOne K (.ref C_BadWish) (.ref C_NoName) = some false)
    (e_BadWish_kTaken : PySem.W.kitOne K (.ref C_BadWish) (.ref C_Taken) = some false)
    (e_BadWish_kNoLayer : PySem.W.kitOne K (.ref C_BadWish) (.ref C_NoLayer) = some false)
    (e_BadWish_kTooMany : PySem.W.kitOne K (.ref C_BadWish) (.ref C_TooMany) = some false)
    (e_BadWish_kBadWish : PySem.W.kitOne K (.ref C_BadWish) (.ref C_BadWish) = some true)
    (e_BadWish_kNoSize : PySem.W.kitOne K (.ref C_BadWish) (.ref C_NoSize) = some false)
    (e_BadWish_kNoText : PySem.W.kitOne K (.ref C_BadWish) (.ref C_NoText) = some false)
    (e_BadWish_kNoRow : PySem.W.kitOne K (.ref C_BadWish) (.ref C_NoRow) = some false)
    (e_NoSize_hg : PySem.W.findIn K (.ref C_NoSize) "__getattribute__" = some (some (.builtin "BaseException.__getattribute__")))
    (e_NoSize_hk : PySem.W.findIn K (.ref C_NoSize) "__getattr__" = some none)
    (e_NoSize_ha : PySem.W.findIn K (.ref C_NoSize) "__class__" = some (some (.builtin "object.__class__")))
    (e_NoSize_hm : PySem.W.mroIn K C_NoSize (.type "object") = some true)
    (e_NoSize_hd : PySem.W.hasDictIn K C_NoSize = true)
    (e_NoSize_sp : PySem.W.subIn K (.ref C_NoSize) (.ref C_PlyError) = some true)
    (e_NoSize_kv : PySem.W.kitOne K (.ref C_NoSize) (.type "ValueError") = some true)
    (e_NoSize_kNoNumber : PySem.W.kitOne K (.ref C_NoSize) (.ref C_NoNumber) = some false)
    (e_NoSize_kNoPoint : PySem.W.kitOne K (.ref C_NoSize) (.ref C_NoPoint) = some false)
    (e_NoSize_kBadLayer : PySem.W.kitOne K (.ref C_NoSize) (.ref C_BadLayer) = some false)
    (e_NoSize_kBadPlan : PySem.W.kitOne K (.ref C_NoSize) (.ref C_BadPlan) = some false)
    (e_NoSize_kNoFace : PySem.W.kitOne K (.ref C_NoSize) (.ref C_NoFace) = some false)
    (e_NoSize_kEndless : PySem.W.kitOne K (.ref C_NoSize) (.ref C_Endless) = some false)
    (e_NoSize_kNoGround : PySem.W.kitOne K (.ref C_NoSize) (.ref C_NoGround) = some false)
    (e_NoSize_kNoName : PySem.W.kitOne K (.ref C_NoSize) (.ref C_NoName) = some false)
    (e_NoSize_kTaken : PySem.W.kitOne K (.ref C_NoSize) (.ref C_Taken) = some false)
    (e_NoSize_kNoLayer : PySem.W.kitOne K (.ref C_NoSize) (.ref C_NoLayer) = some false)
    (e_NoSize_kTooMany : PySem.W.kitOne K (.ref C_NoSize) (.ref C_TooMany) = some false)
    (e_NoSize_kBadWish : PySem.W.kitOne K (.ref C_NoSize) (.ref C_BadWish) = some false)
    (e_NoSize_kNoSize : PySem.W.kitOne K (.ref C_NoSize) (.ref C_NoSize) = some true)
    (e_NoSize_kNoText : PySem.W.kitOne K (.ref C_NoSize) (.ref C_NoText) = some false)
    (e_NoSize_kNoRow : PySem.W.kitOne K (.ref C_NoSize) (.ref C_NoRow) = some false)
    (e_NoText_hg : PySem.W.findIn K (.ref C_NoText) "__getattribute__" = some (some (.builtin "BaseException.__getattribute__")))
    (e_NoText_hk : PySem.W.findIn K (.ref C_NoText) "__getattr__" = some none)
    (e_NoText_ha : PySem.W.findIn K (.ref C_NoText) "__class__" = some (some (.builtin "object.__class__")))
    (e_NoText_hm : PySem.W.mroIn K C_NoText (.type "object") = some true)
    (e_NoText_hd : PySem.W.hasDictIn K C_NoText = true)
    (e_NoText_sp : PySem.W.subIn K (.ref C_NoText) (.ref C_PlyError) = some true)
    (e_NoText_kv : PySem.W.kitOne K (.ref C_NoText) (.type "ValueError") = some true)
    (e_NoText_kNoNumber : PySem.W.kitOne K (.ref C_NoText) (.ref C_NoNumber) = some false)
    (e_NoText_kNoPoint : PySem.W.kitOne K (.ref C_NoText) (.ref C_NoPoint) = some false)
    (e_NoText_kBadLayer : PySem.W.kitOne K (.ref C_NoText) (.ref C_BadLayer) = some false)
    (e_NoText_kBadPlan : PySem.W.kitOne K (.ref C_NoText) (.ref C_BadPlan) = some false)
    (e_NoText_kNoFace : PySem.W.kitOne K (.ref C_NoText) (.ref C_NoFace) = some false)
    (e_NoText_kEndless : PySem.W.kitOne K (.ref C_NoText) (.ref C_Endless) = some false)
    (e_NoText_kNoGround : PySem.W.kitOne K (.ref C_NoText) (.ref C_NoGround) = some false)
    (e_NoText_kNoName : PySem.W.kitOne K (.ref C_NoText) (.ref C_NoName) = some false)
    (e_NoText_kTaken : PySem.W.kitOne K (.ref C_NoText) (.ref C_Taken) = some false)
    (e_NoText_kNoLayer : PySem.W.kitOne K (.ref C_NoText) (.ref C_NoLayer) = some false)
    (e_NoText_kTooMany : PySem.W.kitOne K (.ref C_NoText) (.ref C_TooMany) = some false)
    (e_NoText_kBadWish : PySem.W.kitOne K (.ref C_NoText) (.ref C_BadWish) = some false)
    (e_NoText_kNoSize : PySem.W.kitOne K (.ref C_NoText) (.ref C_NoSize) = some false)
    (e_NoText_kNoText : PySem.W.kitOne K (.ref C_NoText) (.ref C_NoText) = some true)
    (e_NoText_kNoRow : PySem.W.kitOne K (.ref C_NoText) (.ref C_NoRow) = some false)
    (e_NoRow_hg : PySem.W.findIn K (.ref C_NoRow) "__getattribute__" = some (some (.builtin "BaseException.__getattribute__")))
    (e_NoRow_hk : PySem.W.findIn K (.ref C_NoRow) "__getattr__" = some none)
    (e_NoRow_ha : PySem.W.findIn K (.ref C_NoRow) "__class__" = some (some (.builtin "object.__class__")))
    (e_NoRow_hm : PySem.W.mroIn K C_NoRow (.type "object") = some true)
    (e_NoRow_hd : PySem.W.hasDictIn K C_NoRow = true)
    (e_NoRow_sp : PySem.W.subIn K (.ref C_NoRow) (.ref C_PlyError) = some true)
    (e_NoRow_kv : PySem.W.kitOne K (.ref C_NoRow) (.type "ValueError") = some true)
    (e_NoRow_kNoNumber : PySem.W.kitOne K (.ref C_NoRow) (.ref C_NoNumber) = some false)
    (e_NoRow_kNoPoint : PySem.W.kitOne K (.ref C_NoRow) (.ref C_NoPoint) = some false)
    (e_NoRow_kBadLayer : PySem.W.kitOne K (.ref C_NoRow) (.ref C_BadLayer) = some false)
    (e_NoRow_kBadPlan : PySem.W.kitOne K (.ref C_NoRow) (.ref C_BadPlan) = some false)
    (e_NoRow_kNoFace : PySem.W.kitOne K (.ref C_NoRow) (.ref C_NoFace) = some false)
    (e_NoRow_kEndless : PySem.W.kitOne K (.ref C_NoRow) (.ref C_Endless) = some false)
    (e_NoRow_kNoGround : PySem.W.kitOne K (.ref C_NoRow) (.ref C_NoGround) = some false)
    (e_NoRow_kNoName : PySem.W.kitOne K (.ref C_NoRow) (.ref C_NoName) = some false)
    (e_NoRow_kTaken : PySem.W.kitOne K (.ref C_NoRow) (.ref C_Taken) = some false)
    (e_NoRow_kNoLayer : PySem.W.kitOne K (.ref C_NoRow) (.ref C_NoLayer) = some false)
    (e_NoRow_kTooMany : PySem.W.kitOne K (.ref C_NoRow) (.ref C_TooMany) = some false)
    (e_NoRow_kBadWish : PySem.W.kitOne K (.ref C_NoRow) (.ref C_BadWish) = some false)
    (e_NoRow_kNoSize : PySem.W.kitOne K (.ref C_NoRow) (.ref C_NoSize) = some false)
    (e_NoRow_kNoText : PySem.W.kitOne K (.ref C_NoRow) (.ref C_NoText) = some false)
    (e_NoRow_kNoRow : PySem.W.kitOne K (.ref C_NoRow) (.ref C_NoRow) = some true)
    (e_hn : PySem.W.specialIn K (.builtin "object.__class__") "__get__" = some (some (.builtin "getset_descriptor.__get__")))
    (e_ht : PySem.W.takesIn K (.builtin "object.__class__") = some true)
    (eb_PlyError : PySem.W.subIn K (.ref C_PlyError) (.type "BaseException") = some true)
    (hd_PlyError : PySem.W.hasDictIn K C_PlyError = true)
    (et_PlyError : PySem.W.typeIn K (.ref C_PlyError) = some (.type "type"))
    : ∃ fd : FuncData, (∀ (s : Shared) (v : Value), BindsTo s fd ⟨[v], []⟩ [("_law_script", v)]) ∧ ∀ base : Heap, K.In base → base.Ns mainGlobals mg → FnOk l.prog w K mg base CX0 6 fa fd ["_law_script"] (spLaw K) := by
  have T : Txt K mg ⟨(), C_PlyError, C_NoNumber, C_NoPoint, C_BadLayer, C_BadPlan, C_NoFace, C_Endless, C_NoGround, C_NoName, C_Taken, C_NoLayer, C_TooMany, C_BadWish, C_NoSize, C_NoText, C_NoRow⟩ := { g_PlyError := PySem.W.mg_of X G g_PlyError, g_NoNumber := PySem.W.mg_of X G g_NoNumber, g_NoPoint := PySem.W.mg_of X G g_NoPoint, g_BadLayer := PySem.W.mg_of X G g_BadLayer, g_BadPlan := PySem.W.mg_of X G g_BadPlan, g_NoFace := PySem.W.mg_of X G g_NoFace, g_Endless := PySem.W.mg_of X G g_Endless, g_NoGround := PySem.W.mg_of X G g_NoGround, g_NoName := PySem.W.mg_of X G g_NoName, g_Taken := PySem.W.mg_of X G g_Taken, g_NoLayer := PySem.W.mg_of X G g_NoLayer, g_TooMany := PySem.W.mg_of X G g_TooMany, g_BadWish := PySem.W.mg_of X G g_BadWish, g_NoSize := PySem.W.mg_of X G g_NoSize, g_NoText := PySem.W.mg_of X G g_NoText, g_NoRow := PySem.W.mg_of X G g_NoRow, b_ValueError := PySem.W.mg_none_of X G b_ValueError, b_abs := PySem.W.mg_none_of X G b_abs, b_all := PySem.W.mg_none_of X G b_all, b_bool := PySem.W.mg_none_of X G b_bool, b_int := PySem.W.mg_none_of X G b_int, b_isinstance := PySem.W.mg_none_of X G b_isinstance, b_len := PySem.W.mg_none_of X G b_len, b_list := PySem.W.mg_none_of X G b_list, b_range := PySem.W.mg_none_of X G b_range, b_tuple := PySem.W.mg_none_of X G b_tuple, x_NoNumber := x_NoNumber, kp_NoNumber := kp_NoNumber, eb_NoNumber := eb_NoNumber, et_NoNumber := et_NoNumber, x_NoPoint := x_NoPoint, kp_NoPoint := kp_NoPoint, eb_NoPoint := eb_NoPoint, et_NoPoint := et_NoPoint, x_BadPlan := x_BadPlan, kp_BadPlan := kp_BadPlan, eb_BadPlan := eb_BadPlan, et_BadPlan := et_BadPlan, x_Endless := x_Endless, kp_Endless := kp_Endless, eb_Endless := eb_Endless, et_Endless := et_Endless, x_NoName := x_NoName, kp_NoName := kp_NoName, eb_NoName := eb_NoName, et_NoName := et_NoName, x_BadWish := x_BadWish, kp_BadWish := kp_BadWish, eb_BadWish := eb_BadWish, et_BadWish := et_BadWish, x_NoSize := x_NoSize, kp_NoSize := kp_NoSize, eb_NoSize := eb_NoSize, et_NoSize := et_NoSize, x_NoText := x_NoText, kp_NoText := kp_NoText, eb_NoText := eb_NoText, et_NoText := et_NoText, x_NoRow := x_NoRow, kp_NoRow := kp_NoRow, eb_NoRow := eb_NoRow, et_NoRow := et_NoRow, ec_NoNumber := ⟨e_NoNumber_hg, e_NoNumber_hk, eb_NoNumber, e_NoNumber_hd, e_NoNumber_ha, e_hn, e_ht, e_NoNumber_hm⟩, kt_NoNumber := ⟨e_NoNumber_kNoNumber, e_NoNumber_kNoPoint, e_NoNumber_kBadLayer, e_NoNumber_kBadPlan, e_NoNumber_kNoFace, e_NoNumber_kEndless, e_NoNumber_kNoGround, e_NoNumber_kNoName, e_NoNumber_kTaken, e_NoNumber_kNoLayer, e_NoNumber_kTooMany, e_NoNumber_kBadWish, e_NoNumber_kNoSize, e_NoNumber_kNoText, e_NoNumber_kNoRow, e_NoNumber_kv⟩, sp_NoNumber := e_NoNumber_sp, ec_NoPoint := ⟨e_NoPoint_hg, e_NoPoint_hk, eb_NoPoint, e_NoPoint_hd, e_NoPoint_ha, e_hn, e_ht, e_NoPoint_hm⟩, kt_NoPoint := ⟨e_NoPoint_kNoNumber, e_NoPoint_kNoPoint, e_NoPoint_kBadLayer, e_NoPoint_kBadPlan, e_NoPoint_kNoFace, e_NoPoint_kEndless, e_NoPoint_kNoGround, e_NoPoint_kNoName, e_NoPoint_kTaken, e_NoPoint_kNoLayer, e_NoPoint_kTooMany, e_NoPoint_kBadWish, e_NoPoint_kNoSize, e_NoPoint_kNoText, e_NoPoint_kNoRow, e_NoPoint_kv⟩, sp_NoPoint := e_NoPoint_sp, ox_BadLayer := ⟨e_BadLayer_row, e_BadLayer_sa, e_BadLayer_eb, e_BadLayer_et, e_BadLayer_kp⟩, xf_BadLayer := ⟨e_BadLayer_hg, e_BadLayer_hk, e_BadLayer_eb, e_BadLayer_hd⟩, in_BadLayer := e_BadLayer_in, nf_BadLayer_ring := e_BadLayer_nf_ring, nf_BadLayer_at := e_BadLayer_nf_at, ec_BadLayer := ⟨e_BadLayer_hg, e_BadLayer_hk, e_BadLayer_eb, e_BadLayer_hd, e_BadLayer_ha, e_hn, e_ht, e_BadLayer_hm⟩, kt_BadLayer := ⟨e_BadLayer_kNoNumber, e_BadLayer_kNoPoint, e_BadLayer_kBadLayer, e_BadLayer_kBadPlan, e_BadLayer_kNoFace, e_BadLayer_kEndless, e_BadLayer_kNoGround, e_BadLayer_kNoName, e_BadLayer_kTaken, e_BadLayer_kNoLayer, e_BadLayer_kTooMany, e_BadLayer_kBadWish, e_BadLayer_kNoSize, e_BadLayer_kNoText, e_BadLayer_kNoRow, e_BadLayer_kv⟩, sp_BadLayer := e_BadLayer_sp, ec_BadPlan := ⟨e_BadPlan_hg, e_BadPlan_hk, eb_BadPlan, e_BadPlan_hd, e_BadPlan_ha, e_hn, e_ht, e_BadPlan_hm⟩, kt_BadPlan := ⟨e_BadPlan_kNoNumber, e_BadPlan_kNoPoint, e_BadPlan_kBadLayer, e_BadPlan_kBadPlan, e_BadPlan_kNoFace, e_BadPlan_kEndless, e_BadPlan_kNoGround, e_BadPlan_kNoName, e_BadPlan_kTaken, e_BadPlan_kNoLayer, e_BadPlan_kTooMany, e_BadPlan_kBadWish, e_BadPlan_kNoSize, e_BadPlan_kNoText, e_BadPlan_kNoRow, e_BadPlan_kv⟩, sp_BadPlan := e_BadPlan_sp, ox_NoFace := ⟨e_NoFace_row, e_NoFace_sa, e_NoFace_eb, e_NoFace_et, e_NoFace_kp⟩, xf_NoFace := ⟨e_NoFace_hg, e_NoFace_hk, e_NoFace_eb, e_NoFace_hd⟩, in_NoFace := e_NoFace_in, nf_NoFace_number := e_NoFace_nf_number, ec_NoFace := ⟨e_NoFace_hg, e_NoFace_hk, e_NoFace_eb, e_NoFace_hd, e_NoFace_ha, e_hn, e_ht, e_NoFace_hm⟩, kt_NoFace := ⟨e_NoFace_kNoNumber, e_NoFace_kNoPoint, e_NoFace_kBadLayer, e_NoFace_kBadPlan, e_NoFace_kNoFace, e_NoFace_kEndless, e_NoFace_kNoGround, e_NoFace_kNoName, e_NoFace_kTaken, e_NoFace_kNoLayer, e_NoFace_kTooMany, e_NoFace_kBadWish, e_NoFace_kNoSize, e_NoFace_kNoText, e_NoFace_kNoRow, e_NoFace_kv⟩, sp_NoFace := e_NoFace_sp, ec_Endless := ⟨e_Endless_hg, e_Endless_hk, eb_Endless, e_Endless_hd, e_Endless_ha, e_hn, e_ht, e_Endless_hm⟩, kt_Endless := ⟨e_Endless_kNoNumber, e_Endless_kNoPoint, e_Endless_kBadLayer, e_Endless_kBadPlan, e_Endless_kNoFace, e_Endless_kEndless, e_Endless_kNoGround, e_Endless_kNoName, e_Endless_kTaken, e_Endless_kNoLayer, e_Endless_kTooMany, e_Endless_kBadWish, e_Endless_kNoSize, e_Endless_kNoText, e_Endless_kNoRow, e_Endless_kv⟩, sp_Endless := e_Endless_sp, ox_NoGround := ⟨e_NoGround_row, e_NoGround_sa, e_NoGround_eb, e_NoGround_et, e_NoGround_kp⟩, xf_NoGround := ⟨e_NoGround_hg, e_NoGround_hk, e_NoGround_eb, e_NoGround_hd⟩, in_NoGround := e_NoGround_in, nf_NoGround_point := e_NoGround_nf_point, ec_NoGround := ⟨e_NoGround_hg, e_NoGround_hk, e_NoGround_eb, e_NoGround_hd, e_NoGround_ha, e_hn, e_ht, e_NoGround_hm⟩, kt_NoGround := ⟨e_NoGround_kNoNumber, e_NoGround_kNoPoint, e_NoGround_kBadLayer, e_NoGround_kBadPlan, e_NoGround_kNoFace, e_NoGround_kEndless, e_NoGround_kNoGround, e_NoGround_kNoName, e_NoGround_kTaken, e_NoGround_kNoLayer, e_NoGround_kTooMany, e_NoGround_kBadWish, e_NoGround_kNoSize, e_NoGround_kNoText, e_NoGround_kNoRow, e_NoGround_kv⟩, sp_NoGround := e_NoGround_sp, ec_NoName := ⟨e_NoName_hg, e_NoName_hk, eb_NoName, e_NoName_hd, e_NoName_ha, e_hn, e_ht, e_NoName_hm⟩, kt_NoName := ⟨e_NoName_kNoNumber, e_NoName_kNoPoint, e_NoName_kBadLayer, e_NoName_kBadPlan, e_NoName_kNoFace, e_NoName_kEndless, e_NoName_kNoGround, e_NoName_kNoName, e_NoName_kTaken, e_NoName_kNoLayer, e_NoName_kTooMany, e_NoName_kBadWish, e_NoName_kNoSize, e_NoName_kNoText, e_NoName_kNoRow, e_NoName_kv⟩, sp_NoName := e_NoName_sp, ox_Taken := ⟨e_Taken_row, e_Taken_sa, e_Taken_eb, e_Taken_et, e_Taken_kp⟩, xf_Taken := ⟨e_Taken_hg, e_Taken_hk, e_Taken_eb, e_Taken_hd⟩, in_Taken := e_Taken_in, nf_Taken_name := e_Taken_nf_name, ec_Taken := ⟨e_Taken_hg, e_Taken_hk, e_Taken_eb, e_Taken_hd, e_Taken_ha, e_hn, e_ht, e_Taken_hm⟩, kt_Taken := ⟨e_Taken_kNoNumber, e_Taken_kNoPoint, e_Taken_kBadLayer, e_Taken_kBadPlan, e_Taken_kNoFace, e_Taken_kEndless, e_Taken_kNoGround, e_Taken_kNoName, e_Taken_kTaken, e_Taken_kNoLayer, e_Taken_kTooMany, e_Taken_kBadWish, e_Taken_kNoSize, e_Taken_kNoText, e_Taken_kNoRow, e_Taken_kv⟩, sp_Taken := e_Taken_sp, ox_NoLayer := ⟨e_NoLayer_row, e_NoLayer_sa, e_NoLayer_eb, e_NoLayer_et, e_NoLayer_kp⟩, xf_NoLayer := ⟨e_NoLayer_hg, e_NoLayer_hk, e_NoLayer_eb, e_NoLayer_hd⟩, in_NoLayer := e_NoLayer_in, nf_NoLayer_name := e_NoLayer_nf_name, ec_NoLayer := ⟨e_NoLayer_hg, e_NoLayer_hk, e_NoLayer_eb, e_NoLayer_hd, e_NoLayer_ha, e_hn, e_ht, e_NoLayer_hm⟩, kt_NoLayer := ⟨e_NoLayer_kNoNumber, e_NoLayer_kNoPoint, e_NoLayer_kBadLayer, e_NoLayer_kBadPlan, e_NoLayer_kNoFace, e_NoLayer_kEndless, e_NoLayer_kNoGround, e_NoLayer_kNoName, e_NoLayer_kTaken, e_NoLayer_kNoLayer, e_NoLayer_kTooMany, e_NoLayer_kBadWish, e_NoLayer_kNoSize, e_NoLayer_kNoText, e_NoLayer_kNoRow, e_NoLayer_kv⟩, sp_NoLayer := e_NoLayer_sp, ox_TooMany := ⟨e_TooMany_row, e_TooMany_sa, e_TooMany_eb, e_TooMany_et, e_TooMany_kp⟩, xf_TooMany := ⟨e_TooMany_hg, e_TooMany_hk, e_TooMany_eb, e_TooMany_hd⟩, in_TooMany := e_TooMany_in, nf_TooMany_most := e_TooMany_nf_most, ec_TooMany := ⟨e_TooMany_hg, e_TooMany_hk, e_TooMany_eb, e_TooMany_hd, e_TooMany_ha, e_hn, e_ht, e_TooMany_hm⟩, kt_TooMany := ⟨e_TooMany_kNoNumber, e_TooMany_kNoPoint, e_TooMany_kBadLayer, e_TooMany_kBadPlan, e_TooMany_kNoFace, e_TooMany_kEndless, e_TooMany_kNoGround, e_TooMany_kNoName, e_TooMany_kTaken, e_TooMany_kNoLayer, e_TooMany_kTooMany, e_TooMany_kBadWish, e_TooMany_kNoSize, e_TooMany_kNoText, e_TooMany_kNoRow, e_TooMany_kv⟩, sp_TooMany := e_TooMany_sp, ec_BadWish := ⟨e_BadWish_hg, e_BadWish_hk, eb_BadWish, e_BadWish_hd, e_BadWish_ha, e_hn, e_ht, e_BadWish_hm⟩, kt_BadWish := ⟨e_BadWish_kNoNumber, e_BadWish_kNoPoint, e_BadWish_kBadLayer, e_BadWish_kBadPlan, e_BadWish_kNoFace, e_BadWish_kEndless, e_BadWish_kNoGround, e_BadWish_kNoName, e_BadWish_kTaken, e_BadWish_kNoLayer, e_BadWish_kTooMany, e_BadWish_kBadWish, e_BadWish_kNoSize, e_BadWish_kNoText, e_BadWish_kNoRow, e_BadWish_kv⟩, sp_BadWish := e_BadWish_sp, ec_NoSize := ⟨e_NoSize_hg, e_NoSize_hk, eb_NoSize, e_NoSize_hd, e_NoSize_ha, e_hn, e_ht, e_NoSize_hm⟩, kt_NoSize := ⟨e_NoSize_kNoNumber, e_NoSize_kNoPoint, e_NoSize_kBadLayer, e_NoSize_kBadPlan, e_NoSize_kNoFace, e_NoSize_kEndless, e_NoSize_kNoGround, e_NoSize_kNoName, e_NoSize_kTaken, e_NoSize_kNoLayer, e_NoSize_kTooMany, e_NoSize_kBadWish, e_NoSize_kNoSize, e_NoSize_kNoText, e_NoSize_kNoRow, e_NoSize_kv⟩, sp_NoSize := e_NoSize_sp, ec_NoText := ⟨e_NoText_hg, e_NoText_hk, eb_NoText, e_NoText_hd, e_NoText_ha, e_hn, e_ht, e_NoText_hm⟩, kt_NoText := ⟨e_NoText_kNoNumber, e_NoText_kNoPoint, e_NoText_kBadLayer, e_NoText_kBadPlan, e_NoText_kNoFace, e_NoText_kEndless, e_NoText_kNoGround, e_NoText_kNoName, e_NoText_kTaken, e_NoText_kNoLayer, e_NoText_kTooMany, e_NoText_kBadWish, e_NoText_kNoSize, e_NoText_kNoText, e_NoText_kNoRow, e_NoText_kv⟩, sp_NoText := e_NoText_sp, ec_NoRow := ⟨e_NoRow_hg, e_NoRow_hk, eb_NoRow, e_NoRow_hd, e_NoRow_ha, e_hn, e_ht, e_NoRow_hm⟩, kt_NoRow := ⟨e_NoRow_kNoNumber, e_NoRow_kNoPoint, e_NoRow_kBadLayer, e_NoRow_kBadPlan, e_NoRow_kNoFace, e_NoRow_kEndless, e_NoRow_kNoGround, e_NoRow_kNoName, e_NoRow_kTaken, e_NoRow_kNoLayer, e_NoRow_kTooMany, e_NoRow_kBadWish, e_NoRow_kNoSize, e_NoRow_kNoText, e_NoRow_kNoRow, e_NoRow_kv⟩, sp_NoRow := e_NoRow_sp, eb_PlyError := eb_PlyError, hd_PlyError := hd_PlyError, et_PlyError := et_PlyError }
  obtain ⟨f, oc, od, sl, kV, dc, pm, an, cd, ct, a, l0, c, k⟩ := F_law
  have e := hfa.symm.trans (PySem.W.mg_of X G a)
  cases e
  refine ⟨PySem.W.fnOf "law" "law" (defArgs s_law) (defBody s_law) (defScope s_law) .none kV dc pm an cd ct, fun s v => .of_eq rfl, fun base _ _ => ?_⟩
  have d__law_hand := ok__law_hand (P := l.prog) (w := w) (base := base) T  (F__law_hand.raw X G)
  have d__law_divisor := ok__law_divisor (P := l.prog) (w := w) (base := base) T  (F__law_divisor.raw X G)
  have d__law_lowest := ok__law_lowest (P := l.prog) (w := w) (base := base) T d__law_divisor (F__law_lowest.raw X G)
  have d__law_next := ok__law_next (P := l.prog) (w := w) (base := base) T  (F__law_next.raw X G)
  have d__law_take := ok__law_take (P := l.prog) (w := w) (base := base) T d__law_next (F__law_take.raw X G)
  have d__law_draw := ok__law_draw (P := l.prog) (w := w) (base := base) T d__law_next d__law_take (F__law_draw.raw X G)
  have d__law_spoilt := ok__law_spoilt (P := l.prog) (w := w) (base := base) T d__law_draw (F__law_spoilt.raw X G)
  have d__law_number := ok__law_number (P := l.prog) (w := w) (base := base) T d__law_draw (F__law_number.raw X G)
  have d__law_point := ok__law_point (P := l.prog) (w := w) (base := base) T d__law_divisor (F__law_point.raw X G)
  have d__law_any := ok__law_any (P := l.prog) (w := w) (base := base) T d__law_number d__law_point d__law_draw (F__law_any.raw X G)
  have d_divisor_of := ok_divisor_of (P := l.prog) (w := w) (base := base) T  (F_divisor_of.raw X G)
  have d_fraction := ok_fraction (P := l.prog) (w := w) (base := base) T d_divisor_of (F_fraction.raw X G)
  have d_point_by := ok_point_by (P := l.prog) (w := w) (base := base) T d_divisor_of (F_point_by.raw X G)
  have d__law_raised := ok__law_raised (P := l.prog) (w := w) (base := base) T d_fraction d_point_by (F__law_raised.raw X G)
  have d__law_sorts := ok__law_sorts (P := l.prog) (w := w) (base := base) T d__law_raised (F__law_sorts.raw X G)
  have d__law_apart := ok__law_apart (P := l.prog) (w := w) (base := base) T d__law_sorts (F__law_apart.raw X G)
  have d__law_told := ok__law_told (P := l.prog) (w := w) (base := base) T  (F__law_told.raw X G)
  have d_is_whole := ok_is_whole (P := l.prog) (w := w) (base := base) T  (F_is_whole.raw X G)
  have d_is_fraction := ok_is_fraction (P := l.prog) (w := w) (base := base) T d_is_whole d_divisor_of (F_is_fraction.raw X G)
  have d_is_point := ok_is_point (P := l.prog) (w := w) (base := base) T d_divisor_of d_is_whole (F_is_point.raw X G)
  exact ok_law T d__law_hand d__law_lowest d__law_spoilt d__law_any d__law_number d__law_draw d__law_apart d__law_told d_is_fraction d_is_point _ _ (fun_mk (st := s_law) l0 c k)
theorem walk {l : PySem.W.OpenLaw} {q : Program} {loose : List Str} {XP : (Str → Option Value) → Heap → Prop} {YP : World → Heap → Prop} {d : DefRec} {K : Params → PySem.W.Frag} (hn : l.most = some 63) (hdf : d.params.defaults = [])
    (hY : ∀ (w : World) (h : Heap), YP w h → (K w.params).In h)
    (F : ∀ (w : World) (mg : Str → Option Value) (fa : Addr) (h : Heap), (K w.params).In h → h.Ns mainGlobals mg → mg d.name = some (.ref fa) →
      ∃ fd : FuncData, (∀ (s : Shared) (u : Value), BindsTo s fd ⟨[u], []⟩ [("_law_script", u)]) ∧ ∀ base : Heap, (K w.params).In base → base.Ns mainGlobals mg → FnOk l.prog w (K w.params) mg base CX0 6 fa fd ["_law_script"] (spLaw (K w.params))) :
    PySem.W.WalkO q loose XP YP l.row.toRowW d [] (fun f vs => PySem.call f vs) :=
  L2.walk_of (n := 63) (k := 6) (x := "_law_script") (CX := fun _ => CX0) (sp := fun w => spLaw (K w.params)) hn (by decide) hdf ⟨rfl, by decide, by decide⟩ hY F (fun _ _ a ns hl _ hS => ⟨a, ns, rfl, hS, hl, fun _ => rfl⟩) fun _ _ _ _ _ z => z
end My
open PySem PySem.W PyProof.Rows
set_option maxRecDepth 100000 in
set_option maxHeartbeats 0 in
theorem PySem.Challenge.cw_plymap_k19_whatever_things_holds : PySem.Challenge.rw_plymap_k19_whatever_things.Holds := by
  w_on; o_law; k_head; (case hw => w_witness2)
  k_fill
  refine My.walk (l := PySem.Challenge.rw_plymap_k19_whatever_things) rfl rfl (fun w h Y => PySem.W.kIn_of Y) ?F
  case F =>
    intro w mg fa h KX G hmg
    refine' My.all_mk KX G hmg ?F_is_whole ?F_divisor_of ?F_fraction ?F_is_fraction ?F_point_by ?F_is_point ?F__law_hand ?F__law_next ?F__law_take ?F__law_draw ?F__law_divisor ?F__law_lowest ?F__law_point ?F__law_number ?F__law_any ?F__law_spoilt ?F__law_told ?F__law_raised ?F__law_sorts ?F__law_apart ?F_law ?g_PlyError ?g_NoNumber ?g_NoPoint ?g_BadLayer ?g_BadPlan ?g_NoFace ?g_Endless ?g_NoGround ?g_NoName ?g_Taken ?g_NoLayer ?g_TooMany ?g_BadWish ?g_NoSize ?g_NoText ?g_NoRow ?b_ValueError ?b_abs ?b_all ?b_bool ?b_int ?b_isinstance ?b_len ?b_list ?b_range ?b_tuple ?x_NoNumber ?kp_NoNumber ?eb_NoNumber ?et_NoNumber ?x_NoPoint ?kp_NoPoint ?eb_NoPoint ?et_NoPoint ?x_BadPlan ?kp_BadPlan ?eb_BadPlan ?et_BadPlan ?x_Endless ?kp_Endless ?eb_Endless ?et_Endless ?x_NoName ?kp_NoName ?eb_NoName ?et_NoName ?x_BadWish ?kp_BadWish ?eb_BadWish ?et_BadWish ?x_NoSize ?kp_NoSize ?eb_NoSize ?et_NoSize ?x_NoText ?kp_NoText ?eb_NoText ?et_NoText ?x_NoRow ?kp_NoRow ?eb_NoRow ?et_NoRow ?e_NoNumber_hg ?e_NoNumber_hk ?e_NoNumber_ha ?e_NoNumber_hm ?e_NoNumber_hd ?e_NoNumber_sp ?e_NoNumber_kv ?e_NoNumber_kNoNumber ?e_NoNumber_kNoPoint ?e_NoNumber_kBadLayer ?e_NoNumber_kBadPlan ?e_NoNumber_kNoFace ?e_NoNumber_kEndless ?e_NoNumber_kNoGround ?e_NoNumber_kNoName ?e_NoNumber_kTaken ?e_NoNumber_kNoLayer ?e_NoNumber_kTooMany ?e_NoNumber_kBadWish ?e_NoNumber_kNoSize ?e_NoNumber_kNoText ?e_NoNumber_kNoRow ?e_NoPoint_hg ?e_NoPoint_hk ?e_NoPoint_ha ?e_NoPoint_hm ?e_NoPoint_hd ?e_NoPoint_sp ?e_NoPoint_kv ?e_NoPoint_kNoNumber ?e_NoPoint_kNoPoint ?e_NoPoint_kBadLayer ?e_NoPoint_kBadPlan ?e_NoPoint_kNoFace ?e_NoPoint_kEndless ?e_NoPoint_kNoGround ?e_NoPoint_kNoName ?e_NoPoint_kTaken ?e_NoPoint_kNoLayer ?e_NoPoint_kTooMany ?e_NoPoint_kBadWish ?e_NoPoint_kNoSize ?e_NoPoint_kNoText ?e_NoPoint_kNoRow ?e_BadLayer_hg ?e_BadLayer_hk ?e_BadLayer_ha ?e_BadLayer_hm ?e_BadLayer_hd ?e_BadLayer_sp ?e_BadLayer_kv ?e_BadLayer_kNoNumber ?e_BadLayer_kNoPoint ?e_BadLayer_kBadLayer ?e_BadLayer_kBadPlan ?e_BadLayer_kNoFace ?e_BadLayer_kEndless ?e_BadLayer_kNoGround ?e_BadLayer_kNoName ?e_BadLayer_kTaken ?e_BadLayer_kNoLayer ?e_BadLayer_kTooMany ?e_BadLayer_kBadWish ?e_BadLayer_kNoSize ?e_BadLayer_kNoText ?e_BadLayer_kNoRow ?e_BadLayer_row ?e_BadLayer_sa ?e_BadLayer_eb ?e_BadLayer_et ?e_BadLayer_kp ?e_BadLayer_in ?e_BadLayer_nf_ring ?e_BadLayer_nf_at ?e_BadPlan_hg ?e_BadPlan_hk ?e_BadPlan_ha ?e_BadPlan_hm ?e_BadPlan_hd ?e_BadPlan_sp ?e_BadPlan_kv ?e_BadPlan_kNoNumber ?e_BadPlan_kNoPoint ?e_BadPlan_kBadLayer ?e_BadPlan_kBadPlan ?e_BadPlan_kNoFace ?e_BadPlan_kEndless ?e_BadPlan_kNoGround ?e_BadPlan_kNoName ?e_BadPlan_kTaken ?e_BadPlan_kNoLayer ?e_BadPlan_kTooMany ?e_BadPlan_kBadWish ?e_BadPlan_kNoSize ?e_BadPlan_kNoText ?e_BadPlan_kNoRow ?e_NoFace_hg ?e_NoFace_hk ?e_NoFace_ha ?e_NoFace_hm ?e_NoFace_hd ?e_NoFace_sp ?e_NoFace_kv ?e_NoFace_kNoNumber ?e_NoFace_kNoPoint ?e_NoFace_kBadLayer ?e_NoFace_kBadPlan ?e_NoFace_kNoFace ?e_NoFace_kEndless ?e_NoFace_kNoGround ?e_NoFace_kNoName ?e_NoFace_kTaken ?e_NoFace_kNoLayer ?e_NoFace_kTooMany ?e_NoFace_kBadWish ?e_NoFace_kNoSize ?e_NoFace_kNoText ?e_NoFace_kNoRow ?e_NoFace_row ?e_NoFace_sa ?e_NoFace_eb ?e_NoFace_et ?e_NoFace_kp ?e_NoFace_in ?e_NoFace_nf_number ?e_Endless_hg ?e_Endless_hk ?e_Endless_ha ?e_Endless_hm ?e_Endless_hd ?e_Endless_sp ?e_Endless_kv ?e_Endless_kNoNumber ?e_Endless_kNoPoint ?e_Endless_kBadLayer ?e_Endless_kBadPlan ?e_Endless_kNoFace ?e_Endless_kEndless ?e_Endless_kNoGround ?e_Endless_kNoName ?e_Endless_kTaken ?e_Endless_kNoLayer ?e_Endless_kTooMany ?e_Endless_kBadWish ?e_Endless_kNoSize ?e_Endless_kNoText ?e_Endless_kNoRow ?e_NoGround_hg ?e_NoGround_hk ?e_NoGround_ha ?e_NoGround_hm ?e_NoGround_hd ?e_NoGround_sp ?e_NoGround_kv ?e_NoGround_kNoNumber ?e_NoGround_kNoPoint ?e_NoGround_kBadLayer ?e_NoGround_kBadPlan ?e_NoGround_kNoFace ?e_NoGround_kEndless ?e_NoGround_kNoGround ?e_NoGround_kNoName ?e_NoGround_kTaken ?e_NoGround_kNoLayer ?e_NoGround_kTooMany ?e_NoGround_kBadWish ?e_NoGround_kNoSize ?e_NoGround_kNoText ?e_NoGround_kNoRow ?e_NoGround_row ?e_NoGround_sa ?e_NoGround_eb ?e_NoGround_et ?e_NoGround_kp ?e_NoGround_in ?e_NoGround_nf_point ?e_NoName_hg ?e_NoName_hk ?e_NoName_ha ?e_NoName_hm ?e_NoName_hd ?e_NoName_sp ?e_NoName_kv ?e_NoName_kNoNumber ?e_NoName_kNoPoint ?e_NoName_kBadLayer ?e_NoName_kBadPlan ?e_NoName_kNoFace ?e_NoName_kEndless ?e_NoName_kNoGround ?e_NoName_kNoName ?e_NoName_kTaken ?e_NoName_kNoLayer ?e_NoName_kTooMany ?e_NoName_kBadWish ?e_NoName_kNoSize ?e_NoName_kNoText ?e_NoName_kNoRow ?e_Taken_hg ?e_Taken_hk ?e_Taken_ha ?e_Taken_hm ?e_Taken_hd ?e_Taken_sp ?e_Taken_kv ?e_Taken_kNoNumber ?e_Taken_kNoPoint ?e_Taken_kBadLayer ?e_Taken_kBadPlan ?e_Taken_kNoFace ?e_Taken_kEndless ?e_Taken_kNoGround ?e_Taken_kNoName ?e_Taken_kTaken ?e_Taken_kNoLayer ?e_Taken_kTooMany ?e_Taken_kBadWish ?e_Taken_kNoSize ?e_Taken_kNoText ?e_Taken_kNoRow ?e_Taken_row ?e_Taken_sa ?e_Taken_eb ?e_Taken_et ?e_Taken_kp ?e_Taken_in ?e_Taken_nf_name ?e_NoLayer_hg ?e_NoLayer_hk ?e_NoLayer_ha ?e_NoLayer_hm ?e_NoLayer_hd ?e_NoLayer_sp ?e_NoLayer_kv ?e_NoLayer_kNoNumber ?e_NoLayer_kNoPoint ?e_NoLayer_kBadLayer ?e_NoLayer_kBadPlan ?e_NoLayer_kNoFace ?e_NoLayer_kEndless ?e_NoLayer_kNoGround ?e_NoLayer_kNoName ?e_NoLayer_kTaken ?e_NoLayer_kNoLayer ?e_NoLayer_kTooMany ?e_NoLayer_kBadWish ?e_NoLayer_kNoSize ?e_NoLayer_kNoText ?e_NoLayer_kNoRow ?e_NoLayer_row ?e_NoLayer_sa ?e_NoLayer_eb ?e_NoLayer_et ?e_NoLayer_kp ?e_NoLayer_in ?e_NoLayer_nf_name ?e_TooMany_hg ?e_TooMany_hk ?e_TooMany_ha ?e_TooMany_hm ?e_TooMany_hd ?e_TooMany_sp ?e_TooMany_kv ?e_TooMany_kNoNumber ?e_TooMany_kNoPoint ?e_TooMany_kBadLayer ?e_TooMany_kBadPlan ?e_TooMany_kNoFace ?e_TooMany_kEndless ?e_TooMany_kNoGround ?e_TooMany_kNoName ?e_TooMany_kTaken ?e_TooMany_kNoLayer ?e_TooMany_kTooMany ?e_TooMany_kBadWish ?e_TooMany_kNoSize ?e_TooMany_kNoText ?e_TooMany_kNoRow ?e_TooMany_row ?e_TooMany_sa ?e_TooMany_eb ?e_TooMany_et ?e_TooMany_kp ?e_TooMany_in ?e_TooMany_nf_most ?e_BadWish_hg ?e_BadWish_hk ?e_BadWish_ha ?e_BadWish_hm ?e_BadWish_hd ?e_BadWish_sp ?e_BadWish_kv ?e_BadWish_kNoNumber ?e_BadWish_kNoPoint ?e_BadWish_kBadLayer ?e_BadWish_kBadPlan ?e_BadWish_kNoFace ?e_BadWish_kEndless ?e_BadWish_kNoGround ?e_BadWish_kNoName ?e_BadWish_kTaken ?e_BadWish_kNoLayer ?e_BadWish_kTooMany ?e_BadWish_kBadWish ?e_BadWish_kNoSize ?e_BadWish_kNoText ?e_BadWish_kNoRow ?e_NoSize_hg ?e_NoSize_hk ?e_NoSize_ha ?e_NoSize_hm ?e_NoSize_hd ?e_NoSize_sp ?e_NoSize_kv ?e_NoSize_kNoNumber ?e_NoSize_kNoPoint ?e_NoSize_kBadLayer ?e_NoSize_kBadPlan ?e_NoSize_kNoFace ?e_NoSize_kEndless ?e_NoSize_kNoGround ?e_NoSize_kNoName ?e_NoSize_kTaken ?e_NoSize_kNoLayer ?e_NoSize_kTooMany ?e_NoSize_kBadWish ?e_NoSize_kNoSize ?e_NoSize_kNoText ?e_NoSize_kNoRow ?e_NoText_hg ?e_NoText_hk ?e_NoText_ha ?e_NoText_hm ?e_NoText_hd ?e_NoText_sp ?e_NoText_kv ?e_NoText_kNoNumber ?e_NoText_kNoPoint ?e_NoText_kBadLayer ?e_NoText_kBadPlan ?e_NoText_kNoFace ?e_NoText_kEndless ?e_NoText_kNoGround ?e_NoText_kNoName ?e_NoText_kTaken ?e_NoText_kNoLayer ?e_NoText_kTooMany ?e_NoText_kBadWish ?e_NoText_kNoSize ?e_NoText_kNoText ?e_NoText_kNoRow ?e_NoRow_hg ?e_NoRow_hk ?e_NoRow_ha ?e_NoRow_hm ?e_NoRow_hd ?e_NoRow_sp ?e_NoRow_kv ?e_NoRow_kNoNumber ?e_NoRow_kNoPoint ?e_NoRow_kBadLayer ?e_NoRow_kBadPlan ?e_NoRow_kNoFace ?e_NoRow_kEndless ?e_NoRow_kNoGround ?e_NoRow_kNoName ?e_NoRow_kTaken ?e_NoRow_kNoLayer ?e_NoRow_kTooMany ?e_NoRow_kBadWish ?e_NoRow_kNoSize ?e_NoRow_kNoText ?e_NoRow_kNoRow ?e_hn ?e_ht ?eb_PlyError ?hd_PlyError ?et_PlyError
    (case g_PlyError => k_is)
    (case g_NoNumber => k_is)
    (case g_NoPoint => k_is)
    (case g_BadLayer => k_is)
    (case g_BadPlan => k_is)
    (case g_NoFace => k_is)
    (case g_Endless => k_is)
    (case g_NoGround => k_is)
    (case g_NoName => k_is)
    (case g_Taken => k_is)
    (case g_NoLayer => k_is)
    (case g_TooMany => k_is)
    (case g_BadWish => k_is)
    (case g_NoSize => k_is)
    (case g_NoText => k_is)
    (case g_NoRow => k_is)
    (case F_is_whole => (refine' Py.fnf_mk ?a ?l ?c ?k; (case a => k_is); (case l => k_is); (case c => k_is); (case k => k_is)))
    (case F_divisor_of => (refine' Py.fnf_mk ?a ?l ?c ?k; (case a => k_is); (case l => k_is); (case c => k_is); (case k => k_is)))
    (case F_fraction => (refine' Py.fnf_mk ?a ?l ?c ?k; (case a => k_is); (case l => k_is); (case c => k_is); (case k => k_is)))
    (case F_is_fraction => (refine' Py.fnf_mk ?a ?l ?c ?k; (case a => k_is); (case l => k_is); (case c => k_is); (case k => k_is)))
    (case F_point_by => (refine' Py.fnf_mk ?a ?l ?c ?k; (case a => k_is); (case l => k_is); (case c => k_is); (case k => k_is)))
    (case F_is_point => (refine' Py.fnf_mk ?a ?l ?c ?k; (case a => k_is); (case l => k_is); (case c => k_is); (case k => k_is)))
    (case F__law_hand => (refine' Py.fnf_mk ?a ?l ?c ?k; (case a => k_is); (case l => k_is); (case c => k_is); (case k => k_is)))
    (case F__law_next => (refine' Py.fnf_mk ?a ?l ?c ?k; (case a => k_is); (case l => k_is); (case c => k_is); (case k => k_is)))
    (case F__law_take => (refine' Py.fnf_mk ?a ?l ?c ?k; (case a => k_is); (case l => k_is); (case c => k_is); (case k => k_is)))
    (case F__law_draw => (refine' Py.fnf_mk ?a ?l ?c ?k; (case a => k_is); (case l => k_is); (case c => k_is); (case k => k_is)))
    (case F__law_divisor => (refine' Py.fnf_mk ?a ?l ?c ?k; (case a => k_is); (case l => k_is); (case c => k_is); (case k => k_is)))
    (case F__law_lowest => (refine' Py.fnf_mk ?a ?l ?c ?k; (case a => k_is); (case l => k_is); (case c => k_is); (case k => k_is)))
    (case F__law_point => (refine' Py.fnf_mk ?a ?l ?c ?k; (case a => k_is); (case l => k_is); (case c => k_is); (case k => k_is)))
    (case F__law_number => (refine' Py.fnf_mk ?a ?l ?c ?k; (case a => k_is); (case l => k_is); (case c => k_is); (case k => k_is)))
    (case F__law_any => (refine' Py.fnf_mk ?a ?l ?c ?k; (case a => k_is); (case l => k_is); (case c => k_is); (case k => k_is)))
    (case F__law_spoilt => (refine' Py.fnf_mk ?a ?l ?c ?k; (case a => k_is); (case l => k_is); (case c => k_is); (case k => k_is)))
    (case F__law_told => (refine' Py.fnf_mk ?a ?l ?c ?k; (case a => k_is); (case l => k_is); (case c => k_is); (case k => k_is)))
    (case F__law_raised => (refine' Py.fnf_mk ?a ?l ?c ?k; (case a => k_is); (case l => k_is); (case c => k_is); (case k => k_is)))
    (case F__law_sorts => (refine' Py.fnf_mk ?a ?l ?c ?k; (case a => k_is); (case l => k_is); (case c => k_is); (case k => k_is)))
    (case F__law_apart => (refine' Py.fnf_mk ?a ?l ?c ?k; (case a => k_is); (case l => k_is); (case c => k_is); (case k => k_is)))
    (case F_law => (refine' Py.fnf_mk ?a ?l ?c ?k; (case a => k_is); (case l => k_is); (case c => k_is); (case k => k_is)))
    (case b_ValueError => first | k_is | k_exc | rfl)
    (case b_abs => first | k_is | k_exc | rfl)
    (case b_all => first | k_is | k_exc | rfl)
    (case b_bool => first | k_is | k_exc | rfl)
    (case b_int => first | k_is | k_exc | rfl)
    (case b_isinstance => first | k_is | k_exc | rfl)
    (case b_len => first | k_is | k_exc | rfl)
    (case b_list => first | k_is | k_exc | rfl)
    (case b_range => first | k_is | k_exc | rfl)
    (case b_tuple => first | k_is | k_exc | rfl)
    (case x_NoNumber => first | k_is | k_exc | rfl)
    (case kp_NoNumber => first | k_is | k_exc | rfl)
    (case eb_NoNumber => first | k_is | k_exc | rfl)
    (case et_NoNumber => first | k_is | k_exc | rfl)
    (case x_NoPoint => first | k_is | k_exc | rfl)
    (case kp_NoPoint => first | k_is | k_exc | rfl)
    (case eb_NoPoint => first | k_is | k_exc | rfl)
    (case et_NoPoint => first | k_is | k_exc | rfl)
    (case x_BadPlan => first | k_is | k_exc | rfl)
    (case kp_BadPlan => first | k_is | k_exc | rfl)
    (case eb_BadPlan => first | k_is | k_exc | rfl)
    (case et_BadPlan => first | k_is | k_exc | rfl)
    (case x_Endless => first | k_is | k_exc | rfl)
    (case kp_Endless => first | k_is | k_exc | rfl)
    (case eb_Endless => first | k_is | k_exc | rfl)
    (case et_Endless => first | k_is | k_exc | rfl)
    (case x_NoName => first | k_is | k_exc | rfl)
    (case kp_NoName => first | k_is | k_exc | rfl)
    (case eb_NoName => first | k_is | k_exc | rfl)
    (case et_NoName => first | k_is | k_exc | rfl)
    (case x_BadWish => first | k_is | k_exc | rfl)
    (case kp_BadWish => first | k_is | k_exc | rfl)
    (case eb_BadWish => first | k_is | k_exc | rfl)
    (case et_BadWish => first | k_is | k_exc | rfl)
    (case x_NoSize => first | k_is | k_exc | rfl)
    (case kp_NoSize => first | k_is | k_exc | rfl)
    (case eb_NoSize => first | k_is | k_exc | rfl)
    (case et_NoSize => first | k_is | k_exc | rfl)
    (case x_NoText => first | k_is | k_exc | rfl)
    (case kp_NoText => first | k_is | k_exc | rfl)
    (case eb_NoText => first | k_is | k_exc | rfl)
    (case et_NoText => first | k_is | k_exc | rfl)
    (case x_NoRow => first | k_is | k_exc | rfl)
    (case kp_NoRow => first | k_is | k_exc | rfl)
    (case eb_NoRow => first | k_is | k_exc | rfl)
    (case et_NoRow => first | k_is | k_exc | rfl)
    (case e_NoNumber_hg => first | k_is | k_exc | rfl)
    (case e_NoNumber_hk => first | k_is | k_exc | rfl)
    (case e_NoNumber_ha => first | k_is | k_exc | rfl)
    (case e_NoNumber_hm => first | k_is | k_exc | rfl)
    (case e_NoNumber_hd => first | k_is | k_exc | rfl)
    (case e_NoNumber_sp => first | k_is | k_exc | rfl)
    (case e_NoNumber_kv => first | k_is | k_exc | rfl)
    (case e_NoNumber_kNoNumber => first | k_is | k_exc | rfl)
    (case e_NoNumber_kNoPoint => first | k_is | k_exc | rfl)
    (case e_NoNumber_kBadLayer => first | k_is | k_exc | rfl)
    (case e_NoNumber_kBadPlan => first | k_is | k_exc | rfl)
    (case e_NoNumber_kNoFace => first | k_is | k_exc | rfl)
    (case e_NoNumber_kEndless => first | k_is | k_exc | rfl)
    (case e_NoNumber_kNoGround => first | k_is | k_exc | rfl)
    (case e_NoNumber_kNoName => first | k_is | k_exc | rfl)
    (case e_NoNumber_kTaken => first | k_is | k_exc | rfl)
    (case e_NoNumber_kNoLayer => first | k_is | k_exc | rfl)
    (case e_NoNumber_kTooMany => first | k_is | k_exc | rfl)
    (case e_NoNumber_kBadWish => first | k_is | k_exc | rfl)
    (case e_NoNumber_kNoSize => first | k_is | k_exc | rfl)
    (case e_NoNumber_kNoText => first | k_is | k_exc | rfl)
    (case e_NoNumber_kNoRow => first | k_is | k_exc | rfl)
    (case e_NoPoint_hg => first | k_is | k_exc | rfl)
    (case e_NoPoint_hk => first | k_is | k_exc | rfl)
    (case e_NoPoint_ha => first | k_is | k_exc | rfl)
    (case e_NoPoint_hm => first | k_is | k_exc | rfl)
    (case e_NoPoint_hd => first | k_is | k_exc | rfl)
    (case e_NoPoint_sp => first | k_is | k_exc | rfl)
    (case e_NoPoint_kv => first | k_is | k_exc | rfl)
    (case e_NoPoint_kNoNumber => first | k_is | k_exc | rfl)
    (case e_NoPoint_kNoPoint => first | k_is | k_exc | rfl)
    (case e_NoPoint_kBadLayer => first | k_is | k_exc | rfl)
    (case e_NoPoint_kBadPlan => first | k_is | k_exc | rfl)
    (case e_NoPoint_kNoFace => first | k_is | k_exc | rfl)
    (case e_NoPoint_kEndless => first | k_is | k_exc | rfl)
    (case e_NoPoint_kNoGround => first | k_is | k_exc | rfl)
    (case e_NoPoint_kNoName => first | k_is | k_exc | rfl)
    (case e_NoPoint_kTaken => first | k_is | k_exc | rfl)
    (case e_NoPoint_kNoLayer => first | k_is | k_exc | rfl)
    (case e_NoPoint_kTooMany => first | k_is | k_exc | rfl)
    (case e_NoPoint_kBadWish => first | k_is | k_exc | rfl)
    (case e_NoPoint_kNoSize => first | k_is | k_exc | rfl)
    (case e_NoPoint_kNoText => first | k_is | k_exc | rfl)
    (case e_NoPoint_kNoRow => first | k_is | k_exc | rfl)
    (case e_BadLayer_hg => first | k_is | k_exc | rfl)
    (case e_BadLayer_hk => first | k_is | k_exc | rfl)
    (case e_BadLayer_ha => first | k_is | k_exc | rfl)
    (case e_BadLayer_hm => first | k_is | k_exc | rfl)
    (case e_BadLayer_hd => first | k_is | k_exc | rfl)
    (case e_BadLayer_sp => first | k_is | k_exc | rfl)
    (case e_BadLayer_kv => first | k_is | k_exc | rfl)
    (case e_BadLayer_kNoNumber => first | k_is | k_exc | rfl)
    (case e_BadLayer_kNoPoint => first | k_is | k_exc | rfl)
    (case e_BadLayer_kBadLayer => first | k_is | k_exc | rfl)
    (case e_BadLayer_kBadPlan => first | k_is | k_exc | rfl)
    (case e_BadLayer_kNoFace => first | k_is | k_exc | rfl)
    (case e_BadLayer_kEndless => first | k_is | k_exc | rfl)
    (case e_BadLayer_kNoGround => first | k_is | k_exc | rfl)
    (case e_BadLayer_kNoName => first | k_is | k_exc | rfl)
    (case e_BadLayer_kTaken => first | k_is | k_exc | rfl)
    (case e_BadLayer_kNoLayer => first | k_is | k_exc | rfl)
    (case e_BadLayer_kTooMany => first | k_is | k_exc | rfl)
    (case e_BadLayer_kBadWish => first | k_is | k_exc | rfl)
    (case e_BadLayer_kNoSize => first | k_is | k_exc | rfl)
    (case e_BadLayer_kNoText => first | k_is | k_exc | rfl)
    (case e_BadLayer_kNoRow => first | k_is | k_exc | rfl)
    (case e_BadLayer_row => (refine' Py.oexRow_mk ?h ?r; (case h => k_is); (case r => decide)))
    (case e_BadLayer_sa => first | k_is | k_exc | rfl)
    (case e_BadLayer_eb => first | k_is | k_exc | rfl)
    (case e_BadLayer_et => first | k_is | k_exc | rfl)
    (case e_BadLayer_kp => first | k_is | k_exc | rfl)
    (case e_BadLayer_in => (refine' Py.inf_mk ?a ?t ?l ?c ?k; (case a => k_is); (case t => k_is); (case l => k_is); (case c => k_is); (case k => k_is)))
    (case e_BadLayer_nf_ring => first | k_is | k_exc | rfl)
    (case e_BadLayer_nf_at => first | k_is | k_exc | rfl)
    (case e_BadPlan_hg => first | k_is | k_exc | rfl)
    (case e_BadPlan_hk => first | k_is | k_exc | rfl)
    (case e_BadPlan_ha => first | k_is | k_exc | rfl)
    (case e_BadPlan_hm => first | k_is | k_exc | rfl)
    (case e_BadPlan_hd => first | k_is | k_exc | rfl)
    (case e_BadPlan_sp => first | k_is | k_exc | rfl)
    (case e_BadPlan_kv => first | k_is | k_exc | rfl)
    (case e_BadPlan_kNoNumber => first | k_is | k_exc | rfl)
    (case e_BadPlan_kNoPoint => first | k_is | k_exc | rfl)
    (case e_BadPlan_kBadLayer => first | k_is | k_exc | rfl)
    (case e_BadPlan_kBadPlan => first | k_is | k_exc | rfl)
    (case e_BadPlan_kNoFace => first | k_is | k_exc | rfl)
    (case e_BadPlan_kEndless => first | k_is | k_exc | rfl)
    (case e_BadPlan_kNoGround => first | k_is | k_exc | rfl)
    (case e_BadPlan_kNoName => first | k_is | k_exc | rfl)
    (case e_BadPlan_kTaken => first | k_is | k_exc | rfl)
    (case e_BadPlan_kNoLayer => first | k_is | k_exc | rfl)
    (case e_BadPlan_kTooMany => first | k_is | k_exc | rfl)
    (case e_BadPlan_kBadWish => first | k_is | k_exc | rfl)
    (case e_BadPlan_kNoSize => first | k_is | k_exc | rfl)
    (case e_BadPlan_kNoText => first | k_is | k_exc | rfl)
    (case e_BadPlan_kNoRow => first | k_is | k_exc | rfl)
    (case e_NoFace_hg => first | k_is | k_exc | rfl)
    (case e_NoFace_hk => first | k_is | k_exc | rfl)
    (case e_NoFace_ha => first | k_is | k_exc | rfl)
    (case e_NoFace_hm => first | k_is | k_exc | rfl)
    (case e_NoFace_hd => first | k_is | k_exc | rfl)
    (case e_NoFace_sp => first | k_is | k_exc | rfl)
    (case e_NoFace_kv => first | k_is | k_exc | rfl)
    (case e_NoFace_kNoNumber => first | k_is | k_exc | rfl)
    (case e_NoFace_kNoPoint => first | k_is | k_exc | rfl)
    (case e_NoFace_kBadLayer => first | k_is | k_exc | rfl)
    (case e_NoFace_kBadPlan => first | k_is | k_exc | rfl)
    (case e_NoFace_kNoFace => first | k_is | k_exc | rfl)
    (case e_NoFace_kEndless => first | k_is | k_exc | rfl)
    (case e_NoFace_kNoGround => first | k_is | k_exc | rfl)
    (case e_NoFace_kNoName => first | k_is | k_exc | rfl)
    (case e_NoFace_kTaken => first | k_is | k_exc | rfl)
    (case e_NoFace_kNoLayer => first | k_is | k_exc | rfl)
    (case e_NoFace_kTooMany => first | k_is | k_exc | rfl)
    (case e_NoFace_kBadWish => first | k_is | k_exc | rfl)
    (case e_NoFace_kNoSize => first | k_is | k_exc | rfl)
    (case e_NoFace_kNoText => first | k_is | k_exc | rfl)
    (case e_NoFace_kNoRow => first | k_is | k_exc | rfl)
    (case e_NoFace_row => (refine' Py.oexRow_mk ?h ?r; (case h => k_is); (case r => decide)))
    (case e_NoFace_sa => first | k_is | k_exc | rfl)
    (case e_NoFace_eb => first | k_is | k_exc | rfl)
    (case e_NoFace_et => first | k_is | k_exc | rfl)
    (case e_NoFace_kp => first | k_is | k_exc | rfl)
    (case e_NoFace_in => (refine' Py.inf_mk ?a ?t ?l ?c ?k; (case a => k_is); (case t => k_is); (case l => k_is); (case c => k_is); (case k => k_is)))
    (case e_NoFace_nf_number => first | k_is | k_exc | rfl)
    (case e_Endless_hg => first | k_is | k_exc | rfl)
    (case e_Endless_hk => first | k_is | k_exc | rfl)
    (case e_Endless_ha => first | k_is | k_exc | rfl)
    (case e_Endless_hm => first | k_is | k_exc | rfl)
    (case e_Endless_hd => first | k_is | k_exc | rfl)
    (case e_Endless_sp => first | k_is | k_exc | rfl)
    (case e_Endless_kv => first | k_is | k_exc | rfl)
    (case e_Endless_kNoNumber => first | k_is | k_exc | rfl)
    (case e_Endless_kNoPoint => first | k_is | k_exc | rfl)
    (case e_Endless_kBadLayer => first | k_is | k_exc | rfl)
    (case e_Endless_kBadPlan => first | k_is | k_exc | rfl)
    (case e_Endless_kNoFace => first | k_is | k_exc | rfl)
    (case e_Endless_kEndless => first | k_is | k_exc | rfl)
    (case e_Endless_kNoGround => first | k_is | k_exc | rfl)
    (case e_Endless_kNoName => first | k_is | k_exc | rfl)
    (case e_Endless_kTaken => first | k_is | k_exc | rfl)
    (case e_Endless_kNoLayer => first | k_is | k_exc | rfl)
    (case e_Endless_kTooMany => first | k_is | k_exc | rfl)
    (case e_Endless_kBadWish => first | k_is | k_exc | rfl)
    (case e_Endless_kNoSize => first | k_is | k_exc | rfl)
    (case e_Endless_kNoText => first | k_is | k_exc | rfl)
    (case e_Endless_kNoRow => first | k_is | k_exc | rfl)
    (case e_NoGround_hg => first | k_is | k_exc | rfl)
    (case e_NoGround_hk => first | k_is | k_exc | rfl)
    (case e_NoGround_ha => first | k_is | k_exc | rfl)
    (case e_NoGround_hm => first | k_is | k_exc | rfl)
    (case e_NoGround_hd => first | k_is | k_exc | rfl)
    (case e_NoGround_sp => first | k_is | k_exc | rfl)
    (case e_NoGround_kv => first | k_is | k_exc | rfl)
    (case e_NoGround_kNoNumber => first | k_is | k_exc | rfl)
    (case e_NoGround_kNoPoint => first | k_is | k_exc | rfl)
    (case e_NoGround_kBadLayer => first | k_is | k_exc | rfl)
    (case e_NoGround_kBadPlan => first | k_is | k_exc | rfl)
    (case e_NoGround_kNoFace => first | k_is | k_exc | rfl)
    (case e_NoGround_kEndless => first | k_is | k_exc | rfl)
    (case e_NoGround_kNoGround => first | k_is | k_exc | rfl)
    (case e_NoGround_kNoName => first | k_is | k_exc | rfl)
    (case e_NoGround_kTaken => first | k_is | k_exc | rfl)
    (case e_NoGround_kNoLayer => first | k_is | k_exc | rfl)
    (case e_NoGround_kTooMany => first | k_is | k_exc | rfl)
    (case e_NoGround_kBadWish => first | k_is | k_exc | rfl)
    (case e_NoGround_kNoSize => first | k_is | k_exc | rfl)
    (case e_NoGround_kNoText => first | k_is | k_exc | rfl)
    (case e_NoGround_kNoRow => first | k_is | k_exc | rfl)
    (case e_NoGround_row => (refine' Py.oexRow_mk ?h ?r; (case h => k_is); (case r => decide)))
    (case e_NoGround_sa => first | k_is | k_exc | rfl)
    (case e_NoGround_eb => first | k_is | k_exc | rfl)
    (case e_NoGround_et => first | k_is | k_exc | rfl)
    (case e_NoGround_kp => first | k_is | k_exc | rfl)
    (case e_NoGround_in => (refine' Py.inf_mk ?a ?t ?l ?c ?k; (case a => k_is); (case t => k_is); (case l => k_is); (case c => k_is); (case k => k_is)))
    (case e_NoGround_nf_point => first | k_is | k_exc | rfl)
    (case e_NoName_hg => first | k_is | k_exc | rfl)
    (case e_NoName_hk => first | k_is | k_exc | rfl)
    (case e_NoName_ha => first | k_is | k_exc | rfl)
    (case e_NoName_hm => first | k_is | k_exc | rfl)
    (case e_NoName_hd => first | k_is | k_exc | rfl)
    (case e_NoName_sp => first | k_is | k_exc | rfl)
    (case e_NoName_kv => first | k_is | k_exc | rfl)
    (case e_NoName_kNoNumber => first | k_is | k_exc | rfl)
    (case e_NoName_kNoPoint => first | k_is | k_exc | rfl)
    (case e_NoName_kBadLayer => first | k_is | k_exc | rfl)
    (case e_NoName_kBadPlan => first | k_is | k_exc | rfl)
    (case e_NoName_kNoFace => first | k_is | k_exc | rfl)
    (case e_NoName_kEndless => first | k_is | k_exc | rfl)
    (case e_NoName_kNoGround => first | k_is | k_exc | rfl)
    (case e_NoName_kNoName => first | k_is | k_exc | rfl)
    (case e_NoName_kTaken => first | k_is | k_exc | rfl)
    (case e_NoName_kNoLayer => first | k_is | k_exc | rfl)
    (case e_NoName_kTooMany => first | k_is | k_exc | rfl)
    (case e_NoName_kBadWish => first | k_is | k_exc | rfl)
    (case e_NoName_kNoSize => first | k_is | k_exc | rfl)
    (case e_NoName_kNoText => first | k_is | k_exc | rfl)
    (case e_NoName_kNoRow => first | k_is | k_exc | rfl)
    (case e_Taken_hg => first | k_is | k_exc | rfl)
    (case e_Taken_hk => first | k_is | k_exc | rfl)
    (case e_Taken_ha => first | k_is | k_exc | rfl)
    (case e_Taken_hm => first | k_is | k_exc | rfl)
    (case e_Taken_hd => first | k_is | k_exc | rfl)
    (case e_Taken_sp => first | k_is | k_exc | rfl)
    (case e_Taken_kv => first | k_is | k_exc | rfl)
    (case e_Taken_kNoNumber => first | k_is | k_exc | rfl)
    (case e_Taken_kNoPoint => first | k_is | k_exc | rfl)
    (case e_Taken_kBadLayer => first | k_is | k_exc | rfl)
    (case e_Taken_kBadPlan => first | k_is | k_exc | rfl)
    (case e_Taken_kNoFace => first | k_is | k_exc | rfl)
    (case e_Taken_kEndless => first | k_is | k_exc | rfl)
    (case e_Taken_kNoGround => first | k_is | k_exc | rfl)
    (case e_Taken_kNoName => first | k_is | k_exc | rfl)
    (case e_Taken_kTaken => first | k_is | k_exc | rfl)
    (case e_Taken_kNoLayer => first | k_is | k_exc | rfl)
    (case e_Taken_kTooMany => first | k_is | k_exc | rfl)
    (case e_Taken_kBadWish => first | k_is | k_exc | rfl)
    (case e_Taken_kNoSize => first | k_is | k_exc | rfl)
    (case e_Taken_kNoText => first | k_is | k_exc | rfl)
    (case e_Taken_kNoRow => first | k_is | k_exc | rfl)
    (case e_Taken_row => (refine' Py.oexRow_mk ?h ?r; (case h => k_is); (case r => decide)))
    (case e_Taken_sa => first | k_is | k_exc | rfl)
    (case e_Taken_eb => first | k_is | k_exc | rfl)
    (case e_Taken_et => first | k_is | k_exc | rfl)
    (case e_Taken_kp => first | k_is | k_exc | rfl)
    (case e_Taken_in => (refine' Py.inf_mk ?a ?t ?l ?c ?k; (case a => k_is); (case t => k_is); (case l => k_is); (case c => k_is); (case k => k_is)))
    (case e_Taken_nf_name => first | k_is | k_exc | rfl)
    (case e_NoLayer_hg => first | k_is | k_exc | rfl)
    (case e_NoLayer_hk => first | k_is | k_exc | rfl)
    (case e_NoLayer_ha => first | k_is | k_exc | rfl)
    (case e_NoLayer_hm => first | k_is | k_exc | rfl)
    (case e_NoLayer_hd => first | k_is | k_exc | rfl)
    (case e_NoLayer_sp => first | k_is | k_exc | rfl)
    (case e_NoLayer_kv => first | k_is | k_exc | rfl)
    (case e_NoLayer_kNoNumber => first | k_is | k_exc | rfl)
    (case e_NoLayer_kNoPoint => first | k_is | k_exc | rfl)
    (case e_NoLayer_kBadLayer => first | k_is | k_exc | rfl)
    (case e_NoLayer_kBadPlan => first | k_is | k_exc | rfl)
    (case e_NoLayer_kNoFace => first | k_is | k_exc | rfl)
    (case e_NoLayer_kEndless => first | k_is | k_exc | rfl)
    (case e_NoLayer_kNoGround => first | k_is | k_exc | rfl)
    (case e_NoLayer_kNoName => first | k_is | k_exc | rfl)
    (case e_NoLayer_kTaken => first | k_is | k_exc | rfl)
    (case e_NoLayer_kNoLayer => first | k_is | k_exc | rfl)
    (case e_NoLayer_kTooMany => first | k_is | k_exc | rfl)
    (case e_NoLayer_kBadWish => first | k_is | k_exc | rfl)
    (case e_NoLayer_kNoSize => first | k_is | k_exc | rfl)
    (case e_NoLayer_kNoText => first | k_is | k_exc | rfl)
    (case e_NoLayer_kNoRow => first | k_is | k_exc | rfl)
    (case e_NoLayer_row => (refine' Py.oexRow_mk ?h ?r; (case h => k_is); (case r => decide)))
    (case e_NoLayer_sa => first | k_is | k_exc | rfl)
    (case e_NoLayer_eb => first | k_is | k_exc | rfl)
    (case e_NoLayer_et => first | k_is | k_exc | rfl)
    (case e_NoLayer_kp => first | k_is | k_exc | rfl)
    (case e_NoLayer_in => (refine' Py.inf_mk ?a ?t ?l ?c ?k; (case a => k_is); (case t => k_is); (case l => k_is); (case c => k_is); (case k => k_is)))
    (case e_NoLayer_nf_name => first | k_is | k_exc | rfl)
    (case e_TooMany_hg => first | k_is | k_exc | rfl)
    (case e_TooMany_hk => first | k_is | k_exc | rfl)
    (case e_TooMany_ha => first | k_is | k_exc | rfl)
    (case e_TooMany_hm => first | k_is | k_exc | rfl)
    (case e_TooMany_hd => first | k_is | k_exc | rfl)
    (case e_TooMany_sp => first | k_is | k_exc | rfl)
    (case e_TooMany_kv => first | k_is | k_exc | rfl)
    (case e_TooMany_kNoNumber => first | k_is | k_exc | rfl)
    (case e_TooMany_kNoPoint => first | k_is | k_exc | rfl)
    (case e_TooMany_kBadLayer => first | k_is | k_exc | rfl)
    (case e_TooMany_kBadPlan => first | k_is | k_exc | rfl)
    (case e_TooMany_kNoFace => first | k_is | k_exc | rfl)
    (case e_TooMany_kEndless => first | k_is | k_exc | rfl)
    (case e_TooMany_kNoGround => first | k_is | k_exc | rfl)
    (case e_TooMany_kNoName => first | k_is | k_exc | rfl)
    (case e_TooMany_kTaken => first | k_is | k_exc | rfl)
    (case e_TooMany_kNoLayer => first | k_is | k_exc | rfl)
    (case e_TooMany_kTooMany => first | k_is | k_exc | rfl)
    (case e_TooMany_kBadWish => first | k_is | k_exc | rfl)
    (case e_TooMany_kNoSize => first | k_is | k_exc | rfl)
    (case e_TooMany_kNoText => first | k_is | k_exc | rfl)
    (case e_TooMany_kNoRow => first | k_is | k_exc | rfl)
    (case e_TooMany_row => (refine' Py.oexRow_mk ?h ?r; (case h => k_is); (case r => decide)))
    (case e_TooMany_sa => first | k_is | k_exc | rfl)
    (case e_TooMany_eb => first | k_is | k_exc | rfl)
    (case e_TooMany_et => first | k_is | k_exc | rfl)
    (case e_TooMany_kp => first | k_is | k_exc | rfl)
    (case e_TooMany_in => (refine' Py.inf_mk ?a ?t ?l ?c ?k; (case a => k_is); (case t => k_is); (case l => k_is); (case c => k_is); (case k => k_is)))
    (case e_TooMany_nf_most => first | k_is | k_exc | rfl)
    (case e_BadWish_hg => first | k_is | k_exc | rfl)
    (case e_BadWish_hk => first | k_is | k_exc | rfl)
    (case e_BadWish_ha => first | k_is | k_exc | rfl)
    (case e_BadWish_hm => first | k_is | k_exc | rfl)
    (case e_BadWish_hd => first | k_is | k_exc | rfl)
    (case e_BadWish_sp => first | k_is | k_exc | rfl)
    (case e_BadWish_kv => first | k_is | k_exc | rfl)
    (case e_BadWish_kNoNumber => first | k_is | k_exc | rfl)
    (case e_BadWish_kNoPoint => first | k_is | k_exc | rfl)
    (case e_BadWish_kBadLayer => first | k_is | k_exc | rfl)
    (case e_BadWish_kBadPlan => first | k_is | k_exc | rfl)
    (case e_BadWish_kNoFace => first | k_is | k_exc | rfl)
    (case e_BadWish_kEndless => first | k_is | k_exc | rfl)
    (case e_BadWish_kNoGround => first | k_is | k_exc | rfl)
    (case e_BadWish_kNoName => first | k_is | k_exc | rfl)
    (case e_BadWish_kTaken => first | k_is | k_exc | rfl)
    (case e_BadWish_kNoLayer => first | k_is | k_exc | rfl)
    (case e_BadWish_kTooMany => first | k_is | k_exc | rfl)
    (case e_BadWish_kBadWish => first | k_is | k_exc | rfl)
    (case e_BadWish_kNoSize => first | k_is | k_exc | rfl)
    (case e_BadWish_kNoText => first | k_is | k_exc | rfl)
    (case e_BadWish_kNoRow => first | k_is | k_exc | rfl)
    (case e_NoSize_hg => first | k_is | k_exc | rfl)
    (case e_NoSize_hk => first | k_is | k_exc | rfl)
    (case e_NoSize_ha => first | k_is | k_exc | rfl)
    (case e_NoSize_hm => first | k_is | k_exc | rfl)
    (case e_NoSize_hd => first | k_is | k_exc | rfl)
    (case e_NoSize_sp => first | k_is | k_exc | rfl)
    (case e_NoSize_kv => first | k_is | k_exc | rfl)
    (case e_NoSize_kNoNumber => first | k_is | k_exc | rfl)
    (case e_NoSize_kNoPoint => first | k_is | k_exc | rfl)
    (case e_NoSize_kBadLayer => first | k_is | k_exc | rfl)
    (case e_NoSize_kBadPlan => first | k_is | k_exc | rfl)
    (case e_NoSize_kNoFace => first | k_is | k_exc | rfl)
    (case e_NoSize_kEndless => first | k_is | k_exc | rfl)
    (case e_NoSize_kNoGround => first | k_is | k_exc | rfl)
    (case e_NoSize_kNoName => first | k_is | k_exc | rfl)
    (case e_NoSize_kTaken => first | k_is | k_exc | rfl)
    (case e_NoSize_kNoLayer => first | k_is | k_exc | rfl)
    (case e_NoSize_kTooMany => first | k_is | k_exc | rfl)
    (case e_NoSize_kBadWish => first | k_is | k_exc | rfl)
    (case e_NoSize_kNoSize => first | k_is | k_exc | rfl)
    (case e_NoSize_kNoText => first | k_is | k_exc | rfl)
    (case e_NoSize_kNoRow => first | k_is | k_exc | rfl)
    (case e_NoText_hg => first | k_is | k_exc | rfl)
    (case e_NoText_hk => first | k_is | k_exc | rfl)
    (case e_NoText_ha => first | k_is | k_exc | rfl)
    (case e_NoText_hm => first | k_is | k_exc | rfl)
    (case e_NoText_hd => first | k_is | k_exc | rfl)
    (case e_NoText_sp => first | k_is | k_exc | rfl)
    (case e_NoText_kv => first | k_is | k_exc | rfl)
    (case e_NoText_kNoNumber => first | k_is | k_exc | rfl)
    (case e_NoText_kNoPoint => first | k_is | k_exc | rfl)
    (case e_NoText_kBadLayer => first | k_is | k_exc | rfl)
    (case e_NoText_kBadPlan => first | k_is | k_exc | rfl)
    (case e_NoText_kNoFace => first | k_is | k_exc | rfl)
    (case e_NoText_kEndless => first | k_is | k_exc | rfl)
    (case e_NoText_kNoGround => first | k_is | k_exc | rfl)
    (case e_NoText_kNoName => first | k_is | k_exc | rfl)
    (case e_NoText_kTaken => first | k_is | k_exc | rfl)
    (case e_NoText_kNoLayer => first | k_is | k_exc | rfl)
    (case e_NoText_kTooMany => first | k_is | k_exc | rfl)
    (case e_NoText_kBadWish => first | k_is | k_exc | rfl)
    (case e_NoText_kNoSize => first | k_is | k_exc | rfl)
    (case e_NoText_kNoText => first | k_is | k_exc | rfl)
    (case e_NoText_kNoRow => first | k_is | k_exc | rfl)
    (case e_NoRow_hg => first | k_is | k_exc | rfl)
    (case e_NoRow_hk => first | k_is | k_exc | rfl)
    (case e_NoRow_ha => first | k_is | k_exc | rfl)
    (case e_NoRow_hm => first | k_is | k_exc | rfl)
    (case e_NoRow_hd => first | k_is | k_exc | rfl)
    (case e_NoRow_sp => first | k_is | k_exc | rfl)
    (case e_NoRow_kv => first | k_is | k_exc | rfl)
    (case e_NoRow_kNoNumber => first | k_is | k_exc | rfl)
    (case e_NoRow_kNoPoint => first | k_is | k_exc | rfl)
    (case e_NoRow_kBadLayer => first | k_is | k_exc | rfl)
    (case e_NoRow_kBadPlan => first | k_is | k_exc | rfl)
    (case e_NoRow_kNoFace => first | k_is | k_exc | rfl)
    (case e_NoRow_kEndless => first | k_is | k_exc | rfl)
    (case e_NoRow_kNoGround => first | k_is | k_exc | rfl)
    (case e_NoRow_kNoName => first | k_is | k_exc | rfl)
    (case e_NoRow_kTaken => first | k_is | k_exc | rfl)
    (case e_NoRow_kNoLayer => first | k_is | k_exc | rfl)
    (case e_NoRow_kTooMany => first | k_is | k_exc | rfl)
    (case e_NoRow_kBadWish => first | k_is | k_exc | rfl)
    (case e_NoRow_kNoSize => first | k_is | k_exc | rfl)
    (case e_NoRow_kNoText => first | k_is | k_exc | rfl)
    (case e_NoRow_kNoRow => first | k_is | k_exc | rfl)
    (case e_hn => first | k_is | k_exc | rfl)
    (case e_ht => first | k_is | k_exc | rfl)
    (case eb_PlyError => first | k_is | k_exc | rfl)
    (case hd_PlyError => first | k_is | k_exc | rfl)
    (case et_PlyError => first | k_is | k_exc | rfl)
