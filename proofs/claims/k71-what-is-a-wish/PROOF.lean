import PyProof.Rows.All
import Wide.All
import OpenK.AllK
import Wide.FinOn
import HandS.ForMost
import HandS.ForExc
import HandS.IsInst
import HandS.Wide
import HandS.Style
import HandS.Evl
import HandS.ExcIs
import HandS.More
import HandS.Deep
import HandS.Zip
import KE.GoesMore
import HandS.Iter
import HandS.TryOnly
import HandS.Dict
import HandS.Conv
import HandS.SortRule
import HandS.RaiseMore
import HandS.ExcInit
import HandS.ExcField
import HandS.DictComp
import HandS.Walk
import HandS.Text
import PySem.Challenge.RW_plymap_k71_what_is_a_wish
set_option Elab.async false
set_option linter.all false
set_option autoImplicit false
set_option maxRecDepth 100000
set_option maxHeartbeats 4000000
namespace Py
open PySem L2
open Evl (Ex ex_rd ex_l ex_t fresh_back)
open Classical

/-! ### data -/
mutual
/-- a value is the data (lists as they are laid, no others) -/
inductive Dp (K : PySem.W.Frag) (G : Hp) : V → PyData → Prop
  | non : Dp K G .non .none
  | bl (b : Bool) : Dp K G (.bl b) (.bool b)
  | int (i : Int) : Dp K G (.int i) (.int i)
  | str (x : Str) : Dp K G (.str x) (.str x)
  | lst {a : Addr} {xs : List V} {ds : List PyData} {hp : G a = some (.lst xs)} : SqL K G a xs → DpAll K G xs ds → Dp K G (.ref a) (.list ds)
  | tup {a : Addr} {xs : List V} {ds : List PyData} {hp : G a = some (.tup xs)} : SqT K G a xs → DpAll K G xs ds → Dp K G (.ref a) (.tuple ds)
  | dic {a : Addr} {kvs : List (Key × V)} {hp : G a = some (.dK kvs)} : Dp K G (.ref a) (.dict [])
inductive DpAll (K : PySem.W.Frag) (G : Hp) : List V → List PyData → Prop
  | nil : DpAll K G [] []
  | cons {v : V} {vs : List V} {d : PyData} {ds : List PyData} : Dp K G v d → DpAll K G vs ds → DpAll K G (v :: vs) (d :: ds)
end
mutual
theorem Dp.to {K : PySem.W.Frag} {G : Hp} : ∀ (d : PyData) (v : V), d.canLay0 = true → Dp K G v d → L2.Dp K G v d
  | .none, _, _, h => by cases h; exact .non
  | .bool _, _, _, h => by cases h; exact .bl _
  | .int _, _, _, h => by cases h; exact .int _
  | .str _, _, _, h => by cases h; exact .str _
  | .list ds, _, c, h => by
    cases h with
    | lst hs ha => exact .lst hs (DpAll.to ds _ (by simpa [PyData.canLay0] using c) ha)
  | .tuple ds, _, c, h => by
    cases h with
    | tup hs ha => exact .tup hs (DpAll.to ds _ (by simpa [PyData.canLay0] using c) ha)
  | .dict _, _, c, _ => by simp [PyData.canLay0] at c
theorem DpAll.to {K : PySem.W.Frag} {G : Hp} : ∀ (ds : List PyData) (vs : List V), PyData.canLayAll0 ds = true → DpAll K G vs ds → L2.DpAll K G vs ds
  | [], _, _, h => by cases h; exact .nil
  | d :: ds, _, c, h => by
    simp only [PyData.canLayAll0, Bool.and_eq_true] at c
    cases h with
    | cons h1 h2 => exact .cons (Dp.to d _ c.1 h1) (DpAll.to ds _ c.2 h2)
end
theorem dp_lst {K : PySem.W.Frag} {G : Hp} {a : Addr} {xs : List V} {ds : List PyData} (h : G a = some (.lst xs)) (ha : DpAll K G xs ds) : Dp K G (.ref a) (.list ds) := .lst (hp := h) (.inl (.inl h)) ha
theorem dp_tup {K : PySem.W.Frag} {G : Hp} {a : Addr} {xs : List V} {ds : List PyData} (h : G a = some (.tup xs)) (ha : DpAll K G xs ds) : Dp K G (.ref a) (.tuple ds) := .tup (hp := h) (.inl (.inl h)) ha
mutual
theorem dp_mono {K : PySem.W.Frag} {G G' : Hp} (e : Ex G G') : ∀ (d : PyData) (v : V), Dp K G v d → Dp K G' v d
  | .none, _, h => by cases h; exact .non
  | .bool _, _, h => by cases h; exact .bl _
  | .int _, _, h => by cases h; exact .int _
  | .str _, _, h => by cases h; exact .str _
  | .list ds, _, h => by
    cases h with
    | @lst _ _ _ hp hs ha => exact .lst (hp := e _ _ hp) (ex_l e hs) (dpa_mono e ds _ ha)
  | .tuple ds, _, h => by
    cases h with
    | @tup _ _ _ hp hs ha => exact .tup (hp := e _ _ hp) (ex_t e hs) (dpa_mono e ds _ ha)
  | .dict _, _, h => by
    cases h with
    | @dic _ _ hp => exact .dic (hp := e _ _ hp)
theorem dpa_mono {K : PySem.W.Frag} {G G' : Hp} (e : Ex G G') : ∀ (ds : List PyData) (vs : List V), DpAll K G vs ds → DpAll K G' vs ds
  | [], _, h => by cases h; exact .nil
  | d :: ds, _, h => by
    cases h with
    | cons h1 h2 => exact .cons (dp_mono e d _ h1) (dpa_mono e ds _ h2)
end
theorem dpa_len {K : PySem.W.Frag} {G : Hp} : ∀ {ds : List PyData} {vs : List V}, DpAll K G vs ds → vs.length = ds.length
  | _, _, .nil => rfl
  | _, _, .cons _ h => by simp [dpa_len h]
theorem dpa_get {K : PySem.W.Frag} {G : Hp} : ∀ {ds : List PyData} {vs : List V} {i : Nat} {d : PyData}, DpAll K G vs ds → ds[i]? = some d → ∃ v, vs[i]? = some v ∧ Dp K G v d
  | _, _, i, d, .nil, h => by simp at h
  | _, _, 0, d, .cons h1 _, h => by
    have e : _ = d := Option.some.inj h
    subst e
    exact ⟨_, rfl, h1⟩
  | _, _, i + 1, d, .cons _ h2, h => dpa_get (i := i) h2 h
theorem dpa_get' {K : PySem.W.Frag} {G : Hp} : ∀ {ds : List PyData} {vs : List V} {i : Nat} {v : V}, DpAll K G vs ds → vs[i]? = some v → ∃ d, ds[i]? = some d ∧ Dp K G v d
  | _, _, i, d, .nil, h => by simp at h
  | _, _, 0, d, .cons h1 _, h => by
    have e : _ = d := Option.some.inj h
    subst e
    exact ⟨_, rfl, h1⟩
  | _, _, i + 1, d, .cons _ h2, h => dpa_get' (i := i) h2 h
theorem dpa_app {K : PySem.W.Frag} {G : Hp} : ∀ {ds es : List PyData} {vs us : List V}, DpAll K G vs ds → DpAll K G us es → DpAll K G (vs ++ us) (ds ++ es)
  | _, _, _, _, .nil, h => h
  | _, _, _, _, .cons h1 h2, h => .cons h1 (dpa_app h2 h)
theorem dpa_drop {K : PySem.W.Frag} {G : Hp} : ∀ {ds : List PyData} {vs : List V} (n : Nat), DpAll K G vs ds → DpAll K G (vs.drop n) (ds.drop n)
  | _, _, 0, h => by simpa using h
  | _, _, n + 1, .nil => by simpa using DpAll.nil
  | _, _, n + 1, .cons _ h => by simpa using dpa_drop n h
theorem dpa_take {K : PySem.W.Frag} {G : Hp} : ∀ {ds : List PyData} {vs : List V} (n : Nat), DpAll K G vs ds → DpAll K G (vs.take n) (ds.take n)
  | _, _, 0, _ => by simpa using DpAll.nil
  | _, _, n + 1, .nil => by simpa using DpAll.nil
  | _, _, n + 1, .cons h1 h => by simpa using DpAll.cons h1 (dpa_take n h)
theorem dpa_set {K : PySem.W.Frag} {G : Hp} {v : V} {d : PyData} (hd : Dp K G v d) : ∀ {ds : List PyData} {vs : List V} (n : Nat), DpAll K G vs ds → DpAll K G (vs.set n v) (ds.set n d)
  | _, _, _, .nil => by simpa using DpAll.nil
  | _, _, 0, .cons _ h => by simpa using DpAll.cons hd h
  | _, _, n + 1, .cons h1 h => by simpa using DpAll.cons h1 (dpa_set hd n h)

/-! ### what is hidden -/
noncomputable def hid (L : Addr → Prop) (H : Hp) : Hp := fun a => if L a then none else H a
theorem hid_pos {L : Addr → Prop} {H : Hp} {a : Addr} (h : L a) : hid L H a = none := if_pos h
theorem hid_neg {L : Addr → Prop} {H : Hp} {a : Addr} (h : ¬ L a) : hid L H a = H a := if_neg h
theorem hid_some {L : Addr → Prop} {H : Hp} {a : Addr} {o : HO} (h : hid L H a = some o) : ¬ L a ∧ H a = some o := by
  by_cases q : L a
  · rw [hid_pos q] at h; cases h
  · rw [hid_neg q] at h; exact ⟨q, h⟩
theorem hid_sub {L : Addr → Prop} {H : Hp} : Ex (hid L H) H := fun a o h => (hid_some h).2
theorem hid_ex {L : Addr → Prop} {H H' : Hp} (e : Ex H H') : Ex (hid L H) (hid L H') := fun a o h => by
  obtain ⟨n, q⟩ := hid_some h
  rw [hid_neg n]
  exact e a o q
theorem hid_less {L M : Addr → Prop} {H : Hp} (e : ∀ a, M a → L a) : Ex (hid L H) (hid M H) := fun a o h => by
  obtain ⟨n, q⟩ := hid_some h
  rw [hid_neg (fun z => n (e a z))]
  exact q
theorem hid_none {L : Addr → Prop} {H : Hp} {a : Addr} (h : H a = none) : hid L H a = none := by
  by_cases q : L a
  · exact hid_pos q
  · rw [hid_neg q]; exact h

/-- what an expression is worth: data, or a thing as it is -/
inductive Dv where
  | d (x : PyData)
  | r (v : V)
  | f (l : Addr) (xs : List PyData)
  | n (l : Addr) (ts : List (Addr × List PyData))
def DvOk (K : PySem.W.Frag) (G : Hp) (v : V) : Dv → Prop
  | .d x => Dp K G v x
  | .r u => v = u
  | .f l xs => v = .ref l ∧ ∃ vs, G l = some (.lst vs) ∧ DpAll K (hid (· = l) G) vs xs
  | .n l ts => v = .ref l ∧ G l = some (.lst (ts.map fun t => .ref t.1)) ∧ (l :: ts.map (·.1)).Nodup ∧ ∀ t ∈ ts, ∃ us, G t.1 = some (.lst us) ∧ DpAll K (hid (fun a => a ∈ l :: ts.map (·.1)) G) us t.2
theorem dv_mono {K : PySem.W.Frag} {G G' : Hp} (e : Ex G G') {v : V} : ∀ {x : Dv}, DvOk K G v x → DvOk K G' v x
  | .d _, h => dp_mono e _ _ h
  | .r _, h => h
  | .f _ _, ⟨h1, vs, h2, h3⟩ => ⟨h1, vs, e _ _ h2, dpa_mono (hid_ex e) _ _ h3⟩
  | .n _ _, ⟨h1, h2, h3, h4⟩ => ⟨h1, e _ _ h2, h3, fun t ht => let ⟨us, h5, h6⟩ := h4 t ht; ⟨us, e _ _ h5, dpa_mono (hid_ex e) _ _ h6⟩⟩
inductive DvAll (K : PySem.W.Frag) (G : Hp) : List V → List Dv → Prop
  | nil : DvAll K G [] []
  | cons {v : V} {vs : List V} {x : Dv} {xs : List Dv} : DvOk K G v x → DvAll K G vs xs → DvAll K G (v :: vs) (x :: xs)
theorem dva_mono {K : PySem.W.Frag} {G G' : Hp} (e : Ex G G') : ∀ {vs : List V} {xs : List Dv}, DvAll K G vs xs → DvAll K G' vs xs
  | _, _, .nil => .nil
  | _, _, .cons h t => .cons (dv_mono e h) (dva_mono e t)
theorem dva_len {K : PySem.W.Frag} {G : Hp} : ∀ {vs : List V} {xs : List Dv}, DvAll K G vs xs → vs.length = xs.length
  | _, _, .nil => rfl
  | _, _, .cons _ t => by simp [dva_len t]
theorem dva_get {K : PySem.W.Frag} {G : Hp} : ∀ {xs : List Dv} {vs : List V} {i : Nat} {x : Dv}, DvAll K G vs xs → xs[i]? = some x → ∃ v, vs[i]? = some v ∧ DvOk K G v x
  | _, _, i, d, .nil, h => by simp at h
  | _, _, 0, d, .cons h1 _, h => by
    have e : _ = d := Option.some.inj h
    subst e
    exact ⟨_, rfl, h1⟩
  | _, _, i + 1, d, .cons _ h2, h => dva_get (i := i) h2 h
theorem dva_data {K : PySem.W.Frag} {G : Hp} : ∀ {ds : List PyData} {vs : List V}, DvAll K G vs (ds.map Dv.d) → DpAll K G vs ds
  | [], _, .nil => .nil
  | d :: ds, _, .cons h t => .cons h (dva_data t)

/-- what may change: all but tuples -/
def isMut : HO → Bool
  | .tup _ => false
  | .frz _ (.tup _) => false
  | _ => true
/-- what can't change stands -/
def Tp (H H' : Hp) : Prop := ∀ a o, H a = some o → isMut o = false → H' a = some o
theorem tp_new {H : Hp} {p : Addr} {o : HO} (h : H p = none) : Tp H (upd H p o) := fun a u e _ => (upd_ne fun z => by subst z; rw [h] at e; cases e).trans e
theorem tp_mut {H : Hp} {p : Addr} {o o' : HO} (h : H p = some o') (m : isMut o' = true) : Tp H (upd H p o) := fun a u e n => (upd_ne fun z => by subst z; rw [h] at e; cases e; rw [m] at n; cases n).trans e
theorem tp_lst {H : Hp} {p : Addr} {o : HO} {us : List V} (h : H p = some (.lst us)) : Tp H (upd H p o) := tp_mut h rfl
structure Ctx (K : PySem.W.Frag) where
  B : Hp
  L : Addr → Prop
  W : Hp → Prop
  loc : ∀ H H', (∀ a, L a → H' a = H a) → Tp H H' → W H → W H'
  dom : ∀ H, W H → ∀ a, L a → ∃ o, H a = some o ∧ isMut o = true

/-- what stands in an object of one's own: a list, a dict by tuples of ints and texts, a dict by ints and texts -/
inductive OwnC where
  | l (xs : List PyData)
  | t (kvs : List (List Key × PyData))
  | k (kvs : List (Key × PyData))
instance : Coe (List PyData) OwnC := ⟨OwnC.l⟩
def OwnOk (K : PySem.W.Frag) (G : Hp) : HO → OwnC → Prop
  | ob, .l xs => ∃ vs, ob = .lst vs ∧ DpAll K G vs xs
  | ob, .t kvs => ∃ us : List (List Key × V), ob = .dT us ∧ us.map (·.1) = kvs.map (·.1) ∧ DpAll K G (us.map (·.2)) (kvs.map (·.2))
  | ob, .k kvs => ∃ us : List (Key × V), ob = .dK us ∧ us.map (·.1) = kvs.map (·.1) ∧ DpAll K G (us.map (·.2)) (kvs.map (·.2))
theorem own_mono {K : PySem.W.Frag} {G G' : Hp} (e : Ex G G') : ∀ (x : OwnC) (ob : HO), OwnOk K G ob x → OwnOk K G' ob x
  | .l _, _, ⟨vs, h1, h2⟩ => ⟨vs, h1, dpa_mono e _ _ h2⟩
  | .t _, _, ⟨us, h1, h2, h3⟩ => ⟨us, h1, h2, dpa_mono e _ _ h3⟩
  | .k _, _, ⟨us, h1, h2, h3⟩ => ⟨us, h1, h2, dpa_mono e _ _ h3⟩
theorem own_mut {K : PySem.W.Frag} {G : Hp} : ∀ {x : OwnC} {ob : HO}, OwnOk K G ob x → isMut ob = true
  | .l _, _, ⟨vs, h1, h2⟩ => by subst h1; rfl
  | .t _, _, ⟨us, h1, h2, h3⟩ => by subst h1; rfl
  | .k _, _, ⟨us, h1, h2, h3⟩ => by subst h1; rfl
inductive Slot where
  | un
  | val (x : Dv)
  | own (l : Addr) (x : OwnC)
abbrev Rho := List Slot
def Owns (ρ : Rho) (a : Addr) : Prop := ∃ x : OwnC, Slot.own a x ∈ ρ
def Hid {K : PySem.W.Frag} (c : Ctx K) (ρ : Rho) (a : Addr) : Prop := c.L a ∨ Owns ρ a
noncomputable def vis {K : PySem.W.Frag} (c : Ctx K) (ρ : Rho) (H : Hp) : Hp := hid (Hid c ρ) H
def SlotOk (K : PySem.W.Frag) (G H : Hp) (o : Option V) : Slot → Prop
  | .un => True
  | .val x => ∃ v, o = some v ∧ DvOk K G v x
  | .own l x => ∃ ob : HO, o = some (.ref l) ∧ H l = some ob ∧ OwnOk K G ob x
structure Ok {K : PySem.W.Frag} (c : Ctx K) (ρ : Rho) (σ : L2.St) (H : Hp) : Prop where
  w : c.W H
  b : Ex c.B (hid c.L H)
  ob : ∀ l, Owns ρ l → c.B l = none ∧ ¬ c.L l
  sl : ∀ (i : Nat) (s : Slot), ρ[i]? = some s → ∃ o, σ[i]? = some o ∧ SlotOk K (vis c ρ H) H o s
  one : ∀ (i j : Nat) (l : Addr) (xs ys : OwnC), ρ[i]? = some (.own l xs) → ρ[j]? = some (.own l ys) → i = j
  len : σ.length = ρ.length

/-- what an evaluation does to the heap -/
structure Stp {K : PySem.W.Frag} (c : Ctx K) (ρ : Rho) (H H' : Hp) : Prop where
  ex : Ex (vis c ρ H) (vis c ρ H')
  own : ∀ a, Owns ρ a → H' a = H a
theorem Stp.refl {K : PySem.W.Frag} {c : Ctx K} {ρ : Rho} (H : Hp) : Stp c ρ H H := ⟨Evl.Ex.refl _, fun _ _ => rfl⟩
theorem Stp.trans {K : PySem.W.Frag} {c : Ctx K} {ρ : Rho} {H H1 H2 : Hp} (a : Stp c ρ H H1) (b : Stp c ρ H1 H2) : Stp c ρ H H2 := ⟨a.ex.trans b.ex, fun x h => (b.own x h).trans (a.own x h)⟩
theorem vis_out {K : PySem.W.Frag} {c : Ctx K} {ρ : Rho} {H : Hp} : Ex (vis c ρ H) (hid c.L H) := hid_less fun _ h => .inl h
theorem Ok.base {K : PySem.W.Frag} {c : Ctx K} {ρ : Rho} {σ : L2.St} {H : Hp} (k : Ok c ρ σ H) : Ex c.B (vis c ρ H) := fun a o h => by
  obtain ⟨n, q⟩ := hid_some (k.b a o h)
  unfold vis
  rw [hid_neg]
  · exact q
  · rintro (z | z)
    · exact n z
    · rw [(k.ob a z).1] at h; cases h
theorem Ok.nh {K : PySem.W.Frag} {c : Ctx K} {ρ : Rho} {σ : L2.St} {H : Hp} (k : Ok c ρ σ H) {p : Addr} (h : H p = none) : ¬ Hid c ρ p := by
  rintro (z | ⟨xs, z⟩)
  · obtain ⟨o, e, _⟩ := c.dom H k.w p z
    rw [h] at e; cases e
  · obtain ⟨i, hi, e⟩ := List.mem_iff_getElem.mp z
    obtain ⟨o, _, vs, _, q, dd⟩ := k.sl i (.own p xs) (by rw [List.getElem?_eq_getElem hi, e])
    rw [h] at q; cases q
/-- the visible part grows, the hidden stands -/
theorem Ok.grow {K : PySem.W.Frag} {c : Ctx K} {ρ : Rho} {σ : L2.St} {H H' : Hp} (k : Ok c ρ σ H) (w : c.W H') (e : Ex (vis c ρ H) (vis c ρ H')) (ho : ∀ a, Owns ρ a → H' a = H a) : Ok c ρ σ H' where
  w := w
  b := (k.base.trans e).trans vis_out
  ob := k.ob
  sl := fun i s h => by
    obtain ⟨o, q, z⟩ := k.sl i s h
    refine ⟨o, q, ?_⟩
    cases s with
    | un => trivial
    | val x =>
      obtain ⟨v, e1, e2⟩ := z
      exact ⟨v, e1, dv_mono e e2⟩
    | own l xs =>
      obtain ⟨vs, e1, e2, e3⟩ := z
      exact ⟨vs, e1, (ho l ⟨xs, List.mem_of_getElem? h⟩).trans e2, own_mono e _ _ e3⟩
  one := k.one
  len := k.len
/-- a new object -/
theorem Ok.new {K : PySem.W.Frag} {c : Ctx K} {ρ : Rho} {σ : L2.St} {H : Hp} (k : Ok c ρ σ H) {p : Addr} {o : HO} (h : H p = none) : Ok c ρ σ (upd H p o) ∧ Stp c ρ H (upd H p o) := by
  have e : Ex (vis c ρ H) (vis c ρ (upd H p o)) := hid_ex (Ex.new h)
  have ho : ∀ a, Owns ρ a → upd H p o a = H a := fun a ha => upd_ne fun z => by subst z; exact k.nh h (.inr ha)
  exact ⟨k.grow (c.loc _ _ (fun a ha => upd_ne fun z => by subst z; exact k.nh h (.inl ha)) (tp_new h) k.w) e ho, e, ho⟩
theorem vis_upd {K : PySem.W.Frag} {c : Ctx K} {ρ : Rho} {H : Hp} {p : Addr} {o : HO} (n : ¬ Hid c ρ p) : vis c ρ (upd H p o) p = some o := by
  unfold vis
  rw [hid_neg n, upd_same]

/-! ### judgements -/
def Qk {K : PySem.W.Frag} (c : Ctx K) (ρ : Rho) (σ : L2.St) (H : Hp) (k : Dv → Prop) (Q : VK) : Prop := ∀ v x H', Ok c ρ σ H' → Stp c ρ H H' → DvOk K (vis c ρ H') v x → k x → Q v H'
def We {K : PySem.W.Frag} (c : Ctx K) (te : TE) (ρ : Rho) (k : Dv → Prop) : Prop := ∀ σ H (Q : VK), Ok c ρ σ H → Qk c ρ σ H k Q → te σ H Q
def Wt {K : PySem.W.Frag} (c : Ctx K) (tt : TT) (ρ : Rho) (k : Bool → Prop) : Prop := ∀ σ H (Q : Bool → Hp → Prop), Ok c ρ σ H → (∀ b H', Ok c ρ σ H' → Stp c ρ H H' → k b → Q b H') → tt σ H Q
def Wa {K : PySem.W.Frag} (c : Ctx K) (ta : TA) (ρ : Rho) (k : List Dv → Prop) : Prop := ∀ σ H (Q : List V → Hp → Prop), Ok c ρ σ H → (∀ vs xs H', Ok c ρ σ H' → Stp c ρ H H' → DvAll K (vis c ρ H') vs xs → k xs → Q vs H') → ta σ H Q
/-- a list that is new, and nobody else's -/
def Wf {K : PySem.W.Frag} (c : Ctx K) (te : TE) (ρ : Rho) (k : List PyData → Prop) : Prop := ∀ σ H (Q : VK), Ok c ρ σ H →
  (∀ l vs xs H', H l = none → H' l = some (.lst vs) → Ok c ρ σ H' → Stp c ρ H H' → DpAll K (hid (· = l) (vis c ρ H')) vs xs → k xs → Q (.ref l) H') → te σ H Q
def Rv {K : PySem.W.Frag} (c : Ctx K) (r : R2) (ρ : Rho) (x y : Dv) (k : Dv → Prop) : Prop := ∀ σ H v u (Q : VK), Ok c ρ σ H → DvOk K (vis c ρ H) v x → DvOk K (vis c ρ H) u y → Qk c ρ σ H k Q → r v u H Q
def Ru {K : PySem.W.Frag} (c : Ctx K) (r : V → Hp → VK → Prop) (ρ : Rho) (x : Dv) (k : Dv → Prop) : Prop := ∀ σ H v (Q : VK), Ok c ρ σ H → DvOk K (vis c ρ H) v x → Qk c ρ σ H k Q → r v H Q
def Rc {K : PySem.W.Frag} (c : Ctx K) (r : List V → Hp → VK → Prop) (ρ : Rho) (xs : List Dv) (k : Dv → Prop) : Prop := ∀ σ H vs (Q : VK), Ok c ρ σ H → DvAll K (vis c ρ H) vs xs → Qk c ρ σ H k Q → r vs H Q
structure DE where
  nx : Rho → Prop
  rt : Dv → Prop
  bk : Rho → Prop
  ct : Rho → Prop
structure EOk {K : PySem.W.Frag} (c : Ctx K) (E : DE) (D : Ends) : Prop where
  nx : ∀ ρ σ H, Ok c ρ σ H → E.nx ρ → D.nx σ H
  rt : ∀ v x H, c.W H → Ex c.B (hid c.L H) → DvOk K (hid c.L H) v x → E.rt x → D.rt v H
  bk : ∀ ρ σ H, Ok c ρ σ H → E.bk ρ → D.bk σ H
  ct : ∀ ρ σ H, Ok c ρ σ H → E.ct ρ → D.ct σ H
def Ws {K : PySem.W.Frag} (c : Ctx K) (t : TS) (ρ : Rho) (E : DE) : Prop := ∀ D σ H, EOk c E D → Ok c ρ σ H → t D σ H

theorem Qk.to {K : PySem.W.Frag} {c : Ctx K} {ρ : Rho} {σ : L2.St} {H H' : Hp} {k : Dv → Prop} {Q : VK} (q : Qk c ρ σ H k Q) (e : Stp c ρ H H') : Qk c ρ σ H' k Q := fun v x H2 o e2 d kx => q v x H2 o (e.trans e2) d kx
theorem Qk.val {K : PySem.W.Frag} {c : Ctx K} {ρ : Rho} {σ : L2.St} {H : Hp} {k : Dv → Prop} {Q : VK} (q : Qk c ρ σ H k Q) (o : Ok c ρ σ H) {v : V} {x : Dv} (d : DvOk K (vis c ρ H) v x) (kx : k x) : Q v H := q v x H o (Stp.refl _) d kx

section
variable {K : PySem.W.Frag} {c : Ctx K} {ρ : Rho} {k : Dv → Prop} {ta tb te : TE} {r : R2}
theorem we_var {i : Nat} {x : Dv} (h : ρ[i]? = some (.val x)) (kx : k x) : We c (tVar i) ρ k := fun σ H Q o q => by
  obtain ⟨u, e, v, rfl, d⟩ := o.sl i _ h
  exact ⟨v, e, q.val o d kx⟩
theorem we_int {i : Int} (kx : k (.d (.int i))) : We c (tC (.int i)) ρ k := fun σ H Q o q => q.val o (x := .d _) (Dp.int i) kx
theorem we_bl {b : Bool} (kx : k (.d (.bool b))) : We c (tC (.bl b)) ρ k := fun σ H Q o q => q.val o (x := .d _) (Dp.bl b) kx
theorem we_str {z : Str} (kx : k (.d (.str z))) : We c (tC (.str z)) ρ k := fun σ H Q o q => q.val o (x := .d _) (Dp.str z) kx
theorem we_non (kx : k (.d .none)) : We c (tC .non) ρ k := fun σ H Q o q => q.val o (x := .d _) Dp.non kx
theorem we_raw {v : V} (kx : k (.r v)) : We c (tC v) ρ k := fun σ H Q o q => q.val o (x := .r v) rfl kx
theorem we_op (h : We c ta ρ fun x => We c tb ρ fun y => Rv c r ρ x y k) : We c (tOp r ta tb) ρ k := fun σ H Q o q =>
  h σ H _ o fun v x H1 o1 e1 d1 h1 => h1 σ H1 _ o1 fun u y H2 o2 e2 d2 h2 => h2 σ H2 v u Q o2 (dv_mono e2.ex d1) d2 (q.to (e1.trans e2))
theorem we_un {r : V → Hp → VK → Prop} (h : We c ta ρ fun x => Ru c r ρ x k) : We c (tUn r ta) ρ k := fun σ H Q o q =>
  h σ H _ o fun v x H1 o1 e1 d1 h1 => h1 σ H1 v Q o1 d1 (q.to e1)
theorem we_cb {r : List V → Hp → VK → Prop} {t : TA} (h : Wa c t ρ fun xs => Rc c r ρ xs k) : We c (tCB r t) ρ k := fun σ H Q o q =>
  h σ H _ o fun vs xs H1 o1 e1 d1 h1 => h1 σ H1 vs Q o1 d1 (q.to e1)
theorem wa_nil {k : List Dv → Prop} (h : k []) : Wa c tNil ρ k := fun σ H Q o q => q [] [] H o (Stp.refl _) .nil h
theorem wa_cons {k : List Dv → Prop} {tr : TA} (h : We c ta ρ fun x => Wa c tr ρ fun xs => k (x :: xs)) : Wa c (tCons ta tr) ρ k := fun σ H Q o q =>
  h σ H _ o fun v x H1 o1 e1 d1 h1 => h1 σ H1 _ o1 fun vs xs H2 o2 e2 d2 h2 => q (v :: vs) (x :: xs) H2 o2 (e1.trans e2) (.cons (dv_mono e2.ex d1) d2) h2
/-- the data of a list of values -/
def allD : List Dv → Option (List PyData)
  | [] => some []
  | .d x :: r => match allD r with | some l => some (x :: l) | none => none
  | .r _ :: _ => none
  | .f _ _ :: _ => none
  | .n _ _ :: _ => none
theorem allD_ok {K : PySem.W.Frag} {G : Hp} : ∀ {xs : List Dv} {ds : List PyData} {vs : List V}, allD xs = some ds → DvAll K G vs xs → DpAll K G vs ds
  | [], ds, vs, h, t => by cases h; cases t; exact .nil
  | .d x :: r, ds, vs, h, t => by
    unfold allD at h
    cases e : allD r with
    | none => rw [e] at h; cases h
    | some l =>
      rw [e] at h; cases h
      cases t with
      | cons h1 h2 => exact .cons h1 (allD_ok e h2)
  | .r _ :: _, ds, vs, h, t => by cases h
  | .f _ _ :: _, ds, vs, h, t => by cases h
  | .n _ _ :: _, ds, vs, h, t => by cases h
theorem we_tup {t : TA} (h : Wa c t ρ fun xs => ∃ ds, allD xs = some ds ∧ xs.length ≤ 100000 ∧ k (.d (.tuple ds))) : We c (tTup t) ρ k := fun σ H Q o q =>
  h σ H _ o fun vs xs H1 o1 e1 d1 ⟨ds, h1, h2, h3⟩ => ⟨Evl.sz_of (by rw [dva_len d1]; exact h2), fun p hp => by
    obtain ⟨o2, e2⟩ := o1.new (o := .tup vs) hp
    exact q _ (.d _) _ o2 (e1.trans e2) (dp_tup (vis_upd (o1.nh hp)) (dpa_mono e2.ex _ _ (allD_ok h1 d1))) h3⟩
theorem wf_lst {k : List PyData → Prop} {t : TA} (h : Wa c t ρ fun xs => ∃ ds, allD xs = some ds ∧ xs.length ≤ 100000 ∧ k ds) : Wf c (tLst t) ρ k := fun σ H Q o q =>
  h σ H _ o fun vs xs H1 o1 e1 d1 ⟨ds, h1, h2, h3⟩ => ⟨Evl.sz_of (by rw [dva_len d1]; exact h2), fun p hp => by
    obtain ⟨o2, e2⟩ := o1.new (o := .lst vs) hp
    have hp0 : H p = none := by
      cases z : H p with
      | none => rfl
      | some ob =>
        exfalso
        have np : ¬ Hid c ρ p := o1.nh hp
        have := e1.ex p ob (by unfold vis; rw [hid_neg np]; exact z)
        rw [vis, hid_neg np, hp] at this; cases this
    refine q p vs ds _ hp0 upd_same o2 (e1.trans e2) (dpa_mono (fun a u ha => ?_) _ _ (allD_ok h1 d1)) h3
    have na : a ≠ p := fun z => by subst z; rw [vis, hid_none hp] at ha; cases ha
    exact (hid_neg (L := fun x => x = p) na).trans (e2.ex a u ha)⟩
theorem we_fresh (h : Wf c te ρ fun xs => k (.d (.list xs))) : We c te ρ k := fun σ H Q o q =>
  h σ H _ o fun l vs xs H1 n h1 o1 e1 d1 k1 => by
    have nl : ¬ Hid c ρ l := o.nh n
    exact q _ (.d _) _ o1 e1 (dp_lst (by unfold vis; rw [hid_neg nl]; exact h1) (dpa_mono hid_sub _ _ d1)) k1
end
/-! ### statements -/
section
variable {K : PySem.W.Frag} {c : Ctx K} {ρ : Rho} {E : DE} {ta tb te : TE} {t u : TS} {tc : TT}
theorem List_set_get {α : Type} {l : List α} {i j : Nat} {x s : α} (h : (l.set i x)[j]? = some s) : (i = j ∧ s = x ∧ i < l.length) ∨ (i ≠ j ∧ l[j]? = some s) := by
  by_cases e : i = j
  · subst e
    rw [List.getElem?_set_self'] at h
    left
    cases z : l[i]? with
    | none => rw [z] at h; simp at h
    | some y =>
      rw [z] at h
      exact ⟨rfl, (Option.some.inj h).symm, (List.getElem?_eq_some_iff.mp z).1⟩
  · rw [List.getElem?_set_ne e] at h
    exact .inr ⟨e, h⟩
theorem owns_set {i : Nat} {s : Slot} {a : Addr} (h : Owns (ρ.set i s) a) : Owns ρ a ∨ ∃ xs, s = .own a xs := by
  obtain ⟨xs, h⟩ := h
  rcases List.mem_or_eq_of_mem_set h with q | q
  · exact .inl ⟨xs, q⟩
  · exact .inr ⟨xs, q.symm⟩
/-- a slot is given a value -/
theorem Ok.put {σ : L2.St} {H : Hp} (o : Ok c ρ σ H) {v : V} {x : Dv} (d : DvOk K (vis c ρ H) v x) (i : Nat) : Ok c (ρ.set i (.val x)) (σ.set i (some v)) H := by
  have ow : ∀ a, Owns (ρ.set i (.val x)) a → Owns ρ a := fun a h => by
    rcases owns_set h with q | ⟨xs, q⟩
    · exact q
    · cases q
  have e : Ex (vis c ρ H) (vis c (ρ.set i (.val x)) H) := hid_less fun a h => h.imp id (ow a)
  refine ⟨o.w, o.b, fun l h => o.ob l (ow l h), fun j s h => ?_, fun j j' l xs ys h h' => ?_, by simp [o.len]⟩
  · rcases List_set_get h with ⟨rfl, rfl, hl⟩ | ⟨ne, h⟩
    · exact ⟨some v, by rw [List.getElem?_set_self (by rw [o.len]; exact hl)], v, rfl, dv_mono e d⟩
    · obtain ⟨u, q, z⟩ := o.sl j s h
      refine ⟨u, by rw [List.getElem?_set_ne ne]; exact q, ?_⟩
      cases s with
      | un => trivial
      | val y => obtain ⟨w, e1, e2⟩ := z; exact ⟨w, e1, dv_mono e e2⟩
      | own l xs => obtain ⟨vs, e1, e2, e3⟩ := z; exact ⟨vs, e1, e2, own_mono e _ _ e3⟩
  · rcases List_set_get h with ⟨_, q, _⟩ | ⟨_, h⟩
    · cases q
    · rcases List_set_get h' with ⟨_, q, _⟩ | ⟨_, h'⟩
      · cases q
      · exact o.one _ _ _ _ _ h h'
/-- a slot is given a new list -/
theorem Ok.putOwnC {σ : L2.St} {H H' : Hp} (o : Ok c ρ σ H) (o' : Ok c ρ σ H') {l : Addr} {vs : HO} {xs : OwnC} (n : H l = none) (h : H' l = some vs) (d : OwnOk K (hid (· = l) (vis c ρ H')) vs xs)
    (clean : ∀ (i : Nat) (s : Slot), ρ[i]? = some s → ∃ u, σ[i]? = some u ∧ SlotOk K (hid (· = l) (vis c ρ H')) H' u s) (i : Nat) : Ok c (ρ.set i (.own l xs)) (σ.set i (some (.ref l))) H' := by
  have nl : ¬ Hid c ρ l := o.nh n
  have ow : ∀ a, Owns (ρ.set i (.own l xs)) a → Owns ρ a ∨ a = l := fun a h => by
    rcases owns_set h with q | ⟨ys, q⟩
    · exact .inl q
    · cases q; exact .inr rfl
  have e : Ex (hid (· = l) (vis c ρ H')) (vis c (ρ.set i (.own l xs)) H') := fun a ob q => by
    obtain ⟨n1, q⟩ := hid_some q
    obtain ⟨n2, q⟩ := hid_some q
    unfold vis
    rw [hid_neg]
    · exact q
    · rintro (z | z)
      · exact n2 (.inl z)
      · rcases ow a z with z | z
        · exact n2 (.inr z)
        · exact n1 z
  have bl : c.B l = none := by
    cases z : c.B l with
    | none => rfl
    | some ob =>
      have := hid_some (o.b l ob z)
      rw [n] at this; cases this.2
  refine ⟨o'.w, o'.b, fun a h => ?_, fun j s h => ?_, fun j j' a xs ys h h' => ?_, by simp [o'.len]⟩
  · rcases ow a h with q | rfl
    · exact o'.ob a q
    · exact ⟨bl, fun z => nl (.inl z)⟩
  · rcases List_set_get h with ⟨rfl, rfl, hl⟩ | ⟨ne, h⟩
    · exact ⟨some (.ref l), by rw [List.getElem?_set_self (by rw [o'.len]; exact hl)], vs, rfl, ‹_›, own_mono e _ _ d⟩
    · obtain ⟨u, q, z⟩ := clean j s h
      refine ⟨u, by rw [List.getElem?_set_ne ne]; exact q, ?_⟩
      cases s with
      | un => trivial
      | val y => obtain ⟨w, e1, e2⟩ := z; exact ⟨w, e1, dv_mono e e2⟩
      | own l xs => obtain ⟨vs, e1, e2, e3⟩ := z; exact ⟨vs, e1, e2, own_mono e _ _ e3⟩
  · rcases List_set_get h with ⟨r1, q, _⟩ | ⟨_, h⟩
    · rcases List_set_get h' with ⟨r2, q', _⟩ | ⟨_, h'⟩
      · exact r1.symm.trans r2
      · cases q
        exact absurd (.inr ⟨_, List.mem_of_getElem? h'⟩) nl
    · rcases List_set_get h' with ⟨_, q, _⟩ | ⟨_, h'⟩
      · cases q
        exact absurd (.inr ⟨_, List.mem_of_getElem? h⟩) nl
      · exact o.one _ _ _ _ _ h h'
theorem Ok.putOwn {σ : L2.St} {H H' : Hp} (o : Ok c ρ σ H) (o' : Ok c ρ σ H') {l : Addr} {vs : List V} {xs : List PyData} (n : H l = none) (h : H' l = some (.lst vs)) (d : DpAll K (hid (· = l) (vis c ρ H')) vs xs)
    (clean : ∀ (i : Nat) (s : Slot), ρ[i]? = some s → ∃ u, σ[i]? = some u ∧ SlotOk K (hid (· = l) (vis c ρ H')) H' u s) (i : Nat) : Ok c (ρ.set i (.own l xs)) (σ.set i (some (.ref l))) H' := o.putOwnC (xs := .l xs) o' n h ⟨vs, rfl, d⟩ clean i
/-- what stood ahead knows nothing of a new object -/
theorem Ok.clean {σ : L2.St} {H H' : Hp} (o : Ok c ρ σ H) (e : Stp c ρ H H') {l : Addr} (n : H l = none) (i : Nat) (s : Slot) (h : ρ[i]? = some s) : ∃ u, σ[i]? = some u ∧ SlotOk K (hid (· = l) (vis c ρ H')) H' u s := by
  have e2 : Ex (vis c ρ H) (hid (· = l) (vis c ρ H')) := fun a ob q => by
    have na : a ≠ l := fun z => by subst z; rw [vis, hid_none n] at q; cases q
    exact (hid_neg (L := fun x => x = l) na).trans (e.ex a ob q)
  obtain ⟨u, q, z⟩ := o.sl i s h
  refine ⟨u, q, ?_⟩
  cases s with
  | un => trivial
  | val x => obtain ⟨v, e1, d1⟩ := z; exact ⟨v, e1, dv_mono e2 d1⟩
  | own m xs =>
    obtain ⟨vs, e1, h1, d1⟩ := z
    exact ⟨vs, e1, (e.own m ⟨xs, List.mem_of_getElem? h⟩).trans h1, own_mono e2 _ _ d1⟩
theorem EOk.next {D : Ends} (k : EOk c E D) {f : Rho → Prop} {g : L2.St → Hp → Prop} (h : ∀ ρ σ H, Ok c ρ σ H → f ρ → g σ H) : EOk c { E with nx := f } { D with nx := g } := ⟨h, k.rt, k.bk, k.ct⟩
theorem EOk.loop {D : Ends} (k : EOk c E D) {f : Rho → Prop} {g : L2.St → Hp → Prop} (h : ∀ ρ σ H, Ok c ρ σ H → f ρ → g σ H) : EOk c { E with nx := f, ct := f, bk := E.nx } { D with nx := g, ct := g, bk := D.nx } := ⟨h, k.rt, k.nx, h⟩
theorem ws_next (h : E.nx ρ) : Ws c tNext ρ E := fun D σ H e o => e.nx ρ σ H o h
theorem ws_seq (h : Ws c t ρ { E with nx := fun ρ' => Ws c u ρ' E }) : Ws c (tSeq t u) ρ E := fun D σ H e o =>
  h { D with nx := u D } σ H (e.next fun ρ' σ' H' o' w => w D σ' H' e o') o
theorem ws_brk (h : E.bk ρ) : Ws c tBreak ρ E := fun D σ H e o => e.bk ρ σ H o h
theorem ws_cont (h : E.ct ρ) : Ws c tCont ρ E := fun D σ H e o => e.ct ρ σ H o h
theorem ws_asg {i : Nat} (h : We c te ρ fun x => E.nx (ρ.set i (.val x))) : Ws c (tAsg te (gName i)) ρ E := fun D σ H e o =>
  h σ H _ o fun v x H1 o1 e1 d1 k1 => e.nx _ _ _ (o1.put d1 i) k1
theorem ws_own {i : Nat} (h : Wf c te ρ fun xs => ∀ l, E.nx (ρ.set i (.own l xs))) : Ws c (tAsg te (gName i)) ρ E := fun D σ H e o =>
  h σ H _ o fun l vs xs H1 n h1 o1 e1 d1 k1 => e.nx _ _ _ (o.putOwn o1 n h1 d1 (o.clean e1 n) i) (k1 l)
theorem ws_drop (h : We c te ρ fun _ => E.nx ρ) : Ws c (tDrop te) ρ E := fun D σ H e o =>
  h σ H _ o fun v x H1 o1 e1 d1 k1 => e.nx _ _ _ o1 k1
theorem ws_ret (h : We c te ρ E.rt) : Ws c (tRet te) ρ E := fun D σ H e o =>
  h σ H _ o fun v x H1 o1 e1 d1 k1 => e.rt v x H1 o1.w o1.b (dv_mono vis_out d1) k1
theorem ws_retOwn {i : Nat} {l : Addr} {xs : List PyData} (h : ρ[i]? = some (.own l xs)) (k : E.rt (.d (.list xs))) : Ws c (tRet (tVar i)) ρ E := fun D σ H e o => by
  obtain ⟨u, q, _, rfl, h1, vs, rfl, d1⟩ := o.sl i _ h
  have nl : ¬ c.L l := (o.ob l ⟨xs, List.mem_of_getElem? h⟩).2
  exact ⟨_, q, e.rt _ (.d (.list xs)) H o.w o.b (dp_lst (by rw [hid_neg nl]; exact h1) (dpa_mono vis_out _ _ d1)) k⟩
theorem ws_retN (h : E.rt (.d .none)) : Ws c tRetN ρ E := fun D σ H e o => e.rt .non (.d .none) H o.w o.b Dp.non h
theorem ws_if (h : Wt c tc ρ fun b => (b = true → Ws c t ρ E) ∧ (b = false → Ws c u ρ E)) : Ws c (tIfS tc t u) ρ E := fun D σ H e o =>
  h σ H _ o fun b H1 o1 e1 k1 => by
    cases b with
    | true => exact k1.1 rfl D σ H1 e o1
    | false => exact k1.2 rfl D σ H1 e o1
theorem ws_par {i j : Nat} {ta : TA} (h : Wa c ta ρ fun xs => ∃ x y, xs = [x, y] ∧ E.nx ((ρ.set i (.val x)).set j (.val y))) : Ws c (tPar i j ta) ρ E := fun D σ H e o =>
  h σ H _ o fun vs xs H1 o1 e1 d1 ⟨x, y, hx, k1⟩ => by
    subst hx
    cases d1 with
    | cons a1 d2 =>
      cases d2 with
      | cons a2 d3 =>
        cases d3
        refine ⟨_, _, rfl, e.nx _ _ _ ((o1.put a1 i).put ?_ j) k1⟩
        exact dv_mono (hid_less fun a h => h.imp id fun z => (owns_set z).elim id fun ⟨xs, q⟩ => by cases q) a2
end
end Py

set_option Elab.async false
set_option linter.all false
set_option autoImplicit false
set_option maxRecDepth 100000
set_option maxHeartbeats 4000000
namespace Py
open PySem L2
open Evl (Ex ex_rd ex_l ex_t fresh_back)
open Classical
/-! ### operators -/
section
variable {K : PySem.W.Frag} {c : Ctx K} {ρ : Rho} {k : Dv → Prop} {ta tb te : TE} {r : R2}
/-- one of two rules -/
def rOr (r r' : R2) : R2 := fun x y H Q => r x y H Q ∨ r' x y H Q
theorem op_or {X : Cx} {f : Value → Value → Sem Value} {r r' : R2} (h : OpR X f r) (h' : OpR X f r') : OpR X f (rOr r r') := fun pins s σ H x y v u Q I r1 r2 h0 =>
  h0.elim (fun z => h pins s σ H x y v u Q I r1 r2 z) (fun z => h' pins s σ H x y v u Q I r1 r2 z)
theorem rv_l {r r' : R2} {x y : Dv} (h : Rv c r ρ x y k) : Rv c (rOr r r') ρ x y k := fun σ H v u Q o d e q => .inl (h σ H v u Q o d e q)
theorem rv_r {r r' : R2} {x y : Dv} (h : Rv c r' ρ x y k) : Rv c (rOr r r') ρ x y k := fun σ H v u Q o d e q => .inr (h σ H v u Q o d e q)
theorem dp_int {K : PySem.W.Frag} {G : Hp} {v : V} {i : Int} (h : Dp K G v (.int i)) : v = .int i := by cases h; rfl
theorem dp_bl {K : PySem.W.Frag} {G : Hp} {v : V} {b : Bool} (h : Dp K G v (.bool b)) : v = .bl b := by cases h; rfl
theorem dp_str {K : PySem.W.Frag} {G : Hp} {v : V} {z : Str} (h : Dp K G v (.str z)) : v = .str z := by cases h; rfl
theorem dp_non {K : PySem.W.Frag} {G : Hp} {v : V} (h : Dp K G v .none) : v = .non := by cases h; rfl
theorem rv_I0 {f : Int → Int → Int} {i j : Int} (h : k (.d (.int (f i j)))) : Rv c (rI0 fun i j => .int (f i j)) ρ (.d (.int i)) (.d (.int j)) k := fun σ H v u Q o d e q =>
  ⟨i, j, dp_int d, dp_int e, q.val o (x := .d _) (Dp.int _) h⟩
theorem rv_I {C : Int → Int → Prop} {f : Int → Int → Int} {i j : Int} (hc : C i j) (h : k (.d (.int (f i j)))) : Rv c (rI C fun i j => .int (f i j)) ρ (.d (.int i)) (.d (.int j)) k := fun σ H v u Q o d e q =>
  ⟨i, j, dp_int d, dp_int e, hc, q.val o (x := .d _) (Dp.int _) h⟩
theorem rv_C0 {f : Int → Int → Bool} {i j : Int} (h : k (.d (.bool (f i j)))) : Rv c (rI0 fun i j => .bl (f i j)) ρ (.d (.int i)) (.d (.int j)) k := fun σ H v u Q o d e q =>
  ⟨i, j, dp_int d, dp_int e, q.val o (x := .d _) (Dp.bl _) h⟩
theorem ru_U {f : Int → Int} {i : Int} (h : k (.d (.int (f i)))) : Ru c (rU fun i => .int (f i)) ρ (.d (.int i)) k := fun σ H v Q o d q => ⟨i, dp_int d, q.val o (x := .d _) (Dp.int _) h⟩
/-- == and != of data -/
theorem rv_eqD {d e : PyData} (hd : SeqAt.shaped d = true) (he : SeqAt.shaped e = true) (h : k (.d (.bool (PyData.eqv d e)))) : Rv c (rEqD K) ρ (.d d) (.d e) k := fun σ H v u Q o d1 d2 q =>
  ⟨d, e, Dp.to _ _ (SeqAt.canLay_of_shaped hd) (dp_mono hid_sub _ _ d1), Dp.to _ _ (SeqAt.canLay_of_shaped he) (dp_mono hid_sub _ _ d2), hd, he, q.val o (x := .d _) (Dp.bl _) h⟩
theorem rv_neD {d e : PyData} (hd : SeqAt.shaped d = true) (he : SeqAt.shaped e = true) (h : k (.d (.bool (!PyData.eqv d e)))) : Rv c (rNeD K) ρ (.d d) (.d e) k := fun σ H v u Q o d1 d2 q =>
  ⟨d, e, Dp.to _ _ (SeqAt.canLay_of_shaped hd) (dp_mono hid_sub _ _ d1), Dp.to _ _ (SeqAt.canLay_of_shaped he) (dp_mono hid_sub _ _ d2), hd, he, q.val o (x := .d _) (Dp.bl _) h⟩
theorem rv_eqI {i j : Int} (h : k (.d (.bool (decide (i = j))))) : Rv c (rEqD K) ρ (.d (.int i)) (.d (.int j)) k := rv_eqD rfl rfl (by
  have e : PyData.eqv (.int i) (.int j) = decide (i = j) := by
    simp only [PyData.eqv]
    by_cases z : i = j <;> simp [z]
  rw [e]; exact h)
theorem rv_neI {i j : Int} (h : k (.d (.bool (!decide (i = j))))) : Rv c (rNeD K) ρ (.d (.int i)) (.d (.int j)) k := rv_neD rfl rfl (by
  have e : PyData.eqv (.int i) (.int j) = decide (i = j) := by
    simp only [PyData.eqv]
    by_cases z : i = j <;> simp [z]
  rw [e]; exact h)
theorem rv_isB {a b : Bool} (h : k (.d (.bool (decide (a = b))))) : Rv c rIsB ρ (.d (.bool a)) (.d (.bool b)) k := fun σ H v u Q o d1 d2 q =>
  ⟨a, b, dp_bl d1, dp_bl d2, q.val o (x := .d _) (Dp.bl _) h⟩
/-! ### subscripts -/
theorem dpa_atI {K : PySem.W.Frag} {G : Hp} {vs : List V} {ds : List PyData} {i : Int} {d : PyData} (h : DpAll K G vs ds) (e : atI ds i = some d) : ∃ v, atI vs i = some v ∧ Dp K G v d := by
  unfold atI at *
  rw [dpa_len h]
  cases z : ixN ds.length i with
  | none => rw [z] at e; cases e
  | some j =>
    rw [z] at e
    exact dpa_get h e
theorem rv_ixT {ds : List PyData} {i : Int} {d : PyData} (e : atI ds i = some d) (h : k (.d d)) : Rv c (rIx K) ρ (.d (.tuple ds)) (.d (.int i)) k := fun σ H v u Q o d1 d2 q => by
  obtain rfl := dp_int d2
  change Dp _ _ _ _ at d1
  cases d1 with
  | tup hs ha =>
    obtain ⟨w, e1, e2⟩ := dpa_atI ha e
    exact .inr (.inl ⟨_, _, _, w, rfl, rfl, ex_t hid_sub hs, e1, q.val o (x := .d _) e2 h⟩)
theorem rv_ixL {ds : List PyData} {i : Int} {d : PyData} (e : atI ds i = some d) (h : k (.d d)) : Rv c (rIx K) ρ (.d (.list ds)) (.d (.int i)) k := fun σ H v u Q o d1 d2 q => by
  obtain rfl := dp_int d2
  change Dp _ _ _ _ at d1
  cases d1 with
  | lst hs ha =>
    obtain ⟨w, e1, e2⟩ := dpa_atI ha e
    exact .inl ⟨_, _, _, w, rfl, rfl, ex_l hid_sub hs, e1, q.val o (x := .d _) e2 h⟩
/-- from a list of one's own -/
theorem Ok.own {σ : L2.St} {H : Hp} (o : Ok c ρ σ H) {i : Nat} {l : Addr} {xs : List PyData} (h : ρ[i]? = some (.own l xs)) : ∃ vs, σ[i]? = some (some (.ref l)) ∧ H l = some (.lst vs) ∧ DpAll K (vis c ρ H) vs xs := by
  obtain ⟨u, q, _, rfl, h1, vs, rfl, d1⟩ := o.sl i _ h
  exact ⟨vs, q, h1, d1⟩
theorem we_ixOwn {i : Nat} {l : Addr} {xs : List PyData} (h : ρ[i]? = some (.own l xs)) (ht : We c tb ρ fun y => ∃ j d, y = .d (.int j) ∧ atI xs j = some d ∧ k (.d d)) : We c (tOp (rIx K) (tVar i) tb) ρ k := fun σ H Q o q => by
  obtain ⟨vs, e1, h1, d1⟩ := o.own h
  refine ⟨_, e1, ht σ H _ o fun u y H1 o1 s1 dy ⟨j, d, hy, ha, hk⟩ => ?_⟩
  subst hy
  obtain rfl := dp_int dy
  have h1' : H1 l = some (.lst vs) := (s1.own l ⟨xs, List.mem_of_getElem? h⟩).trans h1
  obtain ⟨w, e2, e3⟩ := dpa_atI (dpa_mono s1.ex _ _ d1) ha
  exact .inl ⟨_, _, _, w, rfl, rfl, .inl (.inl h1'), e2, q w (.d d) H1 o1 s1 e3 hk⟩
/-! ### tests -/
theorem wt_test {k : Bool → Prop} (h : We c te ρ fun x => ∃ b, x = .d (.bool b) ∧ k b) : Wt c (tTest te) ρ k := fun σ H Q o q => h σ H _ o fun v x H1 o1 e1 d1 ⟨b, hx, hb⟩ => by
  subst hx
  exact ⟨b, dp_bl d1, q b H1 o1 e1 hb⟩
theorem wt_B {k : Bool → Prop} (h : We c te ρ fun x => ∃ b, x = .d (.bool b) ∧ k b) : Wt c (tB te) ρ k := fun σ H Q o q => h σ H _ o fun v x H1 o1 e1 d1 ⟨b, hx, hb⟩ => by
  subst hx
  exact ⟨b, dp_bl d1, q b H1 o1 e1 hb⟩
theorem wt_and {t u : TT} {k : Bool → Prop} (h : Wt c t ρ fun a => (a = true → Wt c u ρ k) ∧ (a = false → k false)) : Wt c (tAnd t u) ρ k := fun σ H Q o q => h σ H _ o fun a H1 o1 e1 z => by
  cases a with
  | true => exact z.1 rfl σ H1 Q o1 fun b H2 o2 e2 kb => q b H2 o2 (e1.trans e2) kb
  | false => exact q false H1 o1 e1 (z.2 rfl)
theorem wt_or {t u : TT} {k : Bool → Prop} (h : Wt c t ρ fun a => (a = false → Wt c u ρ k) ∧ (a = true → k true)) : Wt c (tOr t u) ρ k := fun σ H Q o q => h σ H _ o fun a H1 o1 e1 z => by
  cases a with
  | false => exact z.1 rfl σ H1 Q o1 fun b H2 o2 e2 kb => q b H2 o2 (e1.trans e2) kb
  | true => exact q true H1 o1 e1 (z.2 rfl)
theorem wt_not {t : TT} {k : Bool → Prop} (h : Wt c t ρ fun a => k (!a)) : Wt c (tNot t) ρ k := fun σ H Q o q => h σ H _ o fun a H1 o1 e1 z => q (!a) H1 o1 e1 z
theorem we_andV (h : We c ta ρ fun x => ∃ a, x = .d (.bool a) ∧ (a = true → We c tb ρ k) ∧ (a = false → k (.d (.bool false)))) : We c (tAndV ta tb) ρ k := fun σ H Q o q => h σ H _ o fun v x H1 o1 e1 d1 ⟨a, hx, z1, z2⟩ => by
  subst hx
  refine ⟨a, dp_bl d1, ?_⟩
  cases a with
  | true => exact z1 rfl σ H1 Q o1 (q.to e1)
  | false => exact q (.bl false) (.d _) H1 o1 e1 (Dp.bl _) (z2 rfl)
theorem we_orV (h : We c ta ρ fun x => ∃ a, x = .d (.bool a) ∧ (a = false → We c tb ρ k) ∧ (a = true → k (.d (.bool true)))) : We c (tOrV ta tb) ρ k := fun σ H Q o q => h σ H _ o fun v x H1 o1 e1 d1 ⟨a, hx, z1, z2⟩ => by
  subst hx
  refine ⟨a, dp_bl d1, ?_⟩
  cases a with
  | false => exact z1 rfl σ H1 Q o1 (q.to e1)
  | true => exact q (.bl true) (.d _) H1 o1 e1 (Dp.bl _) (z2 rfl)
theorem we_notV (h : We c ta ρ fun x => ∃ a, x = .d (.bool a) ∧ k (.d (.bool (!a)))) : We c (tNotV ta) ρ k := fun σ H Q o q => h σ H _ o fun v x H1 o1 e1 d1 ⟨a, hx, z⟩ => by
  subst hx
  exact ⟨a, dp_bl d1, q (.bl (!a)) (.d _) H1 o1 e1 (Dp.bl _) z⟩
theorem we_if {t : TT} (h : Wt c t ρ fun b => (b = true → We c ta ρ k) ∧ (b = false → We c tb ρ k)) : We c (tIf t ta tb) ρ k := fun σ H Q o q => h σ H _ o fun b H1 o1 e1 z => by
  cases b with
  | true => exact z.1 rfl σ H1 Q o1 (q.to e1)
  | false => exact z.2 rfl σ H1 Q o1 (q.to e1)
theorem we_chain {r r' : R2} {tc : TE} (h : We c ta ρ fun x => We c tb ρ fun y => Rv c r ρ x y fun z => ∃ b, z = .d (.bool b) ∧ (b = true → We c tc ρ fun w => Rv c r' ρ y w k) ∧ (b = false → k (.d (.bool false)))) : We c (tChain r r' ta tb tc) ρ k := fun σ H Q o q =>
  h σ H _ o fun v x H1 o1 e1 d1 h1 => h1 σ H1 _ o1 fun u y H2 o2 e2 d2 h2 => h2 σ H2 v u _ o2 (dv_mono e2.ex d1) d2 fun z zd H3 o3 e3 d3 ⟨b, hz, z1, z2⟩ => by
    subst hz
    refine ⟨b, dp_bl d3, ?_⟩
    cases b with
    | true =>
      rw [if_pos rfl]
      exact z1 rfl σ H3 _ o3 fun w wd H4 o4 e4 d4 h4 => h4 σ H4 u w Q o4 (dv_mono (e3.trans e4).ex d2) d4 (q.to ((e1.trans e2).trans (e3.trans e4)))
    | false =>
      rw [if_neg Bool.false_ne_true]
      exact q (.bl false) (.d _) H3 o3 ((e1.trans e2).trans e3) (Dp.bl _) (z2 rfl)
/-- the truth of data -/
def truD : PyData → Option Bool
  | .none => some false
  | .bool b => some b
  | .int i => some (i != 0)
  | .list xs => some (!xs.isEmpty)
  | .tuple xs => some (!xs.isEmpty)
  | _ => none
theorem isEmpty_len {α β : Type} {xs : List α} {ys : List β} (h : xs.length = ys.length) : xs.isEmpty = ys.isEmpty := by
  cases xs <;> cases ys <;> simp_all
theorem wt_tru {k : Bool → Prop} (h : We c te ρ fun x => ∃ d b, x = .d d ∧ truD d = some b ∧ k b) : Wt c (fun σ H Q => te σ H fun x H' => ∃ k, TruV K x H' k ∧ Q k H') ρ k := fun σ H Q o q => h σ H _ o fun v x H1 o1 e1 d1 ⟨d, b, hx, ht, kb⟩ => by
  subst hx
  refine ⟨b, ?_, q b H1 o1 e1 kb⟩
  change Dp _ _ _ _ at d1
  cases d1 with
  | non => cases ht; exact rfl
  | bl b => cases ht; exact rfl
  | int i => cases ht; exact rfl
  | str z => cases ht
  | dic => cases ht
  | lst hs ha =>
    cases ht
    exact .inl ⟨_, ex_l hid_sub hs, by rw [isEmpty_len (dpa_len ha)]⟩
  | tup hs ha =>
    cases ht
    exact .inr (.inl ⟨_, ex_t hid_sub hs, by rw [isEmpty_len (dpa_len ha)]⟩)
/-! ### builtins -/
theorem rc_abs {i : Int} (h : k (.d (.int (i.natAbs : Int)))) : Rc c (fun xs H Q => ∃ i, xs = [.int i] ∧ Q (.int (if i < 0 then -i else i)) H) ρ [.d (.int i)] k := fun σ H vs Q o d q => by
  cases d with
  | cons d1 d2 =>
    cases d2
    obtain rfl := dp_int d1
    refine ⟨i, rfl, ?_⟩
    have e : (if i < 0 then -i else i) = (i.natAbs : Int) := by split <;> omega
    rw [e]
    exact q.val o (x := .d _) (Dp.int _) h
theorem rc_lenT {ds : List PyData} (h : k (.d (.int (ds.length : Int)))) : Rc c (fun xs H Q => ∃ x n, xs = [x] ∧ LenV K x H n ∧ Q (.int n) H) ρ [.d (.tuple ds)] k := fun σ H vs Q o d q => by
  cases d with
  | cons d1 d2 =>
    cases d2
    change Dp _ _ _ _ at d1
    cases d1 with
    | tup hs ha => exact ⟨_, ds.length, rfl, .inr ⟨_, ex_t hid_sub hs, (dpa_len ha).symm⟩, q.val o (x := .d _) (Dp.int _) h⟩
theorem rc_lenL {ds : List PyData} (h : k (.d (.int (ds.length : Int)))) : Rc c (fun xs H Q => ∃ x n, xs = [x] ∧ LenV K x H n ∧ Q (.int n) H) ρ [.d (.list ds)] k := fun σ H vs Q o d q => by
  cases d with
  | cons d1 d2 =>
    cases d2
    change Dp _ _ _ _ at d1
    cases d1 with
    | lst hs ha => exact ⟨_, ds.length, rfl, .inl ⟨_, ex_l hid_sub hs, (dpa_len ha).symm⟩, q.val o (x := .d _) (Dp.int _) h⟩
theorem we_lenOwn {i : Nat} {l : Addr} {xs : List PyData} (h : ρ[i]? = some (.own l xs)) (hk : k (.d (.int (xs.length : Int)))) : We c (tCB (fun xs H Q => ∃ x n, xs = [x] ∧ LenV K x H n ∧ Q (.int n) H) (tCons (tVar i) tNil)) ρ k := fun σ H Q o q => by
  obtain ⟨vs, e1, h1, d1⟩ := o.own h
  exact ⟨_, e1, _, xs.length, rfl, .inl ⟨_, .inl (.inl h1), (dpa_len d1).symm⟩, q.val o (x := .d _) (Dp.int _) hk⟩
/-- the class of data -/
def tyD : PyData → Option Value
  | .none => some (.type "NoneType")
  | .bool _ => some (.type "bool")
  | .int _ => some (.type "int")
  | .str _ => some (.type "str")
  | .list _ => some (.type "list")
  | .tuple _ => some (.type "tuple")
  | .dict _ => some (.type "dict")
theorem tyx_of {K : PySem.W.Frag} {H : Hp} {v : V} {d : PyData} (h : Dp K H v d) : ∃ t, tyD d = some t ∧ TyX K H v t := by
  cases h with
  | non => exact ⟨_, rfl, .base .non⟩
  | bl b => exact ⟨_, rfl, .base (.bl b)⟩
  | int i => exact ⟨_, rfl, .base (.int i)⟩
  | str z => exact ⟨_, rfl, .base (.str z)⟩
  | lst hs ha =>
    refine ⟨_, rfl, ?_⟩
    rcases hs with (h | ⟨o, h⟩) | ⟨o, its, n, h1, h2, _⟩
    · exact .base (.lst h)
    · exact .base (.frz h)
    · exact .kList h1 h2
  | tup hs ha =>
    refine ⟨_, rfl, ?_⟩
    rcases hs with (h | ⟨o, h⟩) | ⟨o, its, n, h1, h2, _⟩
    · exact .base (.tup h)
    · exact .fTuple h
    · exact .kTuple h1 h2
  | @dic _ _ hp => exact ⟨_, rfl, .base (.dK hp)⟩
/-- isinstance(x, T), T a built-in class -/
theorem rc_isi {d : PyData} {T : String} {t : Value} {b : Bool} (ht : tyD d = some t) (hb : PySem.W.kitOne K t (.type T) = some b) (h : k (.d (.bool b))) : Rc c (rIsi K) ρ [.d d, .r (.ty T)] k := fun σ H vs Q o d0 q => by
  cases d0 with
  | cons d1 d2 =>
    cases d2 with
    | cons d2 d3 =>
      cases d3
      obtain rfl : _ = V.ty T := d2
      obtain ⟨t', e1, e2⟩ := tyx_of (dp_mono hid_sub _ _ d1)
      rw [ht] at e1
      cases e1
      exact ⟨_, _, t, _, b, rfl, .ty T, e2, hb, q.val o (x := .d _) (Dp.bl _) h⟩
end
end Py

set_option Elab.async false
set_option linter.all false
set_option autoImplicit false
set_option maxRecDepth 100000
set_option maxHeartbeats 4000000
namespace Py
open PySem L2
open Evl (Ex ex_rd ex_l ex_t fresh_back)
open Classical
/-! ### a context within another -/
structure Le {K : PySem.W.Frag} (c c' : Ctx K) : Prop where
  L : ∀ a, c.L a → c'.L a
  W : ∀ H, c'.W H → c.W H
  F : ∀ H H', c'.W H → c.W H' → (∀ a, c'.L a → ¬ c.L a → H' a = H a) → Tp H H' → c'.W H'
  B : Ex c.B c'.B
theorem Le.refl {K : PySem.W.Frag} (c : Ctx K) : Le c c := ⟨fun _ h => h, fun _ h => h, fun _ _ _ h _ _ => h, Evl.Ex.refl _⟩
theorem Le.trans {K : PySem.W.Frag} {c c1 c2 : Ctx K} (a : Le c c1) (b : Le c1 c2) : Le c c2 :=
  ⟨fun x h => b.L x (a.L x h), fun H h => a.W H (b.W H h), fun H H' h h' e t => b.F H H' h (a.F H H' (b.W H h) h' (fun x h1 h2 => e x (b.L x h1) h2) t) (fun x h1 h2 => e x h1 fun h3 => h2 (a.L x h3)) t, a.B.trans b.B⟩
def Ctx.at {K : PySem.W.Frag} (c : Ctx K) (B : Hp) : Ctx K := { c with B := B }
theorem le_at {K : PySem.W.Frag} {c : Ctx K} {B : Hp} (h : Ex c.B B) : Le c (c.at B) := ⟨fun _ h => h, fun _ h => h, fun _ _ _ h _ _ => h, h⟩
section
variable {K : PySem.W.Frag} {c c' : Ctx K} {ρ : Rho} {E : DE} {ta tb te : TE} {t u tb' : TS} {tc : TT}
theorem hid_le (e : Le c c') {H : Hp} : Ex (hid c'.L H) (hid c.L H) := hid_less e.L
/-- the same state with another base -/
theorem ok_at {B : Hp} {σ : L2.St} {H : Hp} (h : Ex c.B B) (o : Ok (c.at B) ρ σ H) : Ok c ρ σ H := ⟨o.w, h.trans o.b, fun l hl => ⟨fresh_back h (o.ob l hl).1, (o.ob l hl).2⟩, o.sl, o.one, o.len⟩
theorem Ok.at' {σ : L2.St} {H : Hp} (o : Ok c ρ σ H) : Ok (c.at (vis c ρ H)) ρ σ H := ⟨o.w, vis_out, fun l hl => ⟨hid_pos (.inr hl), (o.ob l hl).2⟩, o.sl, o.one, o.len⟩
theorem EOk.at' {D : Ends} {B : Hp} (h : Ex c.B B) (k : EOk c E D) : EOk (c.at B) E D :=
  ⟨fun ρ σ H o => k.nx ρ σ H (ok_at h o), fun v x H w b d => k.rt v x H w (h.trans b) d, fun ρ σ H o => k.bk ρ σ H (ok_at h o), fun ρ σ H o => k.ct ρ σ H (ok_at h o)⟩

/-! ### targets -/
def isOwn : Slot → Bool
  | .own _ _ => true
  | _ => false
def Wg (c : Ctx K) (g : TG) (js : List Nat) (x : Dv) (ρ : Rho) (N : Rho → Prop) : Prop := ∀ σ H v (Q : L2.St → Hp → Prop), Ok c ρ σ H → DvOk K (vis c ρ H) v x →
  (∀ ρ' σ', Ok c ρ' σ' H → (∀ i, i ∉ js → σ'[i]? = σ[i]?) → σ'.length = σ.length → (∀ a, Owns ρ a → Owns ρ' a) → (∀ a, Owns ρ' a → Owns ρ a) → N ρ' → Q σ' H) → g v σ H Q
theorem owns_keep {i : Nat} {s : Slot} (h : (ρ[i]?.map isOwn) = some false) {a : Addr} (z : Owns ρ a) : Owns (ρ.set i s) a := by
  obtain ⟨xs, z⟩ := z
  obtain ⟨j, hj, e⟩ := List.mem_iff_getElem.mp z
  have ne : i ≠ j := fun q => by
    subst q
    rw [List.getElem?_eq_getElem hj, e] at h
    cases h
  exact ⟨xs, List.mem_of_getElem? (i := j) (by rw [List.getElem?_set_ne ne, List.getElem?_eq_getElem hj, e])⟩
theorem owns_less {i : Nat} {x : Dv} {a : Addr} (z : Owns (ρ.set i (.val x)) a) : Owns ρ a := (owns_set z).elim id fun ⟨xs, q⟩ => by cases q
theorem wg_name {i : Nat} {x : Dv} {N : Rho → Prop} (h : (ρ[i]?.map isOwn) = some false) (n : N (ρ.set i (.val x))) : Wg c (gName i) [i] x ρ N := fun σ H v Q o d q =>
  q _ _ (o.put d i) (fun j hj => List.getElem?_set_ne fun z => hj (by simp [z])) (by simp) (fun a z => owns_keep h z) (fun a z => owns_less z) n
def Wgs (c : Ctx K) (g : TGs) (js : List Nat) (xs : List PyData) (ρ : Rho) (N : Rho → Prop) : Prop := ∀ σ H vs (Q : L2.St → Hp → Prop), Ok c ρ σ H → DpAll K (vis c ρ H) vs xs →
  (∀ ρ' σ', Ok c ρ' σ' H → (∀ i, i ∉ js → σ'[i]? = σ[i]?) → σ'.length = σ.length → (∀ a, Owns ρ a → Owns ρ' a) → (∀ a, Owns ρ' a → Owns ρ a) → N ρ' → Q σ' H) → g vs σ H Q
theorem wgs_nil {N : Rho → Prop} (n : N ρ) : Wgs c gNil [] [] ρ N := fun σ H vs Q o d q => by
  cases d
  exact ⟨rfl, q ρ σ o (fun _ _ => rfl) rfl (fun _ h => h) (fun _ h => h) n⟩
theorem wgs_cons {g : TG} {gs : TGs} {js is : List Nat} {x : PyData} {xs : List PyData} {N : Rho → Prop} (h : Wg c g js (.d x) ρ fun ρ' => Wgs c gs is xs ρ' N) : Wgs c (gCons g gs) (js ++ is) (x :: xs) ρ N := fun σ H vs Q o d q => by
  cases d with
  | cons d1 d2 =>
    refine ⟨_, _, rfl, h σ H _ _ o d1 fun ρ1 σ1 o1 a1 l1 b1 b1' n1 => n1 σ1 H _ _ o1 (dpa_mono ?_ _ _ d2) fun ρ2 σ2 o2 a2 l2 b2 b2' n2 => q ρ2 σ2 o2 (fun i hi => ?_) (l2.trans l1) (fun a z => b2 a (b1 a z)) (fun a z => b1' a (b2' a z)) n2⟩
    · exact hid_less fun a z => z.imp id (b1' a)
    · exact (a2 i fun z => hi (List.mem_append_right _ z)).trans (a1 i fun z => hi (List.mem_append_left _ z))
theorem wg_tup {n : Nat} {gs : TGs} {js : List Nat} {xs : List PyData} {N : Rho → Prop} (hl : xs.length = n) (h : Wgs c gs js xs ρ N) : Wg c (gTup K n gs) js (.d (.tuple xs)) ρ N := fun σ H v Q o d q => by
  change Dp _ _ _ _ at d
  cases d with
  | tup hs ha => exact ⟨_, _, rfl, ex_t hid_sub hs, (dpa_len ha).trans hl, h σ H _ Q o ha q⟩
theorem ws_asgG {g : TG} {js : List Nat} (h : We c te ρ fun x => Wg c g js x ρ E.nx) : Ws c (tAsg te g) ρ E := fun D σ H e o =>
  h σ H _ o fun v x H1 o1 e1 d1 k1 => k1 σ H1 v _ o1 d1 fun ρ' σ' o' _ _ _ _ n => e.nx ρ' σ' H1 o' n

/-! ### loops -/
theorem ws_for {tl : TE} {g : TG} (js : List Nat) (h : We c tl ρ fun x => ∃ xs, x = .d (.list xs) ∧ ∃ P : Nat → Rho → Prop, P 0 ρ ∧
    (∀ c' : Ctx K, Le c c' → ∀ i x ρ', xs[i]? = some x → P i ρ' → Wg c' g js (.d x) ρ' fun ρ2 => Ws c' tb' ρ2 { E with nx := P (i + 1), ct := P (i + 1), bk := E.nx }) ∧ ∀ ρ', P xs.length ρ' → E.nx ρ') : Ws c (tFor (iList K tl) g tb') ρ E := fun D σ H e o =>
  h σ H _ o fun v x H1 o1 e1 d1 ⟨xs, hx, P, p0, ps, pd⟩ => by
    subst hx
    change Dp _ _ _ _ at d1
    cases d1 with
    | @lst a vs _ _ hs ha =>
      have b1 : Ex c.B (vis c ρ H1) := o1.base
      have le : Le c (c.at (vis c ρ H1)) := le_at b1
      have sq : ∀ {ρ' σ' H'}, Ok (c.at (vis c ρ H1)) ρ' σ' H' → SqL K H' a vs := fun o' => ex_l hid_sub (ex_l o'.b hs)
      refine ⟨a, rfl, ⟨vs, ex_l hid_sub hs⟩, for_list (K := K) (a := a) (xs := vs) (fun i σ' H' => ∃ ρ', Ok (c.at (vis c ρ H1)) ρ' σ' H' ∧ P i ρ') ⟨ρ, o1.at', p0⟩ (fun i σ' H' _ ⟨ρ', o', _⟩ => sq o') ?_ ?_⟩
      · rintro i y σ' H' hy ⟨ρ', o', p'⟩
        obtain ⟨d, hd, dd⟩ := dpa_get' ha hy
        refine ps _ le i d ρ' hd p' σ' H' y _ o' (dp_mono o'.base _ _ dd) fun ρ2 σ2 o2 _ _ _ _ w => ?_
        exact w { D with nx := fun σ' H' => ∃ ρ', Ok (c.at (vis c ρ H1)) ρ' σ' H' ∧ P (i + 1) ρ', ct := fun σ' H' => ∃ ρ', Ok (c.at (vis c ρ H1)) ρ' σ' H' ∧ P (i + 1) ρ', bk := D.nx } σ2 H' ((e.at' b1).loop fun ρ σ H o p => ⟨ρ, o, p⟩) o2
      · rintro σ' H' ⟨ρ', o', p'⟩
        rw [dpa_len ha] at p'
        exact e.nx ρ' σ' H' (ok_at b1 o') (pd ρ' p')
theorem ws_forR1 {ta : TA} {g : TG} (js : List Nat) (h : Wa c ta ρ fun ys => ∃ n : Int, ys = [.d (.int n)] ∧ -(2 ^ 62) ≤ n ∧ n < 2 ^ 62 ∧ ∃ P : Nat → Rho → Prop, P 0 ρ ∧
    (∀ i ρ', i < n.toNat → P i ρ' → Wg c g js (.d (.int i)) ρ' fun ρ2 => Ws c tb' ρ2 { E with nx := P (i + 1), ct := P (i + 1), bk := E.nx }) ∧ ∀ ρ', P n.toNat ρ' → E.nx ρ') : Ws c (tFor (iRng1 ta) g tb') ρ E := fun D σ H e o =>
  h σ H _ o fun vs ys H1 o1 e1 d1 ⟨n, hy, b1, b2, P, p0, ps, pd⟩ => by
    subst hy
    cases d1 with
    | cons a1 a2 =>
      cases a2
      obtain rfl := dp_int a1
      refine ⟨n, rfl, b1, b2, for_range (lo := 0) (n := n.toNat) (fun i σ' H' => ∃ ρ', Ok c ρ' σ' H' ∧ P i ρ') ⟨ρ, o1, p0⟩ ?_ ?_⟩
      · rintro i σ' H' hi ⟨ρ', o', p'⟩
        rw [Int.zero_add]
        refine ps i ρ' hi p' σ' H' _ _ o' (Dp.int _) fun ρ2 σ2 o2 _ _ _ _ w => ?_
        exact w { D with nx := fun σ' H' => ∃ ρ', Ok c ρ' σ' H' ∧ P (i + 1) ρ', ct := fun σ' H' => ∃ ρ', Ok c ρ' σ' H' ∧ P (i + 1) ρ', bk := D.nx } σ2 H' (e.loop fun ρ σ H o p => ⟨ρ, o, p⟩) o2
      · rintro σ' H' ⟨ρ', o', p'⟩
        exact e.nx ρ' σ' H' o' (pd ρ' p')
theorem ws_while {m0 : Nat} (P : Nat → Rho → Prop) (p0 : P m0 ρ) (h : ∀ m ρ', P m ρ' → Wt c tc ρ' fun b => (b = true → Ws c t ρ' { E with nx := fun ρ2 => ∃ m', m' < m ∧ P m' ρ2, ct := fun ρ2 => ∃ m', m' < m ∧ P m' ρ2, bk := E.nx }) ∧ (b = false → E.nx ρ')) : Ws c (tWhile tc t) ρ E := fun D σ H e o => by
  refine ⟨fun m σ' H' => ∃ ρ', Ok c ρ' σ' H' ∧ P m ρ', ⟨m0, ρ, o, p0⟩, ?_⟩
  rintro m σ' H' ⟨ρ', o', p'⟩
  refine h m ρ' p' σ' H' _ o' fun b H1 o1 e1 z => ?_
  cases b with
  | true =>
    rw [if_pos rfl]
    refine ⟨fun σ2 H2 => ∃ ρ2, Ok c ρ2 σ2 H2 ∧ ∃ m', m' < m ∧ P m' ρ2, fun σ2 H2 ⟨ρ2, o2, m', lt, p2⟩ => ⟨m', lt, ρ2, o2, p2⟩, ?_⟩
    exact z.1 rfl _ σ' H1 (e.loop fun ρ σ H o p => ⟨ρ, o, p⟩) o1
  | false =>
    rw [if_neg Bool.false_ne_true]
    exact e.nx ρ' σ' H1 o1 (z.2 rfl)
end
end Py

set_option Elab.async false
set_option linter.all false
set_option autoImplicit false
set_option maxRecDepth 100000
set_option maxHeartbeats 4000000
namespace Py
open PySem L2
open Evl (Ex ex_rd ex_l ex_t fresh_back)
open Classical
section
variable {K : PySem.W.Frag} {c c' : Ctx K} {ρ : Rho} {E : DE} {ta tb te : TE} {t u : TS} {tc : TT}
/-! ### comprehensions -/
theorem hid_none' {L : Addr → Prop} {G : Hp} {a : Addr} (h : G a = none) : hid L G a = none := hid_none h
def wipeR (ρ : Rho) : List Nat → Rho
  | [] => ρ
  | v :: vs => (wipeR ρ vs).set v .un
theorem owns_un {i : Nat} {a : Addr} (z : Owns (ρ.set i .un) a) : Owns ρ a := (owns_set z).elim id fun ⟨xs, q⟩ => by cases q
/-- a slot is forgotten -/
theorem Ok.un {σ : L2.St} {H : Hp} (o : Ok c ρ σ H) (i : Nat) (w : Option V) : Ok c (ρ.set i .un) (σ.set i w) H := by
  have e : Ex (vis c ρ H) (vis c (ρ.set i .un) H) := hid_less fun a h => h.imp id owns_un
  refine ⟨o.w, o.b, fun l h => o.ob l (owns_un h), fun j s h => ?_, fun j j' l xs ys h h' => ?_, by simp [o.len]⟩
  · rcases List_set_get h with ⟨rfl, rfl, hl⟩ | ⟨ne, h⟩
    · exact ⟨w, by rw [List.getElem?_set_self (by rw [o.len]; exact hl)], trivial⟩
    · obtain ⟨u, q, z⟩ := o.sl j s h
      refine ⟨u, by rw [List.getElem?_set_ne ne]; exact q, ?_⟩
      cases s with
      | un => trivial
      | val y => obtain ⟨w, e1, e2⟩ := z; exact ⟨w, e1, dv_mono e e2⟩
      | own l xs => obtain ⟨vs, e1, e2, e3⟩ := z; exact ⟨vs, e1, e2, own_mono e _ _ e3⟩
  · rcases List_set_get h with ⟨_, q, _⟩ | ⟨_, h⟩
    · cases q
    · rcases List_set_get h' with ⟨_, q, _⟩ | ⟨_, h'⟩
      · cases q
      · exact o.one _ _ _ _ _ h h'
theorem Ok.wipe {σ : L2.St} {H : Hp} (o : Ok c ρ σ H) : ∀ vs : List Nat, Ok c (wipeR ρ vs) (L2.wipe σ vs) H
  | [] => o
  | v :: vs => (o.wipe vs).un v none
theorem owns_wipe {a : Addr} : ∀ {vs : List Nat}, Owns (wipeR ρ vs) a → Owns ρ a
  | [], h => h
  | _ :: _, h => owns_wipe (owns_un h)
theorem owns_wipe' : ∀ {vs : List Nat}, (vs.all fun v => (ρ[v]?.map isOwn) == some false) = true → ∀ {a : Addr}, Owns ρ a → Owns (wipeR ρ vs) a ∧ ∀ i : Nat, (ρ[i]?.map isOwn) = some false → ((wipeR ρ vs)[i]?.map isOwn) = some false
  | [], _, _, h => ⟨h, fun _ h => h⟩
  | v :: vs, hv, a, h => by
    rw [List.all_cons, Bool.and_eq_true] at hv
    obtain ⟨h1, h2⟩ := owns_wipe' (vs := vs) hv.2 h
    refine ⟨owns_keep (h2 v (by simpa using hv.1)) h1, fun i hi => ?_⟩
    show ((((wipeR ρ vs).set v .un)[i]?).map isOwn) = some false
    by_cases e : v = i
    · subst e
      rw [List.getElem?_set_self']
      have := h2 v hi
      cases z : (wipeR ρ vs)[v]? with
      | none => rw [z] at this; cases this
      | some y => rfl
    · rw [List.getElem?_set_ne e]
      exact h2 i hi
theorem wipe_get {σ : L2.St} {i : Nat} : ∀ {vs : List Nat}, (L2.wipe σ vs)[i]? = if i ∈ vs then (σ[i]?.map fun _ => none) else σ[i]?
  | [] => by simp [L2.wipe]
  | v :: vs => by
    show ((L2.wipe σ vs).set v none)[i]? = _
    have ih := wipe_get (σ := σ) (i := i) (vs := vs)
    by_cases e : v = i
    · subst e
      rw [List.getElem?_set_self', ih]
      by_cases m : v ∈ vs
      · rw [if_pos m, if_pos (by simp)]
        cases σ[v]? <;> rfl
      · rw [if_neg m, if_pos (by simp)]
        cases σ[v]? <;> rfl
    · rw [List.getElem?_set_ne e, ih]
      have : (i ∈ v :: vs) ↔ i ∈ vs := by simp [Ne.symm e]
      simp only [this]
theorem wipe_eq {σ σ' : L2.St} {vs js : List Nat} (hj : ∀ i ∈ js, i ∈ vs) (h : ∀ i, i ∉ js → σ'[i]? = (L2.wipe σ vs)[i]?) (hl : σ'.length = (L2.wipe σ vs).length) : L2.wipe σ' vs = L2.wipe σ vs := by
  refine List.ext_getElem? fun i => ?_
  rw [wipe_get]
  by_cases m : i ∈ vs
  · rw [if_pos m]
    have w : (L2.wipe σ vs)[i]? = (σ[i]?.map fun _ => none) := by rw [wipe_get, if_pos m]
    have l : σ'.length = σ.length := by rw [hl, wipe_length]
    rw [w]
    by_cases q : i < σ.length
    · rw [List.getElem?_eq_getElem (by omega), List.getElem?_eq_getElem q]; rfl
    · rw [List.getElem?_eq_none (by omega), List.getElem?_eq_none (by omega)] <;> rfl
  · rw [if_neg m]
    exact h i fun z => m (hj i z)
/-- one more thing hidden, as it stands -/
def Ctx.hide (c : Ctx K) (D : Addr) (o : HO) (B : Hp) (hm : isMut o = true := by rfl) : Ctx K where
  B := B
  L := fun a => c.L a ∨ a = D
  W := fun H => c.W H ∧ H D = some o
  loc := fun H H' e t h => ⟨c.loc H H' (fun a ha => e a (.inl ha)) t h.1, (e D (.inr rfl)).trans h.2⟩
  dom := fun H h a ha => ha.elim (c.dom H h.1 a) fun z => by rw [z, h.2]; exact ⟨o, rfl, hm⟩
theorem le_hide {D : Addr} {o : HO} {B : Hp} {hm : isMut o = true} (hD : ¬ c.L D) (h : Ex c.B B) : Le c (c.hide D o B hm) :=
  ⟨fun _ h => .inl h, fun _ h => h.1, fun H H' h h' e _ => ⟨h', (e D (.inr rfl) hD).trans h.2⟩, h⟩
/-- a comprehension over a list: P tells what is made so far -/
theorem wf_lc {tl : TE} {g : TG} {tt : TT} {vs : List Nat} {k : List PyData → Prop} (js : List Nat) (hj : ∀ i ∈ js, i ∈ vs) (hw : (vs.all fun v => (ρ[v]?.map isOwn) == some false) = true) (h : We c tl ρ fun x => ∃ xs, x = .d (.list xs) ∧ xs.length ≤ 100000 ∧ ∃ P : Nat → List PyData → Prop, P 0 [] ∧
    (∀ c' : Ctx K, Le c c' → ∀ i x acc, xs[i]? = some x → acc.length ≤ i → P i acc → Wg c' g js (.d x) (wipeR ρ vs) fun ρ2 => Wt c' tt ρ2 fun b => (b = true → We c' te ρ2 fun y => ∃ d, y = .d d ∧ P (i + 1) (acc ++ [d])) ∧ (b = false → P (i + 1) acc)) ∧
    ∀ acc, acc.length ≤ xs.length → P xs.length acc → k acc) : Wf c (tLc (iList K tl) g tt te vs) ρ k := fun σ H Q o q =>
  h σ H _ o fun v x H1 o1 e1 d1 ⟨xs, hx, hz, P, p0, ps, pd⟩ => by
    subst hx
    change Dp _ _ _ _ at d1
    cases d1 with
    | @lst a us _ _ hs ha =>
      refine ⟨a, rfl, ⟨us, ex_l hid_sub hs⟩, fun D hD => ?_⟩
      have nD : ¬ Hid c ρ D := o1.nh hD
      have nDL : ¬ c.L D := fun z => nD (.inl z)
      -- what stood ahead of the list, for all turns
      let B1 : Hp := vis c ρ H1
      have bB : Ex c.B B1 := o1.base
      have B1D : B1 D = none := hid_none hD
      have own0 : ∀ a, Owns ρ a → B1 a = none := fun a z => hid_pos (.inr z)
      let Pv : Nat → Hp → Prop := fun i H' => ∃ (ws : List V) (acc : List PyData), H' D = some (.lst ws) ∧ Ok (c.at B1) ρ σ H' ∧ Stp c ρ H1 H' ∧ DpAll K (hid (· = D) (vis c ρ H')) ws acc ∧ acc.length ≤ i ∧ P i acc
      have hH0 : H D = none := by
        cases z : H D with
        | none => rfl
        | some ob =>
          have := e1.ex D ob (by unfold vis; rw [hid_neg nD]; exact z)
          rw [vis, hid_none hD] at this; cases this
      refine lc_list (K := K) (a := a) (xs := us) Pv ?_ ?_ ?_ ?_
      · obtain ⟨o2, e2⟩ := o1.new (o := .lst []) hD
        have o2' : Ok (c.at B1) ρ σ (upd H1 D (.lst [])) := ⟨o2.w, e2.ex.trans vis_out, fun l z => ⟨own0 l z, (o2.ob l z).2⟩, o2.sl, o2.one, o2.len⟩
        exact ⟨[], [], upd_same, o2', e2, .nil, Nat.le_refl 0, p0⟩
      · rintro i H' _ ⟨ws, acc, _, o', _, _, _, _⟩
        exact ex_l hid_sub (ex_l o'.b hs)
      · rintro i y H' hy ⟨ws, acc, hD', o', s', dacc, hl, p'⟩
        obtain ⟨d, hd, dd⟩ := dpa_get' ha hy
        have hi : i < 100000 := by
          have := (List.getElem?_eq_some_iff.mp hd).1
          omega
        -- the context of this turn
        let B2 : Hp := hid (· = D) (vis c ρ H')
        have bB2 : Ex B1 B2 := fun b ob z => by
          have nb : b ≠ D := fun q => by rw [q, B1D] at z; cases z
          exact (hid_neg (L := fun x => x = D) nb).trans (s'.ex b ob z)
        let c2 : Ctx K := c.hide D (.lst ws) B2
        have le : Le c c2 := le_hide nDL (bB.trans bB2)
        have visE : ∀ (ρ2 : Rho) (H2 : Hp), Ex (vis c2 ρ2 H2) (hid (· = D) (vis c ρ2 H2)) := fun ρ2 H2 b ob z => by
          obtain ⟨n1, z⟩ := hid_some z
          have nb : b ≠ D := fun q => n1 (.inl (.inr q))
          refine (hid_neg (L := fun x => x = D) nb).trans ((hid_neg fun q => n1 (q.imp .inl id)).trans z)
        have visE' : ∀ (ρ2 : Rho) (H2 : Hp), Ex (hid (· = D) (vis c ρ2 H2)) (vis c2 ρ2 H2) := fun ρ2 H2 b ob z => by
          obtain ⟨nb, z⟩ := hid_some z
          obtain ⟨n1, z⟩ := hid_some z
          refine (hid_neg fun q => ?_).trans z
          rcases q with (q | q) | q
          · exact n1 (.inl q)
          · exact nb q
          · exact n1 (.inr q)
        have oD : ∀ (l : Addr), Owns ρ l → l ≠ D := fun l z q => nD (.inr (q ▸ z))
        have slots : ∀ (j : Nat) (s : Slot), ρ[j]? = some s → ∃ ob, σ[j]? = some ob ∧ SlotOk K (vis c2 ρ H') H' ob s := fun j s hs' => by
          obtain ⟨u1, q1, z1⟩ := (o1.clean s' hD j s hs')
          refine ⟨u1, q1, ?_⟩
          cases s with
          | un => trivial
          | val y => obtain ⟨w, w1, w2⟩ := z1; exact ⟨w, w1, dv_mono (visE' ρ H') w2⟩
          | own l ys => obtain ⟨w, w1, w2, w3⟩ := z1; exact ⟨w, w1, w2, own_mono (visE' ρ H') _ _ w3⟩
        have o2 : Ok c2 ρ σ H' := ⟨⟨o'.w, hD'⟩, (visE' ρ H').trans vis_out, fun l z => ⟨(show hid (· = D) (vis c ρ H') l = none from hid_none' (hid_pos (Or.inr z))), fun q => q.elim (o'.ob l z).2 (oD l z)⟩, slots, o'.one, o'.len⟩
        have o3 : Ok c2 (wipeR ρ vs) (L2.wipe σ vs) H' := o2.wipe vs
        have ev : Ex (vis c2 ρ H') (vis c2 (wipeR ρ vs) H') := hid_less fun b z => z.imp id owns_wipe
        have dd2 : Dp K (vis c2 (wipeR ρ vs) H') y d := dp_mono ((Evl.Ex.trans bB2 (visE' ρ H')).trans ev) _ _ dd
        refine ps c2 le i d acc hd hl p' (L2.wipe σ vs) H' y _ o3 dd2 fun ρ4 σ4 o4 a4 l4 b4 b4' w4 => ⟨wipe_eq hj a4 l4, ?_⟩
        refine w4 σ4 H' _ o4 fun b H5 o5 s5 z5 => ?_
        -- what is the same again once the element is told
        have back : ∀ H6, Ok c2 ρ4 σ4 H6 → Stp c2 ρ4 H' H6 → H6 D = some (.lst ws) ∧ (∀ a, Owns ρ a → H6 a = H' a) ∧ Ex (vis c2 ρ H') (vis c2 ρ H6) := fun H6 o6 s6 => by
          refine ⟨o6.w.2, fun a z => s6.own a (b4 a (owns_wipe' hw z).1), fun b ob z => ?_⟩
          · obtain ⟨n1, z⟩ := hid_some z
            have n2 : ¬ Hid c2 ρ4 b := fun q => n1 (q.imp id fun q => owns_wipe (b4' b q))
            have := s6.ex b ob (by unfold vis; rw [hid_neg n2]; exact z)
            unfold vis
            rw [hid_neg n1]
            exact (hid_some this).2
        cases b with
        | false =>
          rw [if_neg Bool.false_ne_true]
          obtain ⟨hD5, ow5, ex5⟩ := back H5 o5 s5
          have exA : Ex (vis c ρ H') (vis c ρ H5) := fun b ob z => by
            by_cases nb : b = D
            · subst nb
              unfold vis at *
              rw [hid_neg nD] at *
              rw [hD'] at z
              rw [hD5]; exact z
            · have := ex5 b ob (visE' ρ H' b ob ((hid_neg (L := fun x => x = D) nb).trans z))
              exact hid_sub b ob (visE ρ H5 b ob this)
          have stp : Stp c ρ H' H5 := ⟨exA, ow5⟩
          refine ⟨ws, acc, hD5, o'.grow o5.w.1 exA ow5, s'.trans stp, dpa_mono (fun b ob z => visE ρ H5 b ob (ex5 b ob (visE' ρ H' b ob z))) _ _ dacc, Nat.le_succ_of_le hl, z5.2 rfl⟩
        | true =>
          rw [if_pos rfl]
          refine z5.1 rfl σ4 H5 _ o5 fun v6 y6 H6 o6 s6 d6 ⟨d, hy6, p6⟩ => ?_
          subst hy6
          obtain ⟨hD6, ow6, ex6⟩ := back H6 o6 (s5.trans s6)
          refine ⟨ws, hD6, ?_, ?_⟩
          · have w1 := dpa_len dacc
            exact Evl.sz_lt (by omega)
          · -- the list has one more
            have ow7 : ∀ a, Owns ρ a → upd H6 D (.lst (ws ++ [v6])) a = H' a := fun a z => (upd_ne (oD a z)).trans (ow6 a z)
            have e67 : Ex (hid (· = D) (vis c ρ H6)) (hid (· = D) (vis c ρ (upd H6 D (.lst (ws ++ [v6]))))) := fun b ob z => by
              obtain ⟨nb, z⟩ := hid_some z
              obtain ⟨n1, z⟩ := hid_some z
              refine (hid_neg (L := fun x => x = D) nb).trans ((hid_neg n1).trans ((upd_ne nb).trans z))
            have exB : Ex (hid (· = D) (vis c ρ H')) (hid (· = D) (vis c ρ (upd H6 D (.lst (ws ++ [v6]))))) := fun b ob z => e67 b ob (visE ρ H6 b ob (ex6 b ob (visE' ρ H' b ob z)))
            have w7 : c.W (upd H6 D (.lst (ws ++ [v6]))) := c.loc _ _ (fun a z => upd_ne fun q => nDL (q ▸ z)) (tp_lst hD6) o6.w.1
            have o7 : Ok (c.at B1) ρ σ (upd H6 D (.lst (ws ++ [v6]))) := by
              refine ⟨w7, fun b ob z => ?_, o'.ob, fun j s hs' => ?_, o'.one, o'.len⟩
              · have := exB b ob (bB2 b ob z)
                exact vis_out b ob (hid_sub b ob this)
              · obtain ⟨u1, q1, z1⟩ := (o1.clean s' hD j s hs')
                refine ⟨u1, q1, ?_⟩
                cases s with
                | un => trivial
                | val y => obtain ⟨w, w1, w2⟩ := z1; exact ⟨w, w1, dv_mono (exB.trans hid_sub) w2⟩
                | own l ys =>
                  obtain ⟨w, w1, w2, w3⟩ := z1
                  exact ⟨w, w1, (ow7 l ⟨ys, List.mem_of_getElem? hs'⟩).trans w2, own_mono (exB.trans hid_sub) _ _ w3⟩
            refine ⟨ws ++ [v6], acc ++ [d], upd_same, o7, ⟨fun b ob z => ?_, fun a z => (ow7 a z).trans (s'.own a z)⟩, ?_, by simp; omega, p6⟩
            · have nb : b ≠ D := fun q => by subst q; rw [vis, hid_none hD] at z; cases z
              have := exB b ob ((hid_neg (L := fun x => x = D) nb).trans (s'.ex b ob z))
              exact hid_sub b ob this
            · refine dpa_app (dpa_mono exB _ _ dacc) (.cons (dp_mono (fun b ob z => ?_) _ _ d6) .nil)
              -- what the element is made of
              have z0 := visE ρ4 H6 b ob z
              obtain ⟨nb, z1⟩ := hid_some z0
              obtain ⟨n1, z2⟩ := hid_some z1
              refine e67 b ob ((hid_neg (L := fun x => x = D) nb).trans ((hid_neg fun q => ?_).trans z2))
              rcases q with q | q
              · exact n1 (.inl q)
              · exact n1 (.inr (b4 b (owns_wipe' hw q).1))
      · rintro H' ⟨ws, acc, hD', o', s', dacc, hl, p'⟩
        rw [dpa_len ha] at *
        exact q D ws acc H' hH0 hD' (ok_at bB o') (e1.trans s') dacc (pd acc hl p')
end
end Py

set_option Elab.async false
set_option linter.all false
set_option autoImplicit false
set_option maxRecDepth 100000
set_option maxHeartbeats 4000000
namespace Py
open PySem hiding start
open L2
open Evl (Ex ex_rd ex_l ex_t fresh_back)
open Classical
section
variable {K : PySem.W.Frag} {c c' : Ctx K} {ρ : Rho} {E : DE} {ta tb te : TE} {t u : TS} {tc : TT}
/-! ### calls -/
/-- the promise of a def: what it asks (of the context, the arguments) and tells (the value's wish k, the raised classes' wish x) -/
abbrev PT0 (K : PySem.W.Frag) := Ctx K → List Dv → (Dv → Prop) → (Value → Prop) → Prop
def spD (K : PySem.W.Frag) (P : PT0 K) : Sp := fun vs H Q E => ∃ (c : Ctx K) (xs : List Dv) (k : Dv → Prop) (x : Value → Prop), c.W H ∧ c.B = hid c.L H ∧ DvAll K c.B vs xs ∧ P c xs k x ∧
  (∀ v y H', c.W H' → Ex c.B (hid c.L H') → DvOk K (hid c.L H') v y → k y → Q v H') ∧ ∀ cls H', c.W H' → Ex c.B (hid c.L H') → x cls → E cls none H'
/-- the context of a call -/
noncomputable def Ctx.shut (c : Ctx K) (ρ : Rho) (H : Hp) (w : c.W H) (dom : ∀ a, Hid c ρ a → ∃ o, H a = some o ∧ isMut o = true) : Ctx K where
  B := vis c ρ H
  L := Hid c ρ
  W := fun H' => c.W H' ∧ ∀ a, Owns ρ a → H' a = H a
  loc := fun H1 H2 e t h => ⟨c.loc H1 H2 (fun a ha => e a (.inl ha)) t h.1, fun a ha => (e a (.inr ha)).trans (h.2 a ha)⟩
  dom := fun H1 h a ha => ha.elim (c.dom H1 h.1 a) fun z => by rw [h.2 a z]; exact dom a (.inr z)
theorem Ok.mut {σ : L2.St} {H : Hp} (k : Ok c ρ σ H) {p : Addr} (h : Hid c ρ p) : ∃ o, H p = some o ∧ isMut o = true := by
  rcases h with z | ⟨xs, z⟩
  · exact c.dom H k.w p z
  · obtain ⟨i, hi, e⟩ := List.mem_iff_getElem.mp z
    obtain ⟨o, _, vs, _, q, dd⟩ := k.sl i (.own p xs) (by rw [List.getElem?_eq_getElem hi, e])
    exact ⟨_, q, own_mut dd⟩
theorem Ok.le {σ : L2.St} {H : Hp} (o : Ok c ρ σ H) : Le c (c.shut ρ H o.w fun a z => o.mut z) :=
  ⟨fun _ h => .inl h, fun _ h => h.1, fun H1 H2 h h' e _ => ⟨h', fun a ha => (e a (.inr ha) (o.ob a ha).2).trans (h.2 a ha)⟩, o.base⟩
theorem call_core {P : PT0 K} {σ : L2.St} {H : Hp} {vs : List V} {xs : List Dv} {Q : VK} {X : XK} {k : Dv → Prop} {x : Value → Prop} (o : Ok c ρ σ H) (d : DvAll K (vis c ρ H) vs xs) (h : ∀ c', Le c c' → P c' xs k x)
    (q : Qk c ρ σ H k Q) (e : ∀ cls H', Ok c ρ σ H' → Stp c ρ H H' → x cls → X cls none H') : spD K P vs H Q X := by
  refine ⟨c.shut ρ H o.w fun a z => o.mut z, xs, k, x, ⟨o.w, fun _ _ => rfl⟩, rfl, d, h _ o.le, fun v y H' w b dv ky => ?_, fun cls H' w b kx => ?_⟩
  · have s : Stp c ρ H H' := ⟨b, w.2⟩
    exact q v y H' (o.grow w.1 b w.2) s dv ky
  · exact e cls H' (o.grow w.1 b w.2) ⟨b, w.2⟩ kx
theorem we_call {P : PT0 K} {k : Dv → Prop} {X : XK} {t : TA} (h : Wa c t ρ fun xs => ∀ c', Le c c' → P c' xs k fun _ => False) : We c (tCall (spD K P) [] X t) ρ k := fun σ H Q o q =>
  h σ H _ o fun vs xs H1 o1 e1 d1 h1 => by
    rw [List.append_nil]
    exact call_core o1 d1 h1 (q.to e1) fun _ _ _ _ z => z.elim
/-- what is wished of a raised class, at the slots -/
def XOk (c : Ctx K) (W : WX) (x : Rho → Value → Prop) : Prop := ∀ ρ σ H cls, Ok c ρ σ H → x ρ cls → W cls none σ H
theorem ok_le (le : Le c c') {σ : L2.St} {H : Hp} (o : Ok c' ρ σ H) : Ok c ρ σ H := by
  have e : Ex (vis c' ρ H) (vis c ρ H) := hid_less fun a z => z.imp (le.L a) id
  refine ⟨le.W H o.w, (le.B.trans o.b).trans (hid_less le.L), fun l z => ⟨fresh_back le.B (o.ob l z).1, fun q => (o.ob l z).2 (le.L l q)⟩, fun i s h => ?_, o.one, o.len⟩
  obtain ⟨u, q, z⟩ := o.sl i s h
  refine ⟨u, q, ?_⟩
  cases s with
  | un => trivial
  | val y => obtain ⟨w, e1, e2⟩ := z; exact ⟨w, e1, dv_mono e e2⟩
  | own l xs => obtain ⟨vs, e1, e2, e3⟩ := z; exact ⟨vs, e1, e2, own_mono e _ _ e3⟩
theorem XOk.le {W : WX} {x : Rho → Value → Prop} (h : XOk c W x) (le : Le c c') : XOk c' W x := fun ρ σ H cls o z => h ρ σ H cls (ok_le le o) z
/-- a call that may raise -/
theorem we_callS {P : PT0 K} {k : Dv → Prop} {W : WX} {x : Rho → Value → Prop} {t : TA} (hx : XOk c W x) (h : Wa c t ρ fun xs => ∀ c', Le c c' → P c' xs k (x ρ)) : We c (tCallS (spD K P) (WE W) t) ρ k := fun σ H Q o q =>
  h σ H _ o fun vs xs H1 o1 e1 d1 h1 => call_core o1 d1 h1 (q.to e1) fun cls H' o' _ z => hx ρ σ H' cls o' z
theorem ws_raise {W : WX} {x : Rho → Value → Prop} {cls : Value} (hx : XOk c W x) (h : x ρ cls) : Ws c (fun _ σ H => (fun _ H Q => Q cls none H : L2.St → Hp → XK → Prop) σ H fun cls d H' => W cls d σ H') ρ E := fun D σ H e o => hx ρ σ H cls o h
/-- try: .. except C as n: .. -/
theorem ws_tryAs {tb0 : WX → TS} {ts : Addr → Value → Option Addr → TS} {Wout : WX} {xo : Rho → Value → Prop} {C : Value} {i : Nat} (ho : XOk c Wout xo)
    (h : ∀ W, XOk c W (fun ρ' cls => ∃ b, PySem.W.exmOne K cls C = some b ∧
        (b = true → ∀ a, Ws c (ts a cls none) (ρ'.set i (.val (.r (.ref a)))) ⟨fun ρ2 => E.nx (ρ2.set i .un), E.rt, fun ρ2 => E.bk (ρ2.set i .un), fun ρ2 => E.ct (ρ2.set i .un)⟩) ∧ (b = false → xo ρ' cls)) → Ws c (tb0 W) ρ E) :
    Ws c (fun D σ H => tb0 (wAs K C i ts Wout D) D σ H) ρ E := fun D σ H e o => by
  refine h (wAs K C i ts Wout D) (fun ρ' σ' H' cls o' ⟨b, hb, h1, h2⟩ => ⟨b, hb, fun z a ha => ?_, fun z => ho ρ' σ' H' cls o' (h2 z)⟩) D σ H e o
  refine h1 z a _ _ _ ⟨fun ρ2 σ2 H2 o2 z2 => e.nx _ _ _ (o2.un i none) z2, e.rt, fun ρ2 σ2 H2 o2 z2 => e.bk _ _ _ (o2.un i none) z2, fun ρ2 σ2 H2 o2 z2 => e.ct _ _ _ (o2.un i none) z2⟩ (o'.put (x := .r (.ref a)) rfl i)
theorem ws_tryOnly {tb0 : WX → TS} {ts : Addr → Value → Option Addr → TS} {Wout : WX} {xo : Rho → Value → Prop} {C : Value} (ho : XOk c Wout xo)
    (h : ∀ W, XOk c W (fun ρ' cls => ∃ b, PySem.W.exmOne K cls C = some b ∧ (b = true → ∀ a, Ws c (ts a cls none) ρ' E) ∧ (b = false → xo ρ' cls)) → Ws c (tb0 W) ρ E) :
    Ws c (fun D σ H => tb0 (wOnly K C ts Wout D) D σ H) ρ E := fun D σ H e o => by
  refine h (wOnly K C ts Wout D) (fun ρ' σ' H' cls o' ⟨b, hb, h1, h2⟩ => ⟨b, hb, fun z a ha => ?_, fun z => ho ρ' σ' H' cls o' (h2 z)⟩) D σ H e o
  exact h1 z a _ _ _ e o'
theorem xok_none {W : WX} : XOk c W fun _ _ => False := fun _ _ _ _ _ z => z.elim

/-! ### a def -/
def startR (n : Nat) (xs : List Dv) : Rho := xs.map .val ++ List.replicate (n - xs.length) .un
theorem no_own {xs : List Dv} {n : Nat} {l : Addr} {ys : OwnC} : Slot.own l ys ∉ startR n xs := fun h => by
  rcases List.mem_append.mp h with h | h
  · obtain ⟨x, _, q⟩ := List.mem_map.mp h
    cases q
  · cases List.eq_of_mem_replicate h
theorem start_ok {N : List Str} {vs : List V} {xs : List Dv} {H : Hp} (w : c.W H) (b : c.B = hid c.L H) (d : DvAll K c.B vs xs) (hl : xs.length ≤ N.length) : Ok c (startR N.length xs) (start N vs) H := by
  have no : ∀ a, ¬ Owns (startR N.length xs) a := fun a ⟨ys, z⟩ => no_own z
  have ev : Ex c.B (vis c (startR N.length xs) H) := by
    rw [b]
    exact hid_less fun a z => z.elim id fun z => (no a z).elim
  refine ⟨w, by rw [b]; exact Evl.Ex.refl _, fun l z => (no l z).elim, fun i s h => ?_, fun i j l xs' ys h _ => (no_own (List.mem_of_getElem? h)).elim, ?_⟩
  · have hv := dva_len d
    unfold startR at h
    unfold start
    by_cases q : i < xs.length
    · rw [List.getElem?_append_left (by simpa using q)] at h
      rw [List.getElem?_append_left (by simpa [hv] using q)]
      rw [List.getElem?_map] at h ⊢
      cases z : xs[i]? with
      | none => rw [z] at h; cases h
      | some x =>
        rw [z] at h
        cases h
        obtain ⟨v, e1, e2⟩ := dva_get d z
        exact ⟨some v, by rw [e1]; rfl, v, rfl, dv_mono ev e2⟩
    · rw [List.getElem?_append_right (by simpa using q)] at h
      have e := List.eq_of_mem_replicate (List.mem_of_getElem? h)
      subst e
      have h' := (List.getElem?_eq_some_iff.mp h).1
      simp at h'
      refine ⟨none, ?_, trivial⟩
      rw [List.getElem?_append_right (by simpa [hv] using q)]
      rw [List.getElem?_replicate, if_pos (by simp [hv]; omega)]
  · unfold start startR
    simp [dva_len d]
/-- the body of a def against its promise -/
theorem run_spD {P : PT0 K} {vs : List V} {H : Hp} {Q : VK} {X : XK} {N : List Str} (h : spD K P vs H Q X)
    (hw : ∀ (c : Ctx K) xs k x, P c xs k x → xs.length ≤ N.length ∧ (XOk c (fun cls d _ H => X cls d H) (fun _ => x) → Ws c t (startR N.length xs) ⟨fun _ => k (.d .none), k, fun _ => False, fun _ => False⟩)) :
    t { nx := fun _ H' => Q .non H', rt := Q } (start N vs) H := by
  obtain ⟨c, xs, k, x, w, b, d, p, q, e⟩ := h
  obtain ⟨hl, hw⟩ := hw c xs k x p
  refine hw (fun ρ σ H cls o z => e cls H o.w o.b z) _ _ _ ⟨fun ρ σ H' o z => q .non (.d .none) H' o.w o.b Dp.non z, q' q, fun _ _ _ _ z => z.elim, fun _ _ _ _ z => z.elim⟩ (start_ok w b d hl)
where q' {c : Ctx K} {k : Dv → Prop} {Q : VK} (q : ∀ v y H', c.W H' → Ex c.B (hid c.L H') → DvOk K (hid c.L H') v y → k y → Q v H') : ∀ v x H, c.W H → Ex c.B (hid c.L H) → DvOk K (hid c.L H) v x → k x → Q v H := q
theorem spD_len {P : PT0 K} {n : Nat} (hp : ∀ (c : Ctx K) xs k x, P c xs k x → xs.length = n) : ∀ vs H Q X, spD K P vs H Q X → vs.length = n := fun vs H Q X ⟨c, xs, k, x, _, _, d, p, _⟩ => (dva_len d).trans (hp c xs k x p)
/-! ### lists of one's own -/
theorem ws_app {i : Nat} {l : Addr} {xs : List PyData} (h : ρ[i]? = some (.own l xs)) (hz : xs.length < 100000) (ht : We c te ρ fun y => ∃ d, y = .d d ∧ E.nx (ρ.set i (.own l (xs ++ [d])))) :
    Ws c (tDrop (tBM K "list" rAppend (tVar i) (tCons te tNil))) ρ E := fun D σ H e o => by
  obtain ⟨vs, e1, h1, d1⟩ := o.own h
  refine ⟨_, e1, .inl ⟨rfl, _, .inl (.inl h1)⟩, ht σ H _ o fun v y H1 o1 s1 dy ⟨d, hy, n⟩ => ?_⟩
  subst hy
  have ol : Owns ρ l := ⟨xs, List.mem_of_getElem? h⟩
  have h1' : H1 l = some (.lst vs) := (s1.own l ol).trans h1
  refine ⟨l, vs, v, rfl, rfl, h1', Evl.sz_lt (by rw [dpa_len d1]; exact hz), e.nx (ρ.set i (.own l (xs ++ [d]))) σ (upd H1 l (.lst (vs ++ [v]))) ?_ n⟩
  have nl : ¬ c.L l := (o.ob l ol).2
  have hi : i < ρ.length := (List.getElem?_eq_some_iff.mp h).1
  have ow1 : ∀ a, Owns (ρ.set i (.own l (xs ++ [d]))) a → Owns ρ a := fun a z => by
    rcases owns_set z with q | ⟨ys, q⟩
    · exact q
    · cases q; exact ol
  have ow2 : ∀ a, Owns ρ a → Owns (ρ.set i (.own l (xs ++ [d]))) a := fun a ⟨ys, z⟩ => by
    obtain ⟨j, hj, e'⟩ := List.mem_iff_getElem.mp z
    by_cases q : i = j
    · subst q
      have : some (Slot.own a ys) = some (Slot.own l xs) := by rw [← h, List.getElem?_eq_getElem hj, e']
      cases this
      exact ⟨xs ++ [d], List.mem_of_getElem? (i := i) (List.getElem?_set_self hi)⟩
    · exact ⟨ys, List.mem_of_getElem? (i := j) (by rw [List.getElem?_set_ne q, List.getElem?_eq_getElem hj, e'])⟩
  have ev : Ex (vis c ρ H1) (vis c (ρ.set i (.own l (xs ++ [d]))) (upd H1 l (.lst (vs ++ [v])))) := fun b ob z => by
    obtain ⟨n1, z⟩ := hid_some z
    have nb : b ≠ l := fun q => n1 (.inr (q ▸ ol))
    exact (hid_neg fun q => n1 (q.imp id (ow1 b))).trans ((upd_ne nb).trans z)
  refine ⟨c.loc _ _ (fun a z => upd_ne fun q => nl (q ▸ z)) (tp_lst h1') o1.w, (o1.base.trans ev).trans vis_out, fun a z => o1.ob a (ow1 a z), fun j s hs => ?_, fun j j' a ys zs hs hs' => ?_, by simp [o1.len]⟩
  · rcases List_set_get hs with ⟨rfl, rfl, _⟩ | ⟨ne, hs⟩
    · exact ⟨some (.ref l), e1, _, rfl, upd_same, vs ++ [v], rfl, dpa_app (dpa_mono (s1.ex.trans ev) _ _ d1) (.cons (dp_mono ev _ _ dy) .nil)⟩
    · obtain ⟨u, q, z⟩ := o1.sl j s hs
      refine ⟨u, q, ?_⟩
      cases s with
      | un => trivial
      | val y => obtain ⟨w, e1, e2⟩ := z; exact ⟨w, e1, dv_mono ev e2⟩
      | own m ys =>
        obtain ⟨ws, e1, e2, e3⟩ := z
        have nm : m ≠ l := fun q => ne (o1.one i j l xs ys h (q ▸ hs))
        exact ⟨ws, e1, (upd_ne nm).trans e2, own_mono ev _ _ e3⟩
  · rcases List_set_get hs with ⟨r1, q1, _⟩ | ⟨ne, hs⟩
    · rcases List_set_get hs' with ⟨r2, q2, _⟩ | ⟨ne', hs'⟩
      · exact r1.symm.trans r2
      · cases q1
        exact (r1.symm.trans (o1.one i j' l xs _ h hs'))
    · rcases List_set_get hs' with ⟨r2, q2, _⟩ | ⟨ne', hs'⟩
      · cases q2
        exact ((o1.one i j l xs _ h hs).symm.trans r2)
      · exact o1.one _ _ _ _ _ hs hs'
/-- a list of one's own is one's own no more -/
theorem Ok.freeze {σ : L2.St} {H : Hp} (o : Ok c ρ σ H) {i : Nat} {l : Addr} {xs : List PyData} (h : ρ[i]? = some (.own l xs)) : Ok c (ρ.set i (.val (.d (.list xs)))) σ H := by
  obtain ⟨vs, e1, h1, d1⟩ := o.own h
  have ol : Owns ρ l := ⟨xs, List.mem_of_getElem? h⟩
  have e : Ex (vis c ρ H) (vis c (ρ.set i (.val (.d (.list xs)))) H) := hid_less fun a z => z.imp id owns_less
  have nl : ¬ Hid c (ρ.set i (.val (.d (.list xs)))) l := fun z => z.elim (o.ob l ol).2 fun ⟨ys, z⟩ => by
    obtain ⟨j, hj, e'⟩ := List.mem_iff_getElem.mp z
    have z' : (ρ.set i (.val (.d (.list xs))))[j]? = some (Slot.own l ys) := by rw [List.getElem?_eq_getElem hj, e']
    rcases List_set_get z' with ⟨_, q, _⟩ | ⟨ne, z'⟩
    · cases q
    · exact ne (o.one i j l xs ys h z')
  refine ⟨o.w, o.b, fun l h => o.ob l (owns_less h), fun j s h' => ?_, fun j j' a ys zs h h' => ?_, by simp [o.len]⟩
  · rcases List_set_get h' with ⟨rfl, rfl, _⟩ | ⟨ne, h'⟩
    · exact ⟨some (.ref l), e1, .ref l, rfl, dp_lst ((hid_neg nl).trans h1) (dpa_mono e _ _ d1)⟩
    · obtain ⟨u, q, z⟩ := o.sl j s h'
      refine ⟨u, q, ?_⟩
      cases s with
      | un => trivial
      | val y => obtain ⟨w, e1, e2⟩ := z; exact ⟨w, e1, dv_mono e e2⟩
      | own l xs => obtain ⟨vs, e1, e2, e3⟩ := z; exact ⟨vs, e1, e2, own_mono e _ _ e3⟩
  · rcases List_set_get h with ⟨_, q, _⟩ | ⟨_, h⟩
    · cases q
    · rcases List_set_get h' with ⟨_, q, _⟩ | ⟨_, h'⟩
      · cases q
      · exact o.one _ _ _ _ _ h h'
theorem ws_freeze {i : Nat} {l : Addr} {xs : List PyData} (h : ρ[i]? = some (.own l xs)) (n : Ws c t (ρ.set i (.val (.d (.list xs)))) E) : Ws c t ρ E := fun D σ H e o => n D σ H e (o.freeze h)
end
end Py

set_option Elab.async false
set_option linter.all false
set_option autoImplicit false
set_option maxRecDepth 100000
set_option maxHeartbeats 4000000
namespace Py
open PySem hiding start
open L2
open Evl (Ex ex_rd ex_l ex_t fresh_back)
open Classical
/-! ### defs by their names -/
section
variable {P : Program} {w : World} {K : PySem.W.Frag} {mg : Str → Option Value} {base : Heap} {CX : CXT} {k : Nat} {ps : List Str} {sp : Sp} {x : Str}
structure Def (P : Program) (w : World) (K : PySem.W.Frag) (mg : Str → Option Value) (base : Heap) (x : Str) (ps : List Str) (CX : CXT) (k : Nat) (sp : Sp) : Prop where
  ex : ∃ f fd, FnOk P w K mg base CX k f fd ps sp ∧ mg x = some (.ref f) ∧ PySem.W.keepIn K (.ref f) = true ∧ Binds K fd ps []
structure Raw (K : PySem.W.Frag) (mg : Str → Option Value) (x : Str) (st : Stmt) : Prop where
  ex : ∃ f fd, Fun K x x st f fd ∧ mg x = some (.ref f)
theorem Raw.def {st : Stmt} (R : Raw K mg x st) (b : ∀ f fd, Fun K x x st f fd → Binds K fd ps [] ∧ FnOk P w K mg base CX k f fd ps sp) : Def P w K mg base x ps CX k sp := by
  obtain ⟨f, fd, F, m⟩ := R.ex
  obtain ⟨b1, b2⟩ := b f fd F
  exact ⟨f, fd, b2, m, F.kp, b1⟩
end
section
variable {X : Cx} {CX : CXT} {k k' : Nat} {ps : List Str} {sp : Sp} {x : Str} {p pos : Pos} {e : Expr} {es : List Expr} {t : TA} {W : WX}
theorem pe_D0 (D : Def X.prog X.w X.K X.mg X.base x ps CX k sp) (hk : k ≤ k') (hr : Room k' X.A) (hx : Passes CX X E0) (ha : PA X (e :: es) t) (hg : Gl X x := by rfl) (hdb : (x == ("__debug__" : Str)) = false := by decide)
    (he : starEach (e :: es) X.env = (false, eval e X.env) :: starEach es X.env := by rfl) (hpl : (backTo pos (starEach es X.env)).any (·.1) = false := by rfl) : PE X (.Call (.Name x p) (e :: es) [] pos) (tCall sp [] E0 t) := by
  obtain ⟨f, fd, F, m, kp, b⟩ := D.ex
  exact pe_call F (hr.mono hk) hg m kp b .nil hx ha hdb he hpl
theorem pe_DS (D : Def X.prog X.w X.K X.mg X.base x ps (L2.CX X.prog X.w) k sp) (hk : k ≤ k') (hr : Room k' X.A) (tk : Takes X W) (ha : PA X (e :: es) t) (hg : Gl X x := by rfl) (hdb : (x == ("__debug__" : Str)) = false := by decide)
    (he : starEach (e :: es) X.env = (false, eval e X.env) :: starEach es X.env := by rfl) (hpl : (backTo pos (starEach es X.env)).any (·.1) = false := by rfl) : PE X (.Call (.Name x p) (e :: es) [] pos) (tCallS sp (WE W) t) := by
  obtain ⟨f, fd, F, m, kp, b⟩ := D.ex
  exact pe_callS F (hr.mono hk) hg m kp b (fun σ => passAt tk σ) ha hdb he hpl
end
/-! ### isinstance of the error that a suite holds -/
def rIsX (K : PySem.W.Frag) (a : Addr) (cls : Value) (d : Option Addr) : List V → Hp → VK → Prop := fun xs H Q => ∃ (D : Addr) (c : V) (cv : Value) (b : Bool), cls = .ref D ∧ d = none ∧ ExcC K D ∧ xs = [.ref a, c] ∧ (∀ u, RelV c u → u = cv) ∧ PySem.W.kitOne K (.ref D) cv = some b ∧ Q (.bl b) H
theorem call_isX {X : Cx} {a : Addr} {oe : Obj} {cls : Value} {d : Option Addr} {pn : List (Addr × Obj)} (hz : Zc cls d oe) (hf : ∃ vs, oe.data = .fields vs) : CallR (X.suite a ((a, oe) :: pn)) (.builtin "isinstance") (rIsX X.K a cls d) := by
  intro pins s σ H xs us Q I r h
  obtain ⟨D, c, cv, b, rfl, rfl, C, h1, h2, h3, h4⟩ := h
  exact call_isE C hz hf pins s σ H xs us Q I r ⟨c, cv, b, h1, h2, h3, h4⟩
section
variable {K : PySem.W.Frag} {c : Ctx K} {ρ : Rho} {k : Dv → Prop}
theorem rc_isX {a D : Addr} {u : V} {cv : Value} {b : Bool} (C : ExcC K D) (hu : ∀ z, RelV u z → z = cv) (hb : PySem.W.kitOne K (.ref D) cv = some b) (h : k (.d (.bool b))) : Rc c (rIsX K a (.ref D) none) ρ [.r (.ref a), .r u] k := fun σ H vs Q o d q => by
  cases d with
  | cons d1 d2 =>
    cases d2 with
    | cons d2 d3 =>
      cases d3
      obtain rfl : _ = V.ref a := d1
      obtain rfl : _ = u := d2
      exact ⟨D, _, cv, b, rfl, rfl, C, rfl, hu, hb, q.val o (x := .d _) (Dp.bl _) h⟩
end
/-! ### // by any number but 0, all of a list -/
def CDivX (_ j : Int) : Prop := j ≠ 0 ∧ j.natAbs.log2 < 9000
theorem op_fdivX {X : Cx} : OpR X (binaryOp .FloorDiv) (rI CDivX fun i j => .int (i.fdiv j)) := opI fun i j _ _ _ _ _ hc q => floordiv_any hc.1 q hc.2
where floordiv_any {prog : Program} {w : World} {A : Around} {Q : Value → Shared → Prop} {E : Value → Shared → Prop} {s : Shared} {i j : Int} {t u : Tok} (h : j ≠ 0) (q : Q (.int (i.fdiv j) s.toks) { s with toks := s.toks + 1 }) (hl : j.natAbs.log2 < 9000) :
    wpAny (model prog w) A (binaryOp .FloorDiv (.int i t) (.int j u)) Q E s := PyProof.Rows.floordiv_int h q (.inl (PyProof.noPylong_of_log2 hl))
section
variable {K : PySem.W.Frag} {c : Ctx K} {ρ : Rho} {k : Dv → Prop}
theorem dpa_bools {K : PySem.W.Frag} {G : Hp} : ∀ {bs : List Bool} {vs : List V}, DpAll K G vs (bs.map PyData.bool) → vs = bs.map V.bl
  | [], _, .nil => rfl
  | b :: bs, _, .cons h t => by
    have := dp_bl h
    have := dpa_bools t
    subst this
    subst_vars
    rfl
theorem dpa_ints {K : PySem.W.Frag} {G : Hp} : ∀ {bs : List Int} {vs : List V}, DpAll K G vs (bs.map PyData.int) → vs = bs.map V.int
  | [], _, .nil => rfl
  | b :: bs, _, .cons h t => by
    have := dp_int h
    have := dpa_ints t
    subst this
    subst_vars
    rfl
theorem rc_all {bs : List Bool} (h : k (.d (.bool (bs.all id)))) : Rc c (rAll K) ρ [.d (.list (bs.map PyData.bool))] k := fun σ H vs Q o d q => by
  cases d with
  | cons d1 d2 =>
    cases d2
    change Dp _ _ _ _ at d1
    cases d1 with
    | lst hs ha =>
      have e := dpa_bools ha
      subst e
      exact ⟨_, bs, rfl, ex_l hid_sub hs, q.val o (x := .d _) (Dp.bl _) h⟩
theorem rc_any {bs : List Bool} (h : k (.d (.bool (bs.any id)))) : Rc c (rAny K) ρ [.d (.list (bs.map PyData.bool))] k := fun σ H vs Q o d q => by
  cases d with
  | cons d1 d2 =>
    cases d2
    change Dp _ _ _ _ at d1
    cases d1 with
    | lst hs ha =>
      have e := dpa_bools ha
      subst e
      exact ⟨_, bs, rfl, ex_l hid_sub hs, q.val o (x := .d _) (Dp.bl _) h⟩
theorem rc_sum {ns : List Int} (h : k (.d (.int ns.sum))) : Rc c (rSum K) ρ [.d (.list (ns.map PyData.int))] k := fun σ H vs Q o d q => by
  cases d with
  | cons d1 d2 =>
    cases d2
    change Dp _ _ _ _ at d1
    cases d1 with
    | lst hs ha =>
      have e := dpa_ints ha
      subst e
      exact ⟨_, ns, rfl, ex_l hid_sub hs, q.val o (x := .d _) (Dp.int _) h⟩
end
end Py

set_option Elab.async false
set_option linter.all false
set_option autoImplicit false
set_option maxRecDepth 100000
set_option maxHeartbeats 4000000
namespace Py
open PySem hiding start
open L2
open Evl (Ex ex_rd ex_l ex_t fresh_back)
open Classical
section
variable {X : Cx}
def rStrAdd : R2 := fun x y H Q => ∃ i j, x = .str i ∧ y = .str j ∧ i.length + j.length ≤ sizeLine ∧ Q (.str (i ++ j)) H
def rAddU (K : PySem.W.Frag) : R2 := rOr (rI0 fun i j => .int (i + j)) (rOr rStrAdd (rOr rCat (rCatT K)))
theorem op_addU : OpR X (binaryOp .Add) (rAddU X.K) := op_or op_add (op_or op_add_str (op_or op_cat op_catT))
def rMulU (K : PySem.W.Frag) : R2 := rOr (rI CMulW fun i j => .int (i * j)) rRep
theorem op_mulU : OpR X (binaryOp .Mult) (rMulU X.K) := op_or op_mulW op_rep
theorem op_ltU : OpR X (compareOp .Lt) (rI0 fun i j => .bl (decide (i < j))) := op_lt
theorem op_leU : OpR X (compareOp .LtE) (rI0 fun i j => .bl (decide (i ≤ j))) := op_le
theorem op_gtU : OpR X (compareOp .Gt) (rI0 fun i j => .bl (decide (j < i))) := op_gt
theorem op_geU : OpR X (compareOp .GtE) (rI0 fun i j => .bl (decide (j ≤ i))) := op_ge
/-- xs[i] of xs[i] op= e -/
theorem get_list : PGet X (rIxL X.K) := by
  intro pins s σ H o i ov iv Q I rx ry h
  obtain ⟨p, xs, k, z, rfl, rfl, hq, he, q⟩ := h
  cases rx
  obtain ⟨t, rfl⟩ := ry
  obtain ⟨its, r, pl, hz⟩ := I.list hq
  obtain ⟨j, h1, h2, h3, h4, h5⟩ := atI_get he
  obtain ⟨w, ew, rw'⟩ := r.get h2
  have hl := r.length
  have hn := line63
  have fin : EP X pins σ Q w s := ⟨z, H, I, rw', q⟩
  by_cases h0 : 0 ≤ k
  · have hj : k.toNat = j := by
      rw [seqIndex_of h0 h5] at h1
      exact Option.some.inj h1
    exact wpAny_getItem_list pl.isList h0 (by omega) (by rw [hj]; simpa using ew) fin
  · have hj : (k + (its.toArray.size : Int)).toNat = j := by
      rw [seqIndex_neg (by omega) h4] at h1
      rw [List.size_toArray, ← hl]
      exact Option.some.inj h1
    exact wpAny_getItem_list_neg pl.isList (by omega) (by rw [List.size_toArray] <;> omega) (by omega) (by rw [hj]; simpa using ew) fin
end
section
variable {K : PySem.W.Frag} {c : Ctx K} {ρ : Rho} {k : Dv → Prop} {ta tb te : TE}
theorem rv_addI {i j : Int} (h : k (.d (.int (i + j)))) : Rv c (rAddU K) ρ (.d (.int i)) (.d (.int j)) k := rv_l (rv_I0 h)
theorem rv_mulI {i j : Int} (hc : CMulW i j) (h : k (.d (.int (i * j)))) : Rv c (rMulU K) ρ (.d (.int i)) (.d (.int j)) k := rv_l (rv_I hc h)
theorem rv_lt {i j : Int} (h : k (.d (.bool (decide (i < j))))) : Rv c (rI0 fun i j => .bl (decide (i < j))) ρ (.d (.int i)) (.d (.int j)) k := rv_C0 h
theorem rv_le {i j : Int} (h : k (.d (.bool (decide (i ≤ j))))) : Rv c (rI0 fun i j => .bl (decide (i ≤ j))) ρ (.d (.int i)) (.d (.int j)) k := rv_C0 (f := fun i j => decide (i ≤ j)) h
theorem rv_gt {i j : Int} (h : k (.d (.bool (decide (j < i))))) : Rv c (rI0 fun i j => .bl (decide (j < i))) ρ (.d (.int i)) (.d (.int j)) k := rv_C0 (f := fun i j => decide (j < i)) h
theorem rv_ge {i j : Int} (h : k (.d (.bool (decide (j ≤ i))))) : Rv c (rI0 fun i j => .bl (decide (j ≤ i))) ρ (.d (.int i)) (.d (.int j)) k := rv_C0 (f := fun i j => decide (j ≤ i)) h
theorem rv_sub {i j : Int} (h : k (.d (.int (i - j)))) : Rv c (rI0 fun i j => .int (i - j)) ρ (.d (.int i)) (.d (.int j)) k := rv_I0 (f := fun i j => i - j) h
theorem rv_fdiv {i j : Int} (hc : CDivX i j) (h : k (.d (.int (i.fdiv j)))) : Rv c (rI CDivX fun i j => .int (i.fdiv j)) ρ (.d (.int i)) (.d (.int j)) k := rv_I (f := fun i j => i.fdiv j) hc h
theorem rv_mod {i j : Int} (hc : j ≠ 0) (h : k (.d (.int (i.fmod j)))) : Rv c (rI (fun _ j => j ≠ 0) fun i j => .int (i.fmod j)) ρ (.d (.int i)) (.d (.int j)) k := rv_I (f := fun i j => i.fmod j) hc h
theorem rv_pow {i j : Int} (hc : CPow i j) (h : k (.d (.int (i ^ j.toNat)))) : Rv c (rI CPow fun i j => .int (i ^ j.toNat)) ρ (.d (.int i)) (.d (.int j)) k := rv_I (f := fun i j => i ^ j.toNat) hc h
/-- list display as data -/
theorem we_lst {t : TA} (h : Wa c t ρ fun xs => ∃ ds, allD xs = some ds ∧ xs.length ≤ 100000 ∧ k (.d (.list ds))) : We c (tLst t) ρ k := we_fresh (wf_lst h)
end

/-! ### the hand that the laws draw by: a list [script, at, pool, left, a, b] that they change -/
def handL (l : Addr) (i pool left a b : Int) : List V := [.ref l, .int i, .int pool, .int left, .int a, .int b]
structure HandAt (H : Hp) (p l : Addr) (ns : List Int) : Prop where
  ex : ∃ i pool left a b : Int, H p = some (.lst (handL l i pool left a b)) ∧ 0 ≤ i ∧ 0 ≤ pool ∧ (0 ≤ a ∧ a < 2 ^ 31) ∧ 0 ≤ b ∧ b < 2 ^ 31
  sc : H l = some (.lst (ns.map V.int))
  ne : l ≠ p
structure HandIn {K : PySem.W.Frag} (c : Ctx K) (p : Addr) : Prop where
  L : c.L p
  ex : ∃ l ns, c.L l ∧ (∀ H, c.W H → HandAt H p l ns) ∧ ∀ H H', c.W H → HandAt H' p l ns → (∀ a, a ≠ p → H' a = H a) → c.W H'
theorem HandIn.le {K : PySem.W.Frag} {c c' : Ctx K} {p : Addr} (h : HandIn c p) (e : Le c c') : HandIn c' p := by
  obtain ⟨l, ns, hl, h1, h2⟩ := h.ex
  refine ⟨e.L p h.L, l, ns, e.L l hl, fun H w => h1 H (e.W H w), fun H H' w ha hk => ?_⟩
  refine e.F H H' w (h2 H H' (e.W H w) ha hk) (fun a _ na => hk a fun z => na (z ▸ h.L)) fun a u e1 nl => ?_
  by_cases z : a = p
  · subst z
    obtain ⟨⟨_, _, _, _, _, hp, _⟩, _, _⟩ := h1 H (e.W H w)
    rw [hp] at e1; cases e1; cases nl
  · exact (hk a z).trans e1
/-- what a call by the hand alone leaves -/
theorem hand_end {K : PySem.W.Frag} {c : Ctx K} {p l : Addr} {ns : List Int} {H H' : Hp} (hp : c.L p) (put : ∀ H H', c.W H → HandAt H' p l ns → (∀ a, a ≠ p → H' a = H a) → c.W H') (w : c.W H) (b : c.B = hid c.L H) (h : HandAt H' p l ns) (hk : ∀ a, a ≠ p → H' a = H a) :
    c.W H' ∧ Ex c.B (hid c.L H') := by
  refine ⟨put H H' w h hk, fun a o z => ?_⟩
  rw [b] at z
  obtain ⟨n, z⟩ := hid_some z
  exact (hid_neg n).trans ((hk a fun q => n (q ▸ hp)).trans z)
/-- the promise of a def that draws: a number from 0 below n -/
def p_draw (K : PySem.W.Frag) : PT0 K := fun c xs k _ => ∃ (p : Addr) (n : Int), xs = [.r (.ref p), .d (.int n)] ∧ HandIn c p ∧ 0 < n ∧ n < 2 ^ 2000 ∧ ∀ v : Int, 0 ≤ v → v < n → k (.d (.int v))
theorem len_draw {K : PySem.W.Frag} : ∀ (c : Ctx K) xs k x, p_draw K c xs k x → xs.length = 2 := by
  rintro c xs k x ⟨p, n, rfl, _⟩
  rfl
/-- raw promises -/
def spNext (K : PySem.W.Frag) : Sp := fun vs H Q _ => ∃ (p l : Addr) (ns : List Int) (i pool left a b : Int), vs = [.ref p] ∧ H p = some (.lst (handL l i pool left a b)) ∧ (0 ≤ a ∧ a < 2 ^ 31) ∧ (0 ≤ b ∧ b < 2 ^ 31) ∧
  ∀ (a' b' v : Int) (H' : Hp), (0 ≤ a' ∧ a' < 2 ^ 31) → (0 ≤ b' ∧ b' < 2 ^ 31) → (0 ≤ v ∧ v < 2 ^ 32) → H' p = some (.lst (handL l i pool left a' b')) → (∀ x, x ≠ p → H' x = H x) → Q (.int v) H'
def spTake (K : PySem.W.Frag) : Sp := fun vs H Q _ => ∃ (p l : Addr) (ns : List Int) (i left a b : Int), vs = [.ref p] ∧ H p = some (.lst (handL l i 0 left a b)) ∧ H l = some (.lst (ns.map V.int)) ∧ l ≠ p ∧ 0 ≤ i ∧ (0 ≤ a ∧ a < 2 ^ 31) ∧ (0 ≤ b ∧ b < 2 ^ 31) ∧
  ∀ (i' pool' left' a' b' : Int) (H' : Hp), 0 ≤ i' → 0 ≤ pool' → (0 ≤ a' ∧ a' < 2 ^ 31) → (0 ≤ b' ∧ b' < 2 ^ 31) → H' p = some (.lst (handL l i' pool' left' a' b')) → (∀ x, x ≠ p → H' x = H x) → Q .non H'
end Py

set_option Elab.async false
set_option linter.all false
set_option autoImplicit false
set_option maxRecDepth 100000
set_option maxHeartbeats 4000000
namespace Py
open PySem hiding start
open L2
open Evl (Ex ex_rd ex_l ex_t fresh_back)
open Classical
/-! ### the rules with the written part named -/
section
variable {X : Cx}
theorem ix_s (K : PySem.W.Frag) (h : X.K = K := by rfl) : IxR X (rIx K) := h ▸ ix_seq
theorem get_s (K : PySem.W.Frag) (h : X.K = K := by rfl) : PGet X (rIxL K) := h ▸ get_list
theorem op_eqs (K : PySem.W.Frag) (hu : X.A.units + 64 < cLine) (h : X.K = K := by rfl) : OpR X (compareOp .Eq) (rEqD K) := h ▸ op_eqD hu
theorem op_nes (K : PySem.W.Frag) (hu : X.A.units + 64 < cLine) (h : X.K = K := by rfl) : OpR X (compareOp .NotEq) (rNeD K) := h ▸ op_neD hu
theorem op_adds (K : PySem.W.Frag) (h : X.K = K := by rfl) : OpR X (binaryOp .Add) (rAddU K) := h ▸ op_addU
theorem op_muls (K : PySem.W.Frag) (h : X.K = K := by rfl) : OpR X (binaryOp .Mult) (rMulU K) := h ▸ op_mulU
def rLen (K : PySem.W.Frag) : List V → Hp → VK → Prop := fun xs H Q => ∃ x n, xs = [x] ∧ LenV K x H n ∧ Q (.int n) H
theorem call_lens (K : PySem.W.Frag) (h : X.K = K := by rfl) : CallR X (.builtin "len") (rLen K) := h ▸ call_len
def rAbs : List V → Hp → VK → Prop := fun xs H Q => ∃ i, xs = [.int i] ∧ Q (.int (if i < 0 then -i else i)) H
theorem call_abss : CallR X (.builtin "abs") rAbs := call_abs
theorem call_isis (K : PySem.W.Frag) (h : X.K = K := by rfl) : CallR X (.builtin "isinstance") (rIsi K) := h ▸ call_isi
theorem call_isXs (K : PySem.W.Frag) {a : Addr} {oe : Obj} {cls : Value} {d : Option Addr} {pn : List (Addr × Obj)} (hz : Zc cls d oe) (hf : ∃ vs, oe.data = .fields vs) (h : X.K = K := by rfl) : CallR (X.suite a ((a, oe) :: pn)) (.builtin "isinstance") (rIsX K a cls d) := h ▸ call_isX hz hf
theorem cr_alls (K : PySem.W.Frag) (hc : X.calm = true) (h : X.K = K := by rfl) : CallR X (.builtin "all") (rAll K) := h ▸ cr_all hc
theorem cr_anys (K : PySem.W.Frag) (hc : X.calm = true) (h : X.K = K := by rfl) : CallR X (.builtin "any") (rAny K) := h ▸ cr_any hc
theorem cr_sums (K : PySem.W.Frag) (hc : X.calm = true) (h : X.K = K := by rfl) : CallR X (.builtin "sum") (rSum K) := h ▸ cr_sum hc
def tTruth (K : PySem.W.Frag) (ta : TE) : TT := fun σ H Q => ta σ H fun x H' => ∃ k, TruV K x H' k ∧ Q k H'
theorem pt_tru (K : PySem.W.Frag) {a : Expr} {ta : TE} (ha : PE X a ta) (he : ∀ whole, isTrue a X.env whole = (do let v ← whole; standAt a.pos; holding [v] (truthy v))) (h : X.K = K := by rfl) : PT X a (tTruth K ta) := h ▸ pt_truth ha he
theorem sl_s (K : PySem.W.Frag) (h : X.K = K := by rfl) : SlR X (rSlL K) := h ▸ sl_list
theorem pi_s (K : PySem.W.Frag) {tg l : Expr} {tl : TE} (hl : PE X l tl) (h : X.K = K := by rfl) : PI X tg l (iList K tl) := h ▸ pi_list hl
def rListOf (K : PySem.W.Frag) : List V → Hp → VK → Prop := fun xs H Q => ∃ p ys, xs = [.ref p] ∧ (SqL K H p ys ∨ SqT K H p ys) ∧ ∀ l, H l = none → Q (.ref l) (upd H l (.lst ys))
theorem call_lists (K : PySem.W.Frag) (h : X.K = K := by rfl) : CallR X (.type "list") (rListOf K) := h ▸ call_list_of
theorem pg_tups (K : PySem.W.Frag) {es : List Expr} {k : Nat} {t : TGs} {n : Nat} {pos : Pos} (hc : X.calm = true) (h0 : PGs X es t) (hn : (assignEach es X.env).length = n := by rfl) (hst : (assignEach es X.env).findIdx? (·.1) = none := by rfl) (h : X.K = K := by rfl) : PG X (.Tuple es k pos) (gTup K n t) := by
  subst h
  exact pg_tup hc h0 hn hst
end
section
variable {K : PySem.W.Frag} {c : Ctx K} {ρ : Rho} {k : Dv → Prop} {ta tb te : TE}
/-! isinstance of data by the five classes -/
def tyN : PyData → Option String
  | .none => some "NoneType"
  | .bool _ => some "bool"
  | .int _ => some "int"
  | .str _ => some "str"
  | .list _ => some "list"
  | .tuple _ => some "tuple"
  | _ => none
theorem tyD_N {d : PyData} {a : String} (h : tyN d = some a) : tyD d = some (.type a) := by
  cases d <;> simp_all [tyN, tyD] <;> exact h
def isInt : PyData → Bool
  | .int _ => true
  | .bool _ => true
  | _ => false
def isBool : PyData → Bool
  | .bool _ => true
  | _ => false
def isTup : PyData → Bool
  | .tuple _ => true
  | _ => false
def isLst : PyData → Bool
  | .list _ => true
  | _ => false
def isStr : PyData → Bool
  | .str _ => true
  | _ => false
def noDict : PyData → Bool
  | .dict _ => false
  | _ => true
theorem rc_isInt {d : PyData} (h : k (.d (.bool (isInt d)))) : Rc c (rIsi K) ρ [.d d, .r (.ty "int")] k := by
  cases d with
  | none => first | exact rc_isi rfl (kit_ty (r := true) (by decide +kernel)) h | exact rc_isi rfl (kit_ty (r := false) (by decide +kernel)) h
  | bool b => first | exact rc_isi rfl (kit_ty (r := true) (by decide +kernel)) h | exact rc_isi rfl (kit_ty (r := false) (by decide +kernel)) h
  | int b => first | exact rc_isi rfl (kit_ty (r := true) (by decide +kernel)) h | exact rc_isi rfl (kit_ty (r := false) (by decide +kernel)) h
  | str b => first | exact rc_isi rfl (kit_ty (r := true) (by decide +kernel)) h | exact rc_isi rfl (kit_ty (r := false) (by decide +kernel)) h
  | list b => first | exact rc_isi rfl (kit_ty (r := true) (by decide +kernel)) h | exact rc_isi rfl (kit_ty (r := false) (by decide +kernel)) h
  | tuple b => first | exact rc_isi rfl (kit_ty (r := true) (by decide +kernel)) h | exact rc_isi rfl (kit_ty (r := false) (by decide +kernel)) h
  | dict b => first | exact rc_isi rfl (kit_ty (r := true) (by decide +kernel)) h | exact rc_isi rfl (kit_ty (r := false) (by decide +kernel)) h
theorem rc_isBool {d : PyData} (h : k (.d (.bool (isBool d)))) : Rc c (rIsi K) ρ [.d d, .r (.ty "bool")] k := by
  cases d with
  | none => first | exact rc_isi rfl (kit_ty (r := true) (by decide +kernel)) h | exact rc_isi rfl (kit_ty (r := false) (by decide +kernel)) h
  | bool b => first | exact rc_isi rfl (kit_ty (r := true) (by decide +kernel)) h | exact rc_isi rfl (kit_ty (r := false) (by decide +kernel)) h
  | int b => first | exact rc_isi rfl (kit_ty (r := true) (by decide +kernel)) h | exact rc_isi rfl (kit_ty (r := false) (by decide +kernel)) h
  | str b => first | exact rc_isi rfl (kit_ty (r := true) (by decide +kernel)) h | exact rc_isi rfl (kit_ty (r := false) (by decide +kernel)) h
  | list b => first | exact rc_isi rfl (kit_ty (r := true) (by decide +kernel)) h | exact rc_isi rfl (kit_ty (r := false) (by decide +kernel)) h
  | tuple b => first | exact rc_isi rfl (kit_ty (r := true) (by decide +kernel)) h | exact rc_isi rfl (kit_ty (r := false) (by decide +kernel)) h
  | dict b => first | exact rc_isi rfl (kit_ty (r := true) (by decide +kernel)) h | exact rc_isi rfl (kit_ty (r := false) (by decide +kernel)) h
theorem rc_isTup {d : PyData} (h : k (.d (.bool (isTup d)))) : Rc c (rIsi K) ρ [.d d, .r (.ty "tuple")] k := by
  cases d with
  | none => first | exact rc_isi rfl (kit_ty (r := true) (by decide +kernel)) h | exact rc_isi rfl (kit_ty (r := false) (by decide +kernel)) h
  | bool b => first | exact rc_isi rfl (kit_ty (r := true) (by decide +kernel)) h | exact rc_isi rfl (kit_ty (r := false) (by decide +kernel)) h
  | int b => first | exact rc_isi rfl (kit_ty (r := true) (by decide +kernel)) h | exact rc_isi rfl (kit_ty (r := false) (by decide +kernel)) h
  | str b => first | exact rc_isi rfl (kit_ty (r := true) (by decide +kernel)) h | exact rc_isi rfl (kit_ty (r := false) (by decide +kernel)) h
  | list b => first | exact rc_isi rfl (kit_ty (r := true) (by decide +kernel)) h | exact rc_isi rfl (kit_ty (r := false) (by decide +kernel)) h
  | tuple b => first | exact rc_isi rfl (kit_ty (r := true) (by decide +kernel)) h | exact rc_isi rfl (kit_ty (r := false) (by decide +kernel)) h
  | dict b => first | exact rc_isi rfl (kit_ty (r := true) (by decide +kernel)) h | exact rc_isi rfl (kit_ty (r := false) (by decide +kernel)) h
theorem rc_isLst {d : PyData} (h : k (.d (.bool (isLst d)))) : Rc c (rIsi K) ρ [.d d, .r (.ty "list")] k := by
  cases d with
  | none => first | exact rc_isi rfl (kit_ty (r := true) (by decide +kernel)) h | exact rc_isi rfl (kit_ty (r := false) (by decide +kernel)) h
  | bool b => first | exact rc_isi rfl (kit_ty (r := true) (by decide +kernel)) h | exact rc_isi rfl (kit_ty (r := false) (by decide +kernel)) h
  | int b => first | exact rc_isi rfl (kit_ty (r := true) (by decide +kernel)) h | exact rc_isi rfl (kit_ty (r := false) (by decide +kernel)) h
  | str b => first | exact rc_isi rfl (kit_ty (r := true) (by decide +kernel)) h | exact rc_isi rfl (kit_ty (r := false) (by decide +kernel)) h
  | list b => first | exact rc_isi rfl (kit_ty (r := true) (by decide +kernel)) h | exact rc_isi rfl (kit_ty (r := false) (by decide +kernel)) h
  | tuple b => first | exact rc_isi rfl (kit_ty (r := true) (by decide +kernel)) h | exact rc_isi rfl (kit_ty (r := false) (by decide +kernel)) h
  | dict b => first | exact rc_isi rfl (kit_ty (r := true) (by decide +kernel)) h | exact rc_isi rfl (kit_ty (r := false) (by decide +kernel)) h
theorem rc_isStr {d : PyData} (h : k (.d (.bool (isStr d)))) : Rc c (rIsi K) ρ [.d d, .r (.ty "str")] k := by
  cases d with
  | none => first | exact rc_isi rfl (kit_ty (r := true) (by decide +kernel)) h | exact rc_isi rfl (kit_ty (r := false) (by decide +kernel)) h
  | bool b => first | exact rc_isi rfl (kit_ty (r := true) (by decide +kernel)) h | exact rc_isi rfl (kit_ty (r := false) (by decide +kernel)) h
  | int b => first | exact rc_isi rfl (kit_ty (r := true) (by decide +kernel)) h | exact rc_isi rfl (kit_ty (r := false) (by decide +kernel)) h
  | str b => first | exact rc_isi rfl (kit_ty (r := true) (by decide +kernel)) h | exact rc_isi rfl (kit_ty (r := false) (by decide +kernel)) h
  | list b => first | exact rc_isi rfl (kit_ty (r := true) (by decide +kernel)) h | exact rc_isi rfl (kit_ty (r := false) (by decide +kernel)) h
  | tuple b => first | exact rc_isi rfl (kit_ty (r := true) (by decide +kernel)) h | exact rc_isi rfl (kit_ty (r := false) (by decide +kernel)) h
  | dict b => first | exact rc_isi rfl (kit_ty (r := true) (by decide +kernel)) h | exact rc_isi rfl (kit_ty (r := false) (by decide +kernel)) h
theorem we_ty {T : String} (kx : k (.r (.ty T))) : We c (tC (.ty T)) ρ k := we_raw kx
theorem we_ref {a : Addr} (kx : k (.r (.ref a))) : We c (tC (.ref a)) ρ k := we_raw kx
theorem rc_lenTs {ds : List PyData} (h : k (.d (.int (ds.length : Int)))) : Rc c (rLen K) ρ [.d (.tuple ds)] k := rc_lenT h
theorem rc_lenLs {ds : List PyData} (h : k (.d (.int (ds.length : Int)))) : Rc c (rLen K) ρ [.d (.list ds)] k := rc_lenL h
theorem we_lenOwns {i : Nat} {l : Addr} {xs : List PyData} (h : ρ[i]? = some (.own l xs)) (hk : k (.d (.int (xs.length : Int)))) : We c (tCB (rLen K) (tCons (tVar i) tNil)) ρ k := we_lenOwn h hk
theorem rc_abss {i : Int} (h : k (.d (.int (i.natAbs : Int)))) : Rc c rAbs ρ [.d (.int i)] k := rc_abs h
theorem wt_truth {k : Bool → Prop} (h : We c te ρ fun x => ∃ d b, x = .d d ∧ truD d = some b ∧ k b) : Wt c (tTruth K te) ρ k := wt_tru h
theorem wt_truthB {k : Bool → Prop} (h : We c te ρ fun x => ∃ b, x = .d (.bool b) ∧ k b) : Wt c (tTruth K te) ρ k := wt_tru fun σ H Q o q => h σ H Q o fun v x H' o' s d ⟨b, e, kb⟩ => q v x H' o' s d ⟨.bool b, b, e, rfl, kb⟩
/-- wishes grow -/
theorem Ws.imp {t : TS} {E E' : DE} (h : Ws c t ρ E) (h1 : ∀ ρ, E.nx ρ → E'.nx ρ) (h2 : ∀ x, E.rt x → E'.rt x) (h3 : ∀ ρ, E.bk ρ → E'.bk ρ) (h4 : ∀ ρ, E.ct ρ → E'.ct ρ) : Ws c t ρ E' := fun D σ H e o =>
  h D σ H ⟨fun ρ σ H o z => e.nx ρ σ H o (h1 ρ z), fun v x H w b d z => e.rt v x H w b d (h2 x z), fun ρ σ H o z => e.bk ρ σ H o (h3 ρ z), fun ρ σ H o z => e.ct ρ σ H o (h4 ρ z)⟩ o
/-- behind a statement M holds -/
theorem ws_cut {t u : TS} {E : DE} (M : Rho → Prop) (h : Ws c t ρ { E with nx := M }) (k : ∀ ρ', M ρ' → Ws c u ρ' E) : Ws c (tSeq t u) ρ E := ws_seq (h.imp k (fun _ z => z) (fun _ z => z) fun _ z => z)
theorem We.imp {k' : Dv → Prop} (h : We c te ρ k) (i : ∀ x, k x → k' x) : We c te ρ k' := fun σ H Q o q => h σ H Q o fun v x H' o' s d z => q v x H' o' s d (i x z)
end
end Py

set_option Elab.async false
set_option linter.all false
set_option autoImplicit false
set_option maxRecDepth 100000
set_option maxHeartbeats 4000000
namespace Py
open PySem hiding start
open L2
open Evl (Ex ex_rd ex_l ex_t fresh_back)
open Classical
section
variable {K : PySem.W.Frag} {c c' : Ctx K} {ρ : Rho} {E : DE} {ta tb te : TE} {t u tb' : TS} {tc : TT}
/-- a comprehension over a tuple: P tells what is made so far -/
theorem wf_lcT {tl : TE} {g : TG} {tt : TT} {vs : List Nat} {k : List PyData → Prop} (js : List Nat) (hj : ∀ i ∈ js, i ∈ vs) (hw : (vs.all fun v => (ρ[v]?.map isOwn) == some false) = true) (h : We c tl ρ fun x => ∃ xs, x = .d (.tuple xs) ∧ xs.length ≤ 100000 ∧ ∃ P : Nat → List PyData → Prop, P 0 [] ∧
    (∀ c' : Ctx K, Le c c' → ∀ i x acc, xs[i]? = some x → acc.length ≤ i → P i acc → Wg c' g js (.d x) (wipeR ρ vs) fun ρ2 => Wt c' tt ρ2 fun b => (b = true → We c' te ρ2 fun y => ∃ d, y = .d d ∧ P (i + 1) (acc ++ [d])) ∧ (b = false → P (i + 1) acc)) ∧
    ∀ acc, acc.length ≤ xs.length → P xs.length acc → k acc) : Wf c (tLc (iTup K tl) g tt te vs) ρ k := fun σ H Q o q =>
  h σ H _ o fun v x H1 o1 e1 d1 ⟨xs, hx, hz, P, p0, ps, pd⟩ => by
    subst hx
    change Dp _ _ _ _ at d1
    cases d1 with
    | @tup a us _ _ hs ha =>
      refine ⟨a, rfl, ⟨us, ex_t hid_sub hs⟩, fun D hD => ?_⟩
      have nD : ¬ Hid c ρ D := o1.nh hD
      have nDL : ¬ c.L D := fun z => nD (.inl z)
      -- what stood ahead of the list, for all turns
      let B1 : Hp := vis c ρ H1
      have bB : Ex c.B B1 := o1.base
      have B1D : B1 D = none := hid_none hD
      have own0 : ∀ a, Owns ρ a → B1 a = none := fun a z => hid_pos (.inr z)
      let Pv : Nat → Hp → Prop := fun i H' => ∃ (ws : List V) (acc : List PyData), H' D = some (.lst ws) ∧ Ok (c.at B1) ρ σ H' ∧ Stp c ρ H1 H' ∧ DpAll K (hid (· = D) (vis c ρ H')) ws acc ∧ acc.length ≤ i ∧ P i acc
      have hH0 : H D = none := by
        cases z : H D with
        | none => rfl
        | some ob =>
          have := e1.ex D ob (by unfold vis; rw [hid_neg nD]; exact z)
          rw [vis, hid_none hD] at this; cases this
      refine lc_tup (K := K) (a := a) (xs := us) Pv ?_ ?_ ?_ ?_
      · obtain ⟨o2, e2⟩ := o1.new (o := .lst []) hD
        have o2' : Ok (c.at B1) ρ σ (upd H1 D (.lst [])) := ⟨o2.w, e2.ex.trans vis_out, fun l z => ⟨own0 l z, (o2.ob l z).2⟩, o2.sl, o2.one, o2.len⟩
        exact ⟨[], [], upd_same, o2', e2, .nil, Nat.le_refl 0, p0⟩
      · rintro i H' _ ⟨ws, acc, _, o', _, _, _, _⟩
        exact ex_t hid_sub (ex_t o'.b hs)
      · rintro i y H' hy ⟨ws, acc, hD', o', s', dacc, hl, p'⟩
        obtain ⟨d, hd, dd⟩ := dpa_get' ha hy
        have hi : i < 100000 := by
          have := (List.getElem?_eq_some_iff.mp hd).1
          omega
        -- the context of this turn
        let B2 : Hp := hid (· = D) (vis c ρ H')
        have bB2 : Ex B1 B2 := fun b ob z => by
          have nb : b ≠ D := fun q => by rw [q, B1D] at z; cases z
          exact (hid_neg (L := fun x => x = D) nb).trans (s'.ex b ob z)
        let c2 : Ctx K := c.hide D (.lst ws) B2
        have le : Le c c2 := le_hide nDL (bB.trans bB2)
        have visE : ∀ (ρ2 : Rho) (H2 : Hp), Ex (vis c2 ρ2 H2) (hid (· = D) (vis c ρ2 H2)) := fun ρ2 H2 b ob z => by
          obtain ⟨n1, z⟩ := hid_some z
          have nb : b ≠ D := fun q => n1 (.inl (.inr q))
          refine (hid_neg (L := fun x => x = D) nb).trans ((hid_neg fun q => n1 (q.imp .inl id)).trans z)
        have visE' : ∀ (ρ2 : Rho) (H2 : Hp), Ex (hid (· = D) (vis c ρ2 H2)) (vis c2 ρ2 H2) := fun ρ2 H2 b ob z => by
          obtain ⟨nb, z⟩ := hid_some z
          obtain ⟨n1, z⟩ := hid_some z
          refine (hid_neg fun q => ?_).trans z
          rcases q with (q | q) | q
          · exact n1 (.inl q)
          · exact nb q
          · exact n1 (.inr q)
        have oD : ∀ (l : Addr), Owns ρ l → l ≠ D := fun l z q => nD (.inr (q ▸ z))
        have slots : ∀ (j : Nat) (s : Slot), ρ[j]? = some s → ∃ ob, σ[j]? = some ob ∧ SlotOk K (vis c2 ρ H') H' ob s := fun j s hs' => by
          obtain ⟨u1, q1, z1⟩ := (o1.clean s' hD j s hs')
          refine ⟨u1, q1, ?_⟩
          cases s with
          | un => trivial
          | val y => obtain ⟨w, w1, w2⟩ := z1; exact ⟨w, w1, dv_mono (visE' ρ H') w2⟩
          | own l ys => obtain ⟨w, w1, w2, w3⟩ := z1; exact ⟨w, w1, w2, own_mono (visE' ρ H') _ _ w3⟩
        have o2 : Ok c2 ρ σ H' := ⟨⟨o'.w, hD'⟩, (visE' ρ H').trans vis_out, fun l z => ⟨(show hid (· = D) (vis c ρ H') l = none from hid_none' (hid_pos (Or.inr z))), fun q => q.elim (o'.ob l z).2 (oD l z)⟩, slots, o'.one, o'.len⟩
        have o3 : Ok c2 (wipeR ρ vs) (L2.wipe σ vs) H' := o2.wipe vs
        have ev : Ex (vis c2 ρ H') (vis c2 (wipeR ρ vs) H') := hid_less fun b z => z.imp id owns_wipe
        have dd2 : Dp K (vis c2 (wipeR ρ vs) H') y d := dp_mono ((Evl.Ex.trans bB2 (visE' ρ H')).trans ev) _ _ dd
        refine ps c2 le i d acc hd hl p' (L2.wipe σ vs) H' y _ o3 dd2 fun ρ4 σ4 o4 a4 l4 b4 b4' w4 => ⟨wipe_eq hj a4 l4, ?_⟩
        refine w4 σ4 H' _ o4 fun b H5 o5 s5 z5 => ?_
        -- what is the same again once the element is told
        have back : ∀ H6, Ok c2 ρ4 σ4 H6 → Stp c2 ρ4 H' H6 → H6 D = some (.lst ws) ∧ (∀ a, Owns ρ a → H6 a = H' a) ∧ Ex (vis c2 ρ H') (vis c2 ρ H6) := fun H6 o6 s6 => by
          refine ⟨o6.w.2, fun a z => s6.own a (b4 a (owns_wipe' hw z).1), fun b ob z => ?_⟩
          · obtain ⟨n1, z⟩ := hid_some z
            have n2 : ¬ Hid c2 ρ4 b := fun q => n1 (q.imp id fun q => owns_wipe (b4' b q))
            have := s6.ex b ob (by unfold vis; rw [hid_neg n2]; exact z)
            unfold vis
            rw [hid_neg n1]
            exact (hid_some this).2
        cases b with
        | false =>
          rw [if_neg Bool.false_ne_true]
          obtain ⟨hD5, ow5, ex5⟩ := back H5 o5 s5
          have exA : Ex (vis c ρ H') (vis c ρ H5) := fun b ob z => by
            by_cases nb : b = D
            · subst nb
              unfold vis at *
              rw [hid_neg nD] at *
              rw [hD'] at z
              rw [hD5]; exact z
            · have := ex5 b ob (visE' ρ H' b ob ((hid_neg (L := fun x => x = D) nb).trans z))
              exact hid_sub b ob (visE ρ H5 b ob this)
          have stp : Stp c ρ H' H5 := ⟨exA, ow5⟩
          refine ⟨ws, acc, hD5, o'.grow o5.w.1 exA ow5, s'.trans stp, dpa_mono (fun b ob z => visE ρ H5 b ob (ex5 b ob (visE' ρ H' b ob z))) _ _ dacc, Nat.le_succ_of_le hl, z5.2 rfl⟩
        | true =>
          rw [if_pos rfl]
          refine z5.1 rfl σ4 H5 _ o5 fun v6 y6 H6 o6 s6 d6 ⟨d, hy6, p6⟩ => ?_
          subst hy6
          obtain ⟨hD6, ow6, ex6⟩ := back H6 o6 (s5.trans s6)
          refine ⟨ws, hD6, ?_, ?_⟩
          · have w1 := dpa_len dacc
            exact Evl.sz_lt (by omega)
          · -- the list has one more
            have ow7 : ∀ a, Owns ρ a → upd H6 D (.lst (ws ++ [v6])) a = H' a := fun a z => (upd_ne (oD a z)).trans (ow6 a z)
            have e67 : Ex (hid (· = D) (vis c ρ H6)) (hid (· = D) (vis c ρ (upd H6 D (.lst (ws ++ [v6]))))) := fun b ob z => by
              obtain ⟨nb, z⟩ := hid_some z
              obtain ⟨n1, z⟩ := hid_some z
              refine (hid_neg (L := fun x => x = D) nb).trans ((hid_neg n1).trans ((upd_ne nb).trans z))
            have exB : Ex (hid (· = D) (vis c ρ H')) (hid (· = D) (vis c ρ (upd H6 D (.lst (ws ++ [v6]))))) := fun b ob z => e67 b ob (visE ρ H6 b ob (ex6 b ob (visE' ρ H' b ob z)))
            have w7 : c.W (upd H6 D (.lst (ws ++ [v6]))) := c.loc _ _ (fun a z => upd_ne fun q => nDL (q ▸ z)) (tp_lst hD6) o6.w.1
            have o7 : Ok (c.at B1) ρ σ (upd H6 D (.lst (ws ++ [v6]))) := by
              refine ⟨w7, fun b ob z => ?_, o'.ob, fun j s hs' => ?_, o'.one, o'.len⟩
              · have := exB b ob (bB2 b ob z)
                exact vis_out b ob (hid_sub b ob this)
              · obtain ⟨u1, q1, z1⟩ := (o1.clean s' hD j s hs')
                refine ⟨u1, q1, ?_⟩
                cases s with
                | un => trivial
                | val y => obtain ⟨w, w1, w2⟩ := z1; exact ⟨w, w1, dv_mono (exB.trans hid_sub) w2⟩
                | own l ys =>
                  obtain ⟨w, w1, w2, w3⟩ := z1
                  exact ⟨w, w1, (ow7 l ⟨ys, List.mem_of_getElem? hs'⟩).trans w2, own_mono (exB.trans hid_sub) _ _ w3⟩
            refine ⟨ws ++ [v6], acc ++ [d], upd_same, o7, ⟨fun b ob z => ?_, fun a z => (ow7 a z).trans (s'.own a z)⟩, ?_, by simp; omega, p6⟩
            · have nb : b ≠ D := fun q => by subst q; rw [vis, hid_none hD] at z; cases z
              have := exB b ob ((hid_neg (L := fun x => x = D) nb).trans (s'.ex b ob z))
              exact hid_sub b ob this
            · refine dpa_app (dpa_mono exB _ _ dacc) (.cons (dp_mono (fun b ob z => ?_) _ _ d6) .nil)
              -- what the element is made of
              have z0 := visE ρ4 H6 b ob z
              obtain ⟨nb, z1⟩ := hid_some z0
              obtain ⟨n1, z2⟩ := hid_some z1
              refine e67 b ob ((hid_neg (L := fun x => x = D) nb).trans ((hid_neg fun q => ?_).trans z2))
              rcases q with q | q
              · exact n1 (.inl q)
              · exact n1 (.inr (b4 b (owns_wipe' hw q).1))
      · rintro H' ⟨ws, acc, hD', o', s', dacc, hl, p'⟩
        rw [dpa_len ha] at *
        exact q D ws acc H' hH0 hD' (ok_at bB o') (e1.trans s') dacc (pd acc hl p')
theorem ws_forT {tl : TE} {g : TG} (js : List Nat) (h : We c tl ρ fun x => ∃ xs, x = .d (.tuple xs) ∧ ∃ P : Nat → Rho → Prop, P 0 ρ ∧
    (∀ c' : Ctx K, Le c c' → ∀ i x ρ', xs[i]? = some x → P i ρ' → Wg c' g js (.d x) ρ' fun ρ2 => Ws c' tb' ρ2 { E with nx := P (i + 1), ct := P (i + 1), bk := E.nx }) ∧ ∀ ρ', P xs.length ρ' → E.nx ρ') : Ws c (tFor (iTup K tl) g tb') ρ E := fun D σ H e o =>
  h σ H _ o fun v x H1 o1 e1 d1 ⟨xs, hx, P, p0, ps, pd⟩ => by
    subst hx
    change Dp _ _ _ _ at d1
    cases d1 with
    | @tup a vs _ _ hs ha =>
      have b1 : Ex c.B (vis c ρ H1) := o1.base
      have le : Le c (c.at (vis c ρ H1)) := le_at b1
      have sq : ∀ {ρ' σ' H'}, Ok (c.at (vis c ρ H1)) ρ' σ' H' → SqT K H' a vs := fun o' => ex_t hid_sub (ex_t o'.b hs)
      refine ⟨a, rfl, ⟨vs, ex_t hid_sub hs⟩, for_tup (K := K) (a := a) (xs := vs) (fun i σ' H' => ∃ ρ', Ok (c.at (vis c ρ H1)) ρ' σ' H' ∧ P i ρ') ⟨ρ, o1.at', p0⟩ (fun i σ' H' _ ⟨ρ', o', _⟩ => sq o') ?_ ?_⟩
      · rintro i y σ' H' hy ⟨ρ', o', p'⟩
        obtain ⟨d, hd, dd⟩ := dpa_get' ha hy
        refine ps _ le i d ρ' hd p' σ' H' y _ o' (dp_mono o'.base _ _ dd) fun ρ2 σ2 o2 _ _ _ _ w => ?_
        exact w { D with nx := fun σ' H' => ∃ ρ', Ok (c.at (vis c ρ H1)) ρ' σ' H' ∧ P (i + 1) ρ', ct := fun σ' H' => ∃ ρ', Ok (c.at (vis c ρ H1)) ρ' σ' H' ∧ P (i + 1) ρ', bk := D.nx } σ2 H' ((e.at' b1).loop fun ρ σ H o p => ⟨ρ, o, p⟩) o2
      · rintro σ' H' ⟨ρ', o', p'⟩
        rw [dpa_len ha] at p'
        exact e.nx ρ' σ' H' (ok_at b1 o') (pd ρ' p')

/-! ### a list or a tuple that is walked -/
def iOr (w1 w2 : TI) : TI := fun σ H R => w1 σ H R ∨ w2 σ H R
theorem pi_or {X : Cx} {tg l : Expr} {w1 w2 : TI} (h1 : PI X tg l w1) (h2 : PI X tg l w2) : PI X tg l (iOr w1 w2) := ⟨fun pins s σ H R I h => h.elim (h1.run pins s σ H R I) (h2.run pins s σ H R I)⟩
def iSeq (K : PySem.W.Frag) (tl : TE) : TI := iOr (iList K tl) (iTup K tl)
theorem pi_q (K : PySem.W.Frag) {X : Cx} {tg l : Expr} {tl : TE} (hl : PE X l tl) (h : X.K = K := by rfl) : PI X tg l (iSeq K tl) := h ▸ pi_or (pi_list hl) (pi_tup hl)
theorem wf_lcQ1 {tl : TE} {g : TG} {tt : TT} {vs : List Nat} {k : List PyData → Prop} (h : Wf c (tLc (iList K tl) g tt te vs) ρ k) : Wf c (tLc (iSeq K tl) g tt te vs) ρ k := fun σ H Q o q => .inl (h σ H Q o q)
theorem wf_lcQ2 {tl : TE} {g : TG} {tt : TT} {vs : List Nat} {k : List PyData → Prop} (h : Wf c (tLc (iTup K tl) g tt te vs) ρ k) : Wf c (tLc (iSeq K tl) g tt te vs) ρ k := fun σ H Q o q => .inr (h σ H Q o q)
theorem ws_forQ1 {tl : TE} {g : TG} (h : Ws c (tFor (iList K tl) g t) ρ E) : Ws c (tFor (iSeq K tl) g t) ρ E := fun D σ H e o => .inl (h D σ H e o)
theorem ws_forQ2 {tl : TE} {g : TG} (h : Ws c (tFor (iTup K tl) g t) ρ E) : Ws c (tFor (iSeq K tl) g t) ρ E := fun D σ H e o => .inr (h D σ H e o)
/-- a comprehension whose elements are told by a function, without tests -/
theorem wt_yes {k : Bool → Prop} (h : k true) : Wt c tYes ρ k := fun σ H Q o q => q true H o (Stp.refl _) h
theorem map_take {α β : Type} {f : α → β} {xs : List α} {i : Nat} {x : α} (h : xs[i]? = some x) : (xs.take (i + 1)).map f = (xs.take i).map f ++ [f x] := by
  rw [List.take_add_one, h]; simp
/-- over a list, over a tuple: each element told by f -/
theorem wf_lcL {α : Type} {tl : TE} {j : Nat} {vs : List Nat} {k : List PyData → Prop} (e f : α → PyData) (hj : (j ∈ vs)) (hw : (vs.all fun v => (ρ[v]?.map isOwn) == some false) = true) (hu : ((wipeR ρ vs)[j]?.map isOwn) = some false)
    (h : We c tl ρ fun x => ∃ as : List α, x = .d (.list (as.map e)) ∧ as.length ≤ 100000 ∧ (∀ c' : Ctx K, Le c c' → ∀ z, z ∈ as → We c' te ((wipeR ρ vs).set j (.val (.d (e z)))) fun y => y = .d (f z)) ∧ k (as.map f)) :
    Wf c (tLc (iSeq K tl) (gName j) tYes te vs) ρ k := by
  refine wf_lcQ1 (wf_lc [j] (by simpa using hj) hw (h.imp fun x ⟨as, h1, h2, h3, h4⟩ => ⟨_, h1, by simpa using h2, fun i acc => acc = (as.take i).map f, by simp, fun c' le i x acc hx _ hp => ?_, fun acc _ hp => by
    rw [List.length_map, List.take_length] at hp
    rw [hp]; exact h4⟩))
  rw [List.getElem?_map] at hx
  cases z : as[i]? with
  | none => rw [z] at hx; cases hx
  | some a =>
    rw [z] at hx
    cases hx
    refine wg_name hu (wt_yes ⟨fun _ => (h3 c' le a (List.mem_of_getElem? z)).imp fun y hy => ⟨_, hy, ?_⟩, fun q => Bool.noConfusion q⟩)
    subst hp
    exact (map_take z).symm
theorem wf_lcU {α : Type} {tl : TE} {j : Nat} {vs : List Nat} {k : List PyData → Prop} (e f : α → PyData) (hj : (j ∈ vs)) (hw : (vs.all fun v => (ρ[v]?.map isOwn) == some false) = true) (hu : ((wipeR ρ vs)[j]?.map isOwn) = some false)
    (h : We c tl ρ fun x => ∃ as : List α, x = .d (.tuple (as.map e)) ∧ as.length ≤ 100000 ∧ (∀ c' : Ctx K, Le c c' → ∀ z, z ∈ as → We c' te ((wipeR ρ vs).set j (.val (.d (e z)))) fun y => y = .d (f z)) ∧ k (as.map f)) :
    Wf c (tLc (iSeq K tl) (gName j) tYes te vs) ρ k := by
  refine wf_lcQ2 (wf_lcT [j] (by simpa using hj) hw (h.imp fun x ⟨as, h1, h2, h3, h4⟩ => ⟨_, h1, by simpa using h2, fun i acc => acc = (as.take i).map f, by simp, fun c' le i x acc hx _ hp => ?_, fun acc _ hp => by
    rw [List.length_map, List.take_length] at hp
    rw [hp]; exact h4⟩))
  rw [List.getElem?_map] at hx
  cases z : as[i]? with
  | none => rw [z] at hx; cases hx
  | some a =>
    rw [z] at hx
    cases hx
    refine wg_name hu (wt_yes ⟨fun _ => (h3 c' le a (List.mem_of_getElem? z)).imp fun y hy => ⟨_, hy, ?_⟩, fun q => Bool.noConfusion q⟩)
    subst hp
    exact (map_take z).symm

/-! ### try and raise by names -/
def tTryAs (K : PySem.W.Frag) (C : Value) (i : Nat) (tb0 : WX → TS) (ts : Addr → Value → Option Addr → TS) (Wout : WX) : TS := fun D σ H => tb0 (wAs K C i ts Wout D) D σ H
def tTryOnly (K : PySem.W.Frag) (C : Value) (tb0 : WX → TS) (ts : Addr → Value → Option Addr → TS) (Wout : WX) : TS := fun D σ H => tb0 (wOnly K C ts Wout D) D σ H
def tRaise0 (W : WX) (cls : Value) : TS := fun _ σ H => W cls none σ H
theorem ps_tAs (K : PySem.W.Frag) {X : Cx} {x n : Str} {c : Value} {i : Nat} {body suite : List Stmt} {b₀ : Stmt} {np pos pos' : Pos} {tb : WX → TS} {ts : Addr → Value → Option Addr → TS} {Wout : WX} (hs : X.stack = X.env :: X.outer) (hf : X.env.frame = some X.env.locals) (hN : X.N.Nodup) (hi : X.N[i]? = some n) (hln : X.env.kindOf n = some .local) (hc : Names X x c) (tk : Takes X Wout)
    (hb : ∀ (W : WX) (pn : List (Addr × Obj)) (xe : Value → Shared → Prop), Takes (X.tr pn xe) W → PassesOwn (model X.prog X.w) X.A X.env xe → PSs (X.tr pn xe) body (tb W))
    (hsu : ∀ (a : Addr) (oe : Obj) (cls : Value) (d : Option Addr) (pn : List (Addr × Obj)), Zc cls d oe → (∃ vs, oe.data = .fields vs) → PSs (X.suite a ((a, oe) :: pn)) (b₀ :: suite) (ts a cls d)) (h : X.K = K := by rfl) :
    PS X (.Try body [.ExceptHandler (some (.Name x np)) (some n) (b₀ :: suite) pos'] [] [] pos) (tTryAs K c i tb ts Wout) := h ▸ ps_try_as hs hf hN hi hln hc tk hb hsu
theorem ps_tOnly (K : PySem.W.Frag) {X : Cx} {x : Str} {c : Value} {body suite : List Stmt} {b₀ : Stmt} {np pos pos' : Pos} {tb : WX → TS} {ts : Addr → Value → Option Addr → TS} {Wout : WX} (hs : X.stack = X.env :: X.outer) (hf : X.env.frame = some X.env.locals) (hc : Names X x c) (tk : Takes X Wout)
    (hb : ∀ (W : WX) (pn : List (Addr × Obj)) (xe : Value → Shared → Prop), Takes (X.tr pn xe) W → PassesOwn (model X.prog X.w) X.A X.env xe → PSs (X.tr pn xe) body (tb W))
    (hsu : ∀ (a : Addr) (oe : Obj) (cls : Value) (d : Option Addr) (pn : List (Addr × Obj)), Zc cls d oe → (∃ vs, oe.data = .fields vs) → PSs (X.suite a ((a, oe) :: pn)) (b₀ :: suite) (ts a cls d)) (h : X.K = K := by rfl) :
    PS X (.Try body [.ExceptHandler (some (.Name x np)) none (b₀ :: suite) pos'] [] [] pos) (tTryOnly K c tb ts Wout) := h ▸ ps_try_only hs hf hc tk hb hsu
theorem ps_rs {X : Cx} {W : WX} {e : Expr} {cls : Value} {pos : Pos} (hc : X.calm = true) (tk : Takes X W) (he : PMk X e (fun _ H Q => Q cls none H)) : PS X (.Raise (some e) none pos) (tRaise0 W cls) := ps_raise hc tk he
theorem ws_tAs {tb0 : WX → TS} {ts : Addr → Value → Option Addr → TS} {Wout : WX} {xo : Rho → Value → Prop} {C : Value} {i : Nat} (ho : XOk c Wout xo)
    (h : ∀ W, XOk c W (fun ρ' cls => ∃ b, PySem.W.exmOne K cls C = some b ∧
        (b = true → ∀ a, Ws c (ts a cls none) (ρ'.set i (.val (.r (.ref a)))) ⟨fun ρ2 => E.nx (ρ2.set i .un), E.rt, fun ρ2 => E.bk (ρ2.set i .un), fun ρ2 => E.ct (ρ2.set i .un)⟩) ∧ (b = false → xo ρ' cls)) → Ws c (tb0 W) ρ E) :
    Ws c (tTryAs K C i tb0 ts Wout) ρ E := ws_tryAs ho h
theorem ws_tOnly {tb0 : WX → TS} {ts : Addr → Value → Option Addr → TS} {Wout : WX} {xo : Rho → Value → Prop} {C : Value} (ho : XOk c Wout xo)
    (h : ∀ W, XOk c W (fun ρ' cls => ∃ b, PySem.W.exmOne K cls C = some b ∧ (b = true → ∀ a, Ws c (ts a cls none) ρ' E) ∧ (b = false → xo ρ' cls)) → Ws c (tb0 W) ρ E) :
    Ws c (tTryOnly K C tb0 ts Wout) ρ E := ws_tryOnly ho h
theorem ws_mid (M : Rho → Prop) (h : Ws c t ρ { E with nx := M }) (k : ∀ ρ', M ρ' → E.nx ρ') : Ws c t ρ E := h.imp k (fun _ z => z) (fun _ z => z) fun _ z => z
theorem ws_rs {W : WX} {x : Rho → Value → Prop} {cls : Value} (hx : XOk c W x) (h : x ρ cls) : Ws c (tRaise0 W cls) ρ E := fun D σ H e o => hx ρ σ H cls o h
end

theorem pe_toK (K : PySem.W.Frag) {X : Cx} {e : Expr} {T : String} {r : V → List V → Hp → VK → Prop} {to : TE} {t : TA} (h : X.K = K) (hp : PE X e (tBM X.K T r to t)) : PE X e (tBM K T r to t) := h ▸ hp
end Py
namespace Py
open PySem hiding start
open L2
theorem rv_notB {K : PySem.W.Frag} {c : Ctx K} {ρ : Rho} {k : Dv → Prop} {a b : Bool} (h : k (.d (.bool (!decide (a = b))))) : Rv c rNotB ρ (.d (.bool a)) (.d (.bool b)) k := fun σ H v u Q o d1 d2 q =>
  ⟨a, b, dp_bl d1, dp_bl d2, q.val o (x := .d _) (Dp.bl _) h⟩
end Py

set_option Elab.async false
set_option linter.all false
set_option autoImplicit false
set_option maxRecDepth 100000
set_option maxHeartbeats 4000000
namespace Py
open PySem hiding start
open L2
open Evl (Ex ex_rd ex_l ex_t fresh_back)
open Classical
section
variable {K : PySem.W.Frag} {c c' : Ctx K} {ρ : Rho} {E : DE} {ta tb te : TE} {t u tb' : TS} {tc : TT}
/-- a comprehension over range(n): P tells what is made so far -/
theorem wf_lcR {ta : TA} {g : TG} {tt : TT} {vs : List Nat} {k : List PyData → Prop} (js : List Nat) (hj : ∀ i ∈ js, i ∈ vs) (hw : (vs.all fun v => (ρ[v]?.map isOwn) == some false) = true) (h : Wa c ta ρ fun ys => ∃ n : Int, ys = [.d (.int n)] ∧ 0 ≤ n ∧ n ≤ 100000 ∧ ∃ P : Nat → List PyData → Prop, P 0 [] ∧
    (∀ c' : Ctx K, Le c c' → ∀ (i : Nat) (acc : List PyData), i < n.toNat → acc.length ≤ i → P i acc → Wg c' g js (.d (.int i)) (wipeR ρ vs) fun ρ2 => Wt c' tt ρ2 fun b => (b = true → We c' te ρ2 fun y => ∃ d, y = .d d ∧ P (i + 1) (acc ++ [d])) ∧ (b = false → P (i + 1) acc)) ∧
    ∀ acc, acc.length ≤ n.toNat → P n.toNat acc → k acc) : Wf c (tLc (iRng1 ta) g tt te vs) ρ k := fun σ H Q o q =>
  h σ H _ o fun vvs ys H1 o1 e1 d1 ⟨n, hx, hz0, hz, P, p0, ps, pd⟩ => by
    subst hx
    cases d1 with
    | cons dn dnil =>
      cases dnil
      obtain rfl := dp_int dn
      refine ⟨n, rfl, by omega, by omega, fun D hD => ?_⟩
      have nD : ¬ Hid c ρ D := o1.nh hD
      have nDL : ¬ c.L D := fun z => nD (.inl z)
      -- what stood ahead of the list, for all turns
      let B1 : Hp := vis c ρ H1
      have bB : Ex c.B B1 := o1.base
      have B1D : B1 D = none := hid_none hD
      have own0 : ∀ a, Owns ρ a → B1 a = none := fun a z => hid_pos (.inr z)
      let Pv : Nat → Hp → Prop := fun i H' => ∃ (ws : List V) (acc : List PyData), H' D = some (.lst ws) ∧ Ok (c.at B1) ρ σ H' ∧ Stp c ρ H1 H' ∧ DpAll K (hid (· = D) (vis c ρ H')) ws acc ∧ acc.length ≤ i ∧ P i acc
      have hH0 : H D = none := by
        cases z : H D with
        | none => rfl
        | some ob =>
          have := e1.ex D ob (by unfold vis; rw [hid_neg nD]; exact z)
          rw [vis, hid_none hD] at this; cases this
      refine lc_range (lo := 0) (n := n.toNat) Pv ?_ ?_ ?_
      · obtain ⟨o2, e2⟩ := o1.new (o := .lst []) hD
        have o2' : Ok (c.at B1) ρ σ (upd H1 D (.lst [])) := ⟨o2.w, e2.ex.trans vis_out, fun l z => ⟨own0 l z, (o2.ob l z).2⟩, o2.sl, o2.one, o2.len⟩
        exact ⟨[], [], upd_same, o2', e2, .nil, Nat.le_refl 0, p0⟩
      · rintro i H' hin ⟨ws, acc, hD', o', s', dacc, hl, p'⟩
        have hi : i < 100000 := by omega
        rw [Int.zero_add]
        -- the context of this turn
        let B2 : Hp := hid (· = D) (vis c ρ H')
        have bB2 : Ex B1 B2 := fun b ob z => by
          have nb : b ≠ D := fun q => by rw [q, B1D] at z; cases z
          exact (hid_neg (L := fun x => x = D) nb).trans (s'.ex b ob z)
        let c2 : Ctx K := c.hide D (.lst ws) B2
        have le : Le c c2 := le_hide nDL (bB.trans bB2)
        have visE : ∀ (ρ2 : Rho) (H2 : Hp), Ex (vis c2 ρ2 H2) (hid (· = D) (vis c ρ2 H2)) := fun ρ2 H2 b ob z => by
          obtain ⟨n1, z⟩ := hid_some z
          have nb : b ≠ D := fun q => n1 (.inl (.inr q))
          refine (hid_neg (L := fun x => x = D) nb).trans ((hid_neg fun q => n1 (q.imp .inl id)).trans z)
        have visE' : ∀ (ρ2 : Rho) (H2 : Hp), Ex (hid (· = D) (vis c ρ2 H2)) (vis c2 ρ2 H2) := fun ρ2 H2 b ob z => by
          obtain ⟨nb, z⟩ := hid_some z
          obtain ⟨n1, z⟩ := hid_some z
          refine (hid_neg fun q => ?_).trans z
          rcases q with (q | q) | q
          · exact n1 (.inl q)
          · exact nb q
          · exact n1 (.inr q)
        have oD : ∀ (l : Addr), Owns ρ l → l ≠ D := fun l z q => nD (.inr (q ▸ z))
        have slots : ∀ (j : Nat) (s : Slot), ρ[j]? = some s → ∃ ob, σ[j]? = some ob ∧ SlotOk K (vis c2 ρ H') H' ob s := fun j s hs' => by
          obtain ⟨u1, q1, z1⟩ := (o1.clean s' hD j s hs')
          refine ⟨u1, q1, ?_⟩
          cases s with
          | un => trivial
          | val y => obtain ⟨w, w1, w2⟩ := z1; exact ⟨w, w1, dv_mono (visE' ρ H') w2⟩
          | own l ys => obtain ⟨w, w1, w2, w3⟩ := z1; exact ⟨w, w1, w2, own_mono (visE' ρ H') _ _ w3⟩
        have o2 : Ok c2 ρ σ H' := ⟨⟨o'.w, hD'⟩, (visE' ρ H').trans vis_out, fun l z => ⟨(show hid (· = D) (vis c ρ H') l = none from hid_none' (hid_pos (Or.inr z))), fun q => q.elim (o'.ob l z).2 (oD l z)⟩, slots, o'.one, o'.len⟩
        have o3 : Ok c2 (wipeR ρ vs) (L2.wipe σ vs) H' := o2.wipe vs
        have ev : Ex (vis c2 ρ H') (vis c2 (wipeR ρ vs) H') := hid_less fun b z => z.imp id owns_wipe
        have dd2 : Dp K (vis c2 (wipeR ρ vs) H') (V.int (i : Int)) (.int (i : Int)) := Dp.int _
        refine ps c2 le i acc hin hl p' (L2.wipe σ vs) H' _ _ o3 dd2 fun ρ4 σ4 o4 a4 l4 b4 b4' w4 => ⟨wipe_eq hj a4 l4, ?_⟩
        refine w4 σ4 H' _ o4 fun b H5 o5 s5 z5 => ?_
        -- what is the same again once the element is told
        have back : ∀ H6, Ok c2 ρ4 σ4 H6 → Stp c2 ρ4 H' H6 → H6 D = some (.lst ws) ∧ (∀ a, Owns ρ a → H6 a = H' a) ∧ Ex (vis c2 ρ H') (vis c2 ρ H6) := fun H6 o6 s6 => by
          refine ⟨o6.w.2, fun a z => s6.own a (b4 a (owns_wipe' hw z).1), fun b ob z => ?_⟩
          · obtain ⟨n1, z⟩ := hid_some z
            have n2 : ¬ Hid c2 ρ4 b := fun q => n1 (q.imp id fun q => owns_wipe (b4' b q))
            have := s6.ex b ob (by unfold vis; rw [hid_neg n2]; exact z)
            unfold vis
            rw [hid_neg n1]
            exact (hid_some this).2
        cases b with
        | false =>
          rw [if_neg Bool.false_ne_true]
          obtain ⟨hD5, ow5, ex5⟩ := back H5 o5 s5
          have exA : Ex (vis c ρ H') (vis c ρ H5) := fun b ob z => by
            by_cases nb : b = D
            · subst nb
              unfold vis at *
              rw [hid_neg nD] at *
              rw [hD'] at z
              rw [hD5]; exact z
            · have := ex5 b ob (visE' ρ H' b ob ((hid_neg (L := fun x => x = D) nb).trans z))
              exact hid_sub b ob (visE ρ H5 b ob this)
          have stp : Stp c ρ H' H5 := ⟨exA, ow5⟩
          refine ⟨ws, acc, hD5, o'.grow o5.w.1 exA ow5, s'.trans stp, dpa_mono (fun b ob z => visE ρ H5 b ob (ex5 b ob (visE' ρ H' b ob z))) _ _ dacc, Nat.le_succ_of_le hl, z5.2 rfl⟩
        | true =>
          rw [if_pos rfl]
          refine z5.1 rfl σ4 H5 _ o5 fun v6 y6 H6 o6 s6 d6 ⟨d, hy6, p6⟩ => ?_
          subst hy6
          obtain ⟨hD6, ow6, ex6⟩ := back H6 o6 (s5.trans s6)
          refine ⟨ws, hD6, ?_, ?_⟩
          · have w1 := dpa_len dacc
            exact Evl.sz_lt (by omega)
          · -- the list has one more
            have ow7 : ∀ a, Owns ρ a → upd H6 D (.lst (ws ++ [v6])) a = H' a := fun a z => (upd_ne (oD a z)).trans (ow6 a z)
            have e67 : Ex (hid (· = D) (vis c ρ H6)) (hid (· = D) (vis c ρ (upd H6 D (.lst (ws ++ [v6]))))) := fun b ob z => by
              obtain ⟨nb, z⟩ := hid_some z
              obtain ⟨n1, z⟩ := hid_some z
              refine (hid_neg (L := fun x => x = D) nb).trans ((hid_neg n1).trans ((upd_ne nb).trans z))
            have exB : Ex (hid (· = D) (vis c ρ H')) (hid (· = D) (vis c ρ (upd H6 D (.lst (ws ++ [v6]))))) := fun b ob z => e67 b ob (visE ρ H6 b ob (ex6 b ob (visE' ρ H' b ob z)))
            have w7 : c.W (upd H6 D (.lst (ws ++ [v6]))) := c.loc _ _ (fun a z => upd_ne fun q => nDL (q ▸ z)) (tp_lst hD6) o6.w.1
            have o7 : Ok (c.at B1) ρ σ (upd H6 D (.lst (ws ++ [v6]))) := by
              refine ⟨w7, fun b ob z => ?_, o'.ob, fun j s hs' => ?_, o'.one, o'.len⟩
              · have := exB b ob (bB2 b ob z)
                exact vis_out b ob (hid_sub b ob this)
              · obtain ⟨u1, q1, z1⟩ := (o1.clean s' hD j s hs')
                refine ⟨u1, q1, ?_⟩
                cases s with
                | un => trivial
                | val y => obtain ⟨w, w1, w2⟩ := z1; exact ⟨w, w1, dv_mono (exB.trans hid_sub) w2⟩
                | own l ys =>
                  obtain ⟨w, w1, w2, w3⟩ := z1
                  exact ⟨w, w1, (ow7 l ⟨ys, List.mem_of_getElem? hs'⟩).trans w2, own_mono (exB.trans hid_sub) _ _ w3⟩
            refine ⟨ws ++ [v6], acc ++ [d], upd_same, o7, ⟨fun b ob z => ?_, fun a z => (ow7 a z).trans (s'.own a z)⟩, ?_, by simp; omega, p6⟩
            · have nb : b ≠ D := fun q => by subst q; rw [vis, hid_none hD] at z; cases z
              have := exB b ob ((hid_neg (L := fun x => x = D) nb).trans (s'.ex b ob z))
              exact hid_sub b ob this
            · refine dpa_app (dpa_mono exB _ _ dacc) (.cons (dp_mono (fun b ob z => ?_) _ _ d6) .nil)
              -- what the element is made of
              have z0 := visE ρ4 H6 b ob z
              obtain ⟨nb, z1⟩ := hid_some z0
              obtain ⟨n1, z2⟩ := hid_some z1
              refine e67 b ob ((hid_neg (L := fun x => x = D) nb).trans ((hid_neg fun q => ?_).trans z2))
              rcases q with q | q
              · exact n1 (.inl q)
              · exact n1 (.inr (b4 b (owns_wipe' hw q).1))
      · rintro H' ⟨ws, acc, hD', o', s', dacc, hl, p'⟩
        exact q D ws acc H' hH0 hD' (ok_at bB o') (e1.trans s') dacc (pd acc hl p')
end
def rInt1 : List V → Hp → VK → Prop := fun xs H Q => (∃ i, xs = [.int i] ∧ Q (.int i) H) ∨ ∃ k, xs = [.bl k] ∧ Q (.int (if k then 1 else 0)) H
theorem call_int1s {X : Cx} : CallR X (.type "int") rInt1 := call_int1
theorem rc_intB {K : PySem.W.Frag} {c : Ctx K} {ρ : Rho} {k : Dv → Prop} {b : Bool} (h : k (.d (.int (if b then 1 else 0)))) : Rc c rInt1 ρ [.d (.bool b)] k := fun σ H vs Q o d q => by
  cases d with
  | cons d1 d2 =>
    cases d2
    obtain rfl := dp_bl d1
    exact .inr ⟨b, rfl, q.val o (x := .d _) (Dp.int _) h⟩
theorem rc_intI {K : PySem.W.Frag} {c : Ctx K} {ρ : Rho} {k : Dv → Prop} {b : Int} (h : k (.d (.int b))) : Rc c rInt1 ρ [.d (.int b)] k := fun σ H vs Q o d q => by
  cases d with
  | cons d1 d2 =>
    cases d2
    obtain rfl := dp_int d1
    exact .inl ⟨b, rfl, q.val o (x := .d _) (Dp.int _) h⟩
theorem ru_neg {K : PySem.W.Frag} {c : Ctx K} {ρ : Rho} {k : Dv → Prop} {i : Int} (h : k (.d (.int (-i)))) : Ru c (rU fun i => V.int (-i)) ρ (.d (.int i)) k := ru_U (f := fun i => -i) h
end Py

set_option Elab.async false
set_option linter.all false
set_option autoImplicit false
namespace Py
open PySem hiding start
open L2
/-! ### fractions -/
abbrev frD (q : Rat) : PyData := .tuple [.int q.num, .int q.den]
theorem fdiv_num {t b : Int} (hb : b ≠ 0) : t.fdiv (if b < 0 then 0 - (Int.gcd t b : Int) else (Int.gcd t b : Int)) = (Rat.divInt t b).num ∧ b.fdiv (if b < 0 then 0 - (Int.gcd t b : Int) else (Int.gcd t b : Int)) = ((Rat.divInt t b).den : Int) := by
  have hg : (Int.gcd t b : Int) ≠ 0 := by
    intro h
    have : Int.gcd t b = 0 := by exact_mod_cast h
    exact hb (Int.gcd_eq_zero_iff.mp this).2
  obtain ⟨t', ht⟩ := Int.gcd_dvd_left (a := t) (b := b)
  obtain ⟨b', hb'⟩ := Int.gcd_dvd_right (a := t) (b := b)
  have hgp : 0 < (Int.gcd t b : Int) := by omega
  rw [Rat.num_divInt, Rat.den_divInt, if_neg hb, Int.gcd_comm b t]
  generalize hG : (Int.gcd t b : Int) = g at *
  have e1 : b.natAbs / Int.gcd t b = b'.natAbs := by
    have : b.natAbs = Int.gcd t b * b'.natAbs := by
      have h2 : b.natAbs = (g * b').natAbs := by rw [← hb']
      rw [h2, Int.natAbs_mul, ← hG]; rfl
    rw [this]
    exact Nat.mul_div_cancel_left _ (by omega)
  rw [e1]
  have f1 : ∀ z : Int, (g * z).fdiv g = z := fun z => Int.mul_fdiv_cancel_left z hg
  have f2 : ∀ z : Int, (g * z).fdiv (0 - g) = -z := fun z => by
    have : g * z = (0 - g) * (-z) := by grind
    rw [this]
    exact Int.mul_fdiv_cancel_left _ (by omega)
  have f3 : ∀ z : Int, g * z / g = z := fun z => Int.mul_ediv_cancel_left z hg
  by_cases n : b < 0
  · rw [if_pos n, Int.sign_eq_neg_one_of_neg n]
    have nb' : b' < 0 := by
      rw [hb'] at n
      exact Int.neg_of_mul_neg_right n (by omega)
    constructor
    · rw [ht, f2]
      have : -1 * (g * t') = g * (-t') := by grind
      rw [this, f3]
    · have := f2 b'
      rw [← hb'] at this
      rw [this]
      omega
  · rw [if_neg n, Int.sign_eq_one_of_pos (by omega)]
    have nb' : 0 < b' := by
      have : 0 < g * b' := by rw [← hb']; omega
      exact Int.pos_of_mul_pos_right this hgp
    constructor
    · rw [ht, f1, Int.one_mul, f3]
    · have := f1 b'
      rw [← hb'] at this
      rw [this]
      omega
theorem fr_gcd (q : Rat) : Int.gcd q.num (q.den : Int) = 1 := by
  have := q.reduced
  unfold Nat.Coprime at this
  show q.num.natAbs.gcd (q.den : Int).natAbs = 1
  simpa using this
theorem gcd_step {a b : Int} (ha : 0 ≤ a) (hb : 0 < b) : Int.gcd b (a.fmod b) = Int.gcd a b := by
  rw [Int.fmod_eq_emod_of_nonneg a (by omega)]
  obtain ⟨n, rfl⟩ := Int.eq_ofNat_of_zero_le ha
  obtain ⟨m, rfl⟩ := Int.eq_ofNat_of_zero_le (show 0 ≤ b by omega)
  show Nat.gcd m ((n : Int) % (m : Int)).natAbs = Nat.gcd n m
  have : ((n : Int) % (m : Int)).natAbs = n % m := by
    rw [← Int.natCast_emod]; rfl
  rw [this, Nat.gcd_comm m, ← Nat.gcd_rec, Nat.gcd_comm]
theorem gcd_abs (a b : Int) : Int.gcd (a.natAbs : Int) (b.natAbs : Int) = Int.gcd a b := by
  simp [Int.gcd]
end Py
namespace Py
open PySem hiding start
open L2
theorem eqv_int (a b : Int) : PyData.eqv (.int a) (.int b) = decide (a = b) := by
  simp only [PyData.eqv]
  by_cases z : a = b <;> simp [z]
theorem call_draw {K : PySem.W.Frag} {c : Py.Ctx K} {k : Dv → Prop} {x : Value → Prop} {p : Addr} {n : Int} (HI : HandIn c p) (hn : 0 < n) (hn2 : n < 2 ^ 2000) (h : ∀ v : Int, 0 ≤ v → v < n → k (.d (.int v))) : ∀ c', Le c c' → p_draw K c' [.r (.ref p), .d (.int n)] k x := fun c' le => ⟨p, n, rfl, HI.le le, hn, hn2, h⟩
end Py
namespace Py
open PySem hiding start
open L2
/-- data of depth at most n, no texts too long, no dicts -/
def Shp (n : Nat) (d : PyData) : Prop := d.canLay0 = true ∧ d.depth ≤ n
theorem Shp.shaped {n : Nat} {d : PyData} (h : Shp n d) (hn : n ≤ 64) : SeqAt.shaped d = true := by
  unfold SeqAt.shaped
  rw [h.1, Bool.true_and]
  exact decide_eq_true (Nat.le_trans h.2 hn)
theorem shp_int {n : Nat} (i : Int) : Shp n (.int i) := ⟨rfl, Nat.zero_le _⟩
theorem shp_bool {n : Nat} (i : Bool) : Shp n (.bool i) := ⟨rfl, Nat.zero_le _⟩
theorem shp_none {n : Nat} : Shp n .none := ⟨rfl, Nat.zero_le _⟩
theorem shp_all {n : Nat} : ∀ {ds : List PyData}, (∀ d ∈ ds, Shp n d) → PyData.canLayAll0 ds = true ∧ PyData.depthAll ds ≤ n
  | [], _ => ⟨rfl, Nat.zero_le _⟩
  | d :: ds, h => by
    obtain ⟨h1, h2⟩ := shp_all (ds := ds) fun x hx => h x (List.mem_cons_of_mem _ hx)
    have h3 := h d List.mem_cons_self
    simp only [PyData.canLayAll0, PyData.depthAll, h1, h3.1, Bool.and_self, true_and]
    exact Nat.max_le.mpr ⟨h3.2, h2⟩
theorem shp_tup {n : Nat} {ds : List PyData} (h : ∀ d ∈ ds, Shp n d) (hl : ds.length ≤ 100000) : Shp (n + 1) (.tuple ds) := by
  obtain ⟨h1, h2⟩ := shp_all h
  constructor
  · simp [PyData.canLay0, h1]
  · simp only [PyData.depth]; omega
theorem shp_lst {n : Nat} {ds : List PyData} (h : ∀ d ∈ ds, Shp n d) (hl : ds.length ≤ 100000) : Shp (n + 1) (.list ds) := by
  obtain ⟨h1, h2⟩ := shp_all h
  constructor
  · simp [PyData.canLay0, h1]
  · simp only [PyData.depth]; omega
theorem shaped_ints {as : List Int} (h : as.length ≤ 1000) : SeqAt.shaped (.tuple (as.map .int)) = true :=
  (shp_tup (n := 0) (fun d hd => by obtain ⟨a, _, rfl⟩ := List.mem_map.mp hd; exact shp_int a) (by simp; omega)).shaped (by decide)
theorem eqvAll_ints : ∀ as bs : List Int, PyData.eqvAll (as.map .int) (bs.map .int) = decide (as = bs)
  | [], [] => rfl
  | [], _ :: _ => rfl
  | _ :: _, [] => rfl
  | a :: as, b :: bs => by
    show (PyData.eqv (.int a) (.int b) && PyData.eqvAll (as.map .int) (bs.map .int)) = _
    rw [eqv_int, eqvAll_ints as bs]
    by_cases h : a = b <;> by_cases h2 : as = bs <;> simp [h, h2]
theorem eqv_ints (as bs : List Int) : PyData.eqv (.tuple (as.map .int)) (.tuple (bs.map .int)) = decide (as = bs) := eqvAll_ints as bs
end Py
namespace Py
open PySem hiding start
open L2
open Evl (Ex)
open Classical
theorem cut63 (ns : List Int) : cutV (ns.map V.int) none (some 63) = (ns.take 63).map V.int := by
  have e1 : HT.sIx (ns.map V.int).length 0 none = 0 := rfl
  have e2 : HT.sIx (ns.map V.int).length (ns.map V.int).length (some 63) = min 63 (ns.map V.int).length := by
    unfold HT.sIx
    simp
    try omega
  unfold cutV
  rw [e1, e2, List.drop_zero, List.map_take]
  rw [Nat.sub_zero, ← List.take_take, List.take_length]
def spHand (K : PySem.W.Frag) : Sp := fun vs H Q _ => ∃ (a : Addr) (ns : List Int), vs = [.ref a] ∧ SqL K H a (ns.map V.int) ∧ ∀ (p l : Addr) (H' : Hp), H p = none → H l = none → l ≠ p →
  H' p = some (.lst (handL l 0 0 0 20011 40009)) → H' l = some (.lst ((ns.take 63).map V.int)) → Ex H H' → Q (.ref p) H'
def spLaw (K : PySem.W.Frag) : Sp := fun vs H Q _ => ∃ (a : Addr) (ns : List Int), vs = [.ref a] ∧ SqL K H a (ns.map V.int) ∧ ns.length ≤ 63 ∧ ∀ H', Q (.bl true) H'
def lawE : DE := ⟨fun _ => False, fun x => x = .d (.bool true), fun _ => False, fun _ => False⟩
theorem law_enter {K : PySem.W.Frag} {t : TS} {D : Ends} {a p l : Addr} {H1 : Hp} {ns : List Int} {n : Nat} (hp : H1 p = some (.lst (handL l 0 0 0 20011 40009))) (hl : H1 l = some (.lst (ns.map V.int))) (nlp : l ≠ p) (hD : ∀ H', D.rt (.bl true) H')
    (h : ∀ c : Ctx K, HandIn c p → Ws c t (.un :: .val (.r (.ref p)) :: List.replicate n .un) lawE) : t D (some (.ref a) :: some (.ref p) :: List.replicate n none) H1 := by
  let c : Ctx K := {
    B := hid (fun x => x = p ∨ x = l) H1
    L := fun x => x = p ∨ x = l
    W := fun H => HandAt H p l ns
    loc := fun H H' e _ ⟨⟨i, pool, left, a, b, h, r⟩, h2, h3⟩ => ⟨⟨i, pool, left, a, b, (e p (.inl rfl)).trans h, r⟩, (e l (.inr rfl)).trans h2, h3⟩
    dom := fun H ⟨⟨i, pool, left, a, b, h, r⟩, h2, h3⟩ x hx => hx.elim (fun z => by rw [z, h]; exact ⟨_, rfl, rfl⟩) (fun z => by rw [z, h2]; exact ⟨_, rfl, rfl⟩) }
  have w : c.W H1 := ⟨⟨0, 0, 0, 20011, 40009, hp, by decide, by decide, ⟨by decide, by decide⟩, by decide, by decide⟩, hl, nlp⟩
  have HI : HandIn c p := ⟨.inl rfl, l, ns, .inr rfl, fun H h => h, fun H H' _ h _ => h⟩
  have no : ∀ x, ¬ Owns (.un :: .val (.r (.ref p)) :: List.replicate n .un) x := fun x ⟨ys, z⟩ => by
    simp at z
  refine h c HI D _ H1 ⟨fun _ _ _ _ z => z.elim, fun v x H _ _ d e => ?_, fun _ _ _ _ z => z.elim, fun _ _ _ _ z => z.elim⟩ ⟨w, Evl.Ex.refl _, fun x z => (no x z).elim, fun i s hs => ?_, fun i j x ys zs hs _ => (no x ⟨ys, List.mem_of_getElem? hs⟩).elim, by simp⟩
  · obtain rfl : x = .d (.bool true) := e
    obtain rfl := dp_bl d
    exact hD H
  · match i, hs with
    | 0, hs => cases hs; exact ⟨_, rfl, trivial⟩
    | 1, hs => cases hs; exact ⟨_, rfl, _, rfl, rfl⟩
    | i + 2, hs =>
      have hs' : (List.replicate n Slot.un)[i]? = some s := hs
      have e := List.eq_of_mem_replicate (List.mem_of_getElem? hs')
      subst e
      have h' := (List.getElem?_eq_some_iff.mp hs').1
      simp at h'
      refine ⟨none, ?_, trivial⟩
      show (List.replicate n (none : Option V))[i]? = _
      rw [List.getElem?_replicate, if_pos h']
end Py
namespace Py
open PySem hiding start
open L2
theorem law_start {K : PySem.W.Frag} {u : TS} {D : Ends} {a : Addr} {H : Hp} {ns : List Int} {n : Nat} (hS : SqL K H a (ns.map V.int)) (hD : ∀ H', D.rt (.bl true) H')
    (h : ∀ (c : Py.Ctx K) (p : Addr), HandIn c p → Ws c u (.un :: .val (.r (.ref p)) :: List.replicate n .un) lawE) : tSeq (tAsg (tCall (spHand K) [] E0 (tCons (tVar 0) tNil)) (gName 1)) u D (some (.ref a) :: none :: List.replicate n none) H := by
  refine ⟨_, rfl, a, ns, rfl, hS, fun p l H1 np nl nlp hp hl ex => ?_⟩
  exact law_enter (K := K) (t := u) (D := D) (a := a) hp hl nlp hD fun c HI => h c p HI
end Py
namespace Py
open PySem hiding start
open L2
/-- what the head tells of a def -/
def FnFacts (K : PySem.W.Frag) (x : Str) (st : Stmt) : Prop := ∃ (f : Addr) (oc : Value) (od : Option Addr) (sl : Array (Option Value)) (kV dc pm : Value) (an : Option Addr) (cd ct : Value),
  PySem.W.nsIn K mainGlobals x = some (some (.ref f)) ∧ K.lookup f = some ⟨oc, od, .func (PySem.W.fnOf x x (defArgs st) (defBody st) (defScope st) .none kV dc pm an cd ct), sl⟩ ∧ PySem.W.codeIn K cd x = true ∧ PySem.W.keepIn K (.ref f) = true
theorem fnf_mk {K : PySem.W.Frag} {x : Str} {st : Stmt} {f : Addr} {oc : Value} {od : Option Addr} {sl : Array (Option Value)} {kV dc pm : Value} {an : Option Addr} {cd ct : Value}
    (a : PySem.W.nsIn K mainGlobals x = some (some (.ref f))) (l : K.lookup f = some ⟨oc, od, .func (PySem.W.fnOf x x (defArgs st) (defBody st) (defScope st) .none kV dc pm an cd ct), sl⟩) (c : PySem.W.codeIn K cd x = true) (k : PySem.W.keepIn K (.ref f) = true) : FnFacts K x st :=
  ⟨f, oc, od, sl, kV, dc, pm, an, cd, ct, a, l, c, k⟩
theorem FnFacts.raw {K : PySem.W.Frag} {mg : Str → Option Value} {h : Heap} {x : Str} {st : Stmt} (F : FnFacts K x st) (X : K.In h) (G : h.Ns mainGlobals mg) : Raw K mg x st := by
  obtain ⟨f, oc, od, sl, kV, dc, pm, an, cd, ct, a, l, c, k⟩ := F
  exact ⟨f, _, fun_mk l c k, PySem.W.mg_of X G a⟩
end Py

set_option Elab.async false
set_option linter.all false
set_option autoImplicit false
set_option exponentiation.threshold 3000
namespace Py
open PySem hiding start
open L2
/-! ### sizes of fractions -/
theorem gcd_log {t b : Int} {n : Nat} (hb : b ≠ 0) (h : b.natAbs < 2 ^ n) (h0 : 0 < n) (hn : n ≤ 9000) : (Int.gcd t b).log2 < 9000 := by
  have h1 : Int.gcd t b ≤ b.natAbs := Nat.le_of_dvd (by omega) (Nat.gcd_dvd_right _ _)
  exact Nat.lt_of_lt_of_le (PySem.Flt.log2_lt_of (k := n) h0 (Nat.lt_of_le_of_lt h1 h)) hn
theorem frD_ints (q : Rat) : frD q = .tuple ([q.num, (q.den : Int)].map .int) := rfl
structure frB (n : Nat) (q : Rat) : Prop where
  n0 : 0 < n
  nu : q.num.natAbs < 2 ^ n
  de : q.den < 2 ^ n
theorem frB.mono {n m : Nat} {q : Rat} (h : frB n q) (e : n ≤ m) : frB m q :=
  ⟨Nat.lt_of_lt_of_le h.n0 e, Nat.lt_of_lt_of_le h.nu (Nat.pow_le_pow_right (by decide) e), Nat.lt_of_lt_of_le h.de (Nat.pow_le_pow_right (by decide) e)⟩
theorem frB.dei {n : Nat} {q : Rat} (h : frB n q) : ((q.den : Int)).natAbs < 2 ^ n := by simpa using h.de
theorem divInt_num_le {t b : Int} (hb : b ≠ 0) : (Rat.divInt t b).num.natAbs ≤ t.natAbs ∧ (Rat.divInt t b).den ≤ b.natAbs := by
  obtain ⟨e1, e2⟩ := fdiv_num (t := t) hb
  rw [Rat.num_divInt, Rat.den_divInt, if_neg hb]
  constructor
  · have h : (b.sign * t).natAbs ≤ t.natAbs := by
      rw [Int.natAbs_mul]
      have : b.sign.natAbs ≤ 1 := by
        rcases Int.lt_trichotomy b 0 with h | h | h
        · rw [Int.sign_eq_neg_one_of_neg h]; decide
        · exact absurd h hb
        · rw [Int.sign_eq_one_of_pos h]; decide
      calc b.sign.natAbs * t.natAbs ≤ 1 * t.natAbs := Nat.mul_le_mul_right _ this
        _ = t.natAbs := Nat.one_mul _
    refine Nat.le_trans ?_ h
    exact Int.natAbs_ediv_le_natAbs _ _
  · exact Nat.div_le_self _ _
theorem frB_div {t b : Int} {n : Nat} (hb : b ≠ 0) (h0 : 0 < n) (ht : t.natAbs < 2 ^ n) (hb' : b.natAbs < 2 ^ n) : frB n (Rat.divInt t b) := by
  obtain ⟨h1, h2⟩ := divInt_num_le (t := t) hb
  exact ⟨h0, Nat.lt_of_le_of_lt h1 ht, Nat.lt_of_le_of_lt h2 hb'⟩
theorem den_ne (q : Rat) : (q.den : Int) ≠ 0 := by have := q.den_pos; omega
theorem den_pos' (q : Rat) : 0 < (q.den : Int) := by have := q.den_pos; omega
theorem den_mul_ne (a b : Rat) : ((a.den : Int) * (b.den : Int)) ≠ 0 := Int.mul_ne_zero (den_ne a) (den_ne b)
theorem add_eq (a b : Rat) : Rat.divInt (a.num * b.den + b.num * a.den) (a.den * b.den) = a + b := by
  have h := Rat.divInt_add_divInt a.num b.num (den_ne a) (den_ne b)
  rw [Rat.num_divInt_den, Rat.num_divInt_den] at h
  exact h.symm
theorem sub_eq (a b : Rat) : Rat.divInt (a.num * b.den - b.num * a.den) (a.den * b.den) = a - b := by
  have h := Rat.divInt_sub_divInt a.num b.num (den_ne a) (den_ne b)
  rw [Rat.num_divInt_den, Rat.num_divInt_den] at h
  exact h.symm
theorem mul_eq (a b : Rat) : Rat.divInt (a.num * b.num) (a.den * b.den) = a * b := by
  have h := Rat.divInt_mul_divInt a.num b.num (d₁ := a.den) (d₂ := b.den)
  rw [Rat.num_divInt_den, Rat.num_divInt_den] at h
  exact h.symm
theorem two_pow_add_lt {a b : Nat} {n m : Nat} (ha : a < 2 ^ n) (hb : b < 2 ^ m) : a * b < 2 ^ (n + m) := by
  rw [Nat.pow_add]
  exact Nat.mul_lt_mul'' ha hb
/-- sizes of top and bottom -/
structure frS (n d : Nat) (q : Rat) : Prop where
  n0 : 0 < n
  d0 : 0 < d
  nu : q.num.natAbs < 2 ^ n
  de : q.den < 2 ^ d
theorem frS.dei {n d : Nat} {q : Rat} (h : frS n d q) : ((q.den : Int)).natAbs < 2 ^ d := by simpa using h.de
theorem frB.S {n : Nat} {q : Rat} (h : frB n q) : frS n n q := ⟨h.n0, h.n0, h.nu, h.de⟩
theorem frS.mono {n d n' d' : Nat} {q : Rat} (h : frS n d q) (e : n ≤ n') (e' : d ≤ d') : frS n' d' q :=
  ⟨Nat.lt_of_lt_of_le h.n0 e, Nat.lt_of_lt_of_le h.d0 e', Nat.lt_of_lt_of_le h.nu (Nat.pow_le_pow_right (by decide) e), Nat.lt_of_lt_of_le h.de (Nat.pow_le_pow_right (by decide) e')⟩
theorem frS_div {t b : Int} {n d : Nat} (hb : b ≠ 0) (h0 : 0 < n) (d0 : 0 < d) (ht : t.natAbs < 2 ^ n) (hb' : b.natAbs < 2 ^ d) : frS n d (Rat.divInt t b) := by
  obtain ⟨h1, h2⟩ := divInt_num_le (t := t) hb
  exact ⟨h0, d0, Nat.lt_of_le_of_lt h1 ht, Nat.lt_of_le_of_lt h2 hb'⟩
structure frTwo (a b : Rat) : Prop where
  ex : ∃ n d n' d', frS n d a ∧ frS n' d' b ∧ d + d' ≤ 8900 ∧ n ≤ 400000 ∧ n' ≤ 400000
theorem frTwo.of {a b : Rat} {n m : Nat} (h1 : frB n a) (h2 : frB m b) (h : n + m ≤ 8900) : frTwo a b := ⟨n, n, m, m, h1.S, h2.S, h, by omega, by omega⟩
theorem frTwo.symm {a b : Rat} (h : frTwo a b) : frTwo b a := by
  obtain ⟨n, d, n', d', h1, h2, h3, h4, h5⟩ := h.ex
  exact ⟨n', d', n, d, h2, h1, by omega, h5, h4⟩
theorem mulc {i j : Int} {n m : Nat} (hi : i.natAbs < 2 ^ n) (hj : j.natAbs < 2 ^ m) (n0 : 0 < n) (m0 : 0 < m) (h : n + m ≤ 1000000) : CMulW i j := wide_mul hi hj n0 m0 h
section
variable {a b : Rat} (h : frTwo a b)
include h
theorem frTwo.m1 : CMulW a.num b.den := by
  obtain ⟨n, d, n', d', h1, h2, h3, h4, h5⟩ := h.ex
  exact mulc h1.nu h2.dei h1.n0 h2.d0 (by omega)
theorem frTwo.m2 : CMulW b.num a.den := h.symm.m1
theorem frTwo.m3 : CMulW (a.den : Int) b.den := by
  obtain ⟨n, d, n', d', h1, h2, h3, h4, h5⟩ := h.ex
  exact mulc h1.dei h2.dei h1.d0 h2.d0 (by omega)
theorem frTwo.m4 : CMulW a.num b.num := by
  obtain ⟨n, d, n', d', h1, h2, h3, h4, h5⟩ := h.ex
  exact mulc h1.nu h2.nu h1.n0 h2.n0 (by omega)
theorem frTwo.g {t : Int} : (Int.gcd t ((a.den : Int) * b.den)).log2 < 9000 := by
  obtain ⟨n, d, n', d', h1, h2, h3, h4, h5⟩ := h.ex
  refine gcd_log (n := d + d') (den_mul_ne a b) ?_ (by have := h1.d0; omega) (by omega)
  rw [Int.natAbs_mul]
  exact two_pow_add_lt h1.dei h2.dei
end
theorem frS_add {a b : Rat} {n d n' d' : Nat} (ha : frS n d a) (hb : frS n' d' b) : frS (max (n + d') (n' + d) + 1) (d + d') (a + b) := by
  rw [← add_eq]
  refine frS_div (den_mul_ne a b) (by omega) (by have := ha.d0; omega) ?_ ?_
  · have h1 := two_pow_add_lt ha.nu hb.dei
    have h2 := two_pow_add_lt hb.nu ha.dei
    have h1 := Nat.lt_of_lt_of_le h1 (Nat.pow_le_pow_right (n := 2) (by decide) (Nat.le_max_left (n + d') (n' + d)))
    have h2 := Nat.lt_of_lt_of_le h2 (Nat.pow_le_pow_right (n := 2) (by decide) (Nat.le_max_right (n + d') (n' + d)))
    rw [← Int.natAbs_mul] at h1 h2
    have : 2 ^ (max (n + d') (n' + d) + 1) = 2 * 2 ^ (max (n + d') (n' + d)) := by rw [Nat.pow_succ, Nat.mul_comm]
    rw [this]
    exact Nat.lt_of_le_of_lt (Int.natAbs_add_le _ _) (by omega)
  · rw [Int.natAbs_mul]
    exact two_pow_add_lt ha.dei hb.dei
theorem frB_add {a b : Rat} {n m : Nat} (ha : frB n a) (hb : frB m b) : frB (n + m + 1) (a + b) := by
  rw [← add_eq]
  refine frB_div (den_mul_ne a b) (by omega) ?_ ?_
  · have h1 := two_pow_add_lt ha.nu hb.dei
    have h2 := two_pow_add_lt hb.nu ha.dei
    rw [Nat.add_comm m n] at h2
    rw [← Int.natAbs_mul] at h1 h2
    have : 2 ^ (n + m + 1) = 2 * 2 ^ (n + m) := by rw [Nat.pow_succ, Nat.mul_comm]
    rw [this]
    exact Nat.lt_of_le_of_lt (Int.natAbs_add_le _ _) (by omega)
  · rw [Int.natAbs_mul]
    exact Nat.lt_of_lt_of_le (two_pow_add_lt ha.dei hb.dei) (Nat.pow_le_pow_right (by decide) (by omega))
theorem frB_sub {a b : Rat} {n m : Nat} (ha : frB n a) (hb : frB m b) : frB (n + m + 1) (a - b) := by
  rw [← sub_eq]
  refine frB_div (den_mul_ne a b) (by omega) ?_ ?_
  · have h1 := two_pow_add_lt ha.nu hb.dei
    have h2 := two_pow_add_lt hb.nu ha.dei
    rw [Nat.add_comm m n] at h2
    rw [← Int.natAbs_mul] at h1 h2
    have : 2 ^ (n + m + 1) = 2 * 2 ^ (n + m) := by rw [Nat.pow_succ, Nat.mul_comm]
    rw [this]
    exact Nat.lt_of_le_of_lt (Int.natAbs_sub_le _ _) (by omega)
  · rw [Int.natAbs_mul]
    exact Nat.lt_of_lt_of_le (two_pow_add_lt ha.dei hb.dei) (Nat.pow_le_pow_right (by decide) (by omega))
theorem frB_mul {a b : Rat} {n m : Nat} (ha : frB n a) (hb : frB m b) : frB (n + m) (a * b) := by
  rw [← mul_eq]
  refine frB_div (den_mul_ne a b) (by have := ha.n0; omega) ?_ ?_
  · rw [Int.natAbs_mul]; exact two_pow_add_lt ha.nu hb.nu
  · rw [Int.natAbs_mul]; exact two_pow_add_lt ha.dei hb.dei
theorem below_eq (a b : Rat) : decide (a.num * b.den < b.num * a.den) = decide (a < b) := by
  exact decide_eq_decide.mpr (Rat.lt_iff a b).symm
def sumQ (qs : List Rat) : Rat := qs.foldl (· + ·) 0
theorem sumQ_take {qs : List Rat} {i : Nat} {q : Rat} (h : qs[i]? = some q) : sumQ (qs.take (i + 1)) = sumQ (qs.take i) + q := by
  unfold sumQ
  rw [List.take_add_one, h]
  simp [List.foldl_append]
end Py
namespace Py
open PySem hiding start
open L2
theorem shp_fr {n : Nat} (q : Rat) : Shp (n + 1) (frD q) := shp_tup (fun d hd => by
  simp at hd
  rcases hd with rfl | rfl <;> exact shp_int _) (Nat.le_of_ble_eq_true rfl)
theorem shp_mapL {α : Type} {n : Nat} {l : List α} {f : α → PyData} (h : ∀ a ∈ l, Shp n (f a)) (hl : l.length ≤ 100000) : Shp (n + 1) (.list (l.map f)) := shp_lst (fun d hd => by
  obtain ⟨a, ha, rfl⟩ := List.mem_map.mp hd
  exact h a ha) (by simpa using hl)
theorem atI_any {α : Type} {l : List α} {v : Int} (h0 : -(l.length : Int) ≤ v) (h1 : v < (l.length : Int)) : ∃ x, atI l v = some x ∧ x ∈ l := by
  by_cases hv : 0 ≤ v
  · have hl : v.toNat < l.length := by omega
    refine ⟨l[v.toNat], ?_, List.getElem_mem hl⟩
    unfold atI ixN
    rw [if_pos hv, if_pos h1]
    exact List.getElem?_eq_getElem hl
  · have hl : (v + l.length).toNat < l.length := by omega
    refine ⟨l[(v + l.length).toNat], ?_, List.getElem_mem hl⟩
    unfold atI ixN
    rw [if_neg hv, if_pos h0]
    exact List.getElem?_eq_getElem hl
section
variable {K : PySem.W.Frag} {c : Py.Ctx K} {ρ : Rho} {k : Dv → Prop}
theorem rv_neSame {d : PyData} (hd : SeqAt.shaped d = true) (h : k (.d (.bool false))) : Rv c (rNeD K) ρ (.d d) (.d d) k := rv_neD hd hd (by rw [SeqAt.eqv_refl d (SeqAt.canLay_of_shaped hd)]; exact h)
theorem rv_eqSame {d : PyData} (hd : SeqAt.shaped d = true) (h : k (.d (.bool true))) : Rv c (rEqD K) ρ (.d d) (.d d) k := rv_eqD hd hd (by rw [SeqAt.eqv_refl d (SeqAt.canLay_of_shaped hd)]; exact h)
theorem rc_listOf {ds : List PyData} (h : k (.d (.list ds))) : Rc c (rListOf K) ρ [.d (.list ds)] k := fun σ H vs Q o d q => by
  cases d with
  | cons d1 d2 =>
    cases d2
    change Dp _ _ _ _ at d1
    cases d1 with
    | @lst a xs _ _ hs ha =>
      refine ⟨_, _, rfl, .inl (Evl.ex_l hid_sub hs), fun p hp => ?_⟩
      obtain ⟨o2, e2⟩ := o.new (o := .lst xs) hp
      exact q _ (.d (.list ds)) _ o2 e2 (dp_lst (vis_upd (o.nh hp)) (dpa_mono e2.ex _ _ ha)) h
end
end Py

set_option Elab.async false
set_option linter.all false
set_option autoImplicit false
set_option exponentiation.threshold 3000
namespace Py
open PySem hiding start
open L2
/-! ### points: three numbers in lowest terms -/
@[ext] structure Pt where
  a : Int
  b : Int
  c : Int
  pos : 0 < c
  low : Int.gcd (Int.gcd a b) c = 1
deriving DecidableEq
abbrev ptD (p : Pt) : PyData := .tuple [.int p.a, .int p.b, .int p.c]
def Pt.x (p : Pt) : Rat := Rat.divInt p.a p.c
def Pt.y (p : Pt) : Rat := Rat.divInt p.b p.c
theorem Pt.c_ne (p : Pt) : p.c ≠ 0 := by have := p.pos; omega
theorem gcd3_mul (k a b c : Int) : Int.gcd (Int.gcd (k * a) (k * b)) (k * c) = k.natAbs * Int.gcd (Int.gcd a b) c := by
  rw [Int.gcd_mul_left]
  show Nat.gcd (((k.natAbs * Int.gcd a b : Nat) : Int)).natAbs (k * c).natAbs = _
  rw [Int.natAbs_mul, Int.natAbs_natCast, Nat.gcd_mul_left]
  rfl
theorem dvd3 {k a b c : Int} {d : Int} (h1 : d ∣ k * a) (h2 : d ∣ k * b) (h3 : d ∣ k * c) (h : Int.gcd (Int.gcd a b) c = 1) : d ∣ k := by
  have e := gcd3_mul k a b c
  rw [h, Nat.mul_one] at e
  have z : d ∣ ((Int.gcd (Int.gcd (k * a) (k * b)) (k * c) : Nat) : Int) := Int.dvd_coe_gcd (Int.dvd_coe_gcd h1 h2) h3
  rw [e] at z
  exact Int.dvd_natAbs.mp z
theorem Pt.same {p q : Pt} (h1 : p.a * q.c = q.a * p.c) (h2 : p.b * q.c = q.b * p.c) : p = q := by
  have d1 : p.c ∣ q.c := dvd3 (k := q.c) (a := p.a) (b := p.b) (c := p.c) ⟨q.a, by rw [Int.mul_comm, h1, Int.mul_comm]⟩ ⟨q.b, by rw [Int.mul_comm, h2, Int.mul_comm]⟩ ⟨q.c, Int.mul_comm _ _⟩ p.low
  have d2 : q.c ∣ p.c := dvd3 (k := p.c) (a := q.a) (b := q.b) (c := q.c) ⟨p.a, by rw [Int.mul_comm, ← h1, Int.mul_comm]⟩ ⟨p.b, by rw [Int.mul_comm, ← h2, Int.mul_comm]⟩ ⟨p.c, Int.mul_comm _ _⟩ q.low
  have ec : p.c = q.c := by
    have l1 := Int.le_of_dvd q.pos d1
    have l2 := Int.le_of_dvd p.pos d2
    omega
  have hc := q.c_ne
  rw [ec] at h1 h2
  exact Pt.ext (Int.eq_of_mul_eq_mul_right hc h1) (Int.eq_of_mul_eq_mul_right hc h2) ec
theorem Pt.eq_of {p q : Pt} (h1 : p.x = q.x) (h2 : p.y = q.y) : p = q :=
  Pt.same ((Rat.divInt_eq_divInt_iff p.c_ne q.c_ne).mp h1) ((Rat.divInt_eq_divInt_iff p.c_ne q.c_ne).mp h2)
/-- what three numbers are divided by -/
def by3 (a b c : Int) : Int := if c < 0 then 0 - (Int.gcd (Int.gcd a b) c : Int) else (Int.gcd (Int.gcd a b) c : Int)
theorem by3_facts {a b c : Int} (hc : c ≠ 0) : ∃ a' b' c' : Int, a = by3 a b c * a' ∧ b = by3 a b c * b' ∧ c = by3 a b c * c' ∧ 0 < c' ∧ Int.gcd (Int.gcd a' b') c' = 1 ∧ by3 a b c ≠ 0 ∧ (by3 a b c).natAbs = Int.gcd (Int.gcd a b) c := by
  have hg : (Int.gcd (Int.gcd a b) c) ≠ 0 := fun h => hc (Int.gcd_eq_zero_iff.mp h).2
  have hn : (by3 a b c).natAbs = Int.gcd (Int.gcd a b) c := by
    unfold by3; split <;> omega
  have h0 : by3 a b c ≠ 0 := by intro h; rw [h] at hn; simp at hn; exact hg hn.symm
  have dg : ∀ z : Int, ((Int.gcd (Int.gcd a b) c : Nat) : Int) ∣ z → by3 a b c ∣ z := fun z hz => by
    rw [← hn] at hz
    exact Int.natAbs_dvd.mp hz
  have d0 : ((Int.gcd (Int.gcd a b) c : Nat) : Int) ∣ (Int.gcd a b : Int) := Int.gcd_dvd_left ..
  obtain ⟨a', ha⟩ := dg a (Int.dvd_trans d0 (Int.gcd_dvd_left ..))
  obtain ⟨b', hb⟩ := dg b (Int.dvd_trans d0 (Int.gcd_dvd_right ..))
  obtain ⟨c', hc'⟩ := dg c (Int.gcd_dvd_right ..)
  refine ⟨a', b', c', ha, hb, hc', ?_, ?_, h0, hn⟩
  · by_cases n : c < 0
    · have s : by3 a b c < 0 := by unfold by3; rw [if_pos n]; omega
      rcases Int.lt_trichotomy c' 0 with h | h | h
      · have : 0 < by3 a b c * c' := Int.mul_pos_of_neg_of_neg s h
        omega
      · rw [h, Int.mul_zero] at hc'; omega
      · exact h
    · have s : 0 < by3 a b c := by unfold by3; rw [if_neg n]; omega
      have : 0 < by3 a b c * c' := by rw [← hc']; omega
      exact Int.pos_of_mul_pos_right this s
  · have e := gcd3_mul (by3 a b c) a' b' c'
    rw [← ha, ← hb, ← hc', hn] at e
    have : Int.gcd (Int.gcd a b) c * Int.gcd (Int.gcd a' b') c' = Int.gcd (Int.gcd a b) c * 1 := by omega
    exact Nat.eq_of_mul_eq_mul_left (by omega) this
/-- the point of three numbers -/
def ptBy (a b c : Int) (hc : c ≠ 0) : Pt :=
  ⟨a.fdiv (by3 a b c), b.fdiv (by3 a b c), c.fdiv (by3 a b c), by
    obtain ⟨a', b', c', h1, h2, h3, h4, h5, h6, _⟩ := by3_facts (a := a) (b := b) hc
    rw [h3, ← h3, show c.fdiv (by3 a b c) = c' from by conv => lhs; rw [show c.fdiv (by3 a b c) = (by3 a b c * c').fdiv (by3 a b c) from by rw [← h3]]; rw [Int.mul_fdiv_cancel_left _ h6]]
    exact h4, by
    obtain ⟨a', b', c', h1, h2, h3, h4, h5, h6, _⟩ := by3_facts (a := a) (b := b) hc
    have e : ∀ z z' : Int, z = by3 a b c * z' → z.fdiv (by3 a b c) = z' := fun z z' h => by
      conv => lhs; rw [h]
      exact Int.mul_fdiv_cancel_left _ h6
    rw [e a a' h1, e b b' h2, e c c' h3]
    exact h5⟩
theorem ptBy_x {a b c : Int} (hc : c ≠ 0) : (ptBy a b c hc).x = Rat.divInt a c ∧ (ptBy a b c hc).y = Rat.divInt b c := by
  obtain ⟨a', b', c', h1, h2, h3, h4, h5, h6, _⟩ := by3_facts (a := a) (b := b) hc
  show Rat.divInt (a.fdiv (by3 a b c)) (c.fdiv (by3 a b c)) = _ ∧ Rat.divInt (b.fdiv (by3 a b c)) (c.fdiv (by3 a b c)) = _
  generalize by3 a b c = s at *
  subst h1 h2 h3
  rw [Int.mul_fdiv_cancel_left _ h6, Int.mul_fdiv_cancel_left _ h6, Int.mul_fdiv_cancel_left _ h6, Rat.divInt_mul_left h6, Rat.divInt_mul_left h6]
  exact ⟨rfl, rfl⟩
/-- the point of two fractions -/
def ptOf (x y : Rat) : Pt := ptBy (x.num * y.den) (y.num * x.den) (x.den * y.den) (den_mul_ne x y)
theorem ptOf_x (x y : Rat) : (ptOf x y).x = x ∧ (ptOf x y).y = y := by
  obtain ⟨h1, h2⟩ := ptBy_x (a := x.num * y.den) (b := y.num * x.den) (den_mul_ne x y)
  refine ⟨h1.trans ?_, h2.trans ?_⟩
  · rw [Rat.divInt_mul_right (den_ne y), Rat.num_divInt_den]
  · rw [Int.mul_comm (x.den : Int), Rat.divInt_mul_right (den_ne x), Rat.num_divInt_den]
theorem ptOf_xy (p : Pt) : ptOf p.x p.y = p := Pt.eq_of (ptOf_x _ _).1 (ptOf_x _ _).2
theorem ptBy_eq {a b c : Int} (hc : c ≠ 0) {p : Pt} (h1 : Rat.divInt a c = p.x) (h2 : Rat.divInt b c = p.y) : ptBy a b c hc = p := Pt.eq_of ((ptBy_x hc).1.trans h1) ((ptBy_x hc).2.trans h2)
/-- sizes of points -/
structure ptB (n : Nat) (p : Pt) : Prop where
  n0 : 0 < n
  a : p.a.natAbs < 2 ^ n
  b : p.b.natAbs < 2 ^ n
  c : p.c.natAbs < 2 ^ n
theorem ptB.mono {n m : Nat} {p : Pt} (h : ptB n p) (e : n ≤ m) : ptB m p :=
  ⟨Nat.lt_of_lt_of_le h.n0 e, Nat.lt_of_lt_of_le h.a (Nat.pow_le_pow_right (by decide) e), Nat.lt_of_lt_of_le h.b (Nat.pow_le_pow_right (by decide) e), Nat.lt_of_lt_of_le h.c (Nat.pow_le_pow_right (by decide) e)⟩
theorem fdiv_le {a b c z z' : Int} (h : z = by3 a b c * z') (h6 : by3 a b c ≠ 0) : (z.fdiv (by3 a b c)).natAbs ≤ z.natAbs := by
  have e : z.fdiv (by3 a b c) = z' := by
    conv => lhs; rw [h]
    exact Int.mul_fdiv_cancel_left _ h6
  rw [e]
  conv => rhs; rw [h]
  rw [Int.natAbs_mul]
  have : 0 < (by3 a b c).natAbs := by omega
  exact Nat.le_mul_of_pos_left _ this
theorem ptB_by {a b c : Int} {n : Nat} (hc : c ≠ 0) (h0 : 0 < n) (ha : a.natAbs < 2 ^ n) (hb : b.natAbs < 2 ^ n) (hc' : c.natAbs < 2 ^ n) : ptB n (ptBy a b c hc) := by
  obtain ⟨a', b', c', h1, h2, h3, h4, h5, h6, _⟩ := by3_facts (a := a) (b := b) hc
  exact ⟨h0, Nat.lt_of_le_of_lt (fdiv_le h1 h6) ha, Nat.lt_of_le_of_lt (fdiv_le h2 h6) hb, Nat.lt_of_le_of_lt (fdiv_le h3 h6) hc'⟩
theorem by3_div {a b c : Int} {n : Nat} (hc : c ≠ 0) (h : c.natAbs < 2 ^ n) (h0 : 0 < n) (hn : n ≤ 9000) (z : Int) : CDivX z (by3 a b c) := by
  obtain ⟨_, _, _, _, _, _, _, _, h6, h7⟩ := by3_facts (a := a) (b := b) hc
  refine ⟨h6, ?_⟩
  rw [h7]
  exact gcd_log hc h h0 hn
theorem frB_x {p : Pt} {n : Nat} (h : ptB n p) : frB n p.x := frB_div p.c_ne h.n0 h.a h.c
theorem frB_y {p : Pt} {n : Nat} (h : ptB n p) : frB n p.y := frB_div p.c_ne h.n0 h.b h.c
theorem ptB_of {x y : Rat} {n m : Nat} (hx : frB n x) (hy : frB m y) : ptB (n + m) (ptOf x y) := by
  refine ptB_by _ (by have := hx.n0; omega) ?_ ?_ ?_
  · rw [Int.natAbs_mul]; exact two_pow_add_lt hx.nu hy.dei
  · rw [Int.natAbs_mul, Nat.add_comm]; exact two_pow_add_lt hy.nu hx.dei
  · rw [Int.natAbs_mul]; exact two_pow_add_lt hx.dei hy.dei
theorem shp_pt {n : Nat} (p : Pt) : Shp (n + 1) (ptD p) := shp_tup (fun d hd => by
  simp at hd
  rcases hd with rfl | rfl | rfl <;> exact shp_int _) (Nat.le_of_ble_eq_true rfl)
theorem eqv_pt (p q : Pt) : PyData.eqv (ptD p) (ptD q) = decide (p = q) := by
  have := eqv_ints [p.a, p.b, p.c] [q.a, q.b, q.c]
  refine Eq.trans this (decide_eq_decide.mpr ⟨fun h => ?_, fun h => by rw [h]⟩)
  simp at h
  exact Pt.ext h.1 h.2.1 h.2.2
theorem eqv_fr (p q : Rat) : PyData.eqv (frD p) (frD q) = decide (p = q) := by
  have := eqv_ints [p.num, p.den] [q.num, q.den]
  refine Eq.trans this (decide_eq_decide.mpr ⟨fun h => ?_, fun h => by rw [h]⟩)
  simp at h
  exact Rat.ext h.1 (by exact_mod_cast h.2)
end Py
namespace Py
open PySem hiding start
open L2
theorem ptBy_neg {a b c : Int} (hc : c ≠ 0) (hc' : 0 - c ≠ 0) : ptBy (0 - a) (0 - b) (0 - c) hc' = ptBy a b c hc := by
  have e : ∀ z : Int, Rat.divInt (0 - z) (0 - c) = Rat.divInt z c := fun z => by
    rw [Int.zero_sub, Int.zero_sub, Rat.neg_divInt_neg]
  refine ptBy_eq hc' ?_ ?_
  · rw [e]; exact (ptBy_x hc).1.symm
  · rw [e]; exact (ptBy_x hc).2.symm
theorem ptD_ints (p : Pt) : ptD p = .tuple ([p.a, p.b, p.c].map .int) := rfl
theorem gcd_rot (a b c : Int) : Int.gcd (Int.gcd c a) b = Int.gcd (Int.gcd a b) c := by
  rw [Int.gcd_assoc, Int.gcd_comm]
theorem by3_pos {a b c : Int} (hc : 0 < c) : by3 a b c = (Int.gcd (Int.gcd a b) c : Int) := if_neg (by omega)
end Py

set_option Elab.async false
set_option linter.all false
set_option autoImplicit false
set_option exponentiation.threshold 3000
namespace Py
open PySem hiding start
open L2
/-! ### turns -/
theorem divInt_q (a c : Int) : Rat.divInt a c = (a : Rat) / (c : Rat) := Rat.divInt_eq_div a c
theorem Pt.cq (p : Pt) : (p.c : Rat) ≠ 0 := by
  have := p.c_ne
  exact_mod_cast this
theorem Pt.cqp (p : Pt) : (0 : Rat) < (p.c : Rat) := by
  have := p.pos
  exact_mod_cast this
theorem Pt.xc (p : Pt) : (p.a : Rat) = p.x * p.c := by
  have h := p.cq
  unfold Pt.x
  rw [divInt_q]
  grind
theorem Pt.yc (p : Pt) : (p.b : Rat) = p.y * p.c := by
  have h := p.cq
  unfold Pt.y
  rw [divInt_q]
  grind
def crI (p q r : Pt) : Int := (q.a * p.c - p.a * q.c) * (r.b * p.c - p.b * r.c) - (q.b * p.c - p.b * q.c) * (r.a * p.c - p.a * r.c)
def crQ (p q r : Pt) : Rat := (q.x - p.x) * (r.y - p.y) - (q.y - p.y) * (r.x - p.x)
/-- the sign of a fraction -/
def sg (q : Rat) : Int := if 0 < q then 1 else if q < 0 then -1 else 0
def tn (p q r : Pt) : Int := sg (crQ p q r)
theorem cr_eq (p q r : Pt) : ((crI p q r : Int) : Rat) = crQ p q r * (p.c * p.c * q.c * r.c) := by
  unfold crI crQ
  have h1 := p.xc
  have h2 := p.yc
  have h3 := q.xc
  have h4 := q.yc
  have h5 := r.xc
  have h6 := r.yc
  simp only [Rat.intCast_sub, Rat.intCast_mul]
  rw [h1, h2, h3, h4, h5, h6]
  grind
theorem sg_neg (q : Rat) : sg (-q) = - sg q := by
  unfold sg
  by_cases h1 : 0 < q
  · rw [if_neg (by grind), if_pos (by grind), if_pos h1]
  · by_cases h2 : q < 0
    · rw [if_pos (by grind), if_neg h1, if_pos h2]; rfl
    · rw [if_neg (by grind), if_neg (by grind), if_neg h1, if_neg h2]; rfl
theorem sg_int {i : Int} {q d : Rat} (hd : 0 < d) (h : (i : Rat) = q * d) : sg q = (if i > 0 then 1 else if i < 0 then -1 else 0) := by
  unfold sg
  have e1 : 0 < q ↔ 0 < i := by
    have : (0 : Rat) < (i : Rat) ↔ 0 < i := by exact_mod_cast Iff.rfl
    rw [← this, h]
    constructor
    · intro z; exact Rat.mul_pos z hd
    · intro z
      by_cases q0 : 0 < q
      · exact q0
      · exfalso
        have : q ≤ 0 := by grind
        have := Rat.mul_le_mul_of_nonneg_right this (Rat.le_of_lt hd)
        grind
  have e2 : q < 0 ↔ i < 0 := by
    have : (i : Rat) < (0 : Rat) ↔ i < 0 := by exact_mod_cast Iff.rfl
    rw [← this, h]
    constructor
    · intro z
      have z' : 0 < -q := by grind
      have := Rat.mul_pos z' hd
      grind
    · intro z
      by_cases q0 : q < 0
      · exact q0
      · exfalso
        have : 0 ≤ q := by grind
        have := Rat.mul_le_mul_of_nonneg_right this (Rat.le_of_lt hd)
        grind
  by_cases h1 : 0 < i
  · rw [if_pos (e1.mpr h1), if_pos h1]
  · rw [if_neg (fun z => h1 (e1.mp z)), if_neg h1]
    by_cases h2 : i < 0
    · rw [if_pos (e2.mpr h2), if_pos h2]
    · rw [if_neg (fun z => h2 (e2.mp z)), if_neg h2]
theorem tn_int (p q r : Pt) : tn p q r = (if crI p q r > 0 then 1 else if crI p q r < 0 then -1 else 0) :=
  sg_int (Rat.mul_pos (Rat.mul_pos (Rat.mul_pos p.cqp p.cqp) q.cqp) r.cqp) (cr_eq p q r)
theorem tn_rot (p q r : Pt) : tn q r p = tn p q r := by
  unfold tn crQ
  congr 1
  grind
theorem tn_flip (p q r : Pt) : tn q p r = - tn p q r := by
  unfold tn
  rw [← sg_neg]
  congr 1
  unfold crQ
  grind
end Py
namespace Py
open PySem hiding start
open L2
/-! ### sizes of what turns reckon -/
theorem nsub {a b : Int} {n : Nat} (ha : a.natAbs < 2 ^ n) (hb : b.natAbs < 2 ^ n) : (a - b).natAbs < 2 ^ (n + 1) := by
  have : 2 ^ (n + 1) = 2 * 2 ^ n := by rw [Nat.pow_succ, Nat.mul_comm]
  omega
theorem nadd {a b : Int} {n : Nat} (ha : a.natAbs < 2 ^ n) (hb : b.natAbs < 2 ^ n) : (a + b).natAbs < 2 ^ (n + 1) := by
  have : 2 ^ (n + 1) = 2 * 2 ^ n := by rw [Nat.pow_succ, Nat.mul_comm]
  omega
theorem nmul {a b : Int} {n m : Nat} (ha : a.natAbs < 2 ^ n) (hb : b.natAbs < 2 ^ m) : (a * b).natAbs < 2 ^ (n + m) := by
  rw [Int.natAbs_mul]; exact two_pow_add_lt ha hb
theorem nup {a : Int} {n m : Nat} (ha : a.natAbs < 2 ^ n) (h : n ≤ m) : a.natAbs < 2 ^ m := Nat.lt_of_lt_of_le ha (Nat.pow_le_pow_right (by decide) h)
/-- a product of numbers of these sizes may be reckoned -/
theorem cmul {a b : Int} {n m : Nat} (ha : a.natAbs < 2 ^ n) (hb : b.natAbs < 2 ^ m) (h : n + m ≤ 999998) : CMulW a b :=
  wide_mul (nup ha (Nat.le_succ n)) (nup hb (Nat.le_succ m)) (by omega) (by omega) (by omega)
structure ptS (n : Nat) (p : Pt) : Prop where
  a : p.a.natAbs < 2 ^ n
  b : p.b.natAbs < 2 ^ n
  c : p.c.natAbs < 2 ^ n
theorem ptB.S {n : Nat} {p : Pt} (h : ptB n p) : ptS n p := ⟨h.a, h.b, h.c⟩
theorem ptS.mono {n m : Nat} {p : Pt} (h : ptS n p) (e : n ≤ m) : ptS m p := ⟨nup h.a e, nup h.b e, nup h.c e⟩
/-- twice of two points -/
def tw (p q : Pt) : Rat := p.x * q.y - p.y * q.x
theorem tw_eq (p q : Pt) : Rat.divInt (p.a * q.b - p.b * q.a) (p.c * q.c) = tw p q := by
  have h1 := p.xc
  have h2 := p.yc
  have h3 := q.xc
  have h4 := q.yc
  have hp := p.cq
  have hq := q.cq
  rw [divInt_q]
  unfold tw
  simp only [Rat.intCast_sub, Rat.intCast_mul]
  rw [h1, h2, h3, h4]
  grind
theorem cc_ne (p q : Pt) : p.c * q.c ≠ 0 := Int.mul_ne_zero p.c_ne q.c_ne
theorem cc_pos (p q : Pt) : 0 < p.c * q.c := Int.mul_pos p.pos q.pos
end Py
namespace Py
open PySem hiding start
open L2
instance : Inhabited Pt := ⟨⟨0, 0, 1, by decide, by decide⟩⟩
/-- the twices of a round -/
def rsL (ps : List Pt) : List Rat := (List.range ps.length).map fun k => tw (ps[(k + ps.length - 1) % ps.length]!) (ps[k]!)
def rs (ps : List Pt) : Rat := sumQ (rsL ps)
theorem at_cur {ps : List Pt} {k : Nat} (h : k < ps.length) : atI (ps.map ptD) (k : Int) = some (ptD ps[k]!) := by
  unfold atI ixN
  rw [if_pos (by omega), if_pos (by rw [List.length_map]; omega)]
  show (ps.map ptD)[(k : Int).toNat]? = _
  rw [Int.toNat_natCast, List.getElem?_map, List.getElem?_eq_getElem h, getElem!_pos ps k h]
  rfl
theorem at_prev {ps : List Pt} {k : Nat} (h : k < ps.length) : atI (ps.map ptD) ((k : Int) - 1) = some (ptD ps[(k + ps.length - 1) % ps.length]!) := by
  have hm : (k + ps.length - 1) % ps.length < ps.length := Nat.mod_lt _ (by omega)
  have e : (ps.map ptD)[(k + ps.length - 1) % ps.length]? = some (ptD ps[(k + ps.length - 1) % ps.length]!) := by
    rw [List.getElem?_map, List.getElem?_eq_getElem hm, getElem!_pos ps _ hm]
    rfl
  by_cases h0 : k = 0
  · subst h0
    have e2 : (0 + ps.length - 1) % ps.length = ps.length - 1 := by rw [Nat.zero_add]; exact Nat.mod_eq_of_lt (by omega)
    rw [e2] at e
    rw [e2]
    unfold atI ixN
    rw [if_neg (by omega), if_pos (by rw [List.length_map]; omega)]
    show (ps.map ptD)[(((0 : Nat) : Int) - 1 + (ps.map ptD).length).toNat]? = _
    have e3 : (((0 : Nat) : Int) - 1 + ((ps.map ptD).length : Int)).toNat = ps.length - 1 := by rw [List.length_map]; omega
    rw [e3]; exact e
  · have e2 : (k + ps.length - 1) % ps.length = k - 1 := by
      have : k + ps.length - 1 = k - 1 + ps.length := by omega
      rw [this, Nat.add_mod_right]
      exact Nat.mod_eq_of_lt (by omega)
    rw [e2] at e
    rw [e2]
    unfold atI ixN
    rw [if_pos (by omega), if_pos (by rw [List.length_map]; omega)]
    show (ps.map ptD)[((k : Int) - 1).toNat]? = _
    have e3 : ((k : Int) - 1).toNat = k - 1 := by omega
    rw [e3]; exact e
theorem rsL_get {ps : List Pt} {k : Nat} (h : k < ps.length) : (rsL ps)[k]? = some (tw (ps[(k + ps.length - 1) % ps.length]!) (ps[k]!)) := by
  unfold rsL
  rw [List.getElem?_map, List.getElem?_range h]
  rfl
theorem mem_at {ps : List Pt} {k : Nat} (h : k < ps.length) : ps[k]! ∈ ps ∧ ps[(k + ps.length - 1) % ps.length]! ∈ ps := by
  have hm : (k + ps.length - 1) % ps.length < ps.length := Nat.mod_lt _ (by omega)
  rw [getElem!_pos ps k h, getElem!_pos ps _ hm]
  exact ⟨List.getElem_mem h, List.getElem_mem hm⟩
theorem tw_S {p q : Pt} {n d : Nat} (hp : ptS n p) (hq : ptS n q) (dp : p.c.natAbs < 2 ^ d) (dq : q.c.natAbs < 2 ^ d) (d0 : 0 < d) : frS (2 * n + 1) (2 * d) (tw p q) := by
  rw [← tw_eq]
  have e1 : 2 * n = n + n := by omega
  have e2 : 2 * d = d + d := by omega
  rw [e1, e2]
  exact frS_div (cc_ne p q) (by omega) (by omega) (nsub (nmul hp.a hq.b) (nmul hp.b hq.a)) (nmul dp dq)
/-- a fraction kept as a top and a bottom -/
structure KeptR (qs : List Rat) (i n d : Nat) (t b : Int) : Prop where
  pos : 0 < b
  eq : Rat.divInt t b = sumQ (qs.take i)
  tb : t.natAbs < 2 ^ ((2 * n + 2 * d + 2) * i + 1)
  bb : b.natAbs < 2 ^ (2 * d * i + 1)
theorem KeptR.next {ps : List Pt} {i n d : Nat} {t b : Int} {p q : Pt} (h : KeptR (rsL ps) i n d t b) (z : (rsL ps)[i]? = some (tw p q)) (hp : ptS n p) (hq : ptS n q) (dp : p.c.natAbs < 2 ^ d) (dq : q.c.natAbs < 2 ^ d) :
    KeptR (rsL ps) (i + 1) n d (t * p.c * q.c + (p.a * q.b - q.a * p.b) * b) (b * p.c * q.c) := by
  have e1 : (2 * n + 2 * d + 2) * (i + 1) + 1 = (2 * n + 2 * d + 2) * i + 1 + 2 * n + 2 * d + 1 + 1 := by rw [Nat.mul_succ]; omega
  have e2 : 2 * d * (i + 1) + 1 = 2 * d * i + 1 + d + d := by rw [Nat.mul_succ]; omega
  have e3 : 2 * d * i ≤ (2 * n + 2 * d + 2) * i := Nat.mul_le_mul_right _ (by omega)
  refine ⟨Int.mul_pos (Int.mul_pos h.pos p.pos) q.pos, ?_, ?_, ?_⟩
  · rw [sumQ_take z, ← h.eq]
    have hb : (b : Rat) ≠ 0 := by have := h.pos; exact_mod_cast (show b ≠ 0 by omega)
    have h1 := p.xc
    have h2 := p.yc
    have h3 := q.xc
    have h4 := q.yc
    have hp := p.cq
    have hq := q.cq
    rw [divInt_q, divInt_q]
    unfold tw
    simp only [Rat.intCast_sub, Rat.intCast_mul, Rat.intCast_add]
    rw [h1, h2, h3, h4]
    grind
  · rw [e1]
    refine nadd (nup (nmul (nmul h.tb dp) dq) (by omega)) (nup (nmul (nsub (nmul hp.a hq.b) (nmul hq.a hp.b)) h.bb) (by omega))
  · rw [e2]
    exact nmul (nmul h.bb dp) dq
theorem KeptR.zero (qs : List Rat) (n d : Nat) : KeptR qs 0 n d 0 1 := ⟨by decide, rfl, by simp, by simp⟩
def Pt.quarter (p : Pt) : Pt := ⟨0 - p.b, p.a, p.c, p.pos, by
  have := p.low
  rw [Int.zero_sub, Int.gcd_comm (-p.b), Int.gcd_neg]
  exact this⟩
def Pt.mirror (p : Pt) : Pt := ⟨p.b, p.a, p.c, p.pos, by rw [Int.gcd_comm p.b]; exact p.low⟩
theorem quarter_xy (p : Pt) : p.quarter.x = -p.y ∧ p.quarter.y = p.x := by
  constructor
  · show Rat.divInt (0 - p.b) p.c = - Rat.divInt p.b p.c
    rw [Int.zero_sub, Rat.neg_divInt]
  · rfl
theorem mirror_xy (p : Pt) : p.mirror.x = p.y ∧ p.mirror.y = p.x := ⟨rfl, rfl⟩
theorem tn_quarter (p q r : Pt) : tn p.quarter q.quarter r.quarter = tn p q r := by
  unfold tn crQ
  rw [(quarter_xy p).1, (quarter_xy p).2, (quarter_xy q).1, (quarter_xy q).2, (quarter_xy r).1, (quarter_xy r).2]
  congr 1
  grind
theorem tn_mirror (p q r : Pt) : tn p.mirror q.mirror r.mirror = 0 - tn p q r := by
  unfold tn crQ
  rw [(mirror_xy p).1, (mirror_xy p).2, (mirror_xy q).1, (mirror_xy q).2, (mirror_xy r).1, (mirror_xy r).2, Int.zero_sub, ← sg_neg]
  congr 1
  grind
theorem tn_moved {p q r p' q' r' m : Pt} (hp : p'.x = p.x + m.x ∧ p'.y = p.y + m.y) (hq : q'.x = q.x + m.x ∧ q'.y = q.y + m.y) (hr : r'.x = r.x + m.x ∧ r'.y = r.y + m.y) : tn p' q' r' = tn p q r := by
  unfold tn crQ
  rw [hp.1, hp.2, hq.1, hq.2, hr.1, hr.2]
  congr 1
  grind
end Py
namespace Py
open PySem hiding start
open L2
theorem qS {n : Nat} {p : Pt} (h : ptS n p) : ptS n p.quarter := ⟨by show (0 - p.b).natAbs < _; have := h.b; omega, h.a, h.c⟩
theorem mS {n : Nat} {p : Pt} (h : ptS n p) : ptS n p.mirror := ⟨h.b, h.a, h.c⟩
theorem tw_flip (p q : Pt) : tw q p = -(tw p q) := by
  unfold tw
  grind
end Py

set_option Elab.async false
set_option linter.all false
set_option autoImplicit false
set_option exponentiation.threshold 3000
namespace Py
open PySem hiding start
open L2
/-! ### the order of points; sides -/
def ahd (p q : Pt) : Bool := if p.x = q.x then decide (p.y < q.y) else decide (p.x < q.x)
theorem lt_cross {pa pc qa qc : Int} (hp : 0 < pc) (hq : 0 < qc) : (pa * qc < qa * pc) ↔ (Rat.divInt pa pc < Rat.divInt qa qc) := by
  have h1 : (0 : Rat) < (pc : Rat) := by exact_mod_cast hp
  have h2 : (0 : Rat) < (qc : Rat) := by exact_mod_cast hq
  have e : (pa * qc < qa * pc) ↔ ((pa : Rat) * qc < (qa : Rat) * pc) := by
    constructor
    · intro h; exact_mod_cast h
    · intro h; exact_mod_cast h
  rw [e, divInt_q, divInt_q]
  have e1 : (pa : Rat) = (pa : Rat) / pc * pc := by grind
  have e2 : (qa : Rat) = (qa : Rat) / qc * qc := by grind
  generalize (pa : Rat) / pc = u at *
  generalize (qa : Rat) / qc = v at *
  rw [e1, e2]
  have h3 := Rat.mul_pos h1 h2
  constructor
  · intro h
    have : u * (pc * qc) < v * (pc * qc) := by grind
    exact Rat.lt_of_mul_lt_mul_right this (Rat.le_of_lt h3)
  · intro h
    have := Rat.mul_lt_mul_of_pos_right h h3
    grind
theorem eq_cross {pa pc qa qc : Int} (hp : pc ≠ 0) (hq : qc ≠ 0) : (pa * qc = qa * pc) ↔ (Rat.divInt pa pc = Rat.divInt qa qc) := (Rat.divInt_eq_divInt_iff hp hq).symm
theorem ahd_int (p q : Pt) : ahd p q = if p.a * q.c = q.a * p.c then decide (p.b * q.c < q.b * p.c) else decide (p.a * q.c < q.a * p.c) := by
  unfold ahd Pt.x Pt.y
  simp only [eq_cross p.c_ne q.c_ne, lt_cross p.pos q.pos]
/-- whether a point lies on the side from a to b -/
def onS (p a b : Pt) : Bool := if tn a b p ≠ 0 then false else if ahd b a then (!ahd p b && !ahd a p) else (!ahd p a && !ahd b p)
theorem ahd_irr (p : Pt) : ahd p p = false := by
  unfold ahd
  rw [if_pos rfl]
  exact decide_eq_false (by grind)
theorem ahd_flip {p q : Pt} (h : p ≠ q) : ahd q p = !ahd p q := by
  unfold ahd
  by_cases hx : p.x = q.x
  · rw [if_pos hx, if_pos hx.symm]
    have hy : p.y ≠ q.y := fun z => h (Pt.eq_of hx z)
    rw [← decide_not]
    exact decide_eq_decide.mpr (by grind)
  · rw [if_neg hx, if_neg (fun z => hx z.symm), ← decide_not]
    exact decide_eq_decide.mpr (by grind)
theorem tn_swap0 (a b p : Pt) : (tn b a p = 0) ↔ (tn a b p = 0) := by
  rw [tn_flip]; omega
theorem onS_flip {p a b : Pt} (h : a ≠ b) : onS p b a = onS p a b := by
  unfold onS
  have e := ahd_flip h
  have t := tn_swap0 a b p
  by_cases h0 : tn a b p = 0
  · have hb : tn b a p = 0 := t.mpr h0
    simp only [hb, h0, ne_eq, not_true_eq_false, if_false, e]
    cases ahd a b <;> rfl
  · have hb : ¬ tn b a p = 0 := fun z => h0 (t.mp z)
    rw [if_pos hb, if_pos h0]
theorem ahd_x {p q : Pt} (h : p.x = q.x → p.y = q.y) : ahd p q = decide (p.x < q.x) := by
  unfold ahd
  by_cases e : p.x = q.x
  · rw [if_pos e]
    have := h e
    exact decide_eq_decide.mpr (by grind)
  · rw [if_neg e]
theorem onS_law {p a b : Pt} (h : a ≠ b) : onS p a b = if tn a b p ≠ 0 then false else if ahd a b then (!ahd p a && !ahd b p) else (!ahd p b && !ahd a p) := by
  unfold onS
  rw [ahd_flip h]
  cases ahd a b <;> rfl
/-- a point of the line, told by where it lies along it -/
theorem onS_along {a b r : Pt} {l : Rat} (hab : a ≠ b) (hx : r.x = a.x + (b.x - a.x) * l) (hy : r.y = a.y + (b.y - a.y) * l) : onS r a b = decide (0 ≤ l ∧ l ≤ 1) := by
  have h0 : tn a b r = 0 := by
    have : crQ a b r = 0 := by unfold crQ; rw [hx, hy]; grind
    unfold tn
    rw [this]; rfl
  rw [onS_law hab, if_neg (by simp [h0])]
  have key : ∀ u v : Rat, u < v → ∀ w : Rat, w = u + (v - u) * l → (¬ w < u ↔ 0 ≤ l) ∧ (¬ v < w ↔ l ≤ 1) := fun u v huv w hw => by
    have hd : 0 < v - u := by grind
    constructor
    · constructor
      · intro h
        by_cases q : 0 ≤ l
        · exact q
        · exfalso
          have q' : 0 < -l := by grind
          have := Rat.mul_pos hd q'
          grind
      · intro h z
        have := Rat.mul_nonneg (Rat.le_of_lt hd) h
        grind
    · constructor
      · intro h
        by_cases q : l ≤ 1
        · exact q
        · exfalso
          have q' : 0 < l - 1 := by grind
          have := Rat.mul_pos hd q'
          grind
      · intro h z
        have q' : 0 ≤ 1 - l := by grind
        have := Rat.mul_nonneg (Rat.le_of_lt hd) q'
        grind
  have key2 : ∀ u v : Rat, v < u → ∀ w : Rat, w = u + (v - u) * l → (¬ u < w ↔ 0 ≤ l) ∧ (¬ w < v ↔ l ≤ 1) := fun u v huv w hw => by
    have := key (-u) (-v) (by grind) (-w) (by grind)
    constructor
    · rw [← this.1]; constructor <;> intro h z <;> exact h (by grind)
    · rw [← this.2]; constructor <;> intro h z <;> exact h (by grind)
  by_cases ex : a.x = b.x
  · have rx : r.x = a.x := by rw [hx, ex]; grind
    have ny : a.y ≠ b.y := fun z => hab (Pt.eq_of ex z)
    by_cases ly : a.y < b.y
    · obtain ⟨k1, k2⟩ := key a.y b.y ly r.y hy
      have e1 : ahd a b = true := by unfold ahd; rw [if_pos ex]; exact decide_eq_true ly
      have e2 : ahd r a = decide (r.y < a.y) := by unfold ahd; rw [if_pos rx]
      have e3 : ahd b r = decide (b.y < r.y) := by unfold ahd; rw [if_pos (ex.symm.trans rx.symm)]
      rw [e1, if_pos rfl, e2, e3, ← decide_not, ← decide_not, ← Bool.decide_and]
      exact decide_eq_decide.mpr (by rw [k1, k2])
    · have ly' : b.y < a.y := by grind
      obtain ⟨k1, k2⟩ := key2 a.y b.y ly' r.y hy
      have e1 : ahd a b = false := by unfold ahd; rw [if_pos ex]; exact decide_eq_false ly
      have e2 : ahd r b = decide (r.y < b.y) := by unfold ahd; rw [if_pos (rx.trans ex)]
      have e3 : ahd a r = decide (a.y < r.y) := by unfold ahd; rw [if_pos rx.symm]
      rw [e1, if_neg Bool.false_ne_true, e2, e3, ← decide_not, ← decide_not, ← Bool.decide_and]
      exact decide_eq_decide.mpr (by rw [k1, k2]; exact And.comm)
  · have hd : b.x - a.x ≠ 0 := by grind
    have ra : r.x = a.x → r.y = a.y := fun z => by
      have h1 : (b.x - a.x) * l = 0 := by grind
      have : l = 0 := by
        rcases Rat.mul_eq_zero.mp h1 with q | q
        · exact absurd q hd
        · exact q
      rw [hy, this]; grind
    have rb : r.x = b.x → r.y = b.y := fun z => by
      have h1 : (b.x - a.x) * (l - 1) = 0 := by grind
      have : l - 1 = 0 := by
        rcases Rat.mul_eq_zero.mp h1 with q | q
        · exact absurd q hd
        · exact q
      have : l = 1 := by grind
      rw [hy, this]; grind
    by_cases lx : a.x < b.x
    · obtain ⟨k1, k2⟩ := key a.x b.x lx r.x hx
      have e1 : ahd a b = true := by unfold ahd; rw [if_neg ex]; exact decide_eq_true lx
      rw [e1, if_pos rfl, ahd_x ra, ahd_x (fun z => (rb z.symm).symm), ← decide_not, ← decide_not, ← Bool.decide_and]
      exact decide_eq_decide.mpr (by rw [k1, k2])
    · obtain ⟨k1, k2⟩ := key2 a.x b.x (by grind) r.x hx
      have e1 : ahd a b = false := by unfold ahd; rw [if_neg ex]; exact decide_eq_false lx
      rw [e1, if_neg Bool.false_ne_true, ahd_x rb, ahd_x (fun z => (ra z.symm).symm), ← decide_not, ← decide_not, ← Bool.decide_and]
      exact decide_eq_decide.mpr (by rw [k1, k2]; exact And.comm)
/-- a point off the line is on no side of it -/
theorem onS_off {a b p : Pt} (h : crQ a b p ≠ 0) : onS p a b = false := by
  unfold onS
  have : tn a b p ≠ 0 := by
    unfold tn sg
    by_cases h1 : 0 < crQ a b p
    · rw [if_pos h1]; decide
    · rw [if_neg h1, if_pos (by grind)]; decide
  rw [if_pos this]
theorem sq_pos {u v : Rat} (h : u ≠ 0 ∨ v ≠ 0) : 0 < u * u + v * v := by
  have h1 : ∀ z : Rat, 0 ≤ z * z := fun z => by
    by_cases q : 0 ≤ z
    · exact Rat.mul_nonneg q q
    · have : 0 ≤ (-z) := by grind
      have := Rat.mul_nonneg this this
      grind
  have h2 : ∀ z : Rat, z ≠ 0 → 0 < z * z := fun z hz => by
    have := h1 z
    have : z * z ≠ 0 := fun q => by
      rcases Rat.mul_eq_zero.mp q with q | q <;> exact hz q
    grind
  rcases h with h | h
  · have := h2 u h; have := h1 v; grind
  · have := h2 v h; have := h1 u; grind
/-- how far above the line through a and b passes at x -/
def hgt (a b : Pt) (x : Rat) : Rat := a.y + (b.y - a.y) / (b.x - a.x) * (x - a.x)
theorem hgt_flip {a b : Pt} (h : a.x ≠ b.x) (x : Rat) : hgt b a x = hgt a b x := by
  unfold hgt
  have h1 : b.x - a.x ≠ 0 := by grind
  have h2 : a.x - b.x ≠ 0 := by grind
  grind
theorem num_eq (h : Rat) : (h.num : Rat) = h * (((h.den : Nat) : Int) : Rat) := by
  have e := Rat.num_divInt_den h
  rw [divInt_q] at e
  have d : (((h.den : Nat) : Int) : Rat) ≠ 0 := by exact_mod_cast den_ne h
  generalize (((h.den : Nat) : Int) : Rat) = z at *
  generalize (h.num : Rat) = y at *
  grind
theorem div_eq {h w : Rat} (hw : w ≠ 0) : Rat.divInt (h.num * w.den) (h.den * w.num) = h / w := by
  have d1 : (((h.den : Nat) : Int) : Rat) ≠ 0 := by exact_mod_cast den_ne h
  have d2 : (((w.den : Nat) : Int) : Rat) ≠ 0 := by exact_mod_cast den_ne w
  have e1 := num_eq h
  have e2 := num_eq w
  rw [divInt_q]
  simp only [Rat.intCast_mul]
  generalize (((h.den : Nat) : Int) : Rat) = z at *
  generalize (((w.den : Nat) : Int) : Rat) = y at *
  generalize (h.num : Rat) = u at *
  generalize (w.num : Rat) = v at *
  subst e1 e2
  grind
theorem num_ne {w : Rat} (h : w ≠ 0) : w.num ≠ 0 := fun z => h (by rwa [Rat.num_eq_zero] at z)
end Py
namespace Py
open PySem hiding start
open L2
theorem bneq_q {p : Pt} {a b : Rat} (h : a = b) : a = b := h
theorem q_div_pos {u v : Rat} (hu : 0 < u) (hv : 0 < v) : 0 < u / v := by
  by_cases h : 0 < u / v
  · exact h
  · exfalso
    have h1 : 0 ≤ -(u / v) := by grind
    have h2 := Rat.mul_nonneg h1 (Rat.le_of_lt hv)
    have e : u / v * v = u := by grind
    grind
/-- the point put off square to the side -/
theorem off_q {a b p r : Pt} {m : Int} (hm : 0 < m) (hab : a ≠ b) (h0 : crQ a b p = 0)
    (hx : r.x = Rat.divInt (p.a * m + (a.b * b.c - b.b * a.c) * p.c) (p.c * m)) (hy : r.y = Rat.divInt (p.b * m + (b.a * a.c - a.a * b.c) * p.c) (p.c * m)) : crQ a b r ≠ 0 := by
  have hmq : (0 : Rat) < (m : Rat) := by exact_mod_cast hm
  have hp := p.cq
  have ha := a.cqp
  have hb := b.cqp
  have e1 : r.x = p.x + (a.y - b.y) * (a.c * b.c) / m := by
    rw [hx, divInt_q]
    simp only [Rat.intCast_sub, Rat.intCast_mul, Rat.intCast_add]
    rw [p.xc, a.yc, b.yc]
    have : (m : Rat) ≠ 0 := by grind
    grind
  have e2 : r.y = p.y + (b.x - a.x) * (a.c * b.c) / m := by
    rw [hy, divInt_q]
    simp only [Rat.intCast_sub, Rat.intCast_mul, Rat.intCast_add]
    rw [p.yc, a.xc, b.xc]
    have : (m : Rat) ≠ 0 := by grind
    grind
  have key : crQ a b r = crQ a b p + ((b.x - a.x) * (b.x - a.x) + (b.y - a.y) * (b.y - a.y)) * ((a.c : Rat) * (b.c : Rat) / (m : Rat)) := by
    unfold crQ
    rw [e1, e2]
    grind
  have s : 0 < (b.x - a.x) * (b.x - a.x) + (b.y - a.y) * (b.y - a.y) := sq_pos (by
    by_cases z : b.x - a.x = 0
    · right
      intro z2
      exact hab (Pt.eq_of (by grind) (by grind))
    · exact .inl z)
  have t : 0 < (a.c : Rat) * (b.c : Rat) / (m : Rat) := q_div_pos (Rat.mul_pos ha hb) hmq
  have u := Rat.mul_pos s t
  rw [key, h0]
  grind
theorem wide_x (a b : Pt) : b.a * a.c - a.a * b.c = 0 ↔ a.x = b.x := by
  have := eq_cross (pa := a.a) (pc := a.c) (qa := b.a) (qc := b.c) a.c_ne b.c_ne
  constructor
  · intro h; exact this.mp (by omega)
  · intro h; have := this.mpr h; omega
theorem high_q {a b : Pt} {x : Rat} (h : a.x ≠ b.x) : Rat.divInt (a.b * x.den * (b.a * a.c - a.a * b.c) + (x.num * a.c - a.a * x.den) * (b.b * a.c - a.b * b.c)) (a.c * x.den * (b.a * a.c - a.a * b.c)) = hgt a b x := by
  have d : (((x.den : Nat) : Int) : Rat) ≠ 0 := by exact_mod_cast den_ne x
  have ha := a.cq
  have hb := b.cq
  have e1 := num_eq x
  have hw : b.x - a.x ≠ 0 := by grind
  rw [divInt_q]
  simp only [Rat.intCast_sub, Rat.intCast_mul, Rat.intCast_add]
  rw [a.xc, a.yc, b.xc, b.yc, e1]
  unfold hgt
  generalize (((x.den : Nat) : Int) : Rat) = z at *
  generalize (a.c : Rat) = ac at *
  generalize (b.c : Rat) = bc at *
  have e : (b.x * bc) * ac - (a.x * ac) * bc = (b.x - a.x) * (ac * bc) := by grind
  have e' : (b.y * bc) * ac - (a.y * ac) * bc = (b.y - a.y) * (ac * bc) := by grind
  rw [e, e']
  have e3 : (x * z) * ac - (a.x * ac) * z = (x - a.x) * (ac * z) := by grind
  rw [e3]
  generalize b.x - a.x = w at *
  generalize b.y - a.y = v at *
  generalize x - a.x = u at *
  grind
end Py
namespace Py
open PySem hiding start
open L2
theorem frac_le {s t : Int} (ht : 0 < t) : (0 ≤ ((s : Rat) / (t : Rat)) ∧ ((s : Rat) / (t : Rat)) ≤ 1) ↔ (0 ≤ s ∧ s ≤ t) := by
  have h : (0 : Rat) < (t : Rat) := by exact_mod_cast ht
  have e : (s : Rat) = (s : Rat) / t * t := by grind
  have e1 : (0 ≤ s) ↔ (0 : Rat) ≤ (s : Rat) := by
    constructor
    · intro z; exact_mod_cast z
    · intro z; exact_mod_cast z
  have e2 : (s ≤ t) ↔ (s : Rat) ≤ (t : Rat) := by
    constructor
    · intro z; exact_mod_cast z
    · intro z; exact_mod_cast z
  rw [e1, e2]
  generalize hq : (s : Rat) / t = q at *
  rw [e]
  constructor
  · rintro ⟨a, b⟩
    refine ⟨Rat.mul_nonneg a (Rat.le_of_lt h), ?_⟩
    have := Rat.mul_le_mul_of_nonneg_right b (Rat.le_of_lt h)
    grind
  · rintro ⟨a, b⟩
    constructor
    · by_cases z : 0 ≤ q
      · exact z
      · exfalso
        have := Rat.mul_pos (show 0 < -q by grind) h
        grind
    · by_cases z : q ≤ 1
      · exact z
      · exfalso
        have := Rat.mul_pos (show 0 < q - 1 by grind) h
        grind
end Py

set_option Elab.async false
set_option linter.all false
set_option autoImplicit false
set_option exponentiation.threshold 20000
namespace Py
open PySem hiding start
open L2
/-! ### what two sides share -/
theorem ahd_trans {p q r : Pt} (h1 : ahd p q = true) (h2 : ahd q r = true) : ahd p r = true := by
  unfold ahd at *
  by_cases e1 : p.x = q.x
  · rw [if_pos e1] at h1
    by_cases e2 : q.x = r.x
    · rw [if_pos e2] at h2
      rw [if_pos (e1.trans e2)]
      have h1 := of_decide_eq_true h1
      have h2 := of_decide_eq_true h2
      exact decide_eq_true (by grind)
    · rw [if_neg e2] at h2
      have h2 := of_decide_eq_true h2
      rw [if_neg (by grind)]
      exact decide_eq_true (by grind)
  · rw [if_neg e1] at h1
    have h1 := of_decide_eq_true h1
    by_cases e2 : q.x = r.x
    · rw [if_neg (by grind)]
      exact decide_eq_true (by grind)
    · rw [if_neg e2] at h2
      have h2 := of_decide_eq_true h2
      rw [if_neg (by grind)]
      exact decide_eq_true (by grind)
/-- p at or ahead of q -/
def ale (p q : Pt) : Prop := ahd q p = false
theorem ale_refl (p : Pt) : ale p p := ahd_irr p
theorem ale_iff {p q : Pt} : ale p q ↔ (p = q ∨ ahd p q = true) := by
  unfold ale
  by_cases h : p = q
  · subst h; simp [ahd_irr]
  · rw [ahd_flip h]
    cases ahd p q <;> simp [h]
theorem ale_trans {p q r : Pt} (h1 : ale p q) (h2 : ale q r) : ale p r := by
  rw [ale_iff] at *
  rcases h1 with rfl | h1
  · exact h2
  · rcases h2 with rfl | h2
    · exact .inr h1
    · exact .inr (ahd_trans h1 h2)
theorem ale_total (p q : Pt) : ale p q ∨ ale q p := by
  by_cases h : ahd p q = true
  · exact .inl (ale_iff.mpr (.inr h))
  · exact .inr (by unfold ale; simpa using h)
theorem ale_of {p q : Pt} (h : ahd p q = true) : ale p q := ale_iff.mpr (.inr h)
theorem ale_anti {p q : Pt} (h1 : ale p q) (h2 : ale q p) : p = q := by
  rw [ale_iff] at h1
  rcases h1 with h | h
  · exact h
  · unfold ale at h2; rw [h] at h2; cases h2
def ptLo (a b : Pt) : Pt := if ahd b a then b else a
def ptHi (a b : Pt) : Pt := if ahd b a then a else b
def mx (p q : Pt) : Pt := if ahd p q then q else p
def mn (p q : Pt) : Pt := if ahd p q then p else q
theorem lo_le (a b : Pt) : ale (ptLo a b) (ptHi a b) := by
  unfold ptLo ptHi
  by_cases h : ahd b a = true
  · rw [if_pos h, if_pos h]; exact ale_of h
  · rw [if_neg h, if_neg h]; unfold ale; simpa using h
theorem lo_comm (a b : Pt) : ptLo a b = ptLo b a ∧ ptHi a b = ptHi b a := by
  by_cases h : a = b
  · subst h; exact ⟨rfl, rfl⟩
  · unfold ptLo ptHi
    rw [ahd_flip h]
    cases ahd a b <;> exact ⟨rfl, rfl⟩
theorem mx_comm (p q : Pt) : mx p q = mx q p := by
  by_cases h : p = q
  · subst h; rfl
  · unfold mx
    rw [ahd_flip h]
    cases ahd p q <;> rfl
theorem mn_comm (p q : Pt) : mn p q = mn q p := by
  by_cases h : p = q
  · subst h; rfl
  · unfold mn
    rw [ahd_flip h]
    cases ahd p q <;> rfl
theorem mx_ge (p q : Pt) : ale p (mx p q) ∧ ale q (mx p q) := by
  unfold mx
  by_cases h : ahd p q = true
  · rw [if_pos h]; exact ⟨ale_of h, ale_refl q⟩
  · rw [if_neg h]; exact ⟨ale_refl p, by unfold ale; simpa using h⟩
theorem mn_le (p q : Pt) : ale (mn p q) p ∧ ale (mn p q) q := by
  unfold mn
  by_cases h : ahd p q = true
  · rw [if_pos h]; exact ⟨ale_refl p, ale_of h⟩
  · rw [if_neg h]; exact ⟨by unfold ale; simpa using h, ale_refl q⟩
theorem mx_or (p q : Pt) : mx p q = p ∨ mx p q = q := by unfold mx; split <;> simp
theorem mn_or (p q : Pt) : mn p q = p ∨ mn p q = q := by unfold mn; split <;> simp
theorem lo_or (p q : Pt) : (ptLo p q = p ∧ ptHi p q = q) ∨ (ptLo p q = q ∧ ptHi p q = p) := by unfold ptLo ptHi; split <;> simp
/-- a point of the line between the ends -/
theorem onS_between {a b p : Pt} (h0 : tn a b p = 0) (h1 : ale (ptLo a b) p) (h2 : ale p (ptHi a b)) : onS p a b = true := by
  unfold onS
  rw [if_neg (by simp [h0])]
  unfold ptLo at h1
  unfold ptHi at h2
  unfold ale at h1 h2
  by_cases h : ahd b a = true
  · rw [if_pos h] at h1 h2 ⊢; simp [h1, h2]
  · rw [if_neg h] at h1 h2 ⊢; simp [h1, h2]
theorem sg_zero {q : Rat} : sg q = 0 ↔ q = 0 := by
  unfold sg
  by_cases h1 : 0 < q
  · rw [if_pos h1]; constructor
    · intro h; cases h
    · intro h; grind
  · rw [if_neg h1]
    by_cases h2 : q < 0
    · rw [if_pos h2]; constructor
      · intro h; cases h
      · intro h; grind
    · rw [if_neg h2]; constructor
      · intro _; grind
      · intro _; rfl
theorem tn_zero {a b c : Pt} : tn a b c = 0 ↔ crQ a b c = 0 := sg_zero
/-- the turn of the two ways -/
def parQ (a b c d : Pt) : Rat := (b.x - a.x) * (d.y - c.y) - (b.y - a.y) * (d.x - c.x)
theorem par_eq (a b c d : Pt) : crQ a b d - crQ a b c = parQ a b c d := by unfold crQ parQ; grind
theorem par_eq' (a b c d : Pt) : crQ c d b - crQ c d a = -(parQ a b c d) := by unfold crQ parQ; grind
/-- the point in which two lines meet -/
def xsI (a b c d : Pt) : Int × Int × Int :=
  let u := (a.b * b.c - b.b * a.c, b.a * a.c - a.a * b.c, a.a * b.b - b.a * a.b)
  let v := (c.b * d.c - d.b * c.c, d.a * c.c - c.a * d.c, c.a * d.b - d.a * c.b)
  (u.2.1 * v.2.2 - v.2.1 * u.2.2, u.2.2 * v.1 - v.2.2 * u.1, u.1 * v.2.1 - v.1 * u.2.1)
theorem xs_bottom (a b c d : Pt) : (((xsI a b c d).2.2 : Int) : Rat) = parQ a b c d * (a.c * b.c * c.c * d.c) := by
  unfold xsI parQ
  simp only [Rat.intCast_sub, Rat.intCast_mul]
  rw [a.xc, a.yc, b.xc, b.yc, c.xc, c.yc, d.xc, d.yc]
  grind
theorem xs_ne {a b c d : Pt} (h : parQ a b c d ≠ 0) : (xsI a b c d).2.2 ≠ 0 := fun z => by
  have e := xs_bottom a b c d
  rw [z] at e
  have h1 := a.cq
  have h2 := b.cq
  have h3 := c.cq
  have h4 := d.cq
  have : parQ a b c d * ((a.c : Rat) * b.c * c.c * d.c) = 0 := by
    rw [← e]; rfl
  rcases Rat.mul_eq_zero.mp this with q | q
  · exact h q
  · have : (a.c : Rat) * b.c * c.c * d.c ≠ 0 := by
      intro z
      rcases Rat.mul_eq_zero.mp z with z | z
      · rcases Rat.mul_eq_zero.mp z with z | z
        · rcases Rat.mul_eq_zero.mp z with z | z
          · exact h1 z
          · exact h2 z
        · exact h3 z
      · exact h4 z
    exact this q
def xsP (a b c d : Pt) (h : parQ a b c d ≠ 0) : Pt := ptBy (xsI a b c d).1 (xsI a b c d).2.1 (xsI a b c d).2.2 (xs_ne h)
theorem q_fix {cx dx w t m : Rat} (hw : w ≠ 0) (hm : m ≠ 0) : (cx * w - (dx - cx) * t) * m / (w * m) = cx + (dx - cx) * (-t / w) := by grind
theorem xsP_xy {a b c d : Pt} (h : parQ a b c d ≠ 0) : (xsP a b c d h).x = c.x + (d.x - c.x) * (-(crQ a b c) / parQ a b c d) ∧ (xsP a b c d h).y = c.y + (d.y - c.y) * (-(crQ a b c) / parQ a b c d) := by
  obtain ⟨x1, y1⟩ := ptBy_x (a := (xsI a b c d).1) (b := (xsI a b c d).2.1) (xs_ne h)
  have h1 := a.cq
  have h2 := b.cq
  have h3 := c.cq
  have h4 := d.cq
  have hm : (a.c : Rat) * b.c * c.c * d.c ≠ 0 := by
    intro z
    rcases Rat.mul_eq_zero.mp z with z | z
    · rcases Rat.mul_eq_zero.mp z with z | z
      · rcases Rat.mul_eq_zero.mp z with z | z
        · exact h1 z
        · exact h2 z
      · exact h3 z
    · exact h4 z
  have ex : (((xsI a b c d).1 : Int) : Rat) = (c.x * parQ a b c d - (d.x - c.x) * crQ a b c) * ((a.c : Rat) * b.c * c.c * d.c) := by
    unfold xsI parQ crQ
    simp only [Rat.intCast_sub, Rat.intCast_mul]
    rw [a.xc, a.yc, b.xc, b.yc, c.xc, c.yc, d.xc, d.yc]
    grind
  have ey : (((xsI a b c d).2.1 : Int) : Rat) = (c.y * parQ a b c d - (d.y - c.y) * crQ a b c) * ((a.c : Rat) * b.c * c.c * d.c) := by
    unfold xsI parQ crQ
    simp only [Rat.intCast_sub, Rat.intCast_mul]
    rw [a.xc, a.yc, b.xc, b.yc, c.xc, c.yc, d.xc, d.yc]
    grind
  have eb := xs_bottom a b c d
  constructor
  · show (ptBy _ _ _ _).x = _
    rw [x1, divInt_q, ex, eb]
    exact q_fix h hm
  · show (ptBy _ _ _ _).y = _
    rw [y1, divInt_q, ey, eb]
    exact q_fix h hm
end Py
namespace Py
open PySem hiding start
open L2
theorem xs_on {a b c d : Pt} (h : parQ a b c d ≠ 0) : crQ a b (xsP a b c d h) = 0 ∧ crQ c d (xsP a b c d h) = 0 := by
  obtain ⟨x1, y1⟩ := xsP_xy h
  constructor
  · have : crQ a b (xsP a b c d h) = crQ a b c + parQ a b c d * (-(crQ a b c) / parQ a b c d) := by
      have e : ∀ z : Rat, (xsP a b c d h).x = c.x + (d.x - c.x) * z → (xsP a b c d h).y = c.y + (d.y - c.y) * z → crQ a b (xsP a b c d h) = crQ a b c + parQ a b c d * z := fun z hx hy => by
        unfold crQ parQ
        rw [hx, hy]
        grind
      exact e _ x1 y1
    rw [this]
    generalize crQ a b c = t
    grind
  · unfold crQ
    rw [x1, y1]
    grind
/-- two lines that do not go alike have one point -/
theorem xs_uniq {a b c d p q : Pt} (h : parQ a b c d ≠ 0) (h1 : crQ a b p = 0) (h2 : crQ c d p = 0) (h3 : crQ a b q = 0) (h4 : crQ c d q = 0) : p = q := by
  unfold crQ at h1 h2 h3 h4
  unfold parQ at h
  have e1 : (b.x - a.x) * (p.y - q.y) = (b.y - a.y) * (p.x - q.x) := by grind
  have e2 : (d.x - c.x) * (p.y - q.y) = (d.y - c.y) * (p.x - q.x) := by grind
  have f1 : ((b.x - a.x) * (d.y - c.y) - (b.y - a.y) * (d.x - c.x)) * (p.x - q.x) = 0 := by grind
  have f2 : ((b.x - a.x) * (d.y - c.y) - (b.y - a.y) * (d.x - c.x)) * (p.y - q.y) = 0 := by grind
  refine Pt.eq_of ?_ ?_
  · rcases Rat.mul_eq_zero.mp f1 with z | z
    · exact absurd z h
    · grind
  · rcases Rat.mul_eq_zero.mp f2 with z | z
    · exact absurd z h
    · grind
theorem par_swap1 (a b c d : Pt) : parQ b a c d = -(parQ a b c d) := by unfold parQ; grind
theorem par_swap2 (a b c d : Pt) : parQ a b d c = -(parQ a b c d) := by unfold parQ; grind
theorem par_swapS (a b c d : Pt) : parQ c d a b = -(parQ a b c d) := by unfold parQ; grind
theorem cr_flip (a b c : Pt) : crQ b a c = -(crQ a b c) := by unfold crQ; grind
def sharedM (a b c d : Pt) : List Pt :=
  let f := mx (ptLo a b) (ptLo c d)
  let l := mn (ptHi a b) (ptHi c d)
  if ahd l f then [] else if f = l then [f] else [f, l]
def xsM (a b c d : Pt) : Pt := if h : parQ a b c d ≠ 0 then xsP a b c d h else default
def meetM (a b c d : Pt) : List Pt :=
  if tn a b c = 0 ∧ tn a b d = 0 then sharedM a b c d
  else if tn a b c * tn a b d > 0 ∨ tn c d a * tn c d b > 0 then [] else [xsM a b c d]
theorem sg_cases (q : Rat) : (0 < q ∧ sg q = 1) ∨ (q < 0 ∧ sg q = -1) ∨ (q = 0 ∧ sg q = 0) := by
  unfold sg
  by_cases h1 : 0 < q
  · exact .inl ⟨h1, if_pos h1⟩
  · by_cases h2 : q < 0
    · exact .inr (.inl ⟨h2, by rw [if_neg h1, if_pos h2]⟩)
    · exact .inr (.inr ⟨by grind, by rw [if_neg h1, if_neg h2]⟩)
/-- the third case of meet: the lines cross -/
theorem par_ne {a b c d : Pt} (h1 : ¬ (tn a b c = 0 ∧ tn a b d = 0)) (h2 : ¬ (tn a b c * tn a b d > 0 ∨ tn c d a * tn c d b > 0)) : parQ a b c d ≠ 0 := fun z => by
  have e := par_eq a b c d
  rw [z] at e
  have e : crQ a b d = crQ a b c := by grind
  have e2 : tn a b d = tn a b c := by unfold tn; rw [e]
  rw [e2] at h1 h2
  rcases sg_cases (crQ a b c) with ⟨_, h⟩ | ⟨_, h⟩ | ⟨_, h⟩
  · exact h2 (.inl (by unfold tn; rw [h]; decide))
  · exact h2 (.inl (by unfold tn; rw [h]; decide))
  · exact h1 ⟨h, h⟩
theorem xsM_eq {a b c d : Pt} (h : parQ a b c d ≠ 0) : xsM a b c d = xsP a b c d h := by unfold xsM; rw [dif_pos h]
theorem xsM_on {a b c d : Pt} (h : parQ a b c d ≠ 0) : crQ a b (xsM a b c d) = 0 ∧ crQ c d (xsM a b c d) = 0 := by rw [xsM_eq h]; exact xs_on h
theorem xsM_1 (a b c d : Pt) (h : parQ a b c d ≠ 0) : xsM b a c d = xsM a b c d := by
  have h' : parQ b a c d ≠ 0 := by rw [par_swap1]; grind
  obtain ⟨u1, u2⟩ := xsM_on h'
  obtain ⟨v1, v2⟩ := xsM_on h
  rw [cr_flip] at u1
  exact xs_uniq h (by grind) u2 v1 v2
theorem xsM_2 (a b c d : Pt) (h : parQ a b c d ≠ 0) : xsM a b d c = xsM a b c d := by
  have h' : parQ a b d c ≠ 0 := by rw [par_swap2]; grind
  obtain ⟨u1, u2⟩ := xsM_on h'
  obtain ⟨v1, v2⟩ := xsM_on h
  rw [cr_flip] at u2
  exact xs_uniq h u1 (by grind) v1 v2
theorem xsM_S (a b c d : Pt) (h : parQ a b c d ≠ 0) : xsM c d a b = xsM a b c d := by
  have h' : parQ c d a b ≠ 0 := by rw [par_swapS]; grind
  obtain ⟨u1, u2⟩ := xsM_on h'
  obtain ⟨v1, v2⟩ := xsM_on h
  exact xs_uniq h u2 u1 v1 v2
theorem meet_1 (a b c d : Pt) : meetM b a c d = meetM a b c d := by
  unfold meetM
  have e1 := tn_flip a b c
  have e2 := tn_flip a b d
  have e3 : sharedM b a c d = sharedM a b c d := by unfold sharedM; rw [(lo_comm b a).1, (lo_comm b a).2]
  have c1 : (tn b a c = 0 ∧ tn b a d = 0) ↔ (tn a b c = 0 ∧ tn a b d = 0) := by rw [e1, e2]; omega
  have c2 : (tn b a c * tn b a d > 0 ∨ tn c d b * tn c d a > 0) ↔ (tn a b c * tn a b d > 0 ∨ tn c d a * tn c d b > 0) := by
    rw [e1, e2, Int.neg_mul_neg, Int.mul_comm (tn c d b)]
  simp only [c1, c2, e3]
  by_cases h1 : tn a b c = 0 ∧ tn a b d = 0
  · rw [if_pos h1, if_pos h1]
  · rw [if_neg h1, if_neg h1]
    by_cases h2 : tn a b c * tn a b d > 0 ∨ tn c d a * tn c d b > 0
    · rw [if_pos h2, if_pos h2]
    · rw [if_neg h2, if_neg h2, xsM_1 a b c d (par_ne h1 h2)]
theorem meet_2 (a b c d : Pt) : meetM a b d c = meetM a b c d := by
  unfold meetM
  have e1 := tn_flip c d a
  have e2 := tn_flip c d b
  have e3 : sharedM a b d c = sharedM a b c d := by unfold sharedM; rw [(lo_comm d c).1, (lo_comm d c).2]
  have c1 : (tn a b d = 0 ∧ tn a b c = 0) ↔ (tn a b c = 0 ∧ tn a b d = 0) := And.comm
  have c2 : (tn a b d * tn a b c > 0 ∨ tn d c a * tn d c b > 0) ↔ (tn a b c * tn a b d > 0 ∨ tn c d a * tn c d b > 0) := by
    rw [e1, e2, Int.neg_mul_neg, Int.mul_comm (tn a b d)]
  simp only [c1, c2, e3]
  by_cases h1 : tn a b c = 0 ∧ tn a b d = 0
  · rw [if_pos h1, if_pos h1]
  · rw [if_neg h1, if_neg h1]
    by_cases h2 : tn a b c * tn a b d > 0 ∨ tn c d a * tn c d b > 0
    · rw [if_pos h2, if_pos h2]
    · rw [if_neg h2, if_neg h2, xsM_2 a b c d (par_ne h1 h2)]
theorem col_S {a b c d : Pt} (hab : a ≠ b) (h : tn a b c = 0 ∧ tn a b d = 0) : tn c d a = 0 ∧ tn c d b = 0 := by
  rw [tn_zero, tn_zero] at *
  unfold crQ at *
  obtain ⟨h1, h2⟩ := h
  by_cases hx : b.x - a.x = 0
  · have hy : b.y - a.y ≠ 0 := fun z => hab (Pt.eq_of (by grind) (by grind))
    have e1 : c.x - a.x = 0 := by
      have : (b.y - a.y) * (c.x - a.x) = 0 := by rw [hx] at h1; grind
      rcases Rat.mul_eq_zero.mp this with z | z
      · exact absurd z hy
      · exact z
    have e2 : d.x - a.x = 0 := by
      have : (b.y - a.y) * (d.x - a.x) = 0 := by rw [hx] at h2; grind
      rcases Rat.mul_eq_zero.mp this with z | z
      · exact absurd z hy
      · exact z
    constructor <;> grind
  · have e1 : (b.x - a.x) * ((d.x - c.x) * (a.y - c.y) - (d.y - c.y) * (a.x - c.x)) = 0 := by grind
    have e2 : (b.x - a.x) * ((d.x - c.x) * (b.y - c.y) - (d.y - c.y) * (b.x - c.x)) = 0 := by grind
    constructor
    · rcases Rat.mul_eq_zero.mp e1 with z | z
      · exact absurd z hx
      · exact z
    · rcases Rat.mul_eq_zero.mp e2 with z | z
      · exact absurd z hx
      · exact z
theorem meet_S {a b c d : Pt} (hab : a ≠ b) (hcd : c ≠ d) : meetM c d a b = meetM a b c d := by
  unfold meetM
  have e3 : sharedM c d a b = sharedM a b c d := by unfold sharedM; rw [mx_comm, mn_comm]
  have c1 : (tn c d a = 0 ∧ tn c d b = 0) ↔ (tn a b c = 0 ∧ tn a b d = 0) := ⟨col_S hcd, col_S hab⟩
  have c2 : (tn c d a * tn c d b > 0 ∨ tn a b c * tn a b d > 0) ↔ (tn a b c * tn a b d > 0 ∨ tn c d a * tn c d b > 0) := Or.comm
  simp only [c1, c2, e3]
  by_cases h1 : tn a b c = 0 ∧ tn a b d = 0
  · rw [if_pos h1, if_pos h1]
  · rw [if_neg h1, if_neg h1]
    by_cases h2 : tn a b c * tn a b d > 0 ∨ tn c d a * tn c d b > 0
    · rw [if_pos h2, if_pos h2]
    · rw [if_neg h2, if_neg h2, xsM_S a b c d (par_ne h1 h2)]
end Py
namespace Py
open PySem hiding start
open L2
theorem tn_end (a b : Pt) : tn a b a = 0 ∧ tn a b b = 0 := by
  rw [tn_zero, tn_zero]
  unfold crQ
  constructor <;> grind
/-- what is shared along a line lies on both sides -/
theorem shared_on {a b c d : Pt} (hab : a ≠ b) (hcd : c ≠ d) (h : tn a b c = 0 ∧ tn a b d = 0) : ∀ p ∈ sharedM a b c d, onS p a b = true ∧ onS p c d = true := by
  have h' := col_S hab h
  have on0 : ∀ p, (p = a ∨ p = b ∨ p = c ∨ p = d) → tn a b p = 0 ∧ tn c d p = 0 := fun p hp => by
    rcases hp with rfl | rfl | rfl | rfl
    · exact ⟨(tn_end _ _).1, h'.1⟩
    · exact ⟨(tn_end _ _).2, h'.2⟩
    · exact ⟨h.1, (tn_end _ _).1⟩
    · exact ⟨h.2, (tn_end _ _).2⟩
  have isEnd : ∀ p, (p = mx (ptLo a b) (ptLo c d) ∨ p = mn (ptHi a b) (ptHi c d)) → (p = a ∨ p = b ∨ p = c ∨ p = d) := fun p hp => by
    have l1 := lo_or a b
    have l2 := lo_or c d
    have m1 := mx_or (ptLo a b) (ptLo c d)
    have m2 := mn_or (ptHi a b) (ptHi c d)
    rcases hp with rfl | rfl
    · rcases m1 with m | m <;> rw [m]
      · rcases l1 with ⟨e, _⟩ | ⟨e, _⟩ <;> rw [e] <;> simp
      · rcases l2 with ⟨e, _⟩ | ⟨e, _⟩ <;> rw [e] <;> simp
    · rcases m2 with m | m <;> rw [m]
      · rcases l1 with ⟨_, e⟩ | ⟨_, e⟩ <;> rw [e] <;> simp
      · rcases l2 with ⟨_, e⟩ | ⟨_, e⟩ <;> rw [e] <;> simp
  intro p hp
  unfold sharedM at hp
  by_cases z : ahd (mn (ptHi a b) (ptHi c d)) (mx (ptLo a b) (ptLo c d)) = true
  · simp only [z, if_true] at hp; cases hp
  · have hle : ale (mx (ptLo a b) (ptLo c d)) (mn (ptHi a b) (ptHi c d)) := by unfold ale; simpa using z
    have hp' : p = mx (ptLo a b) (ptLo c d) ∨ p = mn (ptHi a b) (ptHi c d) := by
      simp only [z, if_false, Bool.false_eq_true] at hp
      by_cases e : mx (ptLo a b) (ptLo c d) = mn (ptHi a b) (ptHi c d)
      · rw [if_pos e] at hp; exact .inl (List.mem_singleton.mp hp)
      · rw [if_neg e] at hp
        simpa using hp
    obtain ⟨g1, g2⟩ := mx_ge (ptLo a b) (ptLo c d)
    obtain ⟨k1, k2⟩ := mn_le (ptHi a b) (ptHi c d)
    have f : ale (mx (ptLo a b) (ptLo c d)) p ∧ ale p (mn (ptHi a b) (ptHi c d)) := by
      rcases hp' with rfl | rfl
      · exact ⟨ale_refl _, hle⟩
      · exact ⟨hle, ale_refl _⟩
    obtain ⟨o1, o2⟩ := on0 p (isEnd p hp')
    exact ⟨onS_between o1 (ale_trans g1 f.1) (ale_trans f.2 k1), onS_between o2 (ale_trans g2 f.1) (ale_trans f.2 k2)⟩
theorem frac_in {s t : Rat} (h : s - t ≠ 0) (h2 : (0 ≤ s ∧ t ≤ 0) ∨ (s ≤ 0 ∧ 0 ≤ t)) : 0 ≤ s / (s - t) ∧ s / (s - t) ≤ 1 := by
  have e : s = s / (s - t) * (s - t) := by grind
  generalize hq : s / (s - t) = q at *
  rcases h2 with ⟨a, b⟩ | ⟨a, b⟩
  · have p : 0 < s - t := by grind
    constructor
    · by_cases z : 0 ≤ q
      · exact z
      · exfalso
        have := Rat.mul_pos (show 0 < -q by grind) p
        grind
    · by_cases z : q ≤ 1
      · exact z
      · exfalso
        have := Rat.mul_pos (show 0 < q - 1 by grind) p
        grind
  · have p : 0 < t - s := by grind
    constructor
    · by_cases z : 0 ≤ q
      · exact z
      · exfalso
        have := Rat.mul_pos (show 0 < -q by grind) p
        grind
    · by_cases z : q ≤ 1
      · exact z
      · exfalso
        have := Rat.mul_pos (show 0 < q - 1 by grind) p
        grind
theorem opp {a b c d : Pt} (h : ¬ tn a b c * tn a b d > 0) : (0 ≤ crQ a b c ∧ crQ a b d ≤ 0) ∨ (crQ a b c ≤ 0 ∧ 0 ≤ crQ a b d) := by
  unfold tn at h
  rcases sg_cases (crQ a b c) with ⟨h1, e1⟩ | ⟨h1, e1⟩ | ⟨h1, e1⟩
  · rcases sg_cases (crQ a b d) with ⟨h2, e2⟩ | ⟨h2, e2⟩ | ⟨h2, e2⟩
    · rw [e1, e2] at h; exact absurd (by decide) h
    · left; constructor <;> grind
    · left; constructor <;> grind
  · rcases sg_cases (crQ a b d) with ⟨h2, e2⟩ | ⟨h2, e2⟩ | ⟨h2, e2⟩
    · right; constructor <;> grind
    · rw [e1, e2] at h; exact absurd (by decide) h
    · right; constructor <;> grind
  · rcases sg_cases (crQ a b d) with ⟨h2, e2⟩ | ⟨h2, e2⟩ | ⟨h2, e2⟩
    · right; constructor <;> grind
    · left; constructor <;> grind
    · left; constructor <;> grind
/-- the crossing lies on the second side -/
theorem xs_on2 {a b c d : Pt} (hcd : c ≠ d) (hp : parQ a b c d ≠ 0) (h : ¬ tn a b c * tn a b d > 0) : onS (xsM a b c d) c d = true := by
  rw [xsM_eq hp]
  obtain ⟨x1, y1⟩ := xsP_xy hp
  have e := par_eq a b c d
  have e2 : -(crQ a b c) / parQ a b c d = crQ a b c / (crQ a b c - crQ a b d) := by
    have : crQ a b c - crQ a b d = -(parQ a b c d) := by grind
    rw [this]
    grind
  rw [e2] at x1 y1
  rw [onS_along hcd x1 y1]
  exact decide_eq_true (frac_in (by grind) (opp h))
theorem meet_on {a b c d : Pt} (hab : a ≠ b) (hcd : c ≠ d) : ∀ p ∈ meetM a b c d, onS p a b = true ∧ onS p c d = true := by
  intro p hp
  unfold meetM at hp
  by_cases h1 : tn a b c = 0 ∧ tn a b d = 0
  · rw [if_pos h1] at hp
    exact shared_on hab hcd h1 p hp
  · rw [if_neg h1] at hp
    by_cases h2 : tn a b c * tn a b d > 0 ∨ tn c d a * tn c d b > 0
    · rw [if_pos h2] at hp; cases hp
    · rw [if_neg h2] at hp
      rw [List.mem_singleton.mp hp]
      have hp := par_ne h1 h2
      refine ⟨?_, xs_on2 hcd hp fun z => h2 (.inl z)⟩
      rw [← xsM_S a b c d hp]
      exact xs_on2 hab (by rw [par_swapS]; grind) fun z => h2 (.inr z)
theorem meet_form (a b c d : Pt) : meetM a b c d = [] ∨ (∃ p, meetM a b c d = [p]) ∨ ∃ p q, meetM a b c d = [p, q] ∧ ahd p q = true := by
  unfold meetM
  by_cases h1 : tn a b c = 0 ∧ tn a b d = 0
  · rw [if_pos h1]
    unfold sharedM
    by_cases z : ahd (mn (ptHi a b) (ptHi c d)) (mx (ptLo a b) (ptLo c d)) = true
    · simp only [z, if_true]; exact .inl trivial
    · simp only [z, if_false, Bool.false_eq_true]
      by_cases e : mx (ptLo a b) (ptLo c d) = mn (ptHi a b) (ptHi c d)
      · rw [if_pos e]; exact .inr (.inl ⟨_, rfl⟩)
      · rw [if_neg e]
        refine .inr (.inr ⟨_, _, rfl, ?_⟩)
        have := ahd_flip e
        rw [this] at z
        simpa using z
  · rw [if_neg h1]
    by_cases h2 : tn a b c * tn a b d > 0 ∨ tn c d a * tn c d b > 0
    · rw [if_pos h2]; exact .inl rfl
    · rw [if_neg h2]; exact .inr (.inl ⟨_, rfl⟩)
theorem xsM_S' {a b c d : Pt} {n : Nat} (hp : parQ a b c d ≠ 0) (sa : ptS n a) (sb : ptS n b) (sc : ptS n c) (sd : ptS n d) : ptS (4 * n + 3) (xsM a b c d) := by
  rw [xsM_eq hp]
  have u1 := nsub (nmul sa.b sb.c) (nmul sb.b sa.c)
  have u2 := nsub (nmul sb.a sa.c) (nmul sa.a sb.c)
  have u3 := nsub (nmul sa.a sb.b) (nmul sb.a sa.b)
  have v1 := nsub (nmul sc.b sd.c) (nmul sd.b sc.c)
  have v2 := nsub (nmul sd.a sc.c) (nmul sc.a sd.c)
  have v3 := nsub (nmul sc.a sd.b) (nmul sd.a sc.b)
  exact (ptB_by (n := 4 * n + 3) (xs_ne hp) (by omega) (nup (nsub (nmul u2 v3) (nmul v2 u3)) (by omega)) (nup (nsub (nmul u3 v1) (nmul v3 u1)) (by omega)) (nup (nsub (nmul u1 v2) (nmul v1 u2)) (by omega))).S
theorem meet_S4 {a b c d : Pt} {n : Nat} (sa : ptS n a) (sb : ptS n b) (sc : ptS n c) (sd : ptS n d) : ∀ p ∈ meetM a b c d, ptS (4 * n + 3) p := by
  intro p hp
  unfold meetM at hp
  by_cases h1 : tn a b c = 0 ∧ tn a b d = 0
  · rw [if_pos h1] at hp
    have e : ∀ z, (z = mx (ptLo a b) (ptLo c d) ∨ z = mn (ptHi a b) (ptHi c d)) → ptS (4 * n + 3) z := fun z hz => by
      have l1 := lo_or a b
      have l2 := lo_or c d
      have m1 := mx_or (ptLo a b) (ptLo c d)
      have m2 := mn_or (ptHi a b) (ptHi c d)
      have s : ∀ y, (y = a ∨ y = b ∨ y = c ∨ y = d) → ptS (4 * n + 3) y := fun y hy => by
        rcases hy with rfl | rfl | rfl | rfl
        · exact sa.mono (by omega)
        · exact sb.mono (by omega)
        · exact sc.mono (by omega)
        · exact sd.mono (by omega)
      refine s z ?_
      rcases hz with rfl | rfl
      · rcases m1 with m | m <;> rw [m]
        · rcases l1 with ⟨e, _⟩ | ⟨e, _⟩ <;> rw [e] <;> simp
        · rcases l2 with ⟨e, _⟩ | ⟨e, _⟩ <;> rw [e] <;> simp
      · rcases m2 with m | m <;> rw [m]
        · rcases l1 with ⟨_, e⟩ | ⟨_, e⟩ <;> rw [e] <;> simp
        · rcases l2 with ⟨_, e⟩ | ⟨_, e⟩ <;> rw [e] <;> simp
    unfold sharedM at hp
    by_cases z : ahd (mn (ptHi a b) (ptHi c d)) (mx (ptLo a b) (ptLo c d)) = true
    · simp only [z, if_true] at hp; cases hp
    · simp only [z, if_false, Bool.false_eq_true] at hp
      by_cases e2 : mx (ptLo a b) (ptLo c d) = mn (ptHi a b) (ptHi c d)
      · rw [if_pos e2] at hp; exact e p (.inl (List.mem_singleton.mp hp))
      · rw [if_neg e2] at hp
        exact e p (by simpa using hp)
  · rw [if_neg h1] at hp
    by_cases h2 : tn a b c * tn a b d > 0 ∨ tn c d a * tn c d b > 0
    · rw [if_pos h2] at hp; cases hp
    · rw [if_neg h2] at hp
      rw [List.mem_singleton.mp hp]
      exact xsM_S' (par_ne h1 h2) sa sb sc sd
theorem ptBy_self (p : Pt) : ptBy p.a p.b p.c p.c_ne = p := ptBy_eq p.c_ne rfl rfl
end Py

set_option Elab.async false
set_option linter.all false
set_option autoImplicit false
set_option maxRecDepth 100000
set_option maxHeartbeats 4000000
namespace Py
open PySem hiding start
open L2
open Evl (Ex ex_rd ex_l ex_t fresh_back)
open Classical
section
variable {K : PySem.W.Frag} {c : Ctx K} {ρ : Rho} {k : Dv → Prop} {ta tb te : TE}
theorem dpa_append' {G : Hp} : ∀ {vs us : List V} {xs ys : List PyData}, DpAll K G vs xs → DpAll K G us ys → DpAll K G (vs ++ us) (xs ++ ys)
  | _, _, _, _, .nil, h => h
  | _, _, _, _, .cons a b, h => .cons a (dpa_append' b h)
theorem dpa_len' {G : Hp} : ∀ {vs : List V} {xs : List PyData}, DpAll K G vs xs → vs.length = xs.length
  | _, _, .nil => rfl
  | _, _, .cons _ b => congrArg (· + 1) (dpa_len' b)
theorem wf_catOwn {k : List PyData → Prop} {i : Nat} {l : Addr} {xs : List PyData} (h : ρ[i]? = some (.own l xs)) (ht : Wf c tb ρ fun ys => xs.length + ys.length ≤ 100000 ∧ k (xs ++ ys)) : Wf c (tOp (rAddU K) (tVar i) tb) ρ k := fun σ H Q o q => by
  obtain ⟨vs, e1, h1, d1⟩ := o.own h
  refine ⟨_, e1, ht σ H _ o fun l2 vs2 ys H1 n2 g2 o1 s1 d2 ⟨hl, hk⟩ => ?_⟩
  have h1' : H1 l = some (.lst vs) := (s1.own l ⟨xs, List.mem_of_getElem? h⟩).trans h1
  refine .inr (.inr (.inl ⟨l, l2, vs, vs2, rfl, rfl, h1', g2, Evl.sz_of (by rw [dpa_len' d1, dpa_len' d2]; exact hl), fun p hp => ?_⟩))
  obtain ⟨o2, e2⟩ := o1.new (o := .lst (vs ++ vs2)) hp
  have nv : vis c ρ H1 p = none := by
    unfold vis
    rw [hid_neg (o1.nh hp)]; exact hp
  have hp0 : H p = none := by
    cases z : H p with
    | none => rfl
    | some ob =>
      exfalso
      by_cases hh : Hid c ρ p
      · exact o1.nh hp hh
      · have := s1.ex p ob (by unfold vis; rw [hid_neg hh]; exact z)
        rw [nv] at this; cases this
  have up : Ex (vis c ρ H1) (hid (· = p) (vis c ρ (upd H1 p (.lst (vs ++ vs2))))) := fun a u ha => by
    have na : a ≠ p := fun z => by subst z; rw [nv] at ha; cases ha
    exact (hid_neg (L := fun x => x = p) na).trans (e2.ex a u ha)
  exact q p _ _ _ hp0 upd_same o2 (s1.trans e2) (dpa_append' (dpa_mono (s1.ex.trans up) _ _ d1) (dpa_mono (hid_sub.trans up) _ _ d2)) hk
end
end Py

set_option Elab.async false
set_option linter.all false
set_option autoImplicit false
set_option maxRecDepth 100000
set_option maxHeartbeats 4000000
namespace Py
open PySem hiding start
open L2
open Evl (Ex ex_rd ex_l ex_t fresh_back)
open Classical
section
variable {K : PySem.W.Frag} {c c' : Ctx K} {ρ : Rho} {E : DE} {k : Dv → Prop} {ta tb te ti : TE}
/-! ### small rules -/
theorem rv_eqB {a b : Bool} (h : k (.d (.bool (decide (a = b))))) : Rv c (rEqD K) ρ (.d (.bool a)) (.d (.bool b)) k := rv_eqD rfl rfl (by
  have e : PyData.eqv (.bool a) (.bool b) = decide (a = b) := by cases a <;> cases b <;> rfl
  rw [e]; exact h)
theorem rv_neB {a b : Bool} (h : k (.d (.bool (!decide (a = b))))) : Rv c (rNeD K) ρ (.d (.bool a)) (.d (.bool b)) k := rv_neD rfl rfl (by
  have e : PyData.eqv (.bool a) (.bool b) = decide (a = b) := by cases a <;> cases b <;> rfl
  rw [e]; exact h)
def rIsNn : R2 := fun x y H Q => y = .non ∧ Q (.bl (decide (x = .non))) H
def rNotNn : R2 := fun x y H Q => y = .non ∧ Q (.bl (!decide (x = .non))) H
theorem op_isNn {X : Cx} : OpR X (compareOp .Is) rIsNn := op_isN
theorem op_notNn {X : Cx} : OpR X (compareOp .IsNot) rNotNn := op_notN
def nonD : PyData → Bool
  | .none => true
  | _ => false
theorem rv_isN {d : PyData} (h : k (.d (.bool (nonD d)))) : Rv c rIsNn ρ (.d d) (.d .none) k := fun σ H v u Q o d1 d2 q => by
  refine ⟨dp_non d2, q.val o (x := .d _) (?_ : Dp K _ _ (.bool (nonD d))) h⟩
  change Dp _ _ _ _ at d1
  have e : decide (v = V.non) = nonD d := by cases d1 <;> first | rfl | exact decide_eq_false (by intro z; cases z)
  rw [e]; exact Dp.bl _
theorem rv_notN {d : PyData} (h : k (.d (.bool (!nonD d)))) : Rv c rNotNn ρ (.d d) (.d .none) k := fun σ H v u Q o d1 d2 q => by
  refine ⟨dp_non d2, q.val o (x := .d _) (?_ : Dp K _ _ (.bool (!nonD d))) h⟩
  change Dp _ _ _ _ at d1
  have e : decide (v = V.non) = nonD d := by cases d1 <;> first | rfl | exact decide_eq_false (by intro z; cases z)
  rw [e]; exact Dp.bl _
theorem op_inq (K : PySem.W.Frag) {X : Cx} (h : X.K = K := by rfl) : OpR X (compareOp .In) (rIn K false) := h ▸ op_in_seq
theorem op_niq (K : PySem.W.Frag) {X : Cx} (h : X.K = K := by rfl) : OpR X (compareOp .NotIn) (rIn K true) := h ▸ op_notIn_seq
theorem inV_ints {i : Int} : ∀ {ns : List Int}, inV (.int i) (ns.map V.int) = decide (i ∈ ns)
  | [] => by simp [inV]
  | n :: ns => by
    have ih := inV_ints (i := i) (ns := ns)
    unfold inV at *
    rw [List.map_cons, List.any_cons, ih]
    have e : eqV (.int n) (.int i) = decide (n = i) := by show (n == i) = _; by_cases z : n = i <;> simp [z]
    rw [e]
    by_cases z : n = i
    · subst z; simp
    · have z' : i ≠ n := fun q => z q.symm
      simp [z, z']
theorem flat_ints : ∀ {ns : List Int}, (ns.map V.int).all flatV = true
  | [] => rfl
  | _ :: ns => by rw [List.map_cons, List.all_cons, flat_ints (ns := ns)]; rfl
theorem rv_inI {i : Int} {ns : List Int} (h : k (.d (.bool (decide (i ∈ ns))))) : Rv c (rIn K false) ρ (.d (.int i)) (.d (.list (ns.map .int))) k := fun σ H v u Q o d1 d2 q => by
  obtain rfl := dp_int d1
  change Dp _ _ _ _ at d2
  cases d2 with
  | lst hs ha =>
    have e := dpa_ints ha
    subst e
    refine ⟨_, _, rfl, .inl (ex_l hid_sub hs), rfl, flat_ints, ?_⟩
    rw [if_neg Bool.false_ne_true, inV_ints]
    exact q.val o (x := .d _) (Dp.bl _) h
theorem rv_niI {i : Int} {ns : List Int} (h : k (.d (.bool (!decide (i ∈ ns))))) : Rv c (rIn K true) ρ (.d (.int i)) (.d (.list (ns.map .int))) k := fun σ H v u Q o d1 d2 q => by
  obtain rfl := dp_int d1
  change Dp _ _ _ _ at d2
  cases d2 with
  | lst hs ha =>
    have e := dpa_ints ha
    subst e
    refine ⟨_, _, rfl, .inl (ex_l hid_sub hs), rfl, flat_ints, ?_⟩
    rw [if_pos rfl, inV_ints]
    exact q.val o (x := .d _) (Dp.bl _) h
/-! ### a list of one's own changes -/
theorem Ok.chg {σ : L2.St} {H : Hp} (o : Ok c ρ σ H) {i : Nat} {l : Addr} {xs xs' : List PyData} {vs' : List V} (h : ρ[i]? = some (.own l xs)) (d : DpAll K (vis c ρ H) vs' xs') : Ok c (ρ.set i (.own l xs')) σ (upd H l (.lst vs')) := by
  obtain ⟨vs, e1, h1, d1⟩ := o.own h
  have ol : Owns ρ l := ⟨xs, List.mem_of_getElem? h⟩
  have nl : ¬ c.L l := (o.ob l ol).2
  have ow1 : ∀ a, Owns (ρ.set i (.own l xs')) a → Owns ρ a := fun a z => by
    rcases owns_set z with q | ⟨ys, q⟩
    · exact q
    · cases q; exact ol
  have ev : Ex (vis c ρ H) (vis c (ρ.set i (.own l xs')) (upd H l (.lst vs'))) := fun b ob z => by
    obtain ⟨n1, z⟩ := hid_some z
    have nb : b ≠ l := fun q => n1 (.inr (q ▸ ol))
    exact (hid_neg fun q => n1 (q.imp id (ow1 b))).trans ((upd_ne nb).trans z)
  refine ⟨c.loc _ _ (fun a z => upd_ne fun q => nl (q ▸ z)) (tp_lst h1) o.w, (o.base.trans ev).trans vis_out, fun a z => o.ob a (ow1 a z), fun j s hs => ?_, fun j j' a ys zs hs hs' => ?_, by simp [o.len]⟩
  · rcases List_set_get hs with ⟨rfl, rfl, _⟩ | ⟨ne, hs⟩
    · exact ⟨some (.ref l), e1, _, rfl, upd_same, vs', rfl, dpa_mono ev _ _ d⟩
    · obtain ⟨u, q, z⟩ := o.sl j s hs
      refine ⟨u, q, ?_⟩
      cases s with
      | un => trivial
      | val y => obtain ⟨w, e1, e2⟩ := z; exact ⟨w, e1, dv_mono ev e2⟩
      | own m ys =>
        obtain ⟨ws, e1, e2, e3⟩ := z
        have nm : m ≠ l := fun q => ne (o.one i j l xs ys h (q ▸ hs))
        exact ⟨ws, e1, (upd_ne nm).trans e2, own_mono ev _ _ e3⟩
  · rcases List_set_get hs with ⟨r1, q1, _⟩ | ⟨ne, hs⟩
    · rcases List_set_get hs' with ⟨r2, q2, _⟩ | ⟨ne', hs'⟩
      · exact r1.symm.trans r2
      · cases q1
        exact (r1.symm.trans (o.one i j' l xs _ h hs'))
    · rcases List_set_get hs' with ⟨r2, q2, _⟩ | ⟨ne', hs'⟩
      · cases q2
        exact ((o.one i j l xs _ h hs).symm.trans r2)
      · exact o.one _ _ _ _ _ hs hs'
theorem dpa_single {G : Hp} {v : V} {d : PyData} (h : Dp K G v d) : DpAll K G [v] [d] := .cons h .nil
theorem dpa_rev {G : Hp} : ∀ {vs : List V} {ds : List PyData}, DpAll K G vs ds → DpAll K G vs.reverse ds.reverse
  | _, _, .nil => .nil
  | _, _, .cons h t => by
    rw [List.reverse_cons, List.reverse_cons]
    exact dpa_app (dpa_rev t) (.cons h .nil)
/-- xs[j] op= n -/
theorem ws_augOwn {f : Int → Int → Int} {i : Nat} {l : Addr} {xs : List PyData} (h : ρ[i]? = some (.own l xs)) (ht : We c ti ρ fun z => ∃ j n old, z = .d (.int j) ∧ ixN xs.length j = some n ∧ xs[n]? = some (.int old) ∧
    We c te ρ fun y => ∃ m, y = .d (.int m) ∧ E.nx (ρ.set i (.own l (xs.set n (.int (f old m)))))) : Ws c (tAugS (tVar i) ti te (rIxL K) (ipI f) rSetL) ρ E := fun D σ H e o => by
  obtain ⟨vs, e1, h1, d1⟩ := o.own h
  have ol : Owns ρ l := ⟨xs, List.mem_of_getElem? h⟩
  refine ⟨_, e1, ht σ H _ o fun v z H1 o1 s1 dz ⟨j, n, old, hz, hn, ho, hm⟩ => ?_⟩
  subst hz
  obtain rfl := dp_int dz
  have h1' : H1 l = some (.lst vs) := (s1.own l ol).trans h1
  have ha : atI xs j = some (.int old) := by unfold atI; rw [hn]; exact ho
  obtain ⟨w, e2, e3⟩ := dpa_atI (dpa_mono s1.ex _ _ d1) ha
  obtain rfl := dp_int e3
  refine ⟨l, vs, j, _, rfl, rfl, .inl (.inl h1'), e2, hm σ H1 _ o1 fun u y H2 o2 s2 dy ⟨m, hy, n2⟩ => ?_⟩
  subst hy
  obtain rfl := dp_int dy
  have h2 : H2 l = some (.lst vs) := (s2.own l ol).trans h1'
  refine ⟨_, _, rfl, rfl, l, vs, j, n, rfl, rfl, h2, by rw [dpa_len d1]; exact hn, e.nx _ _ _ (o2.chg h ?_) n2⟩
  exact dpa_set (Dp.int _) n (dpa_mono (s1.ex.trans s2.ex) _ _ d1)
/-- xs[j] = e -/
theorem ws_setOwn {i : Nat} {l : Addr} {xs : List PyData} (h : ρ[i]? = some (.own l xs)) (ht : We c te ρ fun y => ∃ d, y = .d d ∧ We c ti ρ fun z => ∃ j n, z = .d (.int j) ∧ ixN xs.length j = some n ∧ E.nx (ρ.set i (.own l (xs.set n d)))) :
    Ws c (tAsg te (gSub (tVar i) ti rSetL)) ρ E := fun D σ H e o => by
  obtain ⟨vs, e1, h1, d1⟩ := o.own h
  have ol : Owns ρ l := ⟨xs, List.mem_of_getElem? h⟩
  refine ht σ H _ o fun v y H1 o1 s1 dy ⟨d, hy, hi⟩ => ⟨_, e1, hi σ H1 _ o1 fun u z H2 o2 s2 dz ⟨j, n, hz, hn, n2⟩ => ?_⟩
  subst hy hz
  obtain rfl := dp_int dz
  have h2 : H2 l = some (.lst vs) := (s2.own l ol).trans ((s1.own l ol).trans h1)
  refine ⟨l, vs, j, n, rfl, rfl, h2, by rw [dpa_len d1]; exact hn, e.nx _ _ _ (o2.chg h ?_) n2⟩
  exact dpa_set (dp_mono s2.ex _ _ dy) n (dpa_mono (s1.ex.trans s2.ex) _ _ d1)
theorem ws_revOwn {i : Nat} {l : Addr} {xs : List PyData} (h : ρ[i]? = some (.own l xs)) (n : E.nx (ρ.set i (.own l xs.reverse))) : Ws c (tDrop (tBM0 K "list" rReverse (tVar i))) ρ E := fun D σ H e o => by
  obtain ⟨vs, e1, h1, d1⟩ := o.own h
  exact ⟨_, e1, .inl ⟨rfl, _, .inl (.inl h1)⟩, l, vs, rfl, rfl, h1, e.nx _ _ _ (o.chg h (dpa_rev d1)) n⟩
theorem ws_clearOwn {i : Nat} {l : Addr} {xs : List PyData} (h : ρ[i]? = some (.own l xs)) (n : E.nx (ρ.set i (.own l (.l [])))) : Ws c (tDrop (tBM0 K "list" rClear (tVar i))) ρ E := fun D σ H e o => by
  obtain ⟨vs, e1, h1, d1⟩ := o.own h
  exact ⟨_, e1, .inl ⟨rfl, _, .inl (.inl h1)⟩, l, vs, rfl, rfl, h1, e.nx _ _ _ (o.chg h .nil) n⟩
def rInsert : V → List V → Hp → VK → Prop := fun x vs H Q => ∃ (l : Addr) (xs : List V) (i : Int) (y : V), x = .ref l ∧ vs = [.int i, y] ∧ H l = some (.lst xs) ∧ xs.length < sizeLine ∧ 0 ≤ i ∧ i < 2 ^ 63 ∧ Q .non (upd H l (.lst (xs.take i.toNat ++ [y] ++ xs.drop i.toNat)))
theorem mt_insert1 {X : Cx} : MtR X "list.insert" rInsert := mt_insert
theorem ws_insOwn {i : Nat} {l : Addr} {xs : List PyData} {t : TA} (h : ρ[i]? = some (.own l xs)) (hz : xs.length < 100000) (ht : Wa c t ρ fun ys => ∃ j d, ys = [.d (.int j), .d d] ∧ 0 ≤ j ∧ j < 2 ^ 63 ∧ E.nx (ρ.set i (.own l (xs.take j.toNat ++ [d] ++ xs.drop j.toNat)))) :
    Ws c (tDrop (tBM K "list" rInsert (tVar i) t)) ρ E := fun D σ H e o => by
  obtain ⟨vs, e1, h1, d1⟩ := o.own h
  have ol : Owns ρ l := ⟨xs, List.mem_of_getElem? h⟩
  refine ⟨_, e1, .inl ⟨rfl, _, .inl (.inl h1)⟩, ht σ H _ o fun us ys H1 o1 s1 dy ⟨j, d, hy, j0, j1, n⟩ => ?_⟩
  subst hy
  cases dy with
  | cons a1 a2 =>
  cases a2 with
  | cons a2 a3 =>
  cases a3
  obtain rfl := dp_int a1
  have h1' : H1 l = some (.lst vs) := (s1.own l ol).trans h1
  have d1' := dpa_mono s1.ex _ _ d1
  exact ⟨l, vs, j, _, rfl, rfl, h1', Evl.sz_lt (by rw [dpa_len d1]; exact hz), j0, j1, e.nx _ _ _ (o1.chg h (dpa_app (dpa_app (dpa_take _ d1') (.cons a2 .nil)) (dpa_drop _ d1'))) n⟩
end
/-! ### bounds by themselves -/
theorem nsubm {a b : Int} {n m : Nat} (ha : a.natAbs < 2 ^ n) (hb : b.natAbs < 2 ^ m) : (a - b).natAbs < 2 ^ (max n m + 1) := nsub (nup ha (Nat.le_max_left ..)) (nup hb (Nat.le_max_right ..))
theorem naddm {a b : Int} {n m : Nat} (ha : a.natAbs < 2 ^ n) (hb : b.natAbs < 2 ^ m) : (a + b).natAbs < 2 ^ (max n m + 1) := nadd (nup ha (Nat.le_max_left ..)) (nup hb (Nat.le_max_right ..))
theorem nnegm {a : Int} {n : Nat} (ha : a.natAbs < 2 ^ n) : (-a).natAbs < 2 ^ n := by rw [Int.natAbs_neg]; exact ha
theorem nlitN (n : Nat) : (@OfNat.ofNat Int n (@instOfNat n)).natAbs < 2 ^ (n.log2 + 1) := Nat.lt_log2_self
theorem nlit (i : Int) : i.natAbs < 2 ^ (i.natAbs.log2 + 1) := Nat.lt_log2_self
end Py

set_option Elab.async false
set_option linter.all false
set_option autoImplicit false
set_option exponentiation.threshold 20000
namespace Py
open PySem hiding start
open L2
/-! ### what two sides share, whole -/
theorem onS_iff {p a b : Pt} : onS p a b = true ↔ tn a b p = 0 ∧ ale (ptLo a b) p ∧ ale p (ptHi a b) := by
  unfold onS ptLo ptHi ale
  by_cases h : tn a b p = 0
  · rw [if_neg (by simpa using h)]
    by_cases z : ahd b a = true
    · rw [if_pos z, if_pos z, if_pos z]; simp [h]
    · rw [if_neg z, if_neg z, if_neg z]; simp [h]
  · rw [if_pos h]; simp [h]
def touchM (a b c d : Pt) : Bool :=
  if onS a c d || onS b c d || onS c a b || onS d a b then true
  else if 0 ≤ tn a b c * tn a b d then false else decide (tn c d a * tn c d b < 0)
def partM (a b c d : Pt) : List Pt :=
  if mx (ptLo c d) (ptLo a b) = mn (ptHi a b) (ptHi c d) then [mx (ptLo c d) (ptLo a b)] else [mx (ptLo c d) (ptLo a b), mn (ptHi a b) (ptHi c d)]
theorem lo_ends (a b : Pt) : (ale (ptLo a b) a ∧ ale (ptLo a b) b) ∧ ale a (ptHi a b) ∧ ale b (ptHi a b) := by
  have h := lo_le a b
  rcases lo_or a b with ⟨e1, e2⟩ | ⟨e1, e2⟩ <;> rw [e1, e2] at h ⊢
  · exact ⟨⟨ale_refl _, h⟩, h, ale_refl _⟩
  · exact ⟨⟨h, ale_refl _⟩, ale_refl _, h⟩
theorem touch_no {a b c d : Pt} (hab : a ≠ b) (hcd : c ≠ d) (h : touchM a b c d = false) : meetM a b c d = [] := by
  unfold touchM at h
  by_cases t : (onS a c d || onS b c d || onS c a b || onS d a b) = true
  · rw [if_pos t] at h; cases h
  rw [if_neg t] at h
  simp only [Bool.or_eq_true, not_or, Bool.not_eq_true] at t
  obtain ⟨⟨⟨n1, n2⟩, n3⟩, n4⟩ := t
  by_cases h1 : tn a b c = 0 ∧ tn a b d = 0
  · unfold meetM
    rw [if_pos h1]
    unfold sharedM
    obtain ⟨z1, z2⟩ := col_S hab h1
    by_cases z : ahd (mn (ptHi a b) (ptHi c d)) (mx (ptLo a b) (ptLo c d)) = true
    · simp only [z, if_true]
    · exfalso
      have hle : ale (mx (ptLo a b) (ptLo c d)) (mn (ptHi a b) (ptHi c d)) := by unfold ale; simpa using z
      obtain ⟨g1, g2⟩ := mx_ge (ptLo a b) (ptLo c d)
      obtain ⟨k1, k2⟩ := mn_le (ptHi a b) (ptHi c d)
      rcases mx_or (ptLo a b) (ptLo c d) with e | e <;> rw [e] at hle g1 g2
      · rcases lo_or a b with ⟨q, _⟩ | ⟨q, _⟩ <;> rw [q] at hle g2
        · rw [onS_iff.mpr ⟨z1, g2, ale_trans hle k2⟩] at n1; cases n1
        · rw [onS_iff.mpr ⟨z2, g2, ale_trans hle k2⟩] at n2; cases n2
      · rcases lo_or c d with ⟨q, _⟩ | ⟨q, _⟩ <;> rw [q] at hle g1
        · rw [onS_iff.mpr ⟨h1.1, g1, ale_trans hle k1⟩] at n3; cases n3
        · rw [onS_iff.mpr ⟨h1.2, g1, ale_trans hle k1⟩] at n4; cases n4
  · by_cases h2 : tn a b c * tn a b d > 0 ∨ tn c d a * tn c d b > 0
    · unfold meetM
      rw [if_neg h1, if_pos h2]
    · exfalso
      have hm := meet_on hab hcd (xsM a b c d) (by unfold meetM; rw [if_neg h1, if_neg h2]; simp)
      have hp := par_ne h1 h2
      obtain ⟨x1, x2⟩ := xsM_on hp
      have un : ∀ p, crQ a b p = 0 → crQ c d p = 0 → onS p a b = true ∧ onS p c d = true := fun p q1 q2 => by
        have := xs_uniq hp q1 q2 x1 x2
        rw [this]; exact hm
      have ends := tn_end a b
      have ends' := tn_end c d
      by_cases h3 : tn a b c * tn a b d = 0
      · rcases Int.mul_eq_zero.mp h3 with q | q
        · rw [(un c (tn_zero.mp q) (tn_zero.mp ends'.1)).1] at n3; cases n3
        · rw [(un d (tn_zero.mp q) (tn_zero.mp ends'.2)).1] at n4; cases n4
      · by_cases h4 : tn c d a * tn c d b = 0
        · rcases Int.mul_eq_zero.mp h4 with q | q
          · rw [(un a (tn_zero.mp ends.1) (tn_zero.mp q)).2] at n1; cases n1
          · rw [(un b (tn_zero.mp ends.2) (tn_zero.mp q)).2] at n2; cases n2
        · rw [if_neg (by omega)] at h
          have := of_decide_eq_false h
          omega
theorem mx_le {p q r : Pt} (h1 : ale p r) (h2 : ale q r) : ale (mx p q) r := by rcases mx_or p q with e | e <;> rw [e] <;> assumption
theorem le_mn {p q r : Pt} (h1 : ale r p) (h2 : ale r q) : ale r (mn p q) := by rcases mn_or p q with e | e <;> rw [e] <;> assumption
theorem touch_along {a b c d : Pt} (h : touchM a b c d = true) (h1 : tn a b c = 0 ∧ tn a b d = 0) : meetM a b c d = partM a b c d := by
  have hle : ale (mx (ptLo a b) (ptLo c d)) (mn (ptHi a b) (ptHi c d)) := by
    unfold touchM at h
    have key : ∀ p, ale (ptLo a b) p → ale p (ptHi a b) → ale (ptLo c d) p → ale p (ptHi c d) → ale (mx (ptLo a b) (ptLo c d)) (mn (ptHi a b) (ptHi c d)) := fun p q1 q2 q3 q4 => ale_trans (mx_le q1 q3) (le_mn q2 q4)
    obtain ⟨⟨l1, l2⟩, l3, l4⟩ := lo_ends a b
    obtain ⟨⟨m1, m2⟩, m3, m4⟩ := lo_ends c d
    by_cases t : (onS a c d || onS b c d || onS c a b || onS d a b) = true
    · simp only [Bool.or_eq_true] at t
      rcases t with ((t | t) | t) | t
      · obtain ⟨_, u, v⟩ := onS_iff.mp t; exact key a l1 l3 u v
      · obtain ⟨_, u, v⟩ := onS_iff.mp t; exact key b l2 l4 u v
      · obtain ⟨_, u, v⟩ := onS_iff.mp t; exact key c u v m1 m3
      · obtain ⟨_, u, v⟩ := onS_iff.mp t; exact key d u v m2 m4
    · rw [if_neg t, h1.1, h1.2] at h
      simp at h
  unfold meetM
  rw [if_pos h1]
  unfold sharedM partM
  have z : ahd (mn (ptHi a b) (ptHi c d)) (mx (ptLo a b) (ptLo c d)) = false := hle
  rw [mx_comm (ptLo c d)]
  simp only [z, if_false, Bool.false_eq_true]
theorem on_t {c d p : Pt} (hcd : c ≠ d) (h : crQ c d p = 0) : ∃ t : Rat, p.x = c.x + (d.x - c.x) * t ∧ p.y = c.y + (d.y - c.y) * t := by
  unfold crQ at h
  by_cases z : d.x - c.x = 0
  · have hy : d.y - c.y ≠ 0 := fun z2 => hcd (by
      refine Pt.eq_of ?_ ?_ <;> grind)
    refine ⟨(p.y - c.y) / (d.y - c.y), ?_, ?_⟩
    · have : (d.y - c.y) * (p.x - c.x) = 0 := by grind
      rcases Rat.mul_eq_zero.mp this with q | q
      · exact absurd q hy
      · grind
    · have : (p.y - c.y) / (d.y - c.y) * (d.y - c.y) = p.y - c.y := by grind
      grind
  · refine ⟨(p.x - c.x) / (d.x - c.x), ?_, ?_⟩
    · have : (p.x - c.x) / (d.x - c.x) * (d.x - c.x) = p.x - c.x := by grind
      grind
    · have e : (p.x - c.x) / (d.x - c.x) * (d.x - c.x) = p.x - c.x := by grind
      generalize (p.x - c.x) / (d.x - c.x) = t at *
      have : (d.x - c.x) * (p.y - (c.y + (d.y - c.y) * t)) = 0 := by grind
      rcases Rat.mul_eq_zero.mp this with q | q
      · exact absurd q z
      · grind
theorem on_mid {u v c d p : Pt} (hcd : c ≠ d) (h : onS p c d = true) (h0 : crQ u v p = 0) : ¬ tn u v c * tn u v d > 0 := by
  obtain ⟨h1, _, _⟩ := onS_iff.mp h
  obtain ⟨t, x1, y1⟩ := on_t hcd (tn_zero.mp h1)
  rw [onS_along hcd x1 y1] at h
  obtain ⟨t0, t1⟩ := of_decide_eq_true h
  have e : crQ u v p = crQ u v c + (crQ u v d - crQ u v c) * t := by unfold crQ; rw [x1, y1]; grind
  rw [h0] at e
  unfold tn
  intro hh
  rcases sg_cases (crQ u v c) with ⟨a1, e1⟩ | ⟨a1, e1⟩ | ⟨a1, e1⟩ <;> rcases sg_cases (crQ u v d) with ⟨a2, e2⟩ | ⟨a2, e2⟩ | ⟨a2, e2⟩ <;> rw [e1, e2] at hh
  all_goals first
    | (exact absurd hh (by decide))
    | skip
  · have p1 : 0 ≤ crQ u v c * (1 - t) := Rat.mul_nonneg (by grind) (by grind)
    by_cases z : t = 1
    · subst z; grind
    · have : 0 < crQ u v c * (1 - t) := Rat.mul_pos a1 (by grind)
      have : 0 ≤ crQ u v d * t := Rat.mul_nonneg (by grind) (by grind)
      grind
  · have a1 : 0 < -(crQ u v c) := by grind
    have a2 : 0 < -(crQ u v d) := by grind
    by_cases z : t = 1
    · subst z; grind
    · have : 0 < -(crQ u v c) * (1 - t) := Rat.mul_pos a1 (by grind)
      have : 0 ≤ -(crQ u v d) * t := Rat.mul_nonneg (by grind) (by grind)
      grind
theorem touch_cross {a b c d : Pt} (hab : a ≠ b) (hcd : c ≠ d) (h : touchM a b c d = true) (h1 : ¬ (tn a b c = 0 ∧ tn a b d = 0)) : meetM a b c d = [xsM a b c d] := by
  have ends := tn_end a b
  have ends' := tn_end c d
  have n : ¬ (tn a b c * tn a b d > 0 ∨ tn c d a * tn c d b > 0) := by
    unfold touchM at h
    by_cases t : (onS a c d || onS b c d || onS c a b || onS d a b) = true
    · simp only [Bool.or_eq_true] at t
      rcases t with ((t | t) | t) | t
      · have q := (onS_iff.mp t).1
        have := on_mid (u := a) (v := b) hcd t (tn_zero.mp ends.1)
        rw [q]; omega
      · have q := (onS_iff.mp t).1
        have := on_mid (u := a) (v := b) hcd t (tn_zero.mp ends.2)
        rw [q]; omega
      · have q := (onS_iff.mp t).1
        have := on_mid (u := c) (v := d) hab t (tn_zero.mp ends'.1)
        rw [q]; omega
      · have q := (onS_iff.mp t).1
        have := on_mid (u := c) (v := d) hab t (tn_zero.mp ends'.2)
        rw [q]; omega
    · rw [if_neg t] at h
      by_cases z : 0 ≤ tn a b c * tn a b d
      · rw [if_pos z] at h; cases h
      · rw [if_neg z] at h
        have := of_decide_eq_true h
        omega
  unfold meetM
  rw [if_neg h1, if_neg n]
theorem tn_small (a b c : Pt) : (tn a b c).natAbs < 2 ^ 2 := by
  unfold tn
  rcases sg_cases (crQ a b c) with ⟨_, h⟩ | ⟨_, h⟩ | ⟨_, h⟩ <;> rw [h] <;> decide
end Py

set_option Elab.async false
set_option linter.all false
set_option autoImplicit false
set_option maxRecDepth 100000
set_option maxHeartbeats 4000000
namespace Py
open PySem hiding start
open PySem.Spec PyProof.Rows
open L2
open Classical
/-! ### zip over lists and tuples, mixed -/
def SqB (K : PySem.W.Frag) (t : Bool) (H : Hp) (a : Addr) (xs : List V) : Prop := match t with | true => SqT K H a xs | false => SqL K H a xs
def IterB (t : Bool) (h : Heap) (it a : Addr) (i : Nat) : Prop := match t with | true => h.IsTupleIter it a i | false => h.IsListIter it a i
def SeqB (t : Bool) (h : Heap) (a : Addr) (its : Array Value) : Prop := match t with | true => h.IsTuple a its | false => h.IsList a its
def iterO (t : Bool) (a : Addr) : Obj := match t with | true => { cls := .type "tuple_iterator", data := .fields #[.ref a, .int 0 0] } | false => { cls := .type "list_iterator", data := .fields #[.ref a, .int 0 0] }
def ItzB (K : PySem.W.Frag) (t1 t2 : Bool) (a b : Addr) : It :=
  ⟨fun i H => ∃ (xs ys : List V) (x y : V), SqB K t1 H a xs ∧ SqB K t2 H b ys ∧ xs[i]? = some x ∧ ys[i]? = some y,
    fun i H v H' => ∃ T x y, v = .ref T ∧ H T = none ∧ H' = upd H T (.tup [x, y]) ∧ (∀ xs, SqB K t1 H a xs → xs[i]? = some x) ∧ ∀ ys, SqB K t2 H b ys → ys[i]? = some y,
    fun i H => ∃ xs ys : List V, SqB K t1 H a xs ∧ SqB K t2 H b ys ∧ ((xs.length = i ∧ i ≤ ys.length) ∨ (ys.length = i ∧ i ≤ xs.length))⟩
theorem drawsB {prog : Program} {w : World} {A : Around} (t : Bool) (hh : A.handled = none) (it a : Addr) (hne : a ≠ it) (items : Array Value) :
    Draws prog w A it [it, a] items.size (fun i v => items[i]? = some v) (fun i h => IterB t h it a i ∧ SeqB t h a items) := by
  cases t
  · exact Draws.list hh it a hne items
  · exact Draws.tuple hh it a hne items
theorem beginsB (t : Bool) (a : Addr) (items : Array Value) : Begins (.ref a) (iterO t a) fun h => SeqB t h a items := by
  cases t
  · exact begins_list a items
  · exact begins_tuple a items
theorem seqB {X : Cx} {pins : List (Addr × Obj)} {σ : L2.St} {H : Hp} {s : Shared} (I : Inv X pins σ H s) {t : Bool} {a : Addr} {xs : List V} (h : SqB X.K t H a xs) :
    ∃ its : List Value, Vals xs its ∧ SeqB t s.heap a its.toArray ∧ a < s.heap.objs.size := by
  cases t
  · obtain ⟨its, rv, p, _⟩ := I.list h
    exact ⟨its, rv, p.isList, p.lt⟩
  · obtain ⟨its, rv, p, _⟩ := I.tuple h
    obtain ⟨o, ho, _⟩ := id p
    exact ⟨its, rv, p, Heap.lt_size ho⟩
theorem iterB_at {t : Bool} {h h' : Heap} {it a : Addr} {i : Nat} (x : IterB t h it a i) (k : ∀ o, h.get? it = some o → h'.get? it = some o) : IterB t h' it a i := by
  cases t
  · exact Heap.IsListIter.at x k
  · exact Heap.IsTupleIter.at x k
theorem iterB_obj {t : Bool} {h : Heap} {it a : Addr} {i : Nat} (x : IterB t h it a i) : ∃ o, h.get? it = some o ∧ ∀ v, o.data ≠ .cell v := by
  cases t
  · obtain ⟨o, e, _, d⟩ := x; exact ⟨o, e, fun v q => by rw [d] at q; cases q⟩
  · obtain ⟨o, e, _, d⟩ := x; exact ⟨o, e, fun v q => by rw [d] at q; cases q⟩
theorem iterB_new {t : Bool} {h : Heap} {it a : Addr} (x : h.get? it = some (iterO t a)) : IterB t h it a 0 := by
  cases t
  · exact ⟨_, x, rfl, rfl⟩
  · exact ⟨_, x, rfl, rfl⟩
theorem sqB_inj {X : Cx} {pins : List (Addr × Obj)} {σ : L2.St} {H : Hp} {s : Shared} (I : Inv X pins σ H s) {t : Bool} {a : Addr} {xs ys : List V} (h : SqB X.K t H a xs) (h' : SqB X.K t H a ys) : xs = ys := by
  cases t
  · exact I.list_inj h h'
  · exact I.tuple_inj h h'
theorem sep_of {z TI TO i1 i2 a b : Addr} (D : ZipApart z TI TO i1 i2 a b) : ZipSep2 z TI TO i1 i2 [i1, a] [i2, b] where
  TIz := D.TIz
  TOz := D.TOz
  TITO := D.TITO
  TIi1 := D.TIi1
  mem1 := by simp
  zf1 := by simp only [List.mem_cons, List.not_mem_nil, or_false, not_or]; exact ⟨D.i1z.symm, D.l1z.symm⟩
  Tf1 := by simp only [List.mem_cons, List.not_mem_nil, or_false, not_or]; exact ⟨D.TOi1, D.l1TO.symm⟩
  TIi2 := D.TIi2
  mem2 := by simp
  zf2 := by simp only [List.mem_cons, List.not_mem_nil, or_false, not_or]; exact ⟨D.i2z.symm, D.l2z.symm⟩
  Tf2 := by simp only [List.mem_cons, List.not_mem_nil, or_false, not_or]; exact ⟨D.TOi2, D.l2TO.symm⟩
  sep1_2 := by simp only [List.mem_cons, List.not_mem_nil, or_false, not_or]; exact ⟨D.i12, D.l2i1.symm⟩
  sep2_1 := by simp only [List.mem_cons, List.not_mem_nil, or_false, not_or]; exact ⟨D.i12.symm, D.l1i2.symm⟩
theorem turn_zipB {P : Program} {w : World} {K : PySem.W.Frag} {elts : List Expr} {kk : Nat} {tpos : Pos} {a b z TI TO i1 i2 : Addr} (t1 t2 : Bool) (D : ZipApart z TI TO i1 i2 a b) :
    Turn P w K (.Tuple elts kk tpos) (ItzB K t1 t2 a b) [z, TI, TO, i1, i2] z (fun i h => IsZip h z TI TO .none ∧ IsPair h TI (.ref i1) (.ref i2) ∧ (∃ x y, IsPair h TO x y) ∧ IterB t1 h i1 a i ∧ IterB t2 h i2 b i) where
  mem := by simp
  obj := fun i h st c hc => by
    obtain ⟨hz, hTI, ⟨x, y, hTO⟩, h1, h2⟩ := st
    have e' : c = z ∨ c = TI ∨ c = TO ∨ c = i1 ∨ c = i2 := by simpa using hc
    rcases e' with q | q | q | q | q
    · rw [q]; exact ⟨_, hz, fun v q => nomatch q⟩
    · rw [q]; exact ⟨_, hTI, fun v q => nomatch q⟩
    · rw [q]; exact ⟨_, hTO, fun v q => nomatch q⟩
    · rw [q]; exact iterB_obj h1
    · rw [q]; exact iterB_obj h2
  keep := fun i h h' st k => by
    obtain ⟨hz, hTI, ⟨x, y, hTO⟩, h1, h2⟩ := st
    exact ⟨k z (by simp) _ hz, k TI (by simp) _ hTI, ⟨x, y, k TO (by simp) _ hTO⟩, iterB_at h1 fun o q => k i1 (by simp) o q, iterB_at h2 fun o q => k i2 (by simp) o q⟩
  item := by
    intro X hP hw hK hc i pins s σ H E I hf st hg
    subst hP hw hK
    obtain ⟨hz, hTI, ⟨x0, y0, hTO⟩, h1, h2⟩ := st
    obtain ⟨xs, ys, x, y, hqx, hqy, hx, hy⟩ := hg
    obtain ⟨its, rv, p, _⟩ := seqB I hqx
    obtain ⟨its2, rv2, p2, _⟩ := seqB I hqy
    obtain ⟨u, hu, ru⟩ := rv.get hx
    obtain ⟨u2, hu2, ru2⟩ := rv2.get hy
    have hzl : z < s.heap.objs.size := Heap.lt_size hz
    have hl1 : i < its.toArray.size := by simpa using (List.getElem?_eq_some_iff.mp hu).1
    have hl2 : i < its2.toArray.size := by simpa using (List.getElem?_eq_some_iff.mp hu2).1
    have D1 := drawsB (prog := X.prog) (w := X.w) (A := X.A.in1) t1 (show X.A.in1.handled = none from I.ok.hd hc) i1 a D.l1i1 its.toArray
    have D2 := drawsB (prog := X.prog) (w := X.w) (A := X.A.in1) t2 (show X.A.in1.handled = none from I.ok.hd hc) i2 b D.l2i2 its2.toArray
    refine wpAny_pyNext_zipD2_item (sep_of D) D1 D2 hz hTI hTO ⟨h1, p⟩ ⟨h2, p2⟩ hl1 hl2 fun v1 v2 h' tk w1 w2 z' TO' g1 g2 hT hsz hk => ?_
    have e1 : v1 = u := by simpa [hu] using w1.symm
    have e2 : v2 = u2 := by simpa [hu2] using w2.symm
    subst e1 e2
    refine ⟨_, rfl, wpAny_letOwnedTupleGo_zip (s := { s with heap := h', toks := tk }) z' fun h'' z'' sb => ?_⟩
    have hT2 : h''.get? s.heap.objs.size = some { cls := .type "tuple", data := .seq #[v1, v2] } := (sb.2 _ (Nat.ne_of_gt hzl)).trans hT
    have new : ObjOk X.prog X.w (upd H s.heap.objs.size (.tup [x, y])) h'' s.heap.objs.size (.tup [x, y]) :=
      ⟨by show 2 ≤ sizeLine; decide, [v1, v2], .cons ru (.cons ru2 .nil), ⟨_, hT2, rfl, _, rfl⟩⟩
    have I1 : Inv X pins σ (upd H s.heap.objs.size (.tup [x, y])) { s with heap := h'', toks := tk } :=
      I.turnedNew (t' := tk) (ch := [z, TI, TO, i1, i2]) (fun c o hb q => (sb.2 c (fun q' => hb (by simp [q']))).trans (hk c o (fun q' => hb (by simp [q'])) (fun q' => hb (by simp [q'])) (fun q' => hb (by simp [q'])) (fun q' => hb (by simp [q'])) q)) hf (Nat.le_refl _) new
    refine ⟨.ref s.heap.objs.size, _, I1, rfl, ⟨_, x, y, rfl, I.hok.fresh (Nat.le_refl _), rfl, fun l hl => by rw [sqB_inj I hl hqx]; exact hx, fun l hl => by rw [sqB_inj I hl hqy]; exact hy⟩, ⟨z'', ?_, ⟨v1, v2, ?_⟩, ?_, ?_⟩, fun c hcm => ?_⟩
    · exact (sb.2 _ D.TIz).trans (hk _ _ D.TIz D.TITO D.TIi1 D.TIi2 hTI)
    · exact (sb.2 _ D.TOz).trans TO'
    · exact iterB_at g1.1 fun o q => (sb.2 _ D.i1z).trans q
    · exact iterB_at g2.1 fun o q => (sb.2 _ D.i2z).trans q
    · have hlt : c < s.heap.objs.size := by
        have e' : c = z ∨ c = TI ∨ c = TO ∨ c = i1 ∨ c = i2 := by simpa using hcm
        rcases e' with q | q | q | q | q
        · rw [q]; exact hzl
        · rw [q]; exact Heap.lt_size hTI
        · rw [q]; exact Heap.lt_size hTO
        · rw [q]; obtain ⟨_, e1, _⟩ := iterB_obj h1; exact Heap.lt_size e1
        · rw [q]; obtain ⟨_, e2, _⟩ := iterB_obj h2; exact Heap.lt_size e2
      rw [upd_ne (Nat.ne_of_lt hlt)]
      exact (hf c hcm).1
  done := by
    intro X hP hw hK hc i pins s σ H E I hf st hg
    subst hP hw hK
    obtain ⟨hz, hTI, ⟨x0, y0, hTO⟩, h1, h2⟩ := st
    obtain ⟨xs, ys, hqx, hqy, hend⟩ := hg
    obtain ⟨its, rv, p, _⟩ := seqB I hqx
    obtain ⟨its2, rv2, p2, _⟩ := seqB I hqy
    have l1 := rv.length
    have l2 := rv2.length
    have D1 := drawsB (prog := X.prog) (w := X.w) (A := X.A.in1) t1 (show X.A.in1.handled = none from I.ok.hd hc) i1 a D.l1i1 its.toArray
    have D2 := drawsB (prog := X.prog) (w := X.w) (A := X.A.in1) t2 (show X.A.in1.handled = none from I.ok.hd hc) i2 b D.l2i2 its2.toArray
    refine wpAny_pyNext_zipD2_end (sep_of D) D1 D2 hz hTI hTO ⟨h1, p⟩ ⟨h2, p2⟩ (by simp; omega) (by simp; omega) (by simp; omega) fun h' tk hk => ⟨rfl, I.turnedL (t' := tk) (ch := [z, TI, TO, i1, i2]) (fun c o hb q =>
      hk c o (fun q' => hb (by simp [q'])) (fun q' => hb (by simp [q'])) (fun q' => hb (by simp [q'])) (fun q' => hb (by simp [q'])) q) hf⟩
  self := fun A i s Q E st h => wpAny_pyIter_zip st.1 h
def iZipU (K : PySem.W.Frag) (ta : TA) : TI := fun σ H R => ta σ H fun vs H1 => ∃ t1 t2 a b xs ys, vs = [.ref a, .ref b] ∧ SqB K t1 H1 a xs ∧ SqB K t2 H1 b ys ∧ R (ItzB K t1 t2 a b) H1
theorem pi_zipU {X : Cx} {e e2 : Expr} {ta : TA} {p pos tpos : Pos} {elts : List Expr} {kk : Nat} (hg : Gl X "zip") (hm : X.mg "zip" = none) (ha : PA X [e, e2] ta)
    (hs : starEach [e, e2] X.env = (false, eval e X.env) :: starEach [e2] X.env := by rfl) (hpl : (backTo pos (starEach [e2] X.env)).any (·.1) = false := by rfl) :
    PI X (.Tuple elts kk tpos) (.Call (.Name "zip" p) [e, e2] [] pos) (iZipU X.K ta) := by
  refine ⟨fun pins s σ H R I h => ?_⟩
  refine Call_ (ld_blt I hg hm PyProof.Rows.boot_zip (PyProof.Rows.callWith_type1 (thn (ha.run pos pins s σ H _ I h) fun us s1 ⟨vs, H1, I1, r1, q1⟩ => ?_) hs hpl))
  obtain ⟨t1, t2, a, b, xs, ys, ex, hqx, hqy, q⟩ := q1
  subst ex
  cases r1 with
  | cons r rr =>
    cases rr with
    | cons r' rr =>
      cases rr
      cases r
      cases r'
      have fresh5 : ∀ c, c ∈ [s1.heap.objs.size + 4, s1.heap.objs.size + 2, s1.heap.objs.size + 3, s1.heap.objs.size, s1.heap.objs.size + 1] → FpOk X pins H1 c := fun c hcm => by
        have e' : c = s1.heap.objs.size + 4 ∨ c = s1.heap.objs.size + 2 ∨ c = s1.heap.objs.size + 3 ∨ c = s1.heap.objs.size ∨ c = s1.heap.objs.size + 1 := by simpa using hcm
        have hle : s1.heap.objs.size ≤ c := by
          rcases e' with z | z | z | z | z
          · rw [z]; exact Nat.le_add_right _ _
          · rw [z]; exact Nat.le_add_right _ _
          · rw [z]; exact Nat.le_add_right _ _
          · rw [z]; exact Nat.le_refl _
          · rw [z]; exact Nat.le_add_right _ _
        exact I1.fpOk hle (I1.hok.fresh hle)
      obtain ⟨its, rv, p1, l1⟩ := seqB I1 hqx
      obtain ⟨its2, rv2, p2, l2⟩ := seqB I1 hqy
      refine zip_begins2 (beginsB t1 a its.toArray) (beginsB t2 b its2.toArray) p1 p2 fun h' hz hTI hTO h1 h2 hsz hk => wpAny_pyIter_zip hz ?_
      have I2 : Inv X pins σ H1 { s1 with heap := h' } := I1.kept (t' := s1.toks) hk
      exact ⟨s1.heap.objs.size + 4, [s1.heap.objs.size + 4, s1.heap.objs.size + 2, s1.heap.objs.size + 3, s1.heap.objs.size, s1.heap.objs.size + 1], _, _, H1, rfl, I2, turn_zipB t1 t2 (PySem.W.ktu_apart s1.heap.objs.size a b l1 l2), ⟨hz, hTI, ⟨_, _, hTO⟩, iterB_new h1, iterB_new h2⟩, fresh5, q⟩
end Py

set_option Elab.async false
set_option linter.all false
set_option autoImplicit false
set_option maxRecDepth 100000
set_option maxHeartbeats 4000000
namespace Py
open PySem hiding start
open L2
open Evl (Ex ex_rd ex_l ex_t fresh_back)
open Classical
theorem lc_zipB {K : PySem.W.Frag} (t1 t2 : Bool) {a b : Addr} {xs ys : List V} {g : TG} {tt : TT} {te : TE} {vs : List Nat} {σ : L2.St} {H1 : Hp} {D : Addr} {Qd : Hp → Prop} (he : xs.length = ys.length) (Pv : Nat → Hp → Prop) (h0 : Pv 0 (upd H1 D (.lst []))) (hl : ∀ i H, i ≤ xs.length → Pv i H → SqB K t1 H a xs ∧ SqB K t2 H b ys)
    (hs : ∀ i x y T H, xs[i]? = some x → ys[i]? = some y → Pv i H → H T = none → g (.ref T) (L2.wipe σ vs) (upd H T (.tup [x, y])) fun σ2 H2 => L2.wipe σ2 vs = L2.wipe σ vs ∧ tt σ2 H2 fun b H3 =>
      if b = true then te σ2 H3 fun y H4 => ∃ acc, H4 D = some (.lst acc) ∧ acc.length < sizeLine ∧ Pv (i + 1) (upd H4 D (.lst (acc ++ [y]))) else Pv (i + 1) H3) (hd : ∀ H, Pv xs.length H → Qd H) :
    ∃ W : Nat → Nat → Hp → Prop, (∃ m, W 0 m (upd H1 D (.lst []))) ∧ ∀ i m H, W i m H →
      ((ItzB K t1 t2 a b).stop i H ∧ Qd H) ∨ ((ItzB K t1 t2 a b).go i H ∧ ∃ Nx : Hp → Prop, (∀ H', Nx H' → ∃ m', m' < m ∧ W (i + 1) m' H') ∧ ∀ x H', (ItzB K t1 t2 a b).yld i H x H' → g x (L2.wipe σ vs) H' fun σ2 H2 => L2.wipe σ2 vs = L2.wipe σ vs ∧ tt σ2 H2 fun b H3 =>
        if b = true then te σ2 H3 fun y H4 => ∃ acc, H4 D = some (.lst acc) ∧ acc.length < sizeLine ∧ Nx (upd H4 D (.lst (acc ++ [y]))) else Nx H3) := by
  refine ⟨fun i m H => m = xs.length - i ∧ i ≤ xs.length ∧ Pv i H, ⟨xs.length, by simp, Nat.zero_le _, h0⟩, ?_⟩
  rintro i m H ⟨rfl, hi, p⟩
  obtain ⟨q1, q2⟩ := hl i H hi p
  by_cases hlt : i < xs.length
  · have hlt2 : i < ys.length := by omega
    refine .inr ⟨⟨xs, ys, xs[i], ys[i], q1, q2, by simp [hlt], by simp [hlt2]⟩, Pv (i + 1), fun H' p' => ⟨xs.length - (i + 1), by omega, rfl, hlt, p'⟩, fun x H' y => ?_⟩
    obtain ⟨T, x', y', rfl, hT, rfl, f1, f2⟩ := y
    exact hs i x' y' T H (f1 xs q1) (f2 ys q2) p hT
  · have e : i = xs.length := by omega
    subst e
    exact .inl ⟨⟨xs, ys, q1, q2, .inl ⟨rfl, by omega⟩⟩, hd H p⟩
def sqD (t : Bool) (xs : List PyData) : PyData := match t with | true => .tuple xs | false => .list xs
theorem exB {K : PySem.W.Frag} {G G' : Hp} {t : Bool} {a : Addr} {xs : List V} (e : Ex G G') (h : SqB K t G a xs) : SqB K t G' a xs := by
  cases t
  · exact ex_l e h
  · exact ex_t e h
theorem sqD_inv {K : PySem.W.Frag} {G : Hp} {v : V} {t : Bool} {xs : List PyData} (h : Dp K G v (sqD t xs)) : ∃ a us, v = .ref a ∧ SqB K t G a us ∧ DpAll K G us xs := by
  cases t
  · cases h with
    | lst hs ha => exact ⟨_, _, rfl, hs, ha⟩
  · cases h with
    | tup hs ha => exact ⟨_, _, rfl, hs, ha⟩
section
variable {K : PySem.W.Frag} {c c' : Ctx K} {ρ : Rho} {E : DE} {ta tb te : TE} {t u tb' : TS} {tc : TT}
theorem wf_lcZ {tl : TA} {g : TG} {tt : TT} {vs : List Nat} {k : List PyData → Prop} (js : List Nat) (hj : ∀ i ∈ js, i ∈ vs) (hw : (vs.all fun v => (ρ[v]?.map isOwn) == some false) = true) (h : Wa c tl ρ fun zs => ∃ t1 t2 xs ys, zs = [.d (sqD t1 xs), .d (sqD t2 ys)] ∧ xs.length = ys.length ∧ xs.length ≤ 100000 ∧ ∃ P : Nat → List PyData → Prop, P 0 [] ∧
    (∀ c' : Ctx K, Le c c' → ∀ i x y acc, xs[i]? = some x → ys[i]? = some y → acc.length ≤ i → P i acc → Wg c' g js (.d (.tuple [x, y])) (wipeR ρ vs) fun ρ2 => Wt c' tt ρ2 fun b => (b = true → We c' te ρ2 fun y => ∃ d, y = .d d ∧ P (i + 1) (acc ++ [d])) ∧ (b = false → P (i + 1) acc)) ∧
    ∀ acc, acc.length ≤ xs.length → P xs.length acc → k acc) : Wf c (tLc (iZipU K tl) g tt te vs) ρ k := fun σ H Q o q =>
  h σ H _ o fun us zs H1 o1 e1 d1 ⟨t1, t2, xs, ys, hx, hl0, hz, P, p0, ps, pd⟩ => by
    subst hx
    cases d1 with
    | cons dA dr =>
    cases dr with
    | cons dB dn =>
    cases dn
    obtain ⟨a1, us1, rfl, hs1, ha1⟩ := sqD_inv dA
    obtain ⟨a2, us2, rfl, hs2, ha2⟩ := sqD_inv dB
    refine ⟨t1, t2, a1, a2, us1, us2, rfl, exB hid_sub hs1, exB hid_sub hs2, fun D hD => ?_⟩
    have nD : ¬ Hid c ρ D := o1.nh hD
    have nDL : ¬ c.L D := fun z => nD (.inl z)
    -- what stood ahead of the list, for all turns
    let B1 : Hp := vis c ρ H1
    have bB : Ex c.B B1 := o1.base
    have B1D : B1 D = none := hid_none hD
    have own0 : ∀ a, Owns ρ a → B1 a = none := fun a z => hid_pos (.inr z)
    let Pv : Nat → Hp → Prop := fun i H' => ∃ (ws : List V) (acc : List PyData), H' D = some (.lst ws) ∧ Ok (c.at B1) ρ σ H' ∧ Stp c ρ H1 H' ∧ DpAll K (hid (· = D) (vis c ρ H')) ws acc ∧ acc.length ≤ i ∧ P i acc
    have hH0 : H D = none := by
      cases z : H D with
      | none => rfl
      | some ob =>
        have := e1.ex D ob (by unfold vis; rw [hid_neg nD]; exact z)
        rw [vis, hid_none hD] at this; cases this
    refine lc_zipB (K := K) t1 t2 (a := a1) (b := a2) (xs := us1) (ys := us2) (by rw [dpa_len ha1, dpa_len ha2]; exact hl0) Pv ?_ ?_ ?_ ?_
    · obtain ⟨o2, e2⟩ := o1.new (o := .lst []) hD
      have o2' : Ok (c.at B1) ρ σ (upd H1 D (.lst [])) := ⟨o2.w, e2.ex.trans vis_out, fun l z => ⟨own0 l z, (o2.ob l z).2⟩, o2.sl, o2.one, o2.len⟩
      exact ⟨[], [], upd_same, o2', e2, .nil, Nat.le_refl 0, p0⟩
    · rintro i H' _ ⟨ws, acc, _, o', _, _, _, _⟩
      exact ⟨exB hid_sub (exB o'.b hs1), exB hid_sub (exB o'.b hs2)⟩
    · rintro i x1 y1 T H' hx1 hy1 ⟨ws, acc, hD', o', s', dacc, hl, p'⟩ hT
      obtain ⟨dx, hdx, ddx⟩ := dpa_get' ha1 hx1
      obtain ⟨dy, hdy, ddy⟩ := dpa_get' ha2 hy1
      have hi : i < 100000 := by
        have := (List.getElem?_eq_some_iff.mp hdx).1
        omega
      -- the context of this turn
      let B2 : Hp := hid (· = D) (vis c ρ H')
      have bB2 : Ex B1 B2 := fun b ob z => by
        have nb : b ≠ D := fun q => by rw [q, B1D] at z; cases z
        exact (hid_neg (L := fun x => x = D) nb).trans (s'.ex b ob z)
      let c2 : Ctx K := c.hide D (.lst ws) B2
      have le : Le c c2 := le_hide nDL (bB.trans bB2)
      have visE : ∀ (ρ2 : Rho) (H2 : Hp), Ex (vis c2 ρ2 H2) (hid (· = D) (vis c ρ2 H2)) := fun ρ2 H2 b ob z => by
        obtain ⟨n1, z⟩ := hid_some z
        have nb : b ≠ D := fun q => n1 (.inl (.inr q))
        refine (hid_neg (L := fun x => x = D) nb).trans ((hid_neg fun q => n1 (q.imp .inl id)).trans z)
      have visE' : ∀ (ρ2 : Rho) (H2 : Hp), Ex (hid (· = D) (vis c ρ2 H2)) (vis c2 ρ2 H2) := fun ρ2 H2 b ob z => by
        obtain ⟨nb, z⟩ := hid_some z
        obtain ⟨n1, z⟩ := hid_some z
        refine (hid_neg fun q => ?_).trans z
        rcases q with (q | q) | q
        · exact n1 (.inl q)
        · exact nb q
        · exact n1 (.inr q)
      have oD : ∀ (l : Addr), Owns ρ l → l ≠ D := fun l z q => nD (.inr (q ▸ z))
      have slots : ∀ (j : Nat) (s : Slot), ρ[j]? = some s → ∃ ob, σ[j]? = some ob ∧ SlotOk K (vis c2 ρ H') H' ob s := fun j s hs' => by
        obtain ⟨u1, q1, z1⟩ := (o1.clean s' hD j s hs')
        refine ⟨u1, q1, ?_⟩
        cases s with
        | un => trivial
        | val y => obtain ⟨w, w1, w2⟩ := z1; exact ⟨w, w1, dv_mono (visE' ρ H') w2⟩
        | own l ys => obtain ⟨w, w1, w2, w3⟩ := z1; exact ⟨w, w1, w2, own_mono (visE' ρ H') _ _ w3⟩
      have o2 : Ok c2 ρ σ H' := ⟨⟨o'.w, hD'⟩, (visE' ρ H').trans vis_out, fun l z => ⟨(show hid (· = D) (vis c ρ H') l = none from hid_none' (hid_pos (Or.inr z))), fun q => q.elim (o'.ob l z).2 (oD l z)⟩, slots, o'.one, o'.len⟩
      have o3 : Ok c2 (wipeR ρ vs) (L2.wipe σ vs) H' := o2.wipe vs
      have ev : Ex (vis c2 ρ H') (vis c2 (wipeR ρ vs) H') := hid_less fun b z => z.imp id owns_wipe
      have up : Ex B1 (vis c2 (wipeR ρ vs) H') := (Evl.Ex.trans bB2 (visE' ρ H')).trans ev
      obtain ⟨o3n, e3n⟩ := o3.new (o := .tup [x1, y1]) hT
      have dd2 : Dp K (vis c2 (wipeR ρ vs) (upd H' T (.tup [x1, y1]))) (.ref T) (.tuple [dx, dy]) := dp_tup (vis_upd (o3.nh hT)) (.cons (dp_mono (up.trans e3n.ex) _ _ ddx) (.cons (dp_mono (up.trans e3n.ex) _ _ ddy) .nil))
      refine ps c2 le i dx dy acc hdx hdy hl p' (L2.wipe σ vs) _ (.ref T) _ o3n dd2 fun ρ4 σ4 o4 a4 l4 b4 b4' w4 => ⟨wipe_eq hj a4 l4, ?_⟩
      refine w4 σ4 _ _ o4 fun b H5 o5 s5n z5 => ?_
      have s4 : Stp c2 ρ4 H' (upd H' T (.tup [x1, y1])) := ⟨hid_ex (Ex.new hT), fun a z => upd_ne fun q => o3.nh hT (.inr (q ▸ b4' a z))⟩
      have s5 : Stp c2 ρ4 H' H5 := s4.trans s5n
      -- what is the same again once the element is told
      have back : ∀ H6, Ok c2 ρ4 σ4 H6 → Stp c2 ρ4 H' H6 → H6 D = some (.lst ws) ∧ (∀ a, Owns ρ a → H6 a = H' a) ∧ Ex (vis c2 ρ H') (vis c2 ρ H6) := fun H6 o6 s6 => by
        refine ⟨o6.w.2, fun a z => s6.own a (b4 a (owns_wipe' hw z).1), fun b ob z => ?_⟩
        · obtain ⟨n1, z⟩ := hid_some z
          have n2 : ¬ Hid c2 ρ4 b := fun q => n1 (q.imp id fun q => owns_wipe (b4' b q))
          have := s6.ex b ob (by unfold vis; rw [hid_neg n2]; exact z)
          unfold vis
          rw [hid_neg n1]
          exact (hid_some this).2
      cases b with
      | false =>
        rw [if_neg Bool.false_ne_true]
        obtain ⟨hD5, ow5, ex5⟩ := back H5 o5 s5
        have exA : Ex (vis c ρ H') (vis c ρ H5) := fun b ob z => by
          by_cases nb : b = D
          · subst nb
            unfold vis at *
            rw [hid_neg nD] at *
            rw [hD'] at z
            rw [hD5]; exact z
          · have := ex5 b ob (visE' ρ H' b ob ((hid_neg (L := fun x => x = D) nb).trans z))
            exact hid_sub b ob (visE ρ H5 b ob this)
        have stp : Stp c ρ H' H5 := ⟨exA, ow5⟩
        refine ⟨ws, acc, hD5, o'.grow o5.w.1 exA ow5, s'.trans stp, dpa_mono (fun b ob z => visE ρ H5 b ob (ex5 b ob (visE' ρ H' b ob z))) _ _ dacc, Nat.le_succ_of_le hl, z5.2 rfl⟩
      | true =>
        rw [if_pos rfl]
        refine z5.1 rfl σ4 H5 _ o5 fun v6 y6 H6 o6 s6 d6 ⟨d, hy6, p6⟩ => ?_
        subst hy6
        obtain ⟨hD6, ow6, ex6⟩ := back H6 o6 (s5.trans s6)
        refine ⟨ws, hD6, ?_, ?_⟩
        · have w1 := dpa_len dacc
          exact Evl.sz_lt (by omega)
        · -- the list has one more
          have ow7 : ∀ a, Owns ρ a → upd H6 D (.lst (ws ++ [v6])) a = H' a := fun a z => (upd_ne (oD a z)).trans (ow6 a z)
          have e67 : Ex (hid (· = D) (vis c ρ H6)) (hid (· = D) (vis c ρ (upd H6 D (.lst (ws ++ [v6]))))) := fun b ob z => by
            obtain ⟨nb, z⟩ := hid_some z
            obtain ⟨n1, z⟩ := hid_some z
            refine (hid_neg (L := fun x => x = D) nb).trans ((hid_neg n1).trans ((upd_ne nb).trans z))
          have exB : Ex (hid (· = D) (vis c ρ H')) (hid (· = D) (vis c ρ (upd H6 D (.lst (ws ++ [v6]))))) := fun b ob z => e67 b ob (visE ρ H6 b ob (ex6 b ob (visE' ρ H' b ob z)))
          have w7 : c.W (upd H6 D (.lst (ws ++ [v6]))) := c.loc _ _ (fun a z => upd_ne fun q => nDL (q ▸ z)) (tp_lst hD6) o6.w.1
          have o7 : Ok (c.at B1) ρ σ (upd H6 D (.lst (ws ++ [v6]))) := by
            refine ⟨w7, fun b ob z => ?_, o'.ob, fun j s hs' => ?_, o'.one, o'.len⟩
            · have := exB b ob (bB2 b ob z)
              exact vis_out b ob (hid_sub b ob this)
            · obtain ⟨u1, q1, z1⟩ := (o1.clean s' hD j s hs')
              refine ⟨u1, q1, ?_⟩
              cases s with
              | un => trivial
              | val y => obtain ⟨w, w1, w2⟩ := z1; exact ⟨w, w1, dv_mono (exB.trans hid_sub) w2⟩
              | own l ys =>
                obtain ⟨w, w1, w2, w3⟩ := z1
                exact ⟨w, w1, (ow7 l ⟨ys, List.mem_of_getElem? hs'⟩).trans w2, own_mono (exB.trans hid_sub) _ _ w3⟩
          refine ⟨ws ++ [v6], acc ++ [d], upd_same, o7, ⟨fun b ob z => ?_, fun a z => (ow7 a z).trans (s'.own a z)⟩, ?_, by simp; omega, p6⟩
          · have nb : b ≠ D := fun q => by subst q; rw [vis, hid_none hD] at z; cases z
            have := exB b ob ((hid_neg (L := fun x => x = D) nb).trans (s'.ex b ob z))
            exact hid_sub b ob this
          · refine dpa_app (dpa_mono exB _ _ dacc) (.cons (dp_mono (fun b ob z => ?_) _ _ d6) .nil)
            -- what the element is made of
            have z0 := visE ρ4 H6 b ob z
            obtain ⟨nb, z1⟩ := hid_some z0
            obtain ⟨n1, z2⟩ := hid_some z1
            refine e67 b ob ((hid_neg (L := fun x => x = D) nb).trans ((hid_neg fun q => ?_).trans z2))
            rcases q with q | q
            · exact n1 (.inl q)
            · exact n1 (.inr (b4 b (owns_wipe' hw q).1))
    · rintro H' ⟨ws, acc, hD', o', s', dacc, hl, p'⟩
      rw [dpa_len ha1] at *
      exact q D ws acc H' hH0 hD' (ok_at bB o') (e1.trans s') dacc (pd acc hl p')
def rMaxI : List V → Hp → VK → Prop := fun xs H Q => ∃ i j, xs = [.int i, .int j] ∧ Q (.int (if j > i then j else i)) H
theorem call_maxI {X : Cx} (hc : X.calm = true) : CallR X (.builtin "max") rMaxI := call_max2 hc
theorem rc_maxI {k : Dv → Prop} {i j : Int} (h : k (.d (.int (if j > i then j else i)))) : Rc c rMaxI ρ [.d (.int i), .d (.int j)] k := fun σ H vs Q o d q => by
  cases d with
  | cons d1 d2 =>
  cases d2 with
  | cons d2 d3 =>
  cases d3
  obtain rfl := dp_int d1
  obtain rfl := dp_int d2
  exact ⟨i, j, rfl, q.val o (x := .d _) (Dp.int _) h⟩
end
end Py

set_option Elab.async false
set_option linter.all false
set_option autoImplicit false
set_option exponentiation.threshold 20000
namespace Py
open PySem hiding start
open L2
/-! ### where a point lies, and how large it then is -/
def xyB (N : Rat) (p : Pt) : Prop := (-N ≤ p.x ∧ p.x ≤ N) ∧ -N ≤ p.y ∧ p.y ≤ N
theorem mulB {u v A B : Rat} (hu : -A ≤ u ∧ u ≤ A) (hv : -B ≤ v ∧ v ≤ B) : -(A * B) ≤ u * v ∧ u * v ≤ A * B := by
  have h1 := Rat.mul_nonneg (show 0 ≤ A - u by grind) (show 0 ≤ B + v by grind)
  have h2 := Rat.mul_nonneg (show 0 ≤ A + u by grind) (show 0 ≤ B - v by grind)
  have h3 := Rat.mul_nonneg (show 0 ≤ A - u by grind) (show 0 ≤ B - v by grind)
  have h4 := Rat.mul_nonneg (show 0 ≤ A + u by grind) (show 0 ≤ B + v by grind)
  constructor <;> grind
theorem alongB {N x y l : Rat} (hx : -N ≤ x ∧ x ≤ N) (hy : -N ≤ y ∧ y ≤ N) (hl : -5 ≤ l ∧ l ≤ 5) : -(11 * N) ≤ x + (y - x) * l ∧ x + (y - x) * l ≤ 11 * N := by
  have := mulB (u := y - x) (v := l) (A := 2 * N) (B := 5) (by grind) hl
  constructor <;> grind
theorem topB {n : Nat} {a c : Int} {x : Rat} (h : (a : Rat) = x * (c : Rat)) (hc : 0 < c) (hx : -((2 ^ n : Nat) : Rat) ≤ x ∧ x ≤ ((2 ^ n : Nat) : Rat)) : a.natAbs ≤ 2 ^ n * c.natAbs := by
  have hc' : (0 : Rat) ≤ (c : Rat) := by exact_mod_cast (show 0 ≤ c by omega)
  have h1 := Rat.mul_nonneg (show 0 ≤ ((2 ^ n : Nat) : Rat) - x by grind) hc'
  have h2 := Rat.mul_nonneg (show 0 ≤ ((2 ^ n : Nat) : Rat) + x by grind) hc'
  have h3 : (a : Rat) ≤ ((2 ^ n : Nat) : Rat) * (c : Rat) := by grind
  have h4 : -(((2 ^ n : Nat) : Rat) * (c : Rat)) ≤ (a : Rat) := by grind
  have h3 : a ≤ ((2 ^ n : Nat) : Int) * c := by exact_mod_cast h3
  have h4 : -(((2 ^ n : Nat) : Int) * c) ≤ a := by exact_mod_cast h4
  have e : ((2 ^ n * c.natAbs : Nat) : Int) = ((2 ^ n : Nat) : Int) * c := by
    rw [Int.natCast_mul, Int.natAbs_of_nonneg (by omega)]
  omega
theorem xyB_S {n m : Nat} {p : Pt} (h : xyB ((2 ^ n : Nat) : Rat) p) (hc : p.c.natAbs < 2 ^ m) : ptS (n + m) p := by
  have key : ∀ a : Int, a.natAbs ≤ 2 ^ n * p.c.natAbs → a.natAbs < 2 ^ (n + m) := fun a ha => by
    refine Nat.lt_of_le_of_lt ha ?_
    rw [Nat.pow_add]
    exact Nat.mul_lt_mul_of_pos_left hc (Nat.two_pow_pos n)
  exact ⟨key _ (topB p.xc p.pos h.1), key _ (topB p.yc p.pos h.2), nup hc (by omega)⟩
theorem quoB {n : Nat} {a c : Int} {x : Rat} (h : (a : Rat) = x * (c : Rat)) (hc : 0 < c) (ha : a.natAbs < 2 ^ n) : -((2 ^ n : Nat) : Rat) ≤ x ∧ x ≤ ((2 ^ n : Nat) : Rat) := by
  have hc' : (0 : Rat) ≤ (c : Rat) - 1 := by
    have : (1 : Rat) ≤ (c : Rat) := by exact_mod_cast (show 1 ≤ c by omega)
    grind
  have a1 : (a : Rat) ≤ ((2 ^ n : Nat) : Rat) := by exact_mod_cast (show a ≤ ((2 ^ n : Nat) : Int) by omega)
  have a2 : -((2 ^ n : Nat) : Rat) ≤ (a : Rat) := by
    have z : ((2 ^ n : Nat) : Rat) ≥ ((-a : Int) : Rat) := by exact_mod_cast (show -a ≤ ((2 ^ n : Nat) : Int) by omega)
    rw [Rat.intCast_neg] at z
    grind
  have n0 : (0 : Rat) ≤ ((2 ^ n : Nat) : Rat) := by exact_mod_cast Nat.zero_le _
  generalize ((2 ^ n : Nat) : Rat) = N at *
  constructor
  · by_cases z : -N ≤ x
    · exact z
    · exfalso
      have := Rat.mul_nonneg (show 0 ≤ -x by grind) hc'
      grind
  · by_cases z : x ≤ N
    · exact z
    · exfalso
      have := Rat.mul_nonneg (show 0 ≤ x by grind) hc'
      grind
theorem xyB_of {n : Nat} {p : Pt} (h : ptS n p) : xyB ((2 ^ n : Nat) : Rat) p := ⟨quoB p.xc p.pos h.a, quoB p.yc p.pos h.b⟩
theorem xyB_mono {M N : Rat} {p : Pt} (h : xyB M p) (e : M ≤ N) : xyB N p := by
  unfold xyB at *
  obtain ⟨⟨h1, h2⟩, h3, h4⟩ := h
  refine ⟨⟨?_, ?_⟩, ?_, ?_⟩ <;> grind
theorem xyB_along {N l : Rat} {p q r : Pt} (hp : xyB N p) (hq : xyB N q) (hl : -5 ≤ l ∧ l ≤ 5) (hx : r.x = p.x + (q.x - p.x) * l) (hy : r.y = p.y + (q.y - p.y) * l) : xyB (11 * N) r := by
  unfold xyB
  rw [hx, hy]
  exact ⟨alongB hp.1 hq.1 hl, alongB hp.2 hq.2 hl⟩
theorem xyB_other {N : Rat} {q r : Pt} (h : xyB N q) (n1 : 1 ≤ N) (e : r = q ∨ (r.x = q.x + 1 ∧ r.y = q.y)) : xyB (2 * N) r := by
  rcases e with rfl | ⟨e1, e2⟩
  · exact xyB_mono h (by grind)
  · unfold xyB at *
    rw [e1, e2]
    obtain ⟨⟨h1, h2⟩, h3, h4⟩ := h
    refine ⟨⟨?_, ?_⟩, ?_, ?_⟩ <;> grind
theorem lamB {s t : Int} (ht : 0 < t) (h1 : -(5 * t) ≤ s) (h2 : s ≤ 5 * t) : -5 ≤ (s : Rat) / (t : Rat) ∧ (s : Rat) / (t : Rat) ≤ 5 := by
  have t0 : (0 : Rat) < (t : Rat) := by exact_mod_cast ht
  have e : (s : Rat) / (t : Rat) * (t : Rat) = (s : Rat) := by grind
  have g2 : (s : Rat) ≤ 5 * (t : Rat) := by exact_mod_cast h2
  have g1 : ((-s : Int) : Rat) ≤ 5 * (t : Rat) := by exact_mod_cast (show -s ≤ 5 * t by omega)
  rw [Rat.intCast_neg] at g1
  generalize (s : Rat) / (t : Rat) = q at *
  constructor
  · by_cases z : -5 ≤ q
    · exact z
    · exfalso
      have := Rat.mul_pos (show 0 < -5 - q by grind) t0
      grind
  · by_cases z : q ≤ 5
    · exact z
    · exfalso
      have := Rat.mul_pos (show 0 < q - 5 by grind) t0
      grind
theorem powB (n : Nat) : ((2 ^ (n + 8) : Nat) : Rat) = 256 * ((2 ^ n : Nat) : Rat) := by
  rw [Nat.pow_add, Rat.natCast_mul, Rat.mul_comm]
  rfl
theorem powB1 (n : Nat) : (1 : Rat) ≤ ((2 ^ n : Nat) : Rat) := by exact_mod_cast Nat.one_le_two_pow
theorem powB_mono {m n : Nat} (h : m ≤ n) : ((2 ^ m : Nat) : Rat) ≤ ((2 ^ n : Nat) : Rat) := by exact_mod_cast Nat.pow_le_pow_right (by decide) h
def sdD (s : Pt × Pt) : PyData := .tuple [ptD s.1, ptD s.2]
end Py
namespace Py
open PySem hiding start
open L2
def sdAll (n : Nat) (ss : List (Pt × Pt)) : Prop := ∀ s ∈ ss, s.1 ≠ s.2 ∧ xyB ((2 ^ n : Nat) : Rat) s.1 ∧ xyB ((2 ^ n : Nat) : Rat) s.2 ∧ s.1.c.natAbs < 2 ^ 600 ∧ s.2.c.natAbs < 2 ^ 600
end Py

set_option Elab.async false
set_option linter.all false
set_option autoImplicit false
set_option maxRecDepth 100000
namespace Py
open PySem hiding start
open L2
/-! ### common points of two sides -/
theorem line_two {a b c d r : Pt} (hcd : c ≠ d) (hr : r ≠ c) (h1 : crQ c d r = 0) (h2 : crQ a b c = 0) (h3 : crQ a b r = 0) : crQ a b d = 0 := by
  obtain ⟨t, x1, y1⟩ := on_t hcd h1
  have e : crQ a b r = crQ a b c + (crQ a b d - crQ a b c) * t := by unfold crQ; rw [x1, y1]; grind
  by_cases z : t = 0
  · subst z
    exact absurd (Pt.eq_of (by grind) (by grind)) hr
  · rw [h2, h3] at e
    have : crQ a b d * t = 0 := by grind
    rcases Rat.mul_eq_zero.mp this with q | q
    · exact q
    · exact absurd q z
theorem touch_iff {a b c d : Pt} (hab : a ≠ b) (hcd : c ≠ d) : touchM a b c d = true ↔ ∃ r, onS r a b = true ∧ onS r c d = true := by
  constructor
  · intro h
    have hne : meetM a b c d ≠ [] := by
      by_cases h1 : tn a b c = 0 ∧ tn a b d = 0
      · rw [touch_along h h1]; unfold partM; split <;> simp
      · rw [touch_cross hab hcd h h1]; simp
    obtain ⟨r, hr⟩ := List.exists_mem_of_ne_nil _ hne
    exact ⟨r, meet_on hab hcd r hr⟩
  · rintro ⟨r, r1, r2⟩
    cases ht : touchM a b c d with
    | true => rfl
    | false =>
      exfalso
      have hm := touch_no hab hcd ht
      unfold touchM at ht
      by_cases t : (onS a c d || onS b c d || onS c a b || onS d a b) = true
      · rw [if_pos t] at ht; cases ht
      rw [if_neg t] at ht
      simp only [Bool.or_eq_true, not_or, Bool.not_eq_true] at t
      obtain ⟨⟨⟨n1, n2⟩, n3⟩, n4⟩ := t
      obtain ⟨i1, l1, u1⟩ := onS_iff.mp r1
      obtain ⟨i2, l2, u2⟩ := onS_iff.mp r2
      have c1 := tn_zero.mp i1
      have c2 := tn_zero.mp i2
      have nc : r ≠ c := fun z => by subst z; rw [r1] at n3; cases n3
      have nd : r ≠ d := fun z => by subst z; rw [r1] at n4; cases n4
      have na : r ≠ a := fun z => by subst z; rw [r2] at n1; cases n1
      have nb : r ≠ b := fun z => by subst z; rw [r2] at n2; cases n2
      have col : tn a b c = 0 ∧ tn a b d = 0 := by
        have m1 := on_mid hcd r2 c1
        have m2 := on_mid hab r1 c2
        have z : tn a b c * tn a b d = 0 ∨ tn c d a * tn c d b = 0 := by
          by_cases g : 0 ≤ tn a b c * tn a b d
          · left; omega
          · rw [if_neg g] at ht
            have := of_decide_eq_false ht
            right; omega
        have fl : crQ d c r = 0 := by rw [cr_flip, c2]; grind
        have fl2 : crQ b a r = 0 := by rw [cr_flip, c1]; grind
        rcases z with z | z
        · rcases Int.mul_eq_zero.mp z with q | q
          · exact ⟨q, tn_zero.mpr (line_two hcd nc c2 (tn_zero.mp q) c1)⟩
          · exact ⟨tn_zero.mpr (line_two (Ne.symm hcd) nd fl (tn_zero.mp q) c1), q⟩
        · rcases Int.mul_eq_zero.mp z with q | q
          · exact col_S hcd ⟨q, tn_zero.mpr (line_two hab na c1 (tn_zero.mp q) c2)⟩
          · exact col_S hcd ⟨tn_zero.mpr (line_two (Ne.symm hab) nb fl2 (tn_zero.mp q) c2), q⟩
      unfold meetM at hm
      rw [if_pos col] at hm
      unfold sharedM at hm
      have h5 : ale (mx (ptLo a b) (ptLo c d)) (mn (ptHi a b) (ptHi c d)) := ale_trans (mx_le l1 l2) (le_mn u1 u2)
      have h6 : ahd (mn (ptHi a b) (ptHi c d)) (mx (ptLo a b) (ptLo c d)) = false := h5
      simp only [h6, if_false, Bool.false_eq_true] at hm
      split at hm <;> cases hm
theorem onS_t {a b r : Pt} (hab : a ≠ b) : onS r a b = true ↔ ∃ t : Rat, 0 ≤ t ∧ t ≤ 1 ∧ r.x = a.x + (b.x - a.x) * t ∧ r.y = a.y + (b.y - a.y) * t := by
  constructor
  · intro h
    obtain ⟨t, x1, y1⟩ := on_t hab (tn_zero.mp (onS_iff.mp h).1)
    rw [onS_along hab x1 y1] at h
    obtain ⟨t0, t1⟩ := of_decide_eq_true h
    exact ⟨t, t0, t1, x1, y1⟩
  · rintro ⟨t, t0, t1, x1, y1⟩
    rw [onS_along hab x1 y1]
    exact decide_eq_true ⟨t0, t1⟩
/-! ### a border with its end left out -/
def bmetM (p q l h : Pt) : Bool := touchM p q l h && (!onS h p q || (decide (tn p q l = 0) && (ahd p h || ahd q h)))
theorem bmet_iff {p q l h : Pt} (hpq : p ≠ q) (hlh : ahd l h = true) : bmetM p q l h = true ↔ ∃ r, onS r p q = true ∧ onS r l h = true ∧ r ≠ h := by
  have nlh : l ≠ h := fun z => by subst z; rw [ahd_irr] at hlh; cases hlh
  have lo : ptLo l h = l ∧ ptHi l h = h := by
    have z : ahd h l = false := by rw [ahd_flip nlh, hlh]; rfl
    unfold ptLo ptHi
    rw [z]; exact ⟨rfl, rfl⟩
  unfold bmetM
  rw [Bool.and_eq_true, touch_iff hpq nlh]
  constructor
  · rintro ⟨⟨r, r1, r2⟩, h2⟩
    by_cases ho : onS h p q = true
    · rw [ho] at h2
      simp only [Bool.not_true, Bool.false_or, Bool.and_eq_true, decide_eq_true_eq, Bool.or_eq_true] at h2
      obtain ⟨h0, h3⟩ := h2
      obtain ⟨i1, l1, u1⟩ := onS_iff.mp ho
      -- the end that is ahead
      have hl : ahd (ptLo p q) h = true := by
        obtain ⟨⟨e1, e2⟩, _, _⟩ := lo_ends p q
        rcases ale_iff.mp l1 with z | z
        · rcases h3 with h3 | h3
          · rw [z] at e1; unfold ale at e1; rw [h3] at e1; cases e1
          · rw [z] at e2; unfold ale at e2; rw [h3] at e2; cases e2
        · exact z
      have hm : ahd (mx l (ptLo p q)) h = true := by
        rcases mx_or l (ptLo p q) with z | z <;> rw [z] <;> assumption
      obtain ⟨g1, g2⟩ := mx_ge l (ptLo p q)
      obtain ⟨z1, z2⟩ := col_S hpq ⟨h0, i1⟩
      have zc : ∀ u v w : Pt, tn u v w = 0 → crQ u v w = 0 := fun u v w => tn_zero.mp
      have cm : tn p q (mx l (ptLo p q)) = 0 ∧ tn l h (mx l (ptLo p q)) = 0 := by
        rcases mx_or l (ptLo p q) with z | z <;> rw [z]
        · exact ⟨h0, (tn_end l h).1⟩
        · rcases lo_or p q with ⟨q1, _⟩ | ⟨q1, _⟩ <;> rw [q1]
          · exact ⟨(tn_end p q).1, z1⟩
          · exact ⟨(tn_end p q).2, z2⟩
      refine ⟨mx l (ptLo p q), onS_iff.mpr ⟨cm.1, g2, ale_trans (ale_of hm) u1⟩, onS_iff.mpr ⟨cm.2, by rw [lo.1]; exact g1, by rw [lo.2]; exact ale_of hm⟩, fun z => ?_⟩
      rw [z, ahd_irr] at hm; cases hm
    · exact ⟨r, r1, r2, fun z => ho (z ▸ r1)⟩
  · rintro ⟨r, r1, r2, rn⟩
    refine ⟨⟨r, r1, r2⟩, ?_⟩
    by_cases ho : onS h p q = true
    · rw [ho]
      simp only [Bool.not_true, Bool.false_or, Bool.and_eq_true, decide_eq_true_eq, Bool.or_eq_true]
      obtain ⟨i1, l1, u1⟩ := onS_iff.mp ho
      obtain ⟨i2, l2, u2⟩ := onS_iff.mp r1
      obtain ⟨i3, l3, u3⟩ := onS_iff.mp r2
      rw [lo.2] at u3
      have hrh : ahd r h = true := by
        rcases ale_iff.mp u3 with z | z
        · exact absurd z rn
        · exact z
      constructor
      · have c3 : crQ h l r = 0 := by rw [cr_flip, tn_zero.mp i3]; grind
        exact tn_zero.mpr (line_two (Ne.symm nlh) rn c3 (tn_zero.mp i1) (tn_zero.mp i2))
      · have : ahd (ptLo p q) h = true := by
          rcases ale_iff.mp l2 with z | z
          · rw [z]; exact hrh
          · exact ahd_trans z hrh
        rcases lo_or p q with ⟨q1, _⟩ | ⟨q1, _⟩ <;> rw [q1] at this
        · exact .inl this
        · exact .inr this
    · simp [ho]
/-! ### a cell: a box without its right and upper borders -/
structure Bx where
  xl : Rat
  xh : Rat
  yl : Rat
  yh : Rat
  hx : xl < xh
  hy : yl < yh
def inQ (B : Bx) (p : Pt) : Prop := (B.xl ≤ p.x ∧ p.x < B.xh) ∧ B.yl ≤ p.y ∧ p.y < B.yh
instance (B : Bx) (p : Pt) : Decidable (inQ B p) := by unfold inQ; infer_instance
def meetsQ (B : Bx) (p q : Pt) : Prop := ∃ r, onS r p q = true ∧ inQ B r
def Bx.ll (B : Bx) : Pt := ptOf B.xl B.yl
def Bx.lh (B : Bx) : Pt := ptOf B.xl B.yh
def Bx.hl (B : Bx) : Pt := ptOf B.xh B.yl
def Bx.hh (B : Bx) : Pt := ptOf B.xh B.yh
theorem left_iff (B : Bx) {r : Pt} : onS r B.ll B.lh = true ↔ r.x = B.xl ∧ B.yl ≤ r.y ∧ r.y ≤ B.yh := by
  obtain ⟨x1, y1⟩ := ptOf_x B.xl B.yl
  obtain ⟨x2, y2⟩ := ptOf_x B.xl B.yh
  have hy := B.hy
  have ne : B.ll ≠ B.lh := fun z => by
    have := congrArg Pt.y z
    unfold Bx.ll Bx.lh at this
    rw [y1, y2] at this
    grind
  rw [onS_t ne]
  unfold Bx.ll Bx.lh
  rw [x1, y1, x2, y2]
  constructor
  · rintro ⟨t, t0, t1, rx, ry⟩
    have m1 := Rat.mul_nonneg (show 0 ≤ B.yh - B.yl by grind) t0
    have m2 := Rat.mul_nonneg (show 0 ≤ B.yh - B.yl by grind) (show 0 ≤ 1 - t by grind)
    refine ⟨by grind, by grind, by grind⟩
  · rintro ⟨rx, r0, r1⟩
    have hd : B.yh - B.yl ≠ 0 := by grind
    have e : (r.y - B.yl) / (B.yh - B.yl) * (B.yh - B.yl) = r.y - B.yl := by grind
    generalize (r.y - B.yl) / (B.yh - B.yl) = t at *
    refine ⟨t, ?_, ?_, by grind, by grind⟩
    · by_cases z : 0 ≤ t
      · exact z
      · have := Rat.mul_pos (show 0 < -t by grind) (show 0 < B.yh - B.yl by grind); grind
    · by_cases z : t ≤ 1
      · exact z
      · have := Rat.mul_pos (show 0 < t - 1 by grind) (show 0 < B.yh - B.yl by grind); grind
theorem low_iff (B : Bx) {r : Pt} : onS r B.ll B.hl = true ↔ r.y = B.yl ∧ B.xl ≤ r.x ∧ r.x ≤ B.xh := by
  obtain ⟨x1, y1⟩ := ptOf_x B.xl B.yl
  obtain ⟨x2, y2⟩ := ptOf_x B.xh B.yl
  have hx := B.hx
  have ne : B.ll ≠ B.hl := fun z => by
    have := congrArg Pt.x z
    unfold Bx.ll Bx.hl at this
    rw [x1, x2] at this
    grind
  rw [onS_t ne]
  unfold Bx.ll Bx.hl
  rw [x1, y1, x2, y2]
  constructor
  · rintro ⟨t, t0, t1, rx, ry⟩
    have m1 := Rat.mul_nonneg (show 0 ≤ B.xh - B.xl by grind) t0
    have m2 := Rat.mul_nonneg (show 0 ≤ B.xh - B.xl by grind) (show 0 ≤ 1 - t by grind)
    refine ⟨by grind, by grind, by grind⟩
  · rintro ⟨rx, r0, r1⟩
    have hd : B.xh - B.xl ≠ 0 := by grind
    have e : (r.x - B.xl) / (B.xh - B.xl) * (B.xh - B.xl) = r.x - B.xl := by grind
    generalize (r.x - B.xl) / (B.xh - B.xl) = t at *
    refine ⟨t, ?_, ?_, by grind, by grind⟩
    · by_cases z : 0 ≤ t
      · exact z
      · have := Rat.mul_pos (show 0 < -t by grind) (show 0 < B.xh - B.xl by grind); grind
    · by_cases z : t ≤ 1
      · exact z
      · have := Rat.mul_pos (show 0 < t - 1 by grind) (show 0 < B.xh - B.xl by grind); grind
theorem ll_lh (B : Bx) : ahd B.ll B.lh = true := by
  obtain ⟨x1, y1⟩ := ptOf_x B.xl B.yl
  obtain ⟨x2, y2⟩ := ptOf_x B.xl B.yh
  unfold ahd Bx.ll Bx.lh
  rw [x1, y1, x2, y2, if_pos rfl]
  exact decide_eq_true B.hy
theorem ll_hl (B : Bx) : ahd B.ll B.hl = true := by
  obtain ⟨x1, y1⟩ := ptOf_x B.xl B.yl
  obtain ⟨x2, y2⟩ := ptOf_x B.xh B.yl
  have := B.hx
  unfold ahd Bx.ll Bx.hl
  rw [x1, y1, x2, y2, if_neg (by grind)]
  exact decide_eq_true B.hx
/-! through the inside -/
theorem seg_mid {u v l h : Rat} (lh : l < h) (h1 : ¬ (u ≤ l ∧ v ≤ l)) (h2 : ¬ (h ≤ u ∧ h ≤ v)) : ∃ t : Rat, 0 ≤ t ∧ t ≤ 1 ∧ l < u + (v - u) * t ∧ u + (v - u) * t < h := by
  by_cases a : l < u ∧ u < h
  · exact ⟨0, by grind, by grind, by grind, by grind⟩
  by_cases b : l < v ∧ v < h
  · exact ⟨1, by grind, by grind, by grind, by grind⟩
  have hne : v - u ≠ 0 := by grind
  have e : ((l + h) / 2 - u) / (v - u) * (v - u) = (l + h) / 2 - u := by grind
  generalize ((l + h) / 2 - u) / (v - u) = t at *
  refine ⟨t, ?_, ?_, by grind, by grind⟩
  · by_cases z : 0 ≤ t
    · exact z
    · by_cases w : 0 < v - u
      · have := Rat.mul_pos (show 0 < -t by grind) w; grind
      · have := Rat.mul_pos (show 0 < -t by grind) (show 0 < u - v by grind); grind
  · by_cases z : t ≤ 1
    · exact z
    · by_cases w : 0 < v - u
      · have := Rat.mul_pos (show 0 < t - 1 by grind) w; grind
      · have := Rat.mul_pos (show 0 < t - 1 by grind) (show 0 < u - v by grind); grind
theorem convex {u d l h s t m : Rat} (a : l < u + d * s ∧ u + d * s < h) (b : l < u + d * t ∧ u + d * t < h) (m1 : s ≤ m) (m2 : m ≤ t) : l < u + d * m ∧ u + d * m < h := by
  by_cases w : 0 ≤ d
  · have := Rat.mul_nonneg w (show 0 ≤ m - s by grind)
    have := Rat.mul_nonneg w (show 0 ≤ t - m by grind)
    constructor <;> grind
  · have := Rat.mul_nonneg (show 0 ≤ -d by grind) (show 0 ≤ m - s by grind)
    have := Rat.mul_nonneg (show 0 ≤ -d by grind) (show 0 ≤ t - m by grind)
    constructor <;> grind
theorem helly {A B C : Rat → Prop} (cA : ∀ s m t, A s → A t → s ≤ m → m ≤ t → A m) (cB : ∀ s m t, B s → B t → s ≤ m → m ≤ t → B m) (cC : ∀ s m t, C s → C t → s ≤ m → m ≤ t → C m)
    {x y z : Rat} (hx : A x ∧ B x) (hy : A y ∧ C y) (hz : B z ∧ C z) : ∃ m, A m ∧ B m ∧ C m := by
  rcases Rat.le_total (a := x) (b := y) with h1 | h1 <;> rcases Rat.le_total (a := y) (b := z) with h2 | h2 <;> rcases Rat.le_total (a := x) (b := z) with h3 | h3
  · exact ⟨y, hy.1, cB x y z hx.2 hz.1 h1 h2, hy.2⟩
  · exact ⟨y, hy.1, cB x y z hx.2 hz.1 h1 h2, hy.2⟩
  · exact ⟨z, cA x z y hx.1 hy.1 h3 h2, hz.1, hz.2⟩
  · exact ⟨x, hx.1, hx.2, cC z x y hz.2 hy.2 h3 h1⟩
  · exact ⟨x, hx.1, hx.2, cC y x z hy.2 hz.2 h1 h3⟩
  · exact ⟨z, cA y z x hy.1 hx.1 h2 h3, hz.1, hz.2⟩
  · exact ⟨y, hy.1, cB z y x hz.1 hx.2 h2 h1, hy.2⟩
  · exact ⟨y, hy.1, cB z y x hz.1 hx.2 h2 h1, hy.2⟩
def lnF (p q : Pt) (x y : Rat) : Rat := (q.x - p.x) * (y - p.y) - (q.y - p.y) * (x - p.x)
theorem lnF_cr (p q r : Pt) : crQ p q r = lnF p q r.x r.y := rfl
theorem lnF_of (p q : Pt) (x y : Rat) : crQ p q (ptOf x y) = lnF p q x y := by rw [lnF_cr, (ptOf_x x y).1, (ptOf_x x y).2]
theorem unit_frac {u v : Rat} (hu : 0 < u) (hv : 0 < v) : 0 < u / (u + v) ∧ u / (u + v) < 1 ∧ u / (u + v) * (u + v) = u := by
  have hd : u + v ≠ 0 := by grind
  have e : u / (u + v) * (u + v) = u := by grind
  have hp : 0 < u + v := by grind
  generalize u / (u + v) = t at *
  refine ⟨?_, ?_, e⟩
  · by_cases z : 0 < t
    · exact z
    · have := Rat.mul_nonneg (show 0 ≤ -t by grind) (show 0 ≤ u + v by grind); grind
  · by_cases z : t < 1
    · exact z
    · have := Rat.mul_nonneg (show 0 ≤ t - 1 by grind) (show 0 ≤ u + v by grind); grind
theorem inner_pt {l h m X lam : Rat} (lm : l < m) (mh : m < h) (h1 : l ≤ X) (h2 : X ≤ h) (l0 : 0 < lam) (l1 : lam < 1) : l < m + (X - m) * lam ∧ m + (X - m) * lam < h := by
  have a1 := Rat.mul_nonneg (show 0 ≤ X - l by grind) (show 0 ≤ lam by grind)
  have a2 := Rat.mul_pos (show 0 < m - l by grind) (show 0 < 1 - lam by grind)
  have a3 := Rat.mul_nonneg (show 0 ≤ h - X by grind) (show 0 ≤ lam by grind)
  have a4 := Rat.mul_pos (show 0 < h - m by grind) (show 0 < 1 - lam by grind)
  constructor <;> grind
def inOpen (B : Bx) (x y : Rat) : Prop := (B.xl < x ∧ x < B.xh) ∧ B.yl < y ∧ y < B.yh
theorem zero_in (B : Bx) {p q : Pt} {X Y X' Y' : Rat} (h1 : B.xl ≤ X ∧ X ≤ B.xh) (h2 : B.yl ≤ Y ∧ Y ≤ B.yh) (h3 : B.xl ≤ X' ∧ X' ≤ B.xh) (h4 : B.yl ≤ Y' ∧ Y' ≤ B.yh) (f1 : 0 < lnF p q X Y) (f2 : lnF p q X' Y' < 0) : ∃ x y, inOpen B x y ∧ lnF p q x y = 0 := by
  have hx := B.hx
  have hy := B.hy
  have m1 : B.xl < (B.xl + B.xh) / 2 ∧ (B.xl + B.xh) / 2 < B.xh := by constructor <;> grind
  have m2 : B.yl < (B.yl + B.yh) / 2 ∧ (B.yl + B.yh) / 2 < B.yh := by constructor <;> grind
  generalize (B.xl + B.xh) / 2 = mx at *
  generalize (B.yl + B.yh) / 2 = my at *
  have lin : ∀ (x y lam : Rat), lnF p q (mx + (x - mx) * lam) (my + (y - my) * lam) = lnF p q mx my + (lnF p q x y - lnF p q mx my) * lam := fun x y lam => by unfold lnF; grind
  by_cases z : lnF p q mx my = 0
  · exact ⟨mx, my, ⟨m1, m2⟩, z⟩
  by_cases z1 : 0 < lnF p q mx my
  · obtain ⟨a, b, e⟩ := unit_frac z1 (show 0 < -(lnF p q X' Y') by grind)
    generalize lnF p q mx my / (lnF p q mx my + -(lnF p q X' Y')) = lam at *
    exact ⟨_, _, ⟨inner_pt m1.1 m1.2 h3.1 h3.2 a b, inner_pt m2.1 m2.2 h4.1 h4.2 a b⟩, by rw [lin X' Y' lam]; grind⟩
  · obtain ⟨a, b, e⟩ := unit_frac (show 0 < -(lnF p q mx my) by grind) f1
    generalize -(lnF p q mx my) / (-(lnF p q mx my) + lnF p q X Y) = lam at *
    exact ⟨_, _, ⟨inner_pt m1.1 m1.2 h1.1 h1.2 a b, inner_pt m2.1 m2.2 h2.1 h2.2 a b⟩, by rw [lin X Y lam]; grind⟩
def thrM (B : Bx) (p q : Pt) : Prop := ((tn p q B.ll = 1 ∨ tn p q B.hl = 1 ∨ tn p q B.lh = 1 ∨ tn p q B.hh = 1) ∧ (tn p q B.ll = -1 ∨ tn p q B.hl = -1 ∨ tn p q B.lh = -1 ∨ tn p q B.hh = -1)) ∧
  (¬ (p.x ≤ B.xl ∧ q.x ≤ B.xl) ∧ ¬ (B.xh ≤ p.x ∧ B.xh ≤ q.x)) ∧ ¬ (p.y ≤ B.yl ∧ q.y ≤ B.yl) ∧ ¬ (B.yh ≤ p.y ∧ B.yh ≤ q.y)
theorem sg_one {q : Rat} : (sg q = 1 ↔ 0 < q) ∧ (sg q = -1 ↔ q < 0) := by
  rcases sg_cases q with ⟨a, e⟩ | ⟨a, e⟩ | ⟨a, e⟩ <;> rw [e]
  · exact ⟨⟨fun _ => a, fun _ => rfl⟩, ⟨fun h => absurd h (by decide), fun h => by grind⟩⟩
  · exact ⟨⟨fun h => absurd h (by decide), fun h => by grind⟩, ⟨fun _ => a, fun _ => rfl⟩⟩
  · subst a
    exact ⟨⟨fun h => absurd h (by decide), fun h => by grind⟩, ⟨fun h => absurd h (by decide), fun h => by grind⟩⟩
theorem sgn3 (d : Rat) : 0 < d ∨ 0 < -d ∨ d = 0 := by
  by_cases a : 0 < d
  · exact .inl a
  · by_cases b : d = 0
    · exact .inr (.inr b)
    · exact .inr (.inl (by grind))
theorem corners {dx dy a1 a2 a3 a4 : Rat} (h1 : 0 < a1) (h2 : 0 < a2) (h3 : 0 < a3) (h4 : 0 < a4) (hd : dx ≠ 0 ∨ dy ≠ 0) :
    (0 < dx * -a2 + dy * a4 ∨ 0 < dx * -a2 + dy * -a3 ∨ 0 < dx * a1 + dy * a4 ∨ 0 < dx * a1 + dy * -a3) ∧ (dx * -a2 + dy * a4 < 0 ∨ dx * -a2 + dy * -a3 < 0 ∨ dx * a1 + dy * a4 < 0 ∨ dx * a1 + dy * -a3 < 0) := by
  rcases sgn3 dx with d1 | d1 | d1 <;> rcases sgn3 dy with d2 | d2 | d2
  · have m1 := Rat.mul_pos d1 h1; have m2 := Rat.mul_pos d1 h2; have m3 := Rat.mul_pos d2 h3; have m4 := Rat.mul_pos d2 h4
    exact ⟨.inr (.inr (.inl (by grind))), .inr (.inl (by grind))⟩
  · have m1 := Rat.mul_pos d1 h1; have m2 := Rat.mul_pos d1 h2; have m3 := Rat.mul_pos d2 h3; have m4 := Rat.mul_pos d2 h4
    exact ⟨.inr (.inr (.inr (by grind))), .inl (by grind)⟩
  · subst d2
    have m1 := Rat.mul_pos d1 h1; have m2 := Rat.mul_pos d1 h2
    exact ⟨.inr (.inr (.inr (by grind))), .inl (by grind)⟩
  · have m1 := Rat.mul_pos d1 h1; have m2 := Rat.mul_pos d1 h2; have m3 := Rat.mul_pos d2 h3; have m4 := Rat.mul_pos d2 h4
    exact ⟨.inl (by grind), .inr (.inr (.inr (by grind)))⟩
  · have m1 := Rat.mul_pos d1 h1; have m2 := Rat.mul_pos d1 h2; have m3 := Rat.mul_pos d2 h3; have m4 := Rat.mul_pos d2 h4
    exact ⟨.inr (.inl (by grind)), .inr (.inr (.inl (by grind)))⟩
  · subst d2
    have m1 := Rat.mul_pos d1 h1; have m2 := Rat.mul_pos d1 h2
    exact ⟨.inl (by grind), .inr (.inr (.inr (by grind)))⟩
  · subst d1
    have m3 := Rat.mul_pos d2 h3; have m4 := Rat.mul_pos d2 h4
    exact ⟨.inl (by grind), .inr (.inr (.inr (by grind)))⟩
  · subst d1
    have m3 := Rat.mul_pos d2 h3; have m4 := Rat.mul_pos d2 h4
    exact ⟨.inr (.inr (.inr (by grind))), .inl (by grind)⟩
  · exact absurd hd (by rw [d1, d2]; simp)
theorem thr_iff (B : Bx) {p q : Pt} (hpq : p ≠ q) : thrM B p q ↔ ∃ r, onS r p q = true ∧ inOpen B r.x r.y := by
  have hx := B.hx
  have hy := B.hy
  have t1 : ∀ x y, (tn p q (ptOf x y) = 1 ↔ 0 < lnF p q x y) ∧ (tn p q (ptOf x y) = -1 ↔ lnF p q x y < 0) := fun x y => by
    unfold tn
    rw [lnF_of]; exact sg_one
  unfold thrM Bx.ll Bx.lh Bx.hl Bx.hh
  simp only [(t1 _ _).1, (t1 _ _).2]
  constructor
  · rintro ⟨⟨c1, c2⟩, ⟨k1, k2⟩, k3, k4⟩
    have P : ∃ X Y, (B.xl ≤ X ∧ X ≤ B.xh) ∧ (B.yl ≤ Y ∧ Y ≤ B.yh) ∧ 0 < lnF p q X Y := by
      rcases c1 with h | h | h | h
      · exact ⟨_, _, ⟨by grind, by grind⟩, ⟨by grind, by grind⟩, h⟩
      · exact ⟨_, _, ⟨by grind, by grind⟩, ⟨by grind, by grind⟩, h⟩
      · exact ⟨_, _, ⟨by grind, by grind⟩, ⟨by grind, by grind⟩, h⟩
      · exact ⟨_, _, ⟨by grind, by grind⟩, ⟨by grind, by grind⟩, h⟩
    have N : ∃ X Y, (B.xl ≤ X ∧ X ≤ B.xh) ∧ (B.yl ≤ Y ∧ Y ≤ B.yh) ∧ lnF p q X Y < 0 := by
      rcases c2 with h | h | h | h
      · exact ⟨_, _, ⟨by grind, by grind⟩, ⟨by grind, by grind⟩, h⟩
      · exact ⟨_, _, ⟨by grind, by grind⟩, ⟨by grind, by grind⟩, h⟩
      · exact ⟨_, _, ⟨by grind, by grind⟩, ⟨by grind, by grind⟩, h⟩
      · exact ⟨_, _, ⟨by grind, by grind⟩, ⟨by grind, by grind⟩, h⟩
    obtain ⟨X, Y, a1, a2, a3⟩ := P
    obtain ⟨X', Y', b1, b2, b3⟩ := N
    obtain ⟨x, y, io, f0⟩ := zero_in B a1 a2 b1 b2 a3 b3
    obtain ⟨t0, ex, ey⟩ := on_t hpq (show crQ p q (ptOf x y) = 0 by rw [lnF_of]; exact f0)
    rw [(ptOf_x x y).1] at ex
    rw [(ptOf_x x y).2] at ey
    unfold inOpen at io
    rw [ex, ey] at io
    obtain ⟨tx, u1, u2, u3, u4⟩ := seg_mid hx k1 k2
    obtain ⟨ty, v1, v2, v3, v4⟩ := seg_mid hy k3 k4
    obtain ⟨m, ⟨m1, m2⟩, m3, m4⟩ := helly (A := fun t => 0 ≤ t ∧ t ≤ 1) (B := fun t => B.xl < p.x + (q.x - p.x) * t ∧ p.x + (q.x - p.x) * t < B.xh) (C := fun t => B.yl < p.y + (q.y - p.y) * t ∧ p.y + (q.y - p.y) * t < B.yh)
      (fun s m t h1 h2 h3 h4 => ⟨by grind, by grind⟩) (fun s m t h1 h2 h3 h4 => convex h1 h2 h3 h4) (fun s m t h1 h2 h3 h4 => convex h1 h2 h3 h4)
      (x := tx) (y := ty) (z := t0) ⟨⟨u1, u2⟩, u3, u4⟩ ⟨⟨v1, v2⟩, v3, v4⟩ io
    refine ⟨ptOf (p.x + (q.x - p.x) * m) (p.y + (q.y - p.y) * m), (onS_t hpq).mpr ⟨m, m1, m2, (ptOf_x _ _).1, (ptOf_x _ _).2⟩, ?_⟩
    unfold inOpen
    rw [(ptOf_x _ _).1, (ptOf_x _ _).2]
    exact ⟨m3, m4⟩
  · rintro ⟨r, ho, ⟨x1, x2⟩, y1, y2⟩
    have f0 : lnF p q r.x r.y = 0 := tn_zero.mp (onS_iff.mp ho).1
    obtain ⟨t, t0, t1, ex, ey⟩ := (onS_t hpq).mp ho
    have lin : ∀ X Y, lnF p q X Y = (q.x - p.x) * (Y - r.y) + (q.y - p.y) * (r.x - X) := fun X Y => by unfold lnF at *; grind
    simp only [lin]
    have two : ∀ {u v l h : Rat}, (u ≤ l ∧ v ≤ l) → l < u + (v - u) * t → False := fun {u v l h} ⟨a, b⟩ c => by
      have := Rat.mul_nonneg (show 0 ≤ l - v by grind) t0
      have := Rat.mul_nonneg (show 0 ≤ l - u by grind) (show 0 ≤ 1 - t by grind)
      grind
    have two' : ∀ {u v l h : Rat}, (l ≤ u ∧ l ≤ v) → u + (v - u) * t < l → False := fun {u v l h} ⟨a, b⟩ c => by
      have := Rat.mul_nonneg (show 0 ≤ v - l by grind) t0
      have := Rat.mul_nonneg (show 0 ≤ u - l by grind) (show 0 ≤ 1 - t by grind)
      grind
    have kk : (¬ (p.x ≤ B.xl ∧ q.x ≤ B.xl) ∧ ¬ (B.xh ≤ p.x ∧ B.xh ≤ q.x)) ∧ ¬ (p.y ≤ B.yl ∧ q.y ≤ B.yl) ∧ ¬ (B.yh ≤ p.y ∧ B.yh ≤ q.y) :=
      ⟨⟨fun z => two (h := 0) z (by grind), fun z => two' (h := 0) z (by grind)⟩, fun z => two (h := 0) z (by grind), fun z => two' (h := 0) z (by grind)⟩
    refine ⟨?_, kk⟩
    have hd : q.x - p.x ≠ 0 ∨ q.y - p.y ≠ 0 := by
      by_cases z : q.x - p.x = 0
      · right; intro z2; exact hpq (Pt.eq_of (by grind) (by grind))
      · exact .inl z
    generalize q.x - p.x = dx at *
    generalize q.y - p.y = dy at *
    obtain ⟨g1, g2⟩ := corners (dx := dx) (dy := dy) (show 0 < B.yh - r.y by grind) (show 0 < r.y - B.yl by grind) (show 0 < B.xh - r.x by grind) (show 0 < r.x - B.xl by grind) hd
    have e1 : B.yl - r.y = -(r.y - B.yl) := by grind
    have e2 : r.x - B.xh = -(B.xh - r.x) := by grind
    rw [e1, e2]
    exact ⟨g1, g2⟩
/-- what the law's own asks -/
def lawMeets (B : Bx) (p q : Pt) : Prop := ((inQ B p ∨ inQ B q) ∨ bmetM p q B.ll B.lh = true ∨ bmetM p q B.ll B.hl = true) ∨ thrM B p q
theorem law_meets (B : Bx) {p q : Pt} (hpq : p ≠ q) : lawMeets B p q ↔ meetsQ B p q := by
  unfold lawMeets
  rw [bmet_iff hpq (ll_lh B), bmet_iff hpq (ll_hl B), thr_iff B hpq]
  simp only [left_iff, low_iff]
  obtain ⟨xl1, yl1⟩ := ptOf_x B.xl B.yh
  obtain ⟨xl2, yl2⟩ := ptOf_x B.xh B.yl
  have hx := B.hx
  have hy := B.hy
  have ep : onS p p q = true := (onS_t hpq).mpr ⟨0, by grind, by grind, by grind, by grind⟩
  have eq : onS q p q = true := (onS_t hpq).mpr ⟨1, by grind, by grind, by grind, by grind⟩
  constructor
  · rintro (((h | h) | ⟨r, r1, ⟨r2, r3, r4⟩, r5⟩ | ⟨r, r1, ⟨r2, r3, r4⟩, r5⟩) | ⟨r, r1, ⟨r2, r3⟩, r4, r5⟩)
    · exact ⟨p, ep, h⟩
    · exact ⟨q, eq, h⟩
    · refine ⟨r, r1, ⟨by grind, by grind⟩, r3, ?_⟩
      by_cases z : r.y = B.yh
      · exact absurd (Pt.eq_of (by unfold Bx.lh; rw [xl1]; exact r2) (by unfold Bx.lh; rw [yl1]; exact z)) r5
      · grind
    · refine ⟨r, r1, ⟨r3, ?_⟩, by grind, by grind⟩
      by_cases z : r.x = B.xh
      · exact absurd (Pt.eq_of (by unfold Bx.hl; rw [xl2]; exact z) (by unfold Bx.hl; rw [yl2]; exact r2)) r5
      · grind
    · exact ⟨r, r1, ⟨by grind, r3⟩, by grind, r5⟩
  · rintro ⟨r, r1, ⟨a1, a2⟩, b1, b2⟩
    by_cases z1 : r.x = B.xl
    · refine .inl (.inr (.inl ⟨r, r1, ⟨z1, b1, by grind⟩, fun z => ?_⟩))
      have := congrArg Pt.y z
      unfold Bx.lh at this
      rw [yl1] at this
      grind
    by_cases z2 : r.y = B.yl
    · refine .inl (.inr (.inr ⟨r, r1, ⟨z2, a1, by grind⟩, fun z => ?_⟩))
      have := congrArg Pt.x z
      unfold Bx.hl at this
      rw [xl2] at this
      grind
    · exact .inr ⟨r, r1, ⟨by grind, a2⟩, by grind, b2⟩
theorem meetsQ_flip (B : Bx) {p q : Pt} (hpq : p ≠ q) : meetsQ B q p ↔ meetsQ B p q := by
  unfold meetsQ
  simp only [onS_flip hpq]
end Py

set_option Elab.async false
set_option linter.all false
set_option autoImplicit false
set_option maxRecDepth 100000
set_option exponentiation.threshold 20000
namespace Py
open PySem hiding start
open L2
/-! ### a number over another one, in any terms -/
structure BdOk (n : Nat) (d : PyData) (r : Rat) : Prop where
  ex : ∃ t b : Int, d = .tuple [.int t, .int b] ∧ 0 < b ∧ (t : Rat) = r * (b : Rat) ∧ t.natAbs < 2 ^ n ∧ b.natAbs < 2 ^ n
structure BorOk (n : Nat) (d : PyData) (r : Rat) (o : Bool) : Prop where
  ex : ∃ e, d = .tuple [e, .bool o] ∧ BdOk n e r
def inLo (r : Rat) (o : Bool) (t : Rat) : Prop := if o then r < t else r ≤ t
def inHi (r : Rat) (o : Bool) (t : Rat) : Prop := if o then t < r else t ≤ r
theorem sign_mul {u d : Rat} (hd : 0 < d) : (0 < u * d ↔ 0 < u) ∧ (u * d = 0 ↔ u = 0) ∧ (u * d < 0 ↔ u < 0) := by
  rcases sgn3 u with h | h | h
  · have := Rat.mul_pos h hd
    refine ⟨⟨fun _ => h, fun _ => this⟩, ⟨fun z => by grind, fun z => by grind⟩, fun z => by grind, fun z => by grind⟩
  · have := Rat.mul_pos h hd
    refine ⟨⟨fun z => by grind, fun z => by grind⟩, ⟨fun z => by grind, fun z => by grind⟩, fun z => by grind, fun z => by grind⟩
  · subst h
    refine ⟨⟨fun z => by grind, fun z => by grind⟩, ⟨fun z => by grind, fun z => by grind⟩, fun z => by grind, fun z => by grind⟩
theorem int_sign {i : Int} {u d : Rat} (hd : 0 < d) (h : (i : Rat) = u * d) : (0 < i ↔ 0 < u) ∧ (i = 0 ↔ u = 0) ∧ (i < 0 ↔ u < 0) := by
  obtain ⟨h1, h2, h3⟩ := sign_mul (u := u) hd
  rw [← h] at h1 h2 h3
  refine ⟨⟨fun z => h1.mp (by exact_mod_cast z), fun z => by exact_mod_cast h1.mpr z⟩, ⟨fun z => h2.mp (by exact_mod_cast z), fun z => by exact_mod_cast h2.mpr z⟩, fun z => h3.mp (by exact_mod_cast z), fun z => by exact_mod_cast h3.mpr z⟩
theorem gap_sign {t b t' b' : Int} {r r' : Rat} (hb : 0 < b) (hb' : 0 < b') (h : (t : Rat) = r * b) (h' : (t' : Rat) = r' * b') : (0 < t * b' - t' * b ↔ r' < r) ∧ (t * b' - t' * b = 0 ↔ r = r') ∧ (t * b' - t' * b < 0 ↔ r < r') := by
  have e : ((t * b' - t' * b : Int) : Rat) = (r - r') * ((b : Rat) * (b' : Rat)) := by
    simp only [Rat.intCast_sub, Rat.intCast_mul]
    rw [h, h']; grind
  have hp : (0 : Rat) < (b : Rat) * (b' : Rat) := Rat.mul_pos (by exact_mod_cast hb) (by exact_mod_cast hb')
  obtain ⟨h1, h2, h3⟩ := int_sign hp e
  rw [h1, h2, h3]
  refine ⟨⟨fun z => by grind, fun z => by grind⟩, ⟨fun z => by grind, fun z => by grind⟩, fun z => by grind, fun z => by grind⟩
theorem lo_two {r r' : Rat} {o o' : Bool} (t : Rat) : (r = r' → (inLo r (o || o') t ↔ inLo r o t ∧ inLo r' o' t)) ∧ (r' < r → (inLo r o t ↔ inLo r o t ∧ inLo r' o' t)) ∧ (r < r' → (inLo r' o' t ↔ inLo r o t ∧ inLo r' o' t)) := by
  unfold inLo
  refine ⟨fun z => ?_, fun z => ?_, fun z => ?_⟩
  · subst z
    cases o <;> cases o' <;> simp <;> grind
  · cases o <;> cases o' <;> simp <;> grind
  · cases o <;> cases o' <;> simp <;> grind
theorem hi_two {r r' : Rat} {o o' : Bool} (t : Rat) : (r = r' → (inHi r (o || o') t ↔ inHi r o t ∧ inHi r' o' t)) ∧ (r' < r → (inHi r' o' t ↔ inHi r o t ∧ inHi r' o' t)) ∧ (r < r' → (inHi r o t ↔ inHi r o t ∧ inHi r' o' t)) := by
  unfold inHi
  refine ⟨fun z => ?_, fun z => ?_, fun z => ?_⟩
  · subst z
    cases o <;> cases o' <;> simp <;> grind
  · cases o <;> cases o' <;> simp <;> grind
  · cases o <;> cases o' <;> simp <;> grind
theorem lo_hi {r r' : Rat} {o o' : Bool} : (∃ t, inLo r o t ∧ inHi r' o' t) ↔ ¬ (r' < r ∨ (r = r' ∧ (o || o') = true)) := by
  unfold inLo inHi
  constructor
  · rintro ⟨t, h1, h2⟩ z
    rcases z with z | ⟨z, z2⟩
    · cases o <;> cases o' <;> simp at h1 h2 <;> grind
    · subst z
      cases o <;> cases o' <;> simp at h1 h2 z2 <;> grind
  · intro h
    by_cases z : r = r'
    · subst z
      have : (o || o') = false := by
        cases e : (o || o') with
        | false => rfl
        | true => exact absurd (.inr ⟨rfl, e⟩) h
      obtain ⟨rfl, rfl⟩ : o = false ∧ o' = false := by cases o <;> cases o' <;> simp_all
      exact ⟨r, by simp, by simp⟩
    · have : r < r' := by
        have : ¬ r' < r := fun q => h (.inl q)
        grind
      refine ⟨(r + r') / 2, ?_, ?_⟩
      · cases o <;> simp <;> grind
      · cases o' <;> simp <;> grind
/-! ### the cell's borders along a side -/
theorem div_lo {e d r t : Rat} (h : r * d = e) : (0 < d → ((r ≤ t ↔ e ≤ d * t) ∧ (t < r ↔ d * t < e))) ∧ (d < 0 → ((t ≤ r ↔ e ≤ d * t) ∧ (r < t ↔ d * t < e))) := by
  refine ⟨fun hd => ?_, fun hd => ?_⟩
  · obtain ⟨h1, h2, h3⟩ := sign_mul (u := t - r) hd
    have e1 : (t - r) * d = d * t - e := by grind
    rw [e1] at h1 h2 h3
    refine ⟨⟨fun z => ?_, fun z => ?_⟩, fun z => ?_, fun z => ?_⟩ <;> grind
  · obtain ⟨h1, h2, h3⟩ := sign_mul (u := t - r) (d := -d) (by grind)
    have e1 : (t - r) * -d = e - d * t := by grind
    rw [e1] at h1 h2 h3
    refine ⟨⟨fun z => ?_, fun z => ?_⟩, fun z => ?_, fun z => ?_⟩ <;> grind
/-- the numbers that the borders are made of -/
theorem bord_q {a b i pa pc qa qc : Int} {x y l h : Rat} (hb : 0 < b) (hp : 0 < pc) (hq : 0 < qc) (hx : (pa : Rat) = x * pc) (hy : (qa : Rat) = y * qc) (hl : l * (2 * (b : Rat)) = (2 * (i : Rat) - 1) * (a : Rat)) (hh : h * (2 * (b : Rat)) = (2 * (i : Rat) + 1) * (a : Rat)) :
    ((qa * pc - pa * qc : Int) : Rat) = (y - x) * ((pc : Rat) * (qc : Rat)) ∧ (((2 * i - 1) * a * pc - 2 * b * pa : Int) : Rat) = (l - x) * (2 * (b : Rat) * (pc : Rat)) ∧ (((2 * i - 1) * a * pc - 2 * b * pa + 2 * a * pc : Int) : Rat) = (h - x) * (2 * (b : Rat) * (pc : Rat)) := by
  have e2 : ((2 : Int) : Rat) = 2 := rfl
  have e1 : ((1 : Int) : Rat) = 1 := rfl
  simp only [Rat.intCast_sub, Rat.intCast_mul, Rat.intCast_add, e1, e2]
  rw [hx, hy]
  refine ⟨by grind, ?_, ?_⟩
  · have : (2 * (i : Rat) - 1) * (a : Rat) * (pc : Rat) = l * (2 * (b : Rat)) * (pc : Rat) := by rw [hl]
    grind
  · have : (2 * (i : Rat) + 1) * (a : Rat) * (pc : Rat) = h * (2 * (b : Rat)) * (pc : Rat) := by rw [hh]
    grind
def cellB (i j : Int) (w : Rat) (hw : 0 < w) : Bx where
  xl := (2 * (i : Rat) - 1) / 2 * w
  xh := (2 * (i : Rat) + 1) / 2 * w
  yl := (2 * (j : Rat) - 1) / 2 * w
  yh := (2 * (j : Rat) + 1) / 2 * w
  hx := by grind
  hy := by grind
theorem wab {a b : Int} (ha : 0 < a) (hb : 0 < b) : 0 < (a : Rat) / (b : Rat) := q_div_pos (by exact_mod_cast ha) (by exact_mod_cast hb)
theorem wab_mul {a b : Int} (hb : 0 < b) : (a : Rat) / (b : Rat) * (b : Rat) = (a : Rat) := by
  have : (b : Rat) ≠ 0 := by exact_mod_cast (show b ≠ 0 by omega)
  grind
noncomputable def cellOf (i j a b : Int) (ha : 0 < a) (hb : 0 < b) : Bx := cellB i j ((a : Rat) / (b : Rat)) (wab ha hb)
theorem cell_lh {i j a b : Int} (ha : 0 < a) (hb : 0 < b) : ((cellOf i j a b ha hb).xl * (2 * (b : Rat)) = (2 * (i : Rat) - 1) * (a : Rat) ∧ (cellOf i j a b ha hb).xh * (2 * (b : Rat)) = (2 * (i : Rat) + 1) * (a : Rat)) ∧
    (cellOf i j a b ha hb).yl * (2 * (b : Rat)) = (2 * (j : Rat) - 1) * (a : Rat) ∧ (cellOf i j a b ha hb).yh * (2 * (b : Rat)) = (2 * (j : Rat) + 1) * (a : Rat) := by
  have e := wab_mul (a := a) hb
  unfold cellOf cellB
  refine ⟨⟨?_, ?_⟩, ?_, ?_⟩ <;> (show _ / 2 * ((a : Rat) / (b : Rat)) * (2 * (b : Rat)) = _; generalize (a : Rat) / (b : Rat) = w at *; grind)
/-- on the way -/
def wayX (u v t : Rat) : Rat := u + (v - u) * t
def inStrip (l h u v t : Rat) : Prop := l ≤ wayX u v t ∧ wayX u v t < h
theorem meetsQ_t (B : Bx) {p q : Pt} (hpq : p ≠ q) : meetsQ B p q ↔ ∃ t, (0 ≤ t ∧ t ≤ 1) ∧ inStrip B.xl B.xh p.x q.x t ∧ inStrip B.yl B.yh p.y q.y t := by
  unfold meetsQ inStrip wayX inQ
  constructor
  · rintro ⟨r, ho, h1, h2⟩
    obtain ⟨t, t0, t1, ex, ey⟩ := (onS_t hpq).mp ho
    rw [ex] at h1
    rw [ey] at h2
    exact ⟨t, ⟨t0, t1⟩, h1, h2⟩
  · rintro ⟨t, ⟨t0, t1⟩, h1, h2⟩
    refine ⟨ptOf (p.x + (q.x - p.x) * t) (p.y + (q.y - p.y) * t), (onS_t hpq).mpr ⟨t, t0, t1, (ptOf_x _ _).1, (ptOf_x _ _).2⟩, ?_⟩
    rw [(ptOf_x _ _).1, (ptOf_x _ _).2]
    exact ⟨h1, h2⟩
open Classical in
noncomputable def meetsB (B : Bx) (p q : Pt) : Bool := decide (meetsQ B p q)
open Classical in
theorem meetsB_t {B : Bx} {p q : Pt} (h : meetsQ B p q) : meetsB B p q = true := by unfold meetsB; exact decide_eq_true h
open Classical in
theorem meetsB_f {B : Bx} {p q : Pt} (h : ¬ meetsQ B p q) : meetsB B p q = false := by unfold meetsB; exact decide_eq_false h
/-- two borders of the shares of the way -/
def strip_lo (l h u v : Rat) (r1 r2 : Rat) (o1 o2 : Bool) : Prop := ∀ t, 0 ≤ t → t ≤ 1 → (inLo r1 o1 t ∧ inHi r2 o2 t ↔ inStrip l h u v t)
theorem strip_up {l h u v r1 r2 : Rat} (hd : 0 < v - u) (h1 : r1 * (v - u) = l - u) (h2 : r2 * (v - u) = h - u) : strip_lo l h u v r1 r2 false true := fun t _ _ => by
  unfold inLo inHi inStrip wayX
  have a := ((div_lo (t := t) h1).1 hd).1
  have b := ((div_lo (t := t) h2).1 hd).2
  simp only [Bool.false_eq_true, if_false, if_true]
  rw [a, b]
  constructor
  · rintro ⟨z1, z2⟩; constructor <;> grind
  · rintro ⟨z1, z2⟩; constructor <;> grind
theorem strip_down {l h u v r1 r2 : Rat} (hd : v - u < 0) (h1 : r1 * (v - u) = l - u) (h2 : r2 * (v - u) = h - u) : strip_lo l h u v r2 r1 true false := fun t _ _ => by
  unfold inLo inHi inStrip wayX
  have a := ((div_lo (t := t) h1).2 hd).1
  have b := ((div_lo (t := t) h2).2 hd).2
  simp only [Bool.false_eq_true, if_false, if_true]
  rw [a, b]
  constructor
  · rintro ⟨z1, z2⟩; constructor <;> grind
  · rintro ⟨z1, z2⟩; constructor <;> grind
theorem share_q {t b : Int} {u d m : Rat} (hm : 0 < m) (hd : d ≠ 0) (ht : (t : Rat) = u * m) (hb : (b : Rat) = d * m) : (t : Rat) = u / d * (b : Rat) := by
  rw [ht, hb]
  have : u / d * d = u := by grind
  grind
end Py
namespace Py
open PySem hiding start
open L2
theorem sub_sign {u v : Rat} : (0 < v - u ↔ u < v) ∧ (v - u = 0 ↔ u = v) ∧ (v - u < 0 ↔ v < u) := by
  refine ⟨⟨fun z => by grind, fun z => by grind⟩, ⟨fun z => by grind, fun z => by grind⟩, fun z => by grind, fun z => by grind⟩
/-- near, far and change of a side and a cell -/
structure Bord (a b i pa pc qa qc : Int) (l h u v : Rat) : Prop where
  c0 : qa * pc - pa * qc = 0 ↔ v - u = 0
  cp : qa * pc - pa * qc > 0 ↔ 0 < v - u
  np : (2 * i - 1) * a * pc - 2 * b * pa > 0 ↔ u < l
  fn : (2 * i - 1) * a * pc - 2 * b * pa + 2 * a * pc ≤ 0 ↔ h ≤ u
  s1 : v - u ≠ 0 → ((((2 * i - 1) * a * pc - 2 * b * pa) * qc : Int) : Rat) = (l - u) / (v - u) * ((2 * b * (qa * pc - pa * qc) : Int) : Rat)
  s2 : v - u ≠ 0 → ((((2 * i - 1) * a * pc - 2 * b * pa + 2 * a * pc) * qc : Int) : Rat) = (h - u) / (v - u) * ((2 * b * (qa * pc - pa * qc) : Int) : Rat)
theorem bord_ok {a b i pa pc qa qc : Int} {x y l h : Rat} (hb : 0 < b) (hp : 0 < pc) (hq : 0 < qc) (hx : (pa : Rat) = x * pc) (hy : (qa : Rat) = y * qc) (hl : l * (2 * (b : Rat)) = (2 * (i : Rat) - 1) * (a : Rat)) (hh : h * (2 * (b : Rat)) = (2 * (i : Rat) + 1) * (a : Rat)) : Bord a b i pa pc qa qc l h x y := by
  obtain ⟨e1, e2, e3⟩ := bord_q hb hp hq hx hy hl hh
  have pp : (0 : Rat) < (pc : Rat) := by exact_mod_cast hp
  have qp : (0 : Rat) < (qc : Rat) := by exact_mod_cast hq
  have bp : (0 : Rat) < (b : Rat) := by exact_mod_cast hb
  have m1 : (0 : Rat) < (pc : Rat) * (qc : Rat) := Rat.mul_pos pp qp
  have m2 : (0 : Rat) < 2 * (b : Rat) * (pc : Rat) := Rat.mul_pos (by grind) pp
  have m3 : (0 : Rat) < 2 * (b : Rat) * ((pc : Rat) * (qc : Rat)) := Rat.mul_pos (by grind) m1
  obtain ⟨g1, g2, g3⟩ := int_sign m1 e1
  obtain ⟨k1, k2, k3⟩ := int_sign m2 e2
  obtain ⟨j1, j2, j3⟩ := int_sign m2 e3
  have i2 : ((2 : Int) : Rat) = 2 := rfl
  refine ⟨g2, g1, k1.trans sub_sign.1, ?_, fun hd => ?_, fun hd => ?_⟩
  · constructor
    · intro z
      by_cases w : h ≤ x
      · exact w
      · have := j1.mpr (show 0 < h - x by grind); omega
    · intro z
      by_cases w : (2 * i - 1) * a * pc - 2 * b * pa + 2 * a * pc ≤ 0
      · exact w
      · have := j1.mp (by omega); grind
  · refine share_q (m := 2 * (b : Rat) * ((pc : Rat) * (qc : Rat))) m3 hd ?_ ?_
    · rw [Rat.intCast_mul, e2]; grind
    · rw [Rat.intCast_mul, e1, Rat.intCast_mul, i2]; grind
  · refine share_q (m := 2 * (b : Rat) * ((pc : Rat) * (qc : Rat))) m3 hd ?_ ?_
    · rw [Rat.intCast_mul, e3]; grind
    · rw [Rat.intCast_mul, e1, Rat.intCast_mul, i2]; grind
theorem strip_no {l h u v : Rat} (hd : v - u = 0) (z : u < l ∨ h ≤ u) (t : Rat) : ¬ inStrip l h u v t := by
  unfold inStrip wayX
  rw [hd]
  rintro ⟨a, b⟩
  rcases z with z | z <;> grind
theorem strip_all {l h u v : Rat} (hd : v - u = 0) (z1 : ¬ u < l) (z2 : ¬ h ≤ u) : strip_lo l h u v 0 1 false false := fun t t0 t1 => by
  unfold inStrip wayX inLo inHi
  rw [hd]
  simp only [Bool.false_eq_true, if_false]
  constructor
  · intro _; constructor <;> grind
  · intro _; exact ⟨t0, t1⟩
theorem div_mul' {e d : Rat} (hd : d ≠ 0) : e / d * d = e := by grind
theorem strip_of {a b i pa pc qa qc : Int} {l h u v : Rat} (B : Bord a b i pa pc qa qc l h u v) (hd : ¬ qa * pc - pa * qc = 0) :
    (qa * pc - pa * qc > 0 → strip_lo l h u v ((l - u) / (v - u)) ((h - u) / (v - u)) false true) ∧ (¬ qa * pc - pa * qc > 0 → strip_lo l h u v ((h - u) / (v - u)) ((l - u) / (v - u)) true false) := by
  have hne : v - u ≠ 0 := fun z => hd (B.c0.mpr z)
  refine ⟨fun z => strip_up (B.cp.mp z) (div_mul' hne) (div_mul' hne), fun z => strip_down ?_ (div_mul' hne) (div_mul' hne)⟩
  have : ¬ 0 < v - u := fun w => z (B.cp.mpr w)
  grind
theorem bd_share {n : Nat} {t b t' b' : Int} {r : Rat} (h : (t : Rat) = r * (b : Rat)) (hb : 0 < b') (e : (t' = t ∧ b' = b) ∨ (t' = -t ∧ b' = -b)) (nt : t.natAbs < 2 ^ n) (nb : b.natAbs < 2 ^ n) : BdOk n (.tuple [.int t', .int b']) r := by
  rcases e with ⟨rfl, rfl⟩ | ⟨rfl, rfl⟩
  · exact ⟨_, _, rfl, hb, h, nt, nb⟩
  · exact ⟨_, _, rfl, hb, by rw [Rat.intCast_neg, Rat.intCast_neg, h]; grind, by omega, by omega⟩
theorem bd_lit {n : Nat} (h : 0 < n) : BdOk n (.tuple [.int 0, .int 1]) 0 ∧ BdOk n (.tuple [.int 1, .int 1]) 1 := by
  have : 2 ^ 1 ≤ 2 ^ n := Nat.pow_le_pow_right (by decide) h
  exact ⟨⟨0, 1, rfl, by decide, by simp, by show 0 < _; omega, by show 1 < _; omega⟩, ⟨1, 1, rfl, by decide, by simp, by show 1 < _; omega, by show 1 < _; omega⟩⟩
end Py
namespace Py
open PySem hiding start
open L2
/-- in the cell, by the law's own numbers -/
theorem inside_int {a b z pa pc : Int} {x l h : Rat} (hb : 0 < b) (hp : 0 < pc) (hx : (pa : Rat) = x * pc) (hl : l * (2 * (b : Rat)) = (2 * (z : Rat) - 1) * (a : Rat)) (hh : h * (2 * (b : Rat)) = (2 * (z : Rat) + 1) * (a : Rat)) :
    (2 * b * pa < (2 * z - 1) * (a * pc) ↔ x < l) ∧ ((2 * z + 1) * (a * pc) ≤ 2 * b * pa ↔ h ≤ x) := by
  have pp : (0 : Rat) < (pc : Rat) := by exact_mod_cast hp
  have bp : (0 : Rat) < (b : Rat) := by exact_mod_cast hb
  have m2 : (0 : Rat) < 2 * (b : Rat) * (pc : Rat) := Rat.mul_pos (by grind) pp
  have i2 : ((2 : Int) : Rat) = 2 := rfl
  have i1 : ((1 : Int) : Rat) = 1 := rfl
  have e1 : ((2 * b * pa - (2 * z - 1) * (a * pc) : Int) : Rat) = (x - l) * (2 * (b : Rat) * (pc : Rat)) := by
    simp only [Rat.intCast_sub, Rat.intCast_mul, i1, i2]
    rw [hx]
    have : (2 * (z : Rat) - 1) * (a : Rat) * (pc : Rat) = l * (2 * (b : Rat)) * (pc : Rat) := by rw [hl]
    grind
  have e2 : ((2 * b * pa - (2 * z + 1) * (a * pc) : Int) : Rat) = (x - h) * (2 * (b : Rat) * (pc : Rat)) := by
    simp only [Rat.intCast_sub, Rat.intCast_mul, Rat.intCast_add, i1, i2]
    rw [hx]
    have : (2 * (z : Rat) + 1) * (a : Rat) * (pc : Rat) = h * (2 * (b : Rat)) * (pc : Rat) := by rw [hh]
    grind
  obtain ⟨g1, g2, g3⟩ := int_sign m2 e1
  obtain ⟨k1, k2, k3⟩ := int_sign m2 e2
  refine ⟨⟨fun w => ?_, fun w => ?_⟩, ⟨fun w => ?_, fun w => ?_⟩⟩
  · have := g3.mp (by omega); grind
  · have := g3.mpr (show x - l < 0 by grind); omega
  · by_cases q : h ≤ x
    · exact q
    · have := k3.mpr (show x - h < 0 by grind); omega
  · by_cases q : (2 * z + 1) * (a * pc) ≤ 2 * b * pa
    · exact q
    · have := k3.mp (by omega); grind
/-- the corners by their numbers -/
theorem corner_eq {x y : Rat} {q : Pt} {b : Int} {u v : Rat} (hb : 0 < b) (h1 : q.x * (2 * (b : Rat)) = u) (h2 : q.y * (2 * (b : Rat)) = v) (e1 : x * (2 * (b : Rat)) = u) (e2 : y * (2 * (b : Rat)) = v) : q = ptOf x y := by
  have bp : (0 : Rat) < 2 * (b : Rat) := by
    have : (0 : Rat) < (b : Rat) := by exact_mod_cast hb
    grind
  have c : ∀ {s t : Rat}, s * (2 * (b : Rat)) = t * (2 * (b : Rat)) → s = t := fun {s t} h => by
    have : (s - t) * (2 * (b : Rat)) = 0 := by grind
    rcases Rat.mul_eq_zero.mp this with z | z <;> grind
  exact Pt.eq_of ((c (h1.trans e1.symm)).trans (ptOf_x x y).1.symm) ((c (h2.trans e2.symm)).trans (ptOf_x x y).2.symm)
theorem gcd_le1 {t b : Int} (ht : 0 < t) (hb : 0 < b) : 0 < (Int.gcd b t : Int) ∧ (0 < t.fdiv (Int.gcd b t : Int) ∧ t.fdiv (Int.gcd b t : Int) ≤ t) ∧ 0 < b.fdiv (Int.gcd b t : Int) ∧ b.fdiv (Int.gcd b t : Int) ≤ b := by
  have g0 : 0 < (Int.gcd b t : Int) := by
    have : Int.gcd b t ≠ 0 := fun z => by have := (Int.gcd_eq_zero_iff.mp z).1; omega
    omega
  have key : ∀ z : Int, 0 < z → (Int.gcd b t : Int) ∣ z → 0 < z.fdiv (Int.gcd b t : Int) ∧ z.fdiv (Int.gcd b t : Int) ≤ z := fun z hz hd => by
    obtain ⟨m, hm⟩ := hd
    generalize (Int.gcd b t : Int) = g at *
    have e : z.fdiv g = m := by rw [hm]; exact Int.mul_fdiv_cancel_left m (by omega)
    rw [e]
    have mp : 0 < m := by
      by_cases q : 0 < m
      · exact q
      · have : g * m ≤ 0 := Int.mul_nonpos_of_nonneg_of_nonpos (by omega) (by omega)
        omega
    refine ⟨mp, ?_⟩
    have : 1 * m ≤ g * m := Int.mul_le_mul_of_nonneg_right (by omega) (by omega)
    omega
  exact ⟨g0, key t ht (Int.gcd_dvd_right ..), key b hb (Int.gcd_dvd_left ..)⟩
instance (B : Bx) (p q : Pt) : Decidable (thrM B p q) := by unfold thrM; infer_instance
instance (B : Bx) (p q : Pt) : Decidable (lawMeets B p q) := by unfold lawMeets; infer_instance
def tnsOf (B : Bx) (p q : Pt) : List Int := [tn p q B.ll, tn p q B.hl, tn p q B.lh, tn p q B.hh]
theorem mem_tns {B : Bx} {p q : Pt} {s : Int} : s ∈ tnsOf B p q ↔ (tn p q B.ll = s ∨ tn p q B.hl = s ∨ tn p q B.lh = s ∨ tn p q B.hh = s) := by
  unfold tnsOf
  simp only [List.mem_cons, List.not_mem_nil, or_false]
  constructor
  · rintro (h | h | h | h) <;> simp [← h]
  · rintro (h | h | h | h) <;> simp [← h]
end Py
namespace Py
open PySem hiding start
open L2
theorem inside_int2 {a b z pa pc : Int} {x l h : Rat} (hb : 0 < b) (hp : 0 < pc) (hx : (pa : Rat) = x * pc) (hl : l * (2 * (b : Rat)) = (2 * (z : Rat) - 1) * (a : Rat)) (hh : h * (2 * (b : Rat)) = (2 * (z : Rat) + 1) * (a : Rat)) :
    (2 * b * pa ≤ (2 * z - 1) * a * pc ↔ x ≤ l) ∧ ((2 * z + 1) * a * pc ≤ 2 * b * pa ↔ h ≤ x) := by
  refine ⟨?_, by rw [Int.mul_assoc (2 * z + 1)]; exact (inside_int hb hp hx hl hh).2⟩
  have pp : (0 : Rat) < (pc : Rat) := by exact_mod_cast hp
  have bp : (0 : Rat) < (b : Rat) := by exact_mod_cast hb
  have m2 : (0 : Rat) < 2 * (b : Rat) * (pc : Rat) := Rat.mul_pos (by grind) pp
  have i2 : ((2 : Int) : Rat) = 2 := rfl
  have i1 : ((1 : Int) : Rat) = 1 := rfl
  have e1 : ((2 * b * pa - (2 * z - 1) * a * pc : Int) : Rat) = (x - l) * (2 * (b : Rat) * (pc : Rat)) := by
    simp only [Rat.intCast_sub, Rat.intCast_mul, i1, i2]
    rw [hx]
    have : (2 * (z : Rat) - 1) * (a : Rat) * (pc : Rat) = l * (2 * (b : Rat)) * (pc : Rat) := by rw [hl]
    grind
  obtain ⟨g1, g2, g3⟩ := int_sign m2 e1
  constructor
  · intro w
    by_cases q : x ≤ l
    · exact q
    · have := g1.mpr (show 0 < x - l by grind); omega
  · intro w
    by_cases q : 2 * b * pa ≤ (2 * z - 1) * a * pc
    · exact q
    · have := g1.mp (by omega); grind
end Py
namespace Py
open PySem hiding start
open L2
theorem meetsB_flip (B : Bx) {p q : Pt} (hpq : p ≠ q) : meetsB B q p = meetsB B p q := by
  have h := meetsQ_flip B hpq
  by_cases z : meetsQ B p q
  · rw [meetsB_t z, meetsB_t (h.mpr z)]
  · rw [meetsB_f z, meetsB_f (fun w => z (h.mp w))]
theorem ptBy_inj {u v u' v' d : Int} (hd : d ≠ 0) (h : ptBy u v d hd = ptBy u' v' d hd) : u = u' ∧ v = v' := by
  obtain ⟨x1, y1⟩ := ptBy_x (a := u) (b := v) hd
  obtain ⟨x2, y2⟩ := ptBy_x (a := u') (b := v') hd
  have ex := congrArg Pt.x h
  have ey := congrArg Pt.y h
  rw [x1, x2] at ex
  rw [y1, y2] at ey
  have k : ∀ {s t : Int}, Rat.divInt s d = Rat.divInt t d → s = t := fun {s t} e => by
    have := (Rat.divInt_eq_divInt_iff hd hd).mp e
    exact Int.eq_of_mul_eq_mul_right hd this
  exact ⟨k ex, k ey⟩
end Py
namespace Py
open PySem hiding start
abbrev tupI (i j : Int) : PyData := .tuple [.int i, .int j]
end Py

set_option Elab.async false
set_option linter.all false
set_option autoImplicit false
set_option maxRecDepth 100000
set_option maxHeartbeats 4000000
namespace Py
open PySem hiding start
open L2
open Evl (Ex ex_rd ex_l ex_t fresh_back)
open Classical
/-! ### what stands behind a statement that never goes on -/
def tDead (t : TS) : TS := fun D σ H => t { D with nx := fun _ _ => False } σ H
theorem pss_dead {X : Cx} {st : Stmt} {rest : List Stmt} {t : TS} (h1 : PS X st t) : PSs X (st :: rest) (tDead t) := by
  refine ⟨fun pins s σ H D I h => ?_⟩
  refine wpAny_execs_cons (thn (h1.run pins s σ H { D with nx := fun _ _ => False } I h) fun f s1 q => ?_)
  cases f with
  | next =>
    obtain ⟨σ', H', I', q⟩ := q
    exact q.elim
  | ret v => exact q
  | brk => exact q
  | cont => exact q
section
variable {K : PySem.W.Frag} {c c' : Ctx K} {ρ : Rho} {E : DE} {k : Dv → Prop} {ta tb te ti : TE} {t : TS}
theorem ws_dead (h : Ws c t ρ { E with nx := fun _ => False }) : Ws c (tDead t) ρ E := fun D σ H e o => h _ σ H (e.next (f := fun _ => False) (g := fun _ _ => False) (fun _ _ _ _ z => z)) o
/-- {} as a thing -/
theorem we_dnewT (h : ∀ p, k (.r (.ref p))) : We c tDNewT ρ k := fun σ H Q o q p hp => by
  obtain ⟨o2, e2⟩ := o.new (o := .dT []) hp
  exact q _ (.r _) _ o2 e2 rfl (h p)
/-! ### slices -/
def cutD (xs : List PyData) (lo hi : Option Int) : List PyData := (xs.drop (HT.sIx xs.length 0 lo)).take (HT.sIx xs.length xs.length hi - HT.sIx xs.length 0 lo)
theorem dpa_cut {G : Hp} {vs : List V} {xs : List PyData} (h : DpAll K G vs xs) (lo hi : Option Int) : DpAll K G (cutV vs lo hi) (cutD xs lo hi) := by
  unfold cutV cutD
  rw [dpa_len h]
  exact dpa_take _ (dpa_drop _ h)
def Wo (c : Ctx K) (to : TO) (ρ : Rho) (k : Option Int → Prop) : Prop := ∀ σ H (Q : Option Int → Hp → Prop), Ok c ρ σ H → (∀ i H', Ok c ρ σ H' → Stp c ρ H H' → k i → Q i H') → to σ H Q
theorem wo_none {k : Option Int → Prop} (h : k none) : Wo c tNoPart ρ k := fun σ H Q o q => q none H o (Stp.refl _) h
theorem wo_some {k : Option Int → Prop} (h : We c te ρ fun x => ∃ i, x = .d (.int i) ∧ k (some i)) : Wo c (tPart te) ρ k := fun σ H Q o q => h σ H _ o fun v x H1 o1 e1 d1 ⟨i, hx, hk⟩ => by
  subst hx
  exact ⟨i, dp_int d1, q _ H1 o1 e1 hk⟩
/-- a new list of some of what stands in the heap that is seen -/
theorem Ok.fresh {σ : L2.St} {H0 H1 : Hp} (o : Ok c ρ σ H1) (s : Stp c ρ H0 H1) {p : Addr} {vs : List V} {xs : List PyData} (hp : H1 p = none) (d : DpAll K (vis c ρ H1) vs xs) :
    H0 p = none ∧ Ok c ρ σ (upd H1 p (.lst vs)) ∧ Stp c ρ H0 (upd H1 p (.lst vs)) ∧ DpAll K (hid (· = p) (vis c ρ (upd H1 p (.lst vs)))) vs xs := by
  obtain ⟨o2, e2⟩ := o.new (o := .lst vs) hp
  have nv : vis c ρ H1 p = none := by unfold vis; rw [hid_neg (o.nh hp)]; exact hp
  have hp0 : H0 p = none := by
    cases z : H0 p with
    | none => rfl
    | some ob =>
      exfalso
      by_cases hh : Hid c ρ p
      · exact o.nh hp hh
      · have := s.ex p ob (by unfold vis; rw [hid_neg hh]; exact z)
        rw [nv] at this; cases this
  have up : Ex (vis c ρ H1) (hid (· = p) (vis c ρ (upd H1 p (.lst vs)))) := fun a u ha => by
    have na : a ≠ p := fun z => by subst z; rw [nv] at ha; cases ha
    exact (hid_neg (L := fun x => x = p) na).trans (e2.ex a u ha)
  exact ⟨hp0, o2, s.trans e2, dpa_mono up _ _ d⟩
theorem wf_slice {k : List PyData → Prop} {tl th : TO} (h : We c te ρ fun x => Wo c tl ρ fun lo => Wo c th ρ fun hi => ∃ xs, x = .d (.list xs) ∧ k (cutD xs lo hi)) : Wf c (tSl (rSlL K) te tl th) ρ k := fun σ H Q o q =>
  h σ H _ o fun v x H1 o1 e1 d1 h1 => h1 σ H1 _ o1 fun lo H2 o2 e2 h2 => h2 σ H2 _ o2 fun hi H3 o3 e3 ⟨xs, hx, hk⟩ => by
    subst hx
    have d3 : Dp K (vis c ρ H3) v (.list xs) := dp_mono (e2.trans e3).ex _ _ d1
    cases d3 with
    | @lst a vs _ _ hs ha =>
      refine ⟨a, vs, rfl, ex_l hid_sub hs, fun p hp => ?_⟩
      obtain ⟨h0, o4, s4, d4⟩ := o3.fresh ((e1.trans e2).trans e3) hp (dpa_cut ha lo hi)
      exact q p _ _ _ h0 upd_same o4 s4 d4 hk
theorem wf_sliceOwn {k : List PyData → Prop} {tl th : TO} {i : Nat} {l : Addr} {xs : List PyData} (h : ρ[i]? = some (.own l xs)) (ht : Wo c tl ρ fun lo => Wo c th ρ fun hi => k (cutD xs lo hi)) : Wf c (tSl (rSlL K) (tVar i) tl th) ρ k := fun σ H Q o q => by
  obtain ⟨vs, e1, h1, d1⟩ := o.own h
  have ol : Owns ρ l := ⟨xs, List.mem_of_getElem? h⟩
  refine ⟨_, e1, ht σ H _ o fun lo H2 o2 e2 h2 => h2 σ H2 _ o2 fun hi H3 o3 e3 hk => ?_⟩
  have h3 : H3 l = some (.lst vs) := (e3.own l ol).trans ((e2.own l ol).trans h1)
  refine ⟨l, vs, rfl, .inl (.inl h3), fun p hp => ?_⟩
  obtain ⟨h0, o4, s4, d4⟩ := o3.fresh (e2.trans e3) hp (dpa_cut (dpa_mono (e2.trans e3).ex _ _ d1) lo hi)
  exact q p _ _ _ h0 upd_same o4 s4 d4 hk
theorem wf_revL {k : List PyData → Prop} (h : We c te ρ fun x => ∃ xs, x = .d (.list xs) ∧ k xs.reverse) : Wf c (tRevL K te) ρ k := fun σ H Q o q => h σ H _ o fun v x H1 o1 e1 d1 ⟨xs, hx, hk⟩ => by
  subst hx
  change Dp _ _ _ _ at d1
  cases d1 with
  | @lst a vs _ _ hs ha =>
    refine ⟨a, vs, rfl, ex_l hid_sub hs, fun p hp => ?_⟩
    obtain ⟨h0, o4, s4, d4⟩ := o1.fresh e1 hp (dpa_rev ha)
    exact q p _ _ _ h0 upd_same o4 s4 d4 hk
theorem wf_revOwn {k : List PyData → Prop} {i : Nat} {l : Addr} {xs : List PyData} (h : ρ[i]? = some (.own l xs)) (hk : k xs.reverse) : Wf c (tRevL K (tVar i)) ρ k := fun σ H Q o q => by
  obtain ⟨vs, e1, h1, d1⟩ := o.own h
  refine ⟨_, e1, l, vs, rfl, .inl (.inl h1), fun p hp => ?_⟩
  obtain ⟨h0, o4, s4, d4⟩ := o.fresh (Stp.refl _) hp (dpa_rev d1)
  exact q p _ _ _ h0 upd_same o4 s4 d4 hk
/-! ### results that are new lists -/
theorem ws_retF {i : Nat} {l : Addr} {xs : List PyData} (h : ρ[i]? = some (.own l xs)) (k : c.B l = none → ¬ c.L l → E.rt (.f l xs)) : Ws c (tRet (tVar i)) ρ E := fun D σ H e o => by
  obtain ⟨vs, q, h1, d1⟩ := o.own h
  have ol : Owns ρ l := ⟨xs, List.mem_of_getElem? h⟩
  obtain ⟨b1, nl⟩ := o.ob l ol
  refine ⟨_, q, e.rt _ (.f l xs) H o.w o.b ⟨rfl, vs, (hid_neg nl).trans h1, dpa_mono (fun a u z => ?_) _ _ d1⟩ (k b1 nl)⟩
  obtain ⟨n, z⟩ := hid_some z
  have na : a ≠ l := fun q => n (.inr (q ▸ ol))
  exact (hid_neg (L := fun x => x = l) na).trans ((hid_neg fun q => n (.inl q)).trans z)
theorem ws_retWf (h : Wf c te ρ fun xs => ∀ l, c.B l = none → ¬ c.L l → E.rt (.f l xs)) : Ws c (tRet te) ρ E := fun D σ H e o => h σ H _ o fun l vs xs H1 n1 h1 o1 s1 d1 k1 => by
  have nl : ¬ c.L l := fun z => o.nh n1 (.inl z)
  have b1 : c.B l = none := by
    cases z : c.B l with
    | none => rfl
    | some ob =>
      have := (hid_some (o.b l ob z)).2
      rw [n1] at this; cases this
  refine e.rt _ (.f l xs) H1 o1.w o1.b ⟨rfl, vs, (hid_neg nl).trans h1, dpa_mono (hid_ex vis_out) _ _ d1⟩ (k1 l b1 nl)
/-- a call whose result is a new list -/
theorem wf_callF {P : PT0 K} {k : List PyData → Prop} {X : XK} {t : TA} (h : Wa c t ρ fun xs => ∀ c' : Ctx K, Le c c' → P c' xs (fun x => ∃ l ys, x = .f l ys ∧ c'.B l = none ∧ ¬ c'.L l ∧ k ys) fun _ => False) : Wf c (tCall (spD K P) [] X t) ρ k := fun σ H Q o q =>
  h σ H _ o fun vs xs H1 o1 e1 d1 h1 => by
    rw [List.append_nil]
    refine ⟨c.shut ρ H1 o1.w fun a z => o1.mut z, xs, _, _, ⟨o1.w, fun _ _ => rfl⟩, rfl, d1, h1 _ o1.le, fun v y H' w b dv ky => ?_, fun cls H' w b kx => kx.elim⟩
    obtain ⟨l, ys, rfl, bl, nl, hk⟩ := ky
    obtain ⟨rfl, us, hl, da⟩ := dv
    have s : Stp c ρ H1 H' := ⟨b, w.2⟩
    have nl : ¬ Hid c ρ l := nl
    have h1l : H1 l = none := by
      have z : hid (Hid c ρ) H1 l = none := bl
      rw [hid_neg nl] at z; exact z
    have h0l : H l = none := by
      cases z : H l with
      | none => rfl
      | some ob =>
        have := (hid_some (e1.ex l ob (by unfold vis; rw [hid_neg nl]; exact z))).2
        rw [h1l] at this; cases this
    exact q l us ys H' h0l (hid_some hl).2 (o1.grow w.1 b w.2) (e1.trans s) da hk
end
end Py

set_option Elab.async false
set_option linter.all false
set_option autoImplicit false
set_option maxRecDepth 100000
set_option maxHeartbeats 4000000
namespace Py
open PySem hiding start
open L2
open Evl (Ex ex_rd ex_l ex_t fresh_back)
open Classical
/-! ### isinstance(e, (C1, C2, ..)) of the error that a suite holds -/
def rIsXT (K : PySem.W.Frag) (a : Addr) (cls : Value) (d : Option Addr) : List V → Hp → VK → Prop := fun xs H Q => ∃ (D tp : Addr) (cs : List V) (us : List Value) (b : Bool), cls = .ref D ∧ d = none ∧ ExcC K D ∧ xs = [.ref a, .ref tp] ∧ H tp = some (.tup cs) ∧ Paired ClsV cs us ∧ PySem.W.kitAny K (.ref D) us = some b ∧ Q (.bl b) H
theorem call_isXT {X : Cx} {a : Addr} {oe : Obj} {cls : Value} {d : Option Addr} {pn : List (Addr × Obj)} (hz : Zc cls d oe) (hf : ∃ vs, oe.data = .fields vs) : CallR (X.suite a ((a, oe) :: pn)) (.builtin "isinstance") (rIsXT X.K a cls d) := by
  intro pins s σ H xs us Q I r h
  obtain ⟨D, tp, cs, ws, b, rfl, rfl, C, rfl, hT, k, e, q⟩ := h
  cases r with
  | cons rx rr =>
    cases rr with
    | cons rt rr =>
      cases rr
      cases rx
      cases rt
      obtain ⟨hget, _⟩ := I.pin (a, oe) (List.mem_append.mpr (.inl List.mem_cons_self))
      obtain ⟨vs, hv⟩ := hf
      have J : PySem.W.InstAt s.heap a oe D none := by
        obtain ⟨oc, od, oda, osl⟩ := oe
        obtain ⟨h1, h2⟩ := hz
        dsimp only at h1 h2 hv
        subst h1 h2 hv
        exact ⟨hget, rfl, rfl, trivial⟩
      obtain ⟨_, its, rv, o, h1, h2, n, h3⟩ := (show ObjOk _ _ H s.heap tp (.tup cs) from I.hok tp _ hT)
      have e3 := ClsV.all k rv
      subst e3
      obtain ⟨oc, od, dt, sl⟩ := o
      simp only at h2 h3
      subst h2 h3
      exact PySem.W.kia_tup (PySem.W.handS_kitx_exc C.hg C.hk C.hs C.hd C.ha C.hn C.ht C.hm) I.kIn J h1 e (fun z => nomatch z) fun tk => ⟨.bl b, H, I.kept (t' := tk) fun _ _ z => z, rfl, q⟩
theorem call_isXTs (K : PySem.W.Frag) {X : Cx} {a : Addr} {oe : Obj} {cls : Value} {d : Option Addr} {pn : List (Addr × Obj)} (hz : Zc cls d oe) (hf : ∃ vs, oe.data = .fields vs) (h : X.K = K := by rfl) : CallR (X.suite a ((a, oe) :: pn)) (.builtin "isinstance") (rIsXT K a cls d) := h ▸ call_isXT hz hf
section
variable {K : PySem.W.Frag} {c c' : Ctx K} {ρ : Rho} {E : DE} {k : Dv → Prop} {ta tb te ti : TE} {t : TS}
theorem dva_raw {G : Hp} : ∀ {us : List V} {vs : List V}, DvAll K G vs (us.map Dv.r) → vs = us
  | [], _, .nil => rfl
  | u :: us, _, .cons h t => by
    have e := dva_raw t
    have h : _ = u := h
    rw [e, h]
theorem we_isXT {a D : Addr} {ts : TA} {b : Bool} {cvs : List Value} (C : ExcC K D) (hb : PySem.W.kitAny K (.ref D) cvs = some b) (h : We c te ρ fun x => x = .r (.ref a) ∧ Wa c ts ρ fun ys => ∃ us : List V, ys = us.map Dv.r ∧ us.length ≤ 100000 ∧ Paired ClsV us cvs ∧ k (.d (.bool b))) :
    We c (tCB (rIsXT K a (.ref D) none) (tCons te (tCons (tTup ts) tNil))) ρ k := fun σ H Q o q => h σ H _ o fun v x H1 o1 e1 d1 ⟨hx, h1⟩ => by
  subst hx
  obtain rfl : v = .ref a := d1
  refine h1 σ H1 _ o1 fun vs ys H2 o2 e2 d2 ⟨us, hy, hz, hp, hk⟩ => ?_
  subst hy
  obtain rfl := dva_raw d2
  refine ⟨Evl.sz_of hz, fun p hp' => ?_⟩
  obtain ⟨o3, e3⟩ := o2.new (o := .tup vs) hp'
  exact ⟨D, p, vs, cvs, b, rfl, rfl, C, rfl, upd_same, hp, hb, q _ (.d (.bool b)) _ o3 ((e1.trans e2).trans e3) (Dp.bl b) hk⟩
end
/-! ### the cells of points -/
theorem fdiv_iff {a b u : Int} (hb : 0 < b) : a.fdiv b = u ↔ u * b ≤ a ∧ a < (u + 1) * b := by
  have h := Int.mul_fdiv_add_fmod a b
  have h1 := Int.fmod_nonneg_of_pos a hb
  have h2 := Int.fmod_lt_of_pos a hb
  constructor
  · rintro rfl
    have e1 : a.fdiv b * b = b * a.fdiv b := Int.mul_comm _ _
    have e2 : (a.fdiv b + 1) * b = b * a.fdiv b + b := by rw [Int.add_mul, Int.mul_comm, Int.one_mul]
    omega
  · rintro ⟨g1, g2⟩
    generalize a.fdiv b = q at *
    have lt1 : q < u + 1 := Int.lt_of_mul_lt_mul_right (show q * b < (u + 1) * b by rw [Int.mul_comm q b]; omega) (by omega)
    have lt2 : u < q + 1 := Int.lt_of_mul_lt_mul_right (show u * b < (q + 1) * b by rw [Int.add_mul, Int.mul_comm q b, Int.one_mul]; omega) (by omega)
    omega
def colI (a c s t : Int) : Int := (2 * a * t + c * s).fdiv (2 * c * s)
theorem colI_in {a c s t : Int} (hc : 0 < c) (hs : 0 < s) : (2 * colI a c s t - 1) * (s * c) ≤ 2 * t * a ∧ 2 * t * a < (2 * colI a c s t + 1) * (s * c) := by
  have hp : 0 < 2 * c * s := Int.mul_pos (by omega) hs
  obtain ⟨h1, h2⟩ := (fdiv_iff (a := 2 * a * t + c * s) (u := colI a c s t) hp).mp rfl
  generalize colI a c s t = u at *
  have e0 : 2 * a * t = 2 * t * a := by rw [Int.mul_right_comm]
  have e1 : u * (2 * c * s) = 2 * u * (s * c) := by grind
  have e2 : (u + 1) * (2 * c * s) = 2 * u * (s * c) + 2 * (s * c) := by grind
  have e3 : c * s = s * c := Int.mul_comm _ _
  have e4 : (2 * u - 1) * (s * c) = 2 * u * (s * c) - s * c := by grind
  have e5 : (2 * u + 1) * (s * c) = 2 * u * (s * c) + s * c := by grind
  generalize s * c = m at *
  omega
theorem colI_mid {a c s t i : Int} (hc : 0 < c) (hs : 0 < s) (h : a * t = i * s * c) : colI a c s t = i := by
  have hp : 0 < 2 * c * s := Int.mul_pos (by omega) hs
  unfold colI
  rw [fdiv_iff hp]
  have hm : 0 < s * c := Int.mul_pos hs hc
  have e1 : 2 * a * t = 2 * (i * (s * c)) := by rw [Int.mul_assoc, h, Int.mul_assoc]
  have e2 : i * (2 * c * s) = 2 * (i * (s * c)) := by grind
  have e3 : (i + 1) * (2 * c * s) = 2 * (i * (s * c)) + 2 * (s * c) := by grind
  have e4 : c * s = s * c := Int.mul_comm _ _
  rw [e1, e2, e3, e4]
  omega
end Py
namespace Py
open PySem hiding start
open L2
theorem rv_eqP {K : PySem.W.Frag} {c : Py.Ctx K} {ρ : Rho} {k : Dv → Prop} {p q : Pt} (h : k (.d (.bool (decide (p = q))))) : Rv c (rEqD K) ρ (.d (ptD p)) (.d (ptD q)) k := rv_eqD ((shp_pt (n := 0) p).shaped (by decide)) ((shp_pt (n := 0) q).shaped (by decide)) (by rw [eqv_pt]; exact h)
theorem rv_neP {K : PySem.W.Frag} {c : Py.Ctx K} {ρ : Rho} {k : Dv → Prop} {p q : Pt} (h : k (.d (.bool (!decide (p = q))))) : Rv c (rNeD K) ρ (.d (ptD p)) (.d (ptD q)) k := rv_neD ((shp_pt (n := 0) p).shaped (by decide)) ((shp_pt (n := 0) q).shaped (by decide)) (by rw [eqv_pt]; exact h)
theorem rv_neT2 {K : PySem.W.Frag} {c : Py.Ctx K} {ρ : Rho} {k : Dv → Prop} {i j u v : Int} (h : k (.d (.bool (!decide (i = u ∧ j = v))))) : Rv c (rNeD K) ρ (.d (tupI i j)) (.d (tupI u v)) k := rv_neD (shaped_ints (as := [i, j]) (Nat.le_of_ble_eq_true rfl)) (shaped_ints (as := [u, v]) (Nat.le_of_ble_eq_true rfl)) (by
  have e := eqv_ints [i, j] [u, v]
  rw [show PyData.eqv (tupI i j) (tupI u v) = decide ([i, j] = [u, v]) from e]
  have e2 : decide ([i, j] = [u, v]) = decide (i = u ∧ j = v) := by simp
  rw [e2]; exact h)
theorem fdiv_small {a b : Int} (hb : 0 < b) : (a.fdiv b).natAbs ≤ a.natAbs := by
  obtain ⟨h1, h2⟩ := (fdiv_iff (a := a) (u := a.fdiv b) hb).mp rfl
  generalize a.fdiv b = u at *
  by_cases z : 0 ≤ u
  · have : u * 1 ≤ u * b := Int.mul_le_mul_of_nonneg_left (by omega) z
    omega
  · have : (-(u + 1)) * 1 ≤ (-(u + 1)) * b := Int.mul_le_mul_of_nonneg_left (by omega) (by omega)
    have e : (-(u + 1)) * b = -((u + 1) * b) := Int.neg_mul ..
    omega
end Py

set_option Elab.async false
set_option linter.all false
set_option autoImplicit false
set_option maxRecDepth 100000
set_option maxHeartbeats 4000000
namespace Py
open PySem hiding start
open L2
open Evl (Ex ex_rd ex_l ex_t fresh_back)
open Classical
/-! ### what never changes -/
def noL (H : Hp) : Hp := fun a => match H a with
  | some o => if isMut o = true then none else some o
  | none => none
theorem noL_some {H : Hp} {a : Addr} {o : HO} (h : noL H a = some o) : H a = some o ∧ isMut o = false := by
  unfold noL at h
  cases z : H a with
  | none => rw [z] at h; cases h
  | some u =>
    rw [z] at h
    cases m : isMut u with
    | true => simp only [m, if_true] at h; cases h
    | false =>
      simp only [m, Bool.false_eq_true, if_false] at h
      cases h
      exact ⟨rfl, m⟩
theorem noL_of {H : Hp} {a : Addr} {o : HO} (h : H a = some o) (m : isMut o = false) : noL H a = some o := by
  unfold noL
  rw [h]
  simp only [m, Bool.false_eq_true, if_false]
theorem noL_tp {H H' : Hp} (t : Tp H H') : Ex (noL H) (noL H') := fun a o h => by
  obtain ⟨h1, m⟩ := noL_some h
  exact noL_of (t a o h1 m) m
/-! data without lists -/
mutual
def flatD : PyData → Bool
  | .none => true
  | .bool _ => true
  | .int _ => true
  | .str _ => true
  | .tuple ds => flatDs ds
  | _ => false
def flatDs : List PyData → Bool
  | [] => true
  | d :: ds => flatD d && flatDs ds
end
mutual
theorem dp_noL {K : PySem.W.Frag} {G : Hp} : ∀ (d : PyData) (v : V), flatD d = true → Dp K G v d → Dp K (noL G) v d
  | .none, _, _, h => by cases h; exact .non
  | .bool _, _, _, h => by cases h; exact .bl _
  | .int _, _, _, h => by cases h; exact .int _
  | .str _, _, _, h => by cases h; exact .str _
  | .list ds, _, f, h => by cases f
  | .tuple ds, _, f, h => by
    cases h with
    | @tup _ _ _ hp hs ha => exact dp_tup (noL_of hp rfl) (dpa_noL ds _ f ha)
  | .dict _, _, f, _ => by cases f
theorem dpa_noL {K : PySem.W.Frag} {G : Hp} : ∀ (ds : List PyData) (vs : List V), flatDs ds = true → DpAll K G vs ds → DpAll K (noL G) vs ds
  | [], _, _, h => by cases h; exact .nil
  | d :: ds, _, f, h => by
    have f : (flatD d && flatDs ds) = true := f
    rw [Bool.and_eq_true] at f
    cases h with
    | cons h1 h2 => exact .cons (dp_noL d _ f.1 h1) (dpa_noL ds _ f.2 h2)
end
theorem flatDs_all {ds : List PyData} (h : ∀ d ∈ ds, flatD d = true) : flatDs ds = true := by
  induction ds with
  | nil => rfl
  | cons d ds ih => show (flatD d && flatDs ds) = true; rw [h d (by simp), ih fun e he => h e (by simp [he])]; rfl
theorem flatDs_mem {ds : List PyData} (h : flatDs ds = true) : ∀ d ∈ ds, flatD d = true := by
  induction ds with
  | nil => intro d hd; cases hd
  | cons e ds ih =>
    have h : (flatD e && flatDs ds) = true := h
    rw [Bool.and_eq_true] at h
    intro d hd
    rcases List.mem_cons.mp hd with rfl | hd
    · exact h.1
    · exact ih h.2 d hd
theorem flat_pt (p : Pt) : flatD (ptD p) = true := rfl
theorem flat_pts (ps : List Pt) : flatDs (ps.map ptD) = true := flatDs_all fun d hd => by
  obtain ⟨p, _, rfl⟩ := List.mem_map.mp hd
  rfl
section
variable {K : PySem.W.Frag} {c c' : Ctx K} {ρ : Rho} {E : DE} {k : Dv → Prop} {ta tb te ti : TE} {t : TS}
theorem Ok.noL {σ : L2.St} {H : Hp} (o : Ok c ρ σ H) : Ex (noL H) (vis c ρ H) := fun a u h => by
  obtain ⟨h1, m⟩ := noL_some h
  unfold vis
  rw [hid_neg]
  · exact h1
  · intro z
    obtain ⟨u', e, m'⟩ := o.mut z
    rw [h1] at e; cases e
    rw [m] at m'; cases m'
/-- a list of one's own shown to what is evaluated: the answer is no list -/
theorem we_share {i : Nat} {l : Addr} {xs : List PyData} (h : ρ[i]? = some (.own l xs)) (ht : We c te (ρ.set i (.val (.d (.list xs)))) fun x => ∃ d, x = .d d ∧ flatD d = true ∧ k (.d d)) : We c te ρ k := fun σ H Q o q => by
  have ol : Owns ρ l := ⟨xs, List.mem_of_getElem? h⟩
  refine ht σ H _ (o.freeze h) fun v x H1 of1 sf1 df ⟨d, hx, fl, hk⟩ => ?_
  subst hx
  have nlc : ¬ c.L l := (o.ob l ol).2
  have lt : ∀ a, Owns (ρ.set i (.val (.d (.list xs)))) a → Owns ρ a := fun a z => owns_less z
  have nl : ¬ Hid c (ρ.set i (.val (.d (.list xs)))) l := fun z => z.elim nlc fun ⟨ys, z⟩ => by
    obtain ⟨j, hj, e'⟩ := List.mem_iff_getElem.mp z
    have z' : (ρ.set i (.val (.d (.list xs))))[j]? = some (Slot.own l ys) := by rw [List.getElem?_eq_getElem hj, e']
    rcases List_set_get z' with ⟨_, q, _⟩ | ⟨ne, z'⟩
    · cases q
    · exact ne (o.one i j l xs ys h z')
  obtain ⟨vs, _, h1, _⟩ := o.own h
  have hl : H1 l = H l := by
    have := sf1.ex l _ (show vis c _ H l = some (.lst vs) from (hid_neg nl).trans h1)
    rw [h1]; exact (hid_some this).2
  have gt : ∀ a, Owns ρ a → a = l ∨ Owns (ρ.set i (.val (.d (.list xs)))) a := fun a ⟨ys, z⟩ => by
    obtain ⟨j, hj, e'⟩ := List.mem_iff_getElem.mp z
    by_cases q : i = j
    · subst q
      have : some (Slot.own a ys) = some (Slot.own l xs) := by rw [← h, List.getElem?_eq_getElem hj, e']
      cases this; exact .inl rfl
    · exact .inr ⟨ys, List.mem_of_getElem? (i := j) (by rw [List.getElem?_set_ne q, List.getElem?_eq_getElem hj, e'])⟩
  have ow : ∀ a, Owns ρ a → H1 a = H a := fun a z => (gt a z).elim (fun q => by rw [q]; exact hl) (sf1.own a)
  have ex : Ex (vis c ρ H) (vis c ρ H1) := fun b u z => by
    obtain ⟨n1, z⟩ := hid_some z
    have := sf1.ex b u ((hid_neg fun q => n1 (q.imp id (lt b))).trans z)
    exact (hid_neg n1).trans (hid_some this).2
  have o1 : Ok c ρ σ H1 := o.grow of1.w ex ow
  refine q v (.d d) H1 o1 ⟨ex, ow⟩ ?_ hk
  have dd : Dp K (vis c (ρ.set i (.val (.d (.list xs)))) H1) v d := df
  exact dp_mono o1.noL _ _ (dp_noL d v fl (dp_mono hid_sub _ _ dd))
/-- a comprehension over a list that is known to the context alone -/
theorem wf_lcH {tl : TE} {g : TG} {tt : TT} {vs : List Nat} {k : List PyData → Prop} (js : List Nat) (hj : ∀ i ∈ js, i ∈ vs) (hw : (vs.all fun v => (ρ[v]?.map isOwn) == some false) = true) (h : We c tl ρ fun x => ∃ (a : Addr) (us : List V) (xs : List PyData), x = .r (.ref a) ∧ (∀ H, c.W H → H a = some (.lst us)) ∧ DpAll K c.B us xs ∧ xs.length ≤ 100000 ∧ ∃ P : Nat → List PyData → Prop, P 0 [] ∧
    (∀ c' : Ctx K, Le c c' → ∀ i x acc, xs[i]? = some x → acc.length ≤ i → P i acc → Wg c' g js (.d x) (wipeR ρ vs) fun ρ2 => Wt c' tt ρ2 fun b => (b = true → We c' te ρ2 fun y => ∃ d, y = .d d ∧ P (i + 1) (acc ++ [d])) ∧ (b = false → P (i + 1) acc)) ∧
    ∀ acc, acc.length ≤ xs.length → P xs.length acc → k acc) : Wf c (tLc (iList K tl) g tt te vs) ρ k := fun σ H Q o q =>
  h σ H _ o fun v x H1 o1 e1 d1 ⟨a, us, xs, hx, hA, ha0, hz, P, p0, ps, pd⟩ => by
    subst hx
    obtain rfl : v = .ref a := d1
    refine ⟨a, rfl, ⟨us, .inl (.inl (hA H1 o1.w))⟩, fun D hD => ?_⟩
    have nD : ¬ Hid c ρ D := o1.nh hD
    have nDL : ¬ c.L D := fun z => nD (.inl z)
    -- what stood ahead of the list, for all turns
    let B1 : Hp := vis c ρ H1
    have bB : Ex c.B B1 := o1.base
    have ha : DpAll K B1 us xs := dpa_mono bB _ _ ha0
    have B1D : B1 D = none := hid_none hD
    have own0 : ∀ a, Owns ρ a → B1 a = none := fun a z => hid_pos (.inr z)
    let Pv : Nat → Hp → Prop := fun i H' => ∃ (ws : List V) (acc : List PyData), H' D = some (.lst ws) ∧ Ok (c.at B1) ρ σ H' ∧ Stp c ρ H1 H' ∧ DpAll K (hid (· = D) (vis c ρ H')) ws acc ∧ acc.length ≤ i ∧ P i acc
    have hH0 : H D = none := by
      cases z : H D with
      | none => rfl
      | some ob =>
        have := e1.ex D ob (by unfold vis; rw [hid_neg nD]; exact z)
        rw [vis, hid_none hD] at this; cases this
    refine lc_list (K := K) (a := a) (xs := us) Pv ?_ ?_ ?_ ?_
    · obtain ⟨o2, e2⟩ := o1.new (o := .lst []) hD
      have o2' : Ok (c.at B1) ρ σ (upd H1 D (.lst [])) := ⟨o2.w, e2.ex.trans vis_out, fun l z => ⟨own0 l z, (o2.ob l z).2⟩, o2.sl, o2.one, o2.len⟩
      exact ⟨[], [], upd_same, o2', e2, .nil, Nat.le_refl 0, p0⟩
    · rintro i H' _ ⟨ws, acc, _, o', _, _, _, _⟩
      exact .inl (.inl (hA H' o'.w))
    · rintro i y H' hy ⟨ws, acc, hD', o', s', dacc, hl, p'⟩
      obtain ⟨d, hd, dd⟩ := dpa_get' ha hy
      have hi : i < 100000 := by
        have := (List.getElem?_eq_some_iff.mp hd).1
        omega
      -- the context of this turn
      let B2 : Hp := hid (· = D) (vis c ρ H')
      have bB2 : Ex B1 B2 := fun b ob z => by
        have nb : b ≠ D := fun q => by rw [q, B1D] at z; cases z
        exact (hid_neg (L := fun x => x = D) nb).trans (s'.ex b ob z)
      let c2 : Ctx K := c.hide D (.lst ws) B2
      have le : Le c c2 := le_hide nDL (bB.trans bB2)
      have visE : ∀ (ρ2 : Rho) (H2 : Hp), Ex (vis c2 ρ2 H2) (hid (· = D) (vis c ρ2 H2)) := fun ρ2 H2 b ob z => by
        obtain ⟨n1, z⟩ := hid_some z
        have nb : b ≠ D := fun q => n1 (.inl (.inr q))
        refine (hid_neg (L := fun x => x = D) nb).trans ((hid_neg fun q => n1 (q.imp .inl id)).trans z)
      have visE' : ∀ (ρ2 : Rho) (H2 : Hp), Ex (hid (· = D) (vis c ρ2 H2)) (vis c2 ρ2 H2) := fun ρ2 H2 b ob z => by
        obtain ⟨nb, z⟩ := hid_some z
        obtain ⟨n1, z⟩ := hid_some z
        refine (hid_neg fun q => ?_).trans z
        rcases q with (q | q) | q
        · exact n1 (.inl q)
        · exact nb q
        · exact n1 (.inr q)
      have oD : ∀ (l : Addr), Owns ρ l → l ≠ D := fun l z q => nD (.inr (q ▸ z))
      have slots : ∀ (j : Nat) (s : Slot), ρ[j]? = some s → ∃ ob, σ[j]? = some ob ∧ SlotOk K (vis c2 ρ H') H' ob s := fun j s hs' => by
        obtain ⟨u1, q1, z1⟩ := (o1.clean s' hD j s hs')
        refine ⟨u1, q1, ?_⟩
        cases s with
        | un => trivial
        | val y => obtain ⟨w, w1, w2⟩ := z1; exact ⟨w, w1, dv_mono (visE' ρ H') w2⟩
        | own l ys => obtain ⟨w, w1, w2, w3⟩ := z1; exact ⟨w, w1, w2, own_mono (visE' ρ H') _ _ w3⟩
      have o2 : Ok c2 ρ σ H' := ⟨⟨o'.w, hD'⟩, (visE' ρ H').trans vis_out, fun l z => ⟨(show hid (· = D) (vis c ρ H') l = none from hid_none' (hid_pos (Or.inr z))), fun q => q.elim (o'.ob l z).2 (oD l z)⟩, slots, o'.one, o'.len⟩
      have o3 : Ok c2 (wipeR ρ vs) (L2.wipe σ vs) H' := o2.wipe vs
      have ev : Ex (vis c2 ρ H') (vis c2 (wipeR ρ vs) H') := hid_less fun b z => z.imp id owns_wipe
      have dd2 : Dp K (vis c2 (wipeR ρ vs) H') y d := dp_mono ((Evl.Ex.trans bB2 (visE' ρ H')).trans ev) _ _ dd
      refine ps c2 le i d acc hd hl p' (L2.wipe σ vs) H' y _ o3 dd2 fun ρ4 σ4 o4 a4 l4 b4 b4' w4 => ⟨wipe_eq hj a4 l4, ?_⟩
      refine w4 σ4 H' _ o4 fun b H5 o5 s5 z5 => ?_
      -- what is the same again once the element is told
      have back : ∀ H6, Ok c2 ρ4 σ4 H6 → Stp c2 ρ4 H' H6 → H6 D = some (.lst ws) ∧ (∀ a, Owns ρ a → H6 a = H' a) ∧ Ex (vis c2 ρ H') (vis c2 ρ H6) := fun H6 o6 s6 => by
        refine ⟨o6.w.2, fun a z => s6.own a (b4 a (owns_wipe' hw z).1), fun b ob z => ?_⟩
        · obtain ⟨n1, z⟩ := hid_some z
          have n2 : ¬ Hid c2 ρ4 b := fun q => n1 (q.imp id fun q => owns_wipe (b4' b q))
          have := s6.ex b ob (by unfold vis; rw [hid_neg n2]; exact z)
          unfold vis
          rw [hid_neg n1]
          exact (hid_some this).2
      cases b with
      | false =>
        rw [if_neg Bool.false_ne_true]
        obtain ⟨hD5, ow5, ex5⟩ := back H5 o5 s5
        have exA : Ex (vis c ρ H') (vis c ρ H5) := fun b ob z => by
          by_cases nb : b = D
          · subst nb
            unfold vis at *
            rw [hid_neg nD] at *
            rw [hD'] at z
            rw [hD5]; exact z
          · have := ex5 b ob (visE' ρ H' b ob ((hid_neg (L := fun x => x = D) nb).trans z))
            exact hid_sub b ob (visE ρ H5 b ob this)
        have stp : Stp c ρ H' H5 := ⟨exA, ow5⟩
        refine ⟨ws, acc, hD5, o'.grow o5.w.1 exA ow5, s'.trans stp, dpa_mono (fun b ob z => visE ρ H5 b ob (ex5 b ob (visE' ρ H' b ob z))) _ _ dacc, Nat.le_succ_of_le hl, z5.2 rfl⟩
      | true =>
        rw [if_pos rfl]
        refine z5.1 rfl σ4 H5 _ o5 fun v6 y6 H6 o6 s6 d6 ⟨d, hy6, p6⟩ => ?_
        subst hy6
        obtain ⟨hD6, ow6, ex6⟩ := back H6 o6 (s5.trans s6)
        refine ⟨ws, hD6, ?_, ?_⟩
        · have w1 := dpa_len dacc
          exact Evl.sz_lt (by omega)
        · -- the list has one more
          have ow7 : ∀ a, Owns ρ a → upd H6 D (.lst (ws ++ [v6])) a = H' a := fun a z => (upd_ne (oD a z)).trans (ow6 a z)
          have e67 : Ex (hid (· = D) (vis c ρ H6)) (hid (· = D) (vis c ρ (upd H6 D (.lst (ws ++ [v6]))))) := fun b ob z => by
            obtain ⟨nb, z⟩ := hid_some z
            obtain ⟨n1, z⟩ := hid_some z
            refine (hid_neg (L := fun x => x = D) nb).trans ((hid_neg n1).trans ((upd_ne nb).trans z))
          have exB : Ex (hid (· = D) (vis c ρ H')) (hid (· = D) (vis c ρ (upd H6 D (.lst (ws ++ [v6]))))) := fun b ob z => e67 b ob (visE ρ H6 b ob (ex6 b ob (visE' ρ H' b ob z)))
          have w7 : c.W (upd H6 D (.lst (ws ++ [v6]))) := c.loc _ _ (fun a z => upd_ne fun q => nDL (q ▸ z)) (tp_lst hD6) o6.w.1
          have o7 : Ok (c.at B1) ρ σ (upd H6 D (.lst (ws ++ [v6]))) := by
            refine ⟨w7, fun b ob z => ?_, o'.ob, fun j s hs' => ?_, o'.one, o'.len⟩
            · have := exB b ob (bB2 b ob z)
              exact vis_out b ob (hid_sub b ob this)
            · obtain ⟨u1, q1, z1⟩ := (o1.clean s' hD j s hs')
              refine ⟨u1, q1, ?_⟩
              cases s with
              | un => trivial
              | val y => obtain ⟨w, w1, w2⟩ := z1; exact ⟨w, w1, dv_mono (exB.trans hid_sub) w2⟩
              | own l ys =>
                obtain ⟨w, w1, w2, w3⟩ := z1
                exact ⟨w, w1, (ow7 l ⟨ys, List.mem_of_getElem? hs'⟩).trans w2, own_mono (exB.trans hid_sub) _ _ w3⟩
          refine ⟨ws ++ [v6], acc ++ [d], upd_same, o7, ⟨fun b ob z => ?_, fun a z => (ow7 a z).trans (s'.own a z)⟩, ?_, by simp; omega, p6⟩
          · have nb : b ≠ D := fun q => by subst q; rw [vis, hid_none hD] at z; cases z
            have := exB b ob ((hid_neg (L := fun x => x = D) nb).trans (s'.ex b ob z))
            exact hid_sub b ob this
          · refine dpa_app (dpa_mono exB _ _ dacc) (.cons (dp_mono (fun b ob z => ?_) _ _ d6) .nil)
            -- what the element is made of
            have z0 := visE ρ4 H6 b ob z
            obtain ⟨nb, z1⟩ := hid_some z0
            obtain ⟨n1, z2⟩ := hid_some z1
            refine e67 b ob ((hid_neg (L := fun x => x = D) nb).trans ((hid_neg fun q => ?_).trans z2))
            rcases q with q | q
            · exact n1 (.inl q)
            · exact n1 (.inr (b4 b (owns_wipe' hw q).1))
    · rintro H' ⟨ws, acc, hD', o', s', dacc, hl, p'⟩
      rw [dpa_len ha] at *
      exact q D ws acc H' hH0 hD' (ok_at bB o') (e1.trans s') dacc (pd acc hl p')
/-! ### a call that is shown no list but the one it is handed: what it tells is new -/
structure DarkAt (c : Ctx K) (a : Addr) (xs : List PyData) : Prop where
  ex : ∃ vs, (∀ H, c.W H → H a = some (.lst vs)) ∧ DpAll K c.B vs xs
def Dk (c : Ctx K) (ρ : Rho) (H : Hp) (a : Addr) : Prop := Hid c ρ a ∨ ∃ o, H a = some o ∧ isMut o = true
noncomputable def Ctx.dark (c : Ctx K) (ρ : Rho) (H : Hp) (w : c.W H) (dom : ∀ a, Hid c ρ a → ∃ o, H a = some o ∧ isMut o = true) : Ctx K where
  B := hid (Dk c ρ H) H
  L := Dk c ρ H
  W := fun H' => c.W H' ∧ ∀ a, ¬ c.L a → (∃ o, H a = some o ∧ isMut o = true) → H' a = H a
  loc := fun H1 H2 e t h => ⟨c.loc H1 H2 (fun a ha => e a (.inl (.inl ha))) t h.1, fun a na hm => (e a (.inr hm)).trans (h.2 a na hm)⟩
  dom := fun H1 h a ha => by
    by_cases z : c.L a
    · exact c.dom H1 h.1 a z
    · have hm : ∃ o, H a = some o ∧ isMut o = true := ha.elim (dom a) id
      rw [h.2 a z hm]; exact hm
theorem wf_callDark {P : PT0 K} {k : List PyData → Prop} {X : XK} {i : Nat} {xs : List PyData} (h : ρ[i]? = some (.val (.d (.list xs)))) (hf : flatDs xs = true)
    (ht : ∀ (c' : Ctx K) a, DarkAt c' a xs → P c' [.r (.ref a)] (fun y => ∃ ys, y = .d (.list ys) ∧ flatDs ys = true ∧ k ys) fun _ => False) : Wf c (tCall (spD K P) [] X (tCons (tVar i) tNil)) ρ k := fun σ H Q o q => by
  obtain ⟨u, e, v, rfl, d⟩ := o.sl i _ h
  refine ⟨v, e, ?_⟩
  show spD K P ([v] ++ []) H Q X
  rw [List.append_nil]
  change Dp _ _ _ _ at d
  cases d with
  | @lst a vs _ hp hs ha =>
  obtain ⟨na, hA⟩ := hid_some hp
  have up : Ex (noL (vis c ρ H)) (hid (Dk c ρ H) H) := fun b u z => by
    obtain ⟨z1, m⟩ := noL_some z
    obtain ⟨n1, z2⟩ := hid_some z1
    refine (hid_neg ?_).trans z2
    rintro (w | ⟨u', e', m'⟩)
    · exact n1 w
    · rw [z2] at e'; cases e'
      rw [m] at m'; cases m'
  have nca : ¬ c.L a := fun z => na (.inl z)
  refine ⟨c.dark ρ H o.w fun b z => o.mut z, [.r (.ref a)], _, _, ⟨o.w, fun _ _ _ => rfl⟩, rfl, .cons rfl .nil, ht _ a ⟨vs, fun H' w => (w.2 a nca ⟨_, hA, rfl⟩).trans hA, dpa_mono up _ _ (dpa_noL xs vs hf ha)⟩, fun v y H' w b dv ky => ?_, fun _ _ _ _ z => z.elim⟩
  obtain ⟨ys, rfl, fl, hk⟩ := ky
  change Dp _ _ _ _ at dv
  cases dv with
  | @lst l us _ hp' hs' ha' =>
  obtain ⟨nl, hl⟩ := hid_some hp'
  have hl0 : H l = none := by
    cases z : H l with
    | none => rfl
    | some ob =>
      cases m : isMut ob with
      | true => exact absurd (.inr ⟨ob, z, m⟩) nl
      | false =>
        have := (hid_some (b l ob ((hid_neg nl).trans z))).2
        rw [hl] at this; cases this; cases m
  have ex : Ex (vis c ρ H) (vis c ρ H') := fun a' u z => by
    obtain ⟨n1, z⟩ := hid_some z
    refine (hid_neg n1).trans ?_
    cases m : isMut u with
    | true => exact (w.2 a' (fun q => n1 (.inl q)) ⟨u, z, m⟩).trans z
    | false =>
      refine (hid_some (b a' u ((hid_neg ?_).trans z))).2
      rintro (q | ⟨u', e', m'⟩)
      · exact n1 q
      · rw [z] at e'; cases e'
        rw [m] at m'; cases m'
  have ow : ∀ a', Owns ρ a' → H' a' = H a' := fun a' z => w.2 a' (o.ob a' z).2 (o.mut (.inr z))
  have o' : Ok c ρ σ H' := o.grow w.1 ex ow
  refine q l us ys H' hl0 hl o' ⟨ex, ow⟩ (dpa_mono (fun a' u z => ?_) _ _ (dpa_noL ys us fl ha')) hk
  obtain ⟨z1, m⟩ := noL_some z
  obtain ⟨n1, z2⟩ := hid_some z1
  have ne : a' ≠ l := fun q => by subst q; rw [hl] at z2; cases z2; cases m
  exact (hid_neg (L := fun x => x = l) ne).trans ((hid_neg fun q => n1 (.inl q)).trans z2)
end
end Py

set_option Elab.async false
set_option linter.all false
set_option autoImplicit false
set_option maxRecDepth 100000
set_option maxHeartbeats 4000000
namespace Py
open PySem hiding start
open L2
open Evl (Ex ex_rd ex_l ex_t fresh_back)
open Classical
/-! ### larger powers, ranges with a step -/
def CPowX (i j : Int) : Prop := 0 ≤ j ∧ (Builtin.Int.intBits i : Int) * j ≤ 2 ^ 27
theorem op_powX {X : Cx} : OpR X (binaryOp .Pow) (rI CPowX fun i j => .int (i ^ j.toNat)) := opI fun i j _ _ _ _ _ hc q => PyProof.Rows.pow_int hc.1 hc.2 q
theorem rg2 {m : Int} {n : Nat} (h0 : 0 ≤ m) (h1 : m < 2 ^ 60) (hn : n = ((m + 1) / 2).toNat) : RgC 0 m 2 n := by
  have e : Builtin.Range.rangeSize 0 m 2 = n := by
    rw [PyProof.Rows.rangeSize_pos (by decide) h0, hn]
    rw [show m + 2 - 1 = m + 1 by omega]
    omega
  refine ⟨by decide, by decide, ?_, e⟩
  unfold Builtin.Range.small
  rw [e]
  simp only [Builtin.Range.rangeFitsLong, Bool.and_eq_true, Bool.or_eq_true, decide_eq_true_eq, beq_iff_eq, show (2 : Int) > 0 by decide, if_true]
  omega
theorem lc_rangeC {lo st : Int} {n : Nat} {g : TG} {tt : TT} {te : TE} {vs : List Nat} {σ : L2.St} {H1 : Hp} {D : Addr} {Qd : Hp → Prop} (Pv : Nat → Hp → Prop) (h0 : Pv 0 (upd H1 D (.lst [])))
    (hs : ∀ i H, i < n → Pv i H → g (.int (lo + (i : Nat) * st)) (wipe σ vs) H fun σ2 H2 => wipe σ2 vs = wipe σ vs ∧ tt σ2 H2 fun b H3 =>
      if b = true then te σ2 H3 fun y H4 => ∃ acc, H4 D = some (.lst acc) ∧ acc.length < sizeLine ∧ Pv (i + 1) (upd H4 D (.lst (acc ++ [y]))) else Pv (i + 1) H3) (hd : ∀ H, Pv n H → Qd H) :
    ∃ W : Nat → Nat → Hp → Prop, (∃ m, W 0 m (upd H1 D (.lst []))) ∧ ∀ i m H, W i m H →
      ((Itc lo st n).stop i H ∧ Qd H) ∨ ((Itc lo st n).go i H ∧ ∃ Nx : Hp → Prop, (∀ H', Nx H' → ∃ m', m' < m ∧ W (i + 1) m' H') ∧ ∀ x H', (Itc lo st n).yld i H x H' → g x (wipe σ vs) H' fun σ2 H2 => wipe σ2 vs = wipe σ vs ∧ tt σ2 H2 fun b H3 =>
        if b = true then te σ2 H3 fun y H4 => ∃ acc, H4 D = some (.lst acc) ∧ acc.length < sizeLine ∧ Nx (upd H4 D (.lst (acc ++ [y]))) else Nx H3) := by
  refine ⟨fun i m H => m = n - i ∧ i ≤ n ∧ Pv i H, ⟨n, by simp, Nat.zero_le _, h0⟩, ?_⟩
  rintro i m H ⟨rfl, hi, p⟩
  by_cases hlt : i < n
  · refine .inr ⟨hlt, Pv (i + 1), fun H' p' => ⟨n - (i + 1), by omega, rfl, hlt, p'⟩, fun x H' y => ?_⟩
    obtain ⟨e, y⟩ := y
    subst e y
    exact hs i _ hlt p
  · have e : i = n := by omega
    subst e
    exact .inl ⟨Nat.le_refl _, hd H p⟩
section
variable {K : PySem.W.Frag} {c c' : Ctx K} {ρ : Rho} {E : DE} {ta : TA} {tb te : TE} {t u tb' : TS} {tc : TT}
/-- a comprehension over range(0, m, 2) -/
theorem wf_lcR3 {ta : TA} {g : TG} {tt : TT} {vs : List Nat} {k : List PyData → Prop} (js : List Nat) (hj : ∀ i ∈ js, i ∈ vs) (hw : (vs.all fun v => (ρ[v]?.map isOwn) == some false) = true) (h : Wa c ta ρ fun ys => ∃ (m : Int) (n : Nat), ys = [.d (.int 0), .d (.int m), .d (.int 2)] ∧ 0 ≤ m ∧ m < 2 ^ 60 ∧ n = ((m + 1) / 2).toNat ∧ n ≤ 100000 ∧ ∃ P : Nat → List PyData → Prop, P 0 [] ∧
    (∀ c' : Ctx K, Le c c' → ∀ (i : Nat) (acc : List PyData), i < n → acc.length ≤ i → P i acc → Wg c' g js (.d (.int ((i : Int) * 2))) (wipeR ρ vs) fun ρ2 => Wt c' tt ρ2 fun b => (b = true → We c' te ρ2 fun y => ∃ d, y = .d d ∧ P (i + 1) (acc ++ [d])) ∧ (b = false → P (i + 1) acc)) ∧
    ∀ acc, acc.length ≤ n → P n acc → k acc) : Wf c (tLc (iRng3 ta) g tt te vs) ρ k := fun σ H Q o q =>
  h σ H _ o fun vvs ys H1 o1 e1 d1 ⟨m, n, hx, hm0, hm1, hn, hz, P, p0, ps, pd⟩ => by
    subst hx
    cases d1 with
    | cons dn d1 =>
    cases d1 with
    | cons dm d1 =>
    cases d1 with
    | cons dc d1 =>
    cases d1
    obtain rfl := dp_int dn
    obtain rfl := dp_int dm
    obtain rfl := dp_int dc
    refine ⟨0, m, 2, n, rfl, rg2 hm0 hm1 hn, fun D hD => ?_⟩
    have nD : ¬ Hid c ρ D := o1.nh hD
    have nDL : ¬ c.L D := fun z => nD (.inl z)
    -- what stood ahead of the list, for all turns
    let B1 : Hp := vis c ρ H1
    have bB : Ex c.B B1 := o1.base
    have B1D : B1 D = none := hid_none hD
    have own0 : ∀ a, Owns ρ a → B1 a = none := fun a z => hid_pos (.inr z)
    let Pv : Nat → Hp → Prop := fun i H' => ∃ (ws : List V) (acc : List PyData), H' D = some (.lst ws) ∧ Ok (c.at B1) ρ σ H' ∧ Stp c ρ H1 H' ∧ DpAll K (hid (· = D) (vis c ρ H')) ws acc ∧ acc.length ≤ i ∧ P i acc
    have hH0 : H D = none := by
      cases z : H D with
      | none => rfl
      | some ob =>
        have := e1.ex D ob (by unfold vis; rw [hid_neg nD]; exact z)
        rw [vis, hid_none hD] at this; cases this
    refine lc_rangeC (lo := 0) (st := 2) (n := n) Pv ?_ ?_ ?_
    · obtain ⟨o2, e2⟩ := o1.new (o := .lst []) hD
      have o2' : Ok (c.at B1) ρ σ (upd H1 D (.lst [])) := ⟨o2.w, e2.ex.trans vis_out, fun l z => ⟨own0 l z, (o2.ob l z).2⟩, o2.sl, o2.one, o2.len⟩
      exact ⟨[], [], upd_same, o2', e2, .nil, Nat.le_refl 0, p0⟩
    · rintro i H' hin ⟨ws, acc, hD', o', s', dacc, hl, p'⟩
      have hi : i < 100000 := by omega
      rw [Int.zero_add]
      -- the context of this turn
      let B2 : Hp := hid (· = D) (vis c ρ H')
      have bB2 : Ex B1 B2 := fun b ob z => by
        have nb : b ≠ D := fun q => by rw [q, B1D] at z; cases z
        exact (hid_neg (L := fun x => x = D) nb).trans (s'.ex b ob z)
      let c2 : Ctx K := c.hide D (.lst ws) B2
      have le : Le c c2 := le_hide nDL (bB.trans bB2)
      have visE : ∀ (ρ2 : Rho) (H2 : Hp), Ex (vis c2 ρ2 H2) (hid (· = D) (vis c ρ2 H2)) := fun ρ2 H2 b ob z => by
        obtain ⟨n1, z⟩ := hid_some z
        have nb : b ≠ D := fun q => n1 (.inl (.inr q))
        refine (hid_neg (L := fun x => x = D) nb).trans ((hid_neg fun q => n1 (q.imp .inl id)).trans z)
      have visE' : ∀ (ρ2 : Rho) (H2 : Hp), Ex (hid (· = D) (vis c ρ2 H2)) (vis c2 ρ2 H2) := fun ρ2 H2 b ob z => by
        obtain ⟨nb, z⟩ := hid_some z
        obtain ⟨n1, z⟩ := hid_some z
        refine (hid_neg fun q => ?_).trans z
        rcases q with (q | q) | q
        · exact n1 (.inl q)
        · exact nb q
        · exact n1 (.inr q)
      have oD : ∀ (l : Addr), Owns ρ l → l ≠ D := fun l z q => nD (.inr (q ▸ z))
      have slots : ∀ (j : Nat) (s : Slot), ρ[j]? = some s → ∃ ob, σ[j]? = some ob ∧ SlotOk K (vis c2 ρ H') H' ob s := fun j s hs' => by
        obtain ⟨u1, q1, z1⟩ := (o1.clean s' hD j s hs')
        refine ⟨u1, q1, ?_⟩
        cases s with
        | un => trivial
        | val y => obtain ⟨w, w1, w2⟩ := z1; exact ⟨w, w1, dv_mono (visE' ρ H') w2⟩
        | own l ys => obtain ⟨w, w1, w2, w3⟩ := z1; exact ⟨w, w1, w2, own_mono (visE' ρ H') _ _ w3⟩
      have o2 : Ok c2 ρ σ H' := ⟨⟨o'.w, hD'⟩, (visE' ρ H').trans vis_out, fun l z => ⟨(show hid (· = D) (vis c ρ H') l = none from hid_none' (hid_pos (Or.inr z))), fun q => q.elim (o'.ob l z).2 (oD l z)⟩, slots, o'.one, o'.len⟩
      have o3 : Ok c2 (wipeR ρ vs) (L2.wipe σ vs) H' := o2.wipe vs
      have ev : Ex (vis c2 ρ H') (vis c2 (wipeR ρ vs) H') := hid_less fun b z => z.imp id owns_wipe
      have dd2 : Dp K (vis c2 (wipeR ρ vs) H') (V.int ((i : Int) * 2)) (.int ((i : Int) * 2)) := Dp.int _
      refine ps c2 le i acc hin hl p' (L2.wipe σ vs) H' _ _ o3 dd2 fun ρ4 σ4 o4 a4 l4 b4 b4' w4 => ⟨wipe_eq hj a4 l4, ?_⟩
      refine w4 σ4 H' _ o4 fun b H5 o5 s5 z5 => ?_
      -- what is the same again once the element is told
      have back : ∀ H6, Ok c2 ρ4 σ4 H6 → Stp c2 ρ4 H' H6 → H6 D = some (.lst ws) ∧ (∀ a, Owns ρ a → H6 a = H' a) ∧ Ex (vis c2 ρ H') (vis c2 ρ H6) := fun H6 o6 s6 => by
        refine ⟨o6.w.2, fun a z => s6.own a (b4 a (owns_wipe' hw z).1), fun b ob z => ?_⟩
        · obtain ⟨n1, z⟩ := hid_some z
          have n2 : ¬ Hid c2 ρ4 b := fun q => n1 (q.imp id fun q => owns_wipe (b4' b q))
          have := s6.ex b ob (by unfold vis; rw [hid_neg n2]; exact z)
          unfold vis
          rw [hid_neg n1]
          exact (hid_some this).2
      cases b with
      | false =>
        rw [if_neg Bool.false_ne_true]
        obtain ⟨hD5, ow5, ex5⟩ := back H5 o5 s5
        have exA : Ex (vis c ρ H') (vis c ρ H5) := fun b ob z => by
          by_cases nb : b = D
          · subst nb
            unfold vis at *
            rw [hid_neg nD] at *
            rw [hD'] at z
            rw [hD5]; exact z
          · have := ex5 b ob (visE' ρ H' b ob ((hid_neg (L := fun x => x = D) nb).trans z))
            exact hid_sub b ob (visE ρ H5 b ob this)
        have stp : Stp c ρ H' H5 := ⟨exA, ow5⟩
        refine ⟨ws, acc, hD5, o'.grow o5.w.1 exA ow5, s'.trans stp, dpa_mono (fun b ob z => visE ρ H5 b ob (ex5 b ob (visE' ρ H' b ob z))) _ _ dacc, Nat.le_succ_of_le hl, z5.2 rfl⟩
      | true =>
        rw [if_pos rfl]
        refine z5.1 rfl σ4 H5 _ o5 fun v6 y6 H6 o6 s6 d6 ⟨d, hy6, p6⟩ => ?_
        subst hy6
        obtain ⟨hD6, ow6, ex6⟩ := back H6 o6 (s5.trans s6)
        refine ⟨ws, hD6, ?_, ?_⟩
        · have w1 := dpa_len dacc
          exact Evl.sz_lt (by omega)
        · -- the list has one more
          have ow7 : ∀ a, Owns ρ a → upd H6 D (.lst (ws ++ [v6])) a = H' a := fun a z => (upd_ne (oD a z)).trans (ow6 a z)
          have e67 : Ex (hid (· = D) (vis c ρ H6)) (hid (· = D) (vis c ρ (upd H6 D (.lst (ws ++ [v6]))))) := fun b ob z => by
            obtain ⟨nb, z⟩ := hid_some z
            obtain ⟨n1, z⟩ := hid_some z
            refine (hid_neg (L := fun x => x = D) nb).trans ((hid_neg n1).trans ((upd_ne nb).trans z))
          have exB : Ex (hid (· = D) (vis c ρ H')) (hid (· = D) (vis c ρ (upd H6 D (.lst (ws ++ [v6]))))) := fun b ob z => e67 b ob (visE ρ H6 b ob (ex6 b ob (visE' ρ H' b ob z)))
          have w7 : c.W (upd H6 D (.lst (ws ++ [v6]))) := c.loc _ _ (fun a z => upd_ne fun q => nDL (q ▸ z)) (tp_lst hD6) o6.w.1
          have o7 : Ok (c.at B1) ρ σ (upd H6 D (.lst (ws ++ [v6]))) := by
            refine ⟨w7, fun b ob z => ?_, o'.ob, fun j s hs' => ?_, o'.one, o'.len⟩
            · have := exB b ob (bB2 b ob z)
              exact vis_out b ob (hid_sub b ob this)
            · obtain ⟨u1, q1, z1⟩ := (o1.clean s' hD j s hs')
              refine ⟨u1, q1, ?_⟩
              cases s with
              | un => trivial
              | val y => obtain ⟨w, w1, w2⟩ := z1; exact ⟨w, w1, dv_mono (exB.trans hid_sub) w2⟩
              | own l ys =>
                obtain ⟨w, w1, w2, w3⟩ := z1
                exact ⟨w, w1, (ow7 l ⟨ys, List.mem_of_getElem? hs'⟩).trans w2, own_mono (exB.trans hid_sub) _ _ w3⟩
          refine ⟨ws ++ [v6], acc ++ [d], upd_same, o7, ⟨fun b ob z => ?_, fun a z => (ow7 a z).trans (s'.own a z)⟩, ?_, by simp; omega, p6⟩
          · have nb : b ≠ D := fun q => by subst q; rw [vis, hid_none hD] at z; cases z
            have := exB b ob ((hid_neg (L := fun x => x = D) nb).trans (s'.ex b ob z))
            exact hid_sub b ob this
          · refine dpa_app (dpa_mono exB _ _ dacc) (.cons (dp_mono (fun b ob z => ?_) _ _ d6) .nil)
            -- what the element is made of
            have z0 := visE ρ4 H6 b ob z
            obtain ⟨nb, z1⟩ := hid_some z0
            obtain ⟨n1, z2⟩ := hid_some z1
            refine e67 b ob ((hid_neg (L := fun x => x = D) nb).trans ((hid_neg fun q => ?_).trans z2))
            rcases q with q | q
            · exact n1 (.inl q)
            · exact n1 (.inr (b4 b (owns_wipe' hw q).1))
    · rintro H' ⟨ws, acc, hD', o', s', dacc, hl, p'⟩
      exact q D ws acc H' hH0 hD' (ok_at bB o') (e1.trans s') dacc (pd acc hl p')
end
section
variable {K : PySem.W.Frag} {c c' : Ctx K} {ρ : Rho} {E : DE} {ta : TA} {tb te : TE} {t u tb' : TS} {tc : TT}
def IsI (y : Dv) (k : Int → Prop) : Prop := ∃ m, y = .d (.int m) ∧ k m
theorem isI_mk {m : Int} {k : Int → Prop} (h : k m) : IsI (.d (.int m)) k := ⟨m, rfl, h⟩
/-- n op= e -/
theorem ws_aug {i : Nat} {f : Int → Int → Int} {x : Int} (h : ρ[i]? = some (.val (.d (.int x)))) (ht : We c te ρ fun y => IsI y fun m => E.nx (ρ.set i (.val (.d (.int (f x m)))))) : Ws c (tAug i te (ipI f)) ρ E := fun D σ H e o => by
  obtain ⟨u, q, v, rfl, d⟩ := o.sl i _ h
  obtain rfl := dp_int d
  refine ⟨_, q, ht σ H _ o fun y z H1 o1 e1 d1 ⟨m, hz, n⟩ => ?_⟩
  subst hz
  obtain rfl := dp_int d1
  exact ⟨x, m, rfl, rfl, e.nx _ _ _ (o1.put (x := .d (.int (f x m))) (Dp.int _) i) n⟩
theorem pe_toK0 (K : PySem.W.Frag) {X : Cx} {e : Expr} {T : String} {r : V → List V → Hp → VK → Prop} {to : TE} (h : X.K = K) (hp : PE X e (tBM0 X.K T r to)) : PE X e (tBM0 K T r to) := h ▸ hp
end
/-! ### rows of points in order, each once -/
def Asc : List Pt → Prop
  | [] => True
  | p :: r => (∀ q ∈ r, ahd p q = true) ∧ Asc r
theorem asc_uniq : ∀ {l r : List Pt}, Asc l → Asc r → (∀ p, p ∈ l ↔ p ∈ r) → l = r
  | [], [], _, _, _ => rfl
  | [], q :: r, _, _, h => by have := (h q).mpr (by simp); cases this
  | p :: l, [], _, _, h => by have := (h p).mp (by simp); cases this
  | p :: l, q :: r, hl, hr, h => by
    have e : p = q := by
      rcases List.mem_cons.mp ((h p).mp (by simp)) with z | z
      · exact z
      rcases List.mem_cons.mp ((h q).mpr (by simp)) with w | w
      · exact w.symm
      have := ahd_trans (hl.1 q w) (hr.1 p z)
      rw [ahd_irr] at this; cases this
    subst e
    congr 1
    refine asc_uniq hl.2 hr.2 fun s => ⟨fun hs => ?_, fun hs => ?_⟩
    · rcases List.mem_cons.mp ((h s).mp (by simp [hs])) with z | z
      · subst z
        have := hl.1 s hs
        rw [ahd_irr] at this; cases this
      · exact z
    · rcases List.mem_cons.mp ((h s).mpr (by simp [hs])) with z | z
      · subst z
        have := hr.1 s hs
        rw [ahd_irr] at this; cases this
      · exact z
theorem asc_append {a b : List Pt} : Asc (a ++ b) ↔ Asc a ∧ Asc b ∧ ∀ x ∈ a, ∀ y ∈ b, ahd x y = true := by
  induction a with
  | nil => simp [Asc]
  | cons p a ih =>
    show ((∀ q ∈ a ++ b, ahd p q = true) ∧ Asc (a ++ b)) ↔ ((∀ q ∈ a, ahd p q = true) ∧ Asc a) ∧ _
    rw [ih]
    constructor
    · rintro ⟨h1, h2, h3, h4⟩
      refine ⟨⟨fun q hq => h1 q (by simp [hq]), h2⟩, h3, fun x hx y hy => ?_⟩
      rcases List.mem_cons.mp hx with rfl | hx
      · exact h1 y (by simp [hy])
      · exact h4 x hx y hy
    · rintro ⟨⟨h1, h2⟩, h3, h4⟩
      refine ⟨fun q hq => ?_, h2, h3, fun x hx y hy => h4 x (by simp [hx]) y hy⟩
      rcases List.mem_append.mp hq with hq | hq
      · exact h1 q hq
      · exact h4 p (by simp) q hq
def skipEq (p : Pt) : List Pt → List Pt
  | [] => []
  | q :: r => if q = p then r else q :: r
/-- those that are ahead of p, and the rest -/
def aheadOf (p : Pt) (r : List Pt) : List Pt := r.takeWhile fun q => ahd q p
def restOf (p : Pt) (r : List Pt) : List Pt := r.dropWhile fun q => ahd q p
def mergeM : List Pt → List Pt → List Pt
  | [], r => r
  | p :: l, r => aheadOf p r ++ p :: mergeM l (skipEq p (restOf p r))
theorem cut_of (p : Pt) (r : List Pt) : aheadOf p r ++ restOf p r = r := List.takeWhile_append_dropWhile ..
theorem mem_ahead {p q : Pt} : ∀ {r : List Pt}, q ∈ aheadOf p r → ahd q p = true
  | [], h => by cases h
  | s :: r, h => by
    unfold aheadOf at h
    rw [List.takeWhile_cons] at h
    split at h
    · rename_i hs
      rcases List.mem_cons.mp h with rfl | h
      · exact hs
      · exact mem_ahead (r := r) h
    · cases h
theorem rest_head {p q : Pt} {s : List Pt} : ∀ {r : List Pt}, restOf p r = q :: s → ahd q p = false
  | [], h => by cases h
  | t :: r, h => by
    unfold restOf at h
    rw [List.dropWhile_cons] at h
    split at h
    · exact rest_head (r := r) h
    · rename_i hs
      cases h
      simpa using hs
/-- what is left behind p lies behind it -/
theorem skip_spec {p : Pt} {r : List Pt} (h : Asc r) : Asc (skipEq p (restOf p r)) ∧ (∀ q ∈ skipEq p (restOf p r), ahd p q = true) ∧ ∀ q, q ∈ r ↔ q ∈ aheadOf p r ∨ (q = p ∧ p ∈ r) ∨ q ∈ skipEq p (restOf p r) := by
  have hc := cut_of p r
  have h' : Asc (aheadOf p r ++ restOf p r) := by rw [hc]; exact h
  obtain ⟨h1, h2, h3⟩ := asc_append.mp h'
  have hm : ∀ q, q ∈ r ↔ q ∈ aheadOf p r ∨ q ∈ restOf p r := fun q => by rw [← List.mem_append, hc]
  cases hr : restOf p r with
  | nil =>
    rw [hr] at hm
    refine ⟨trivial, fun q hq => (by cases hq), fun q => ?_⟩
    rw [hm]
    constructor
    · rintro (z | z)
      · exact .inl z
      · cases z
    · rintro (z | ⟨rfl, z⟩ | z)
      · exact .inl z
      · exact (hm q).mp z
      · cases z
  | cons s t =>
    rw [hr] at h2 hm
    have hs := rest_head hr
    by_cases e : s = p
    · subst e
      have ee : skipEq s (s :: t) = t := if_pos rfl
      rw [ee]
      refine ⟨h2.2, fun q hq => h2.1 q hq, fun q => ?_⟩
      rw [hm]
      constructor
      · rintro (z | z)
        · exact .inl z
        · rcases List.mem_cons.mp z with rfl | z
          · exact .inr (.inl ⟨rfl, (hm q).mpr (.inr (by simp))⟩)
          · exact .inr (.inr z)
      · rintro (z | ⟨rfl, z⟩ | z)
        · exact .inl z
        · exact .inr (by simp)
        · exact .inr (by simp [z])
    · have hp : ahd p s = true := by rw [ahd_flip e, hs]; rfl
      have ee : skipEq p (s :: t) = s :: t := if_neg e
      rw [ee]
      refine ⟨h2, fun q hq => ?_, fun q => ?_⟩
      · rcases List.mem_cons.mp hq with rfl | hq
        · exact hp
        · exact ahd_trans hp (h2.1 q hq)
      · rw [hm]
        constructor
        · rintro (z | z)
          · exact .inl z
          · exact .inr (.inr z)
        · rintro (z | ⟨rfl, z⟩ | z)
          · exact .inl z
          · exact (hm q).mp z
          · exact .inr z
theorem merge_spec : ∀ {l r : List Pt}, Asc l → Asc r → Asc (mergeM l r) ∧ ∀ q, q ∈ mergeM l r ↔ q ∈ l ∨ q ∈ r
  | [], r, _, hr => ⟨hr, fun q => by simp [mergeM]⟩
  | p :: l, r, hl, hr => by
    obtain ⟨s1, s2, s3⟩ := skip_spec (p := p) hr
    obtain ⟨m1, m2⟩ := merge_spec (l := l) hl.2 s1
    have ha : Asc (aheadOf p r) := (asc_append.mp (by rw [cut_of]; exact hr : Asc (aheadOf p r ++ restOf p r))).1
    have hb : ∀ y ∈ mergeM l (skipEq p (restOf p r)), ahd p y = true := fun y hy => by
      rcases (m2 y).mp hy with z | z
      · exact hl.1 y z
      · exact s2 y z
    refine ⟨asc_append.mpr ⟨ha, ⟨hb, m1⟩, fun x hx y hy => ?_⟩, fun q => ?_⟩
    · have hx := mem_ahead hx
      rcases List.mem_cons.mp hy with rfl | hy
      · exact hx
      · exact ahd_trans hx (hb y hy)
    · show q ∈ aheadOf p r ++ p :: mergeM l (skipEq p (restOf p r)) ↔ _
      rw [List.mem_append, List.mem_cons, m2, List.mem_cons, s3 q]
      constructor
      · rintro (z | z | z | z)
        · exact .inr (.inl z)
        · exact .inl (.inl z)
        · exact .inl (.inr z)
        · exact .inr (.inr (.inr z))
      · rintro ((z | z) | z | ⟨z, _⟩ | z)
        · exact .inr (.inl z)
        · exact .inr (.inr (.inl z))
        · exact .inl z
        · exact .inr (.inl z)
        · exact .inr (.inr (.inr z))
theorem ahead_step {p : Pt} {r : List Pt} {n : Nat} {q : Pt} (h : r[n]? = some q) (ha : ahd q p = true) : aheadOf p (r.drop n) = q :: aheadOf p (r.drop (n + 1)) ∧ restOf p (r.drop n) = restOf p (r.drop (n + 1)) := by
  have e : r.drop n = q :: r.drop (n + 1) := by
    obtain ⟨hn, hq⟩ := List.getElem?_eq_some_iff.mp h
    rw [← hq]; exact List.drop_eq_getElem_cons hn
  unfold aheadOf restOf
  rw [e, List.takeWhile_cons, List.dropWhile_cons, if_pos ha, if_pos ha]
  exact ⟨rfl, rfl⟩
theorem ahead_stop {p : Pt} {r : List Pt} {n : Nat} (h : ∀ q, r[n]? = some q → ahd q p = false) : aheadOf p (r.drop n) = [] ∧ restOf p (r.drop n) = r.drop n := by
  cases z : r.drop n with
  | nil => exact ⟨rfl, rfl⟩
  | cons q s =>
    have hq : r[n]? = some q := by
      have := congrArg (fun l => l[0]?) z
      simpa using this
    have := h q hq
    unfold aheadOf restOf
    rw [List.takeWhile_cons, List.dropWhile_cons, this]
    exact ⟨rfl, rfl⟩
end Py
namespace Py
open PySem hiding start
open L2
/-! ### rows made one, two by two -/
abbrev lsD (r : List Pt) : PyData := .list (r.map ptD)
theorem at_nat {xs : List PyData} {n : Nat} (h : n < xs.length) : atI xs (n : Int) = some xs[n] := by
  unfold atI ixN
  rw [if_pos (by omega), if_pos (by omega)]
  show xs[n]? = _
  rw [List.getElem?_eq_getElem h]
theorem at_last {xs : List PyData} (h : xs ≠ []) : atI xs (-1) = some (xs[xs.length - 1]'(by have := List.length_pos_iff.mpr h; omega)) := by
  have hl := List.length_pos_iff.mpr h
  unfold atI ixN
  rw [if_neg (by omega), if_pos (by omega)]
  show xs[_]? = _
  rw [show (-1 + (xs.length : Int)).toNat = xs.length - 1 by omega, List.getElem?_eq_getElem (by omega)]
def twosI (rs : List (List Pt)) (n : Nat) : List (List Pt) := (List.range n).map fun j => mergeM (rs[2 * j]!) (rs[2 * j + 1]!)
def twosM (rs : List (List Pt)) : List (List Pt) := twosI rs (rs.length / 2) ++ (if rs.length % 2 = 1 then [rs[rs.length - 1]!] else [])
theorem twosM_len (rs : List (List Pt)) : (twosM rs).length = rs.length / 2 + rs.length % 2 := by
  unfold twosM twosI
  rw [List.length_append, List.length_map, List.length_range]
  split
  · rw [List.length_singleton]; omega
  · rw [List.length_nil]; omega
structure RowsOf (rs : List (List Pt)) (ps : List Pt) : Prop where
  asc : ∀ R ∈ rs, Asc R
  mem : ∀ q, (∃ R ∈ rs, q ∈ R) ↔ q ∈ ps
theorem mem_get {α : Type} [Inhabited α] {l : List α} {x : α} : x ∈ l ↔ ∃ i, i < l.length ∧ l[i]! = x := by
  rw [List.mem_iff_getElem]
  constructor
  · rintro ⟨i, h, e⟩; exact ⟨i, h, by rw [getElem!_pos l i h]; exact e⟩
  · rintro ⟨i, h, e⟩; exact ⟨i, h, by rw [getElem!_pos l i h] at e; exact e⟩
theorem rows_twos {rs : List (List Pt)} {ps : List Pt} (h : RowsOf rs ps) : RowsOf (twosM rs) ps := by
  have ms : ∀ i, i < rs.length → Asc rs[i]! := fun i hi => h.asc _ (mem_get.mpr ⟨i, hi, rfl⟩)
  have mp := fun j (hj : j < rs.length / 2) => merge_spec (ms (2 * j) (by omega)) (ms (2 * j + 1) (by omega))
  refine ⟨fun R hR => ?_, fun q => ?_⟩
  · unfold twosM twosI at hR
    rcases List.mem_append.mp hR with hR | hR
    · obtain ⟨j, hj, rfl⟩ := List.mem_map.mp hR
      exact (mp j (List.mem_range.mp hj)).1
    · split at hR
      · rw [List.mem_singleton.mp hR]; exact ms _ (by omega)
      · cases hR
  · rw [← h.mem]
    constructor
    · rintro ⟨R, hR, hq⟩
      unfold twosM twosI at hR
      rcases List.mem_append.mp hR with hR | hR
      · obtain ⟨j, hj, rfl⟩ := List.mem_map.mp hR
        have hj := List.mem_range.mp hj
        rcases ((mp j hj).2 q).mp hq with z | z
        · exact ⟨_, mem_get.mpr ⟨2 * j, by omega, rfl⟩, z⟩
        · exact ⟨_, mem_get.mpr ⟨2 * j + 1, by omega, rfl⟩, z⟩
      · split at hR
        · rw [List.mem_singleton.mp hR] at hq
          exact ⟨_, mem_get.mpr ⟨rs.length - 1, by omega, rfl⟩, hq⟩
        · cases hR
    · rintro ⟨R, hR, hq⟩
      obtain ⟨i, hi, rfl⟩ := mem_get.mp hR
      unfold twosM twosI
      by_cases z : i / 2 < rs.length / 2
      · refine ⟨_, List.mem_append_left _ (List.mem_map.mpr ⟨i / 2, List.mem_range.mpr z, rfl⟩), ((mp (i / 2) z).2 q).mpr ?_⟩
        have : i = 2 * (i / 2) ∨ i = 2 * (i / 2) + 1 := by omega
        rcases this with e | e
        · rw [← e]; exact .inl hq
        · rw [← e]; exact .inr hq
      · have e : i = rs.length - 1 := by omega
        refine ⟨rs[rs.length - 1]!, List.mem_append_right _ ?_, e ▸ hq⟩
        rw [if_pos (by omega)]; simp
theorem asc_nodup : ∀ {l : List Pt}, Asc l → l.Nodup
  | [], _ => List.nodup_nil
  | p :: l, h => List.nodup_cons.mpr ⟨fun z => (by have := h.1 p z; rw [ahd_irr] at this; cases this), asc_nodup h.2⟩
theorem nodup_le : ∀ {l r : List Pt}, l.Nodup → (∀ q ∈ l, q ∈ r) → l.length ≤ r.length
  | [], _, _, _ => Nat.zero_le _
  | p :: l, r, h, hs => by
    have hp := hs p (by simp)
    obtain ⟨n1, n2⟩ := List.nodup_cons.mp h
    have := nodup_le (l := l) (r := r.erase p) n2 fun q hq => by
      have ne : q ≠ p := fun z => n1 (z ▸ hq)
      exact (List.mem_erase_of_ne ne).mpr (hs q (by simp [hq]))
    rw [List.length_erase_of_mem hp] at this
    have := List.length_pos_of_mem hp
    show l.length + 1 ≤ _
    omega
theorem rows_len {rs : List (List Pt)} {ps : List Pt} (h : RowsOf rs ps) : ∀ R ∈ rs, R.length ≤ ps.length := fun R hR => nodup_le (asc_nodup (h.asc R hR)) fun q hq => (h.mem q).mp ⟨R, hR, hq⟩
theorem rows_ones (ps : List Pt) : RowsOf (ps.map fun p => [p]) ps := by
  refine ⟨fun R hR => ?_, fun q => ?_⟩
  · obtain ⟨p, _, rfl⟩ := List.mem_map.mp hR
    exact ⟨fun q hq => (by cases hq), trivial⟩
  · constructor
    · rintro ⟨R, hR, hq⟩
      obtain ⟨p, hp, rfl⟩ := List.mem_map.mp hR
      rw [List.mem_singleton.mp hq]; exact hp
    · intro hq
      exact ⟨[q], List.mem_map.mpr ⟨q, hq, rfl⟩, by simp⟩
theorem shp_ls {n : Nat} {r : List Pt} (h : r.length ≤ 100000) : Shp (n + 2) (lsD r) := shp_mapL (fun p _ => shp_pt p) h
end Py
namespace Py
open PySem hiding start
open L2
theorem wt_split {K : PySem.W.Frag} {c : Ctx K} {ρ : Rho} {t : TT} {A B : Prop} (b0 : Bool) (h : Wt c t ρ fun b => b = b0) (h1 : b0 = true → A) (h2 : b0 = false → B) : Wt c t ρ fun b => (b = true → A) ∧ (b = false → B) := fun σ H Q o q => h σ H Q o fun b H1 o1 e1 eb => q b H1 o1 e1 ⟨fun z => h1 (eb ▸ z), fun z => h2 (eb ▸ z)⟩
end Py
namespace Py
open PySem hiding start
open L2
def midM (p q : Pt) : Pt := ptBy (p.a * q.c + q.a * p.c) (p.b * q.c + q.b * p.c) (2 * p.c * q.c) (by have := cc_pos p q; rw [Int.mul_assoc]; omega)
theorem mid_c (p q : Pt) : 0 < 2 * p.c * q.c := by have := cc_pos p q; rw [Int.mul_assoc]; omega
theorem mid_xy (p q : Pt) : (midM p q).x = (p.x + q.x) / 2 ∧ (midM p q).y = (p.y + q.y) / 2 := by
  obtain ⟨x1, y1⟩ := ptBy_x (a := p.a * q.c + q.a * p.c) (b := p.b * q.c + q.b * p.c) (c := 2 * p.c * q.c) (by have := mid_c p q; omega)
  unfold midM
  rw [x1, y1, divInt_q, divInt_q]
  have pc := p.cq
  have qc := q.cq
  have i2 : ((2 : Int) : Rat) = 2 := rfl
  simp only [Rat.intCast_add, Rat.intCast_mul, i2]
  rw [p.xc, q.xc, p.yc, q.yc]
  constructor <;> grind
theorem by_c_le {a b d : Int} (hd : d ≠ 0) : (ptBy a b d hd).c.natAbs ≤ d.natAbs := by
  obtain ⟨a', b', c', h1, h2, h3, h4, h5, h6, _⟩ := by3_facts (a := a) (b := b) hd
  exact fdiv_le h3 h6
theorem insert_eq {p : Pt} {acc : List Pt} {n : Nat} (h1 : acc.take n = aheadOf p acc) (h2 : acc.drop n = restOf p acc) (h : ∀ q, acc[n]? = some q → q ≠ p) : acc.take n ++ [p] ++ acc.drop n = mergeM [p] acc := by
  show _ = aheadOf p acc ++ p :: skipEq p (restOf p acc)
  rw [h1, h2, List.append_assoc]
  congr 1
  show p :: restOf p acc = p :: skipEq p (restOf p acc)
  congr 1
  rw [← h2]
  cases z : acc.drop n with
  | nil => rfl
  | cons q s =>
    have hq : acc[n]? = some q := by
      have := congrArg (fun l => l[0]?) z
      simpa using this
    exact (if_neg (h q hq)).symm
theorem insert_same {p : Pt} {acc : List Pt} {n : Nat} (h1 : acc.take n = aheadOf p acc) (h2 : acc.drop n = restOf p acc) (h : acc[n]? = some p) : acc = mergeM [p] acc := by
  show acc = aheadOf p acc ++ p :: skipEq p (restOf p acc)
  have e : restOf p acc = p :: acc.drop (n + 1) := by
    rw [← h2]
    obtain ⟨hn, hq⟩ := List.getElem?_eq_some_iff.mp h
    have := List.drop_eq_getElem_cons hn
    rw [hq] at this; exact this
  rw [e, skipEq, if_pos rfl]
  have := cut_of p acc
  rw [e] at this
  exact this.symm
/-- what a row of the law holds -/
def rowQ (p : Pt) : Prop := xyB ((2 ^ 201 : Nat) : Rat) p ∧ p.c.natAbs < 2 ^ 262
theorem rowQ.S {p : Pt} (h : rowQ p) : ptS 463 p := xyB_S h.1 h.2
theorem rowQ_mix {p q : Pt} (hp : rowQ p) (hq : rowQ q) (h1 : p.c < 10 ^ 60) (h2 : q.c.natAbs < 2 ^ 61) (hd : p.c * q.c ≠ 0) : rowQ (ptBy (p.a * q.c) (q.b * p.c) (p.c * q.c) hd) := by
  obtain ⟨x1, y1⟩ := ptBy_x (a := p.a * q.c) (b := q.b * p.c) hd
  have pc := p.cq
  have qc := q.cq
  have ex : (ptBy (p.a * q.c) (q.b * p.c) (p.c * q.c) hd).x = p.x := by
    rw [x1, divInt_q]
    simp only [Rat.intCast_mul]
    rw [p.xc]; grind
  have ey : (ptBy (p.a * q.c) (q.b * p.c) (p.c * q.c) hd).y = q.y := by
    rw [y1, divInt_q]
    simp only [Rat.intCast_mul]
    rw [q.yc]; grind
  have pp := p.pos
  refine ⟨?_, Nat.lt_of_le_of_lt (by_c_le hd) (nup (nmul (show p.c.natAbs < 2 ^ 200 by omega) h2) (by decide))⟩
  unfold xyB
  rw [ex, ey]
  exact ⟨hp.1.1, hq.1.2⟩
theorem rowQ_mid {p q : Pt} (hp : rowQ p) (hq : rowQ q) (h1 : p.c < 10 ^ 60) (h2 : q.c.natAbs < 2 ^ 61) : rowQ (midM p q) := by
  obtain ⟨ex, ey⟩ := mid_xy p q
  have pp := p.pos
  refine ⟨?_, Nat.lt_of_le_of_lt (by_c_le _) (nup (nmul (show (2 * p.c).natAbs < 2 ^ 201 by omega) h2) (by decide))⟩
  obtain ⟨⟨a1, a2⟩, a3, a4⟩ := hp.1
  obtain ⟨⟨b1, b2⟩, b3, b4⟩ := hq.1
  unfold xyB
  rw [ex, ey]
  refine ⟨⟨by grind, by grind⟩, by grind, by grind⟩
end Py
namespace Py
open PySem hiding start
open L2
theorem rv_powX {K : PySem.W.Frag} {c : Ctx K} {ρ : Rho} {k : Dv → Prop} {i j : Int} (hc : CPowX i j) (h : k (.d (.int (i ^ j.toNat)))) : Rv c (rI CPowX fun i j => .int (i ^ j.toNat)) ρ (.d (.int i)) (.d (.int j)) k := rv_I (f := fun i j => i ^ j.toNat) hc h
end Py
namespace Py
open PySem hiding start
open L2
theorem wt_any {K : PySem.W.Frag} {c : Ctx K} {ρ : Rho} {t : TT} {A B : Prop} (h : Wt c t ρ fun _ => True) (h1 : A) (h2 : B) : Wt c t ρ fun b => (b = true → A) ∧ (b = false → B) := fun σ H Q o q => h σ H Q o fun b H1 o1 e1 _ => q b H1 o1 e1 ⟨fun _ => h1, fun _ => h2⟩
end Py
namespace Py
open PySem hiding start
open L2
theorem Wf.imp {K : PySem.W.Frag} {c : Ctx K} {ρ : Rho} {te : TE} {k k' : List PyData → Prop} (h : Wf c te ρ k) (hk : ∀ xs, k xs → k' xs) : Wf c te ρ k' := fun σ H Q o q => h σ H Q o fun l vs xs H' n g o' s d kx => q l vs xs H' n g o' s d (hk xs kx)
end Py

set_option Elab.async false
set_option linter.all false
set_option autoImplicit false
set_option maxRecDepth 100000
set_option maxHeartbeats 4000000
namespace Py
open PySem hiding start
open L2
open Evl (Ex ex_rd ex_l ex_t fresh_back)
open Classical
/-! ### a list that is lent: the context knows that it holds what I says -/
theorem noL_hid {L : Addr → Prop} {H : Hp} : Ex (noL (hid L H)) (noL H) := fun a o h => by
  obtain ⟨h1, m⟩ := noL_some h
  exact noL_of (hid_some h1).2 m
theorem upd_self {H : Hp} {l : Addr} {o : HO} (h : H l = some o) : upd H l o = H := by
  funext a
  by_cases z : a = l
  · subst z; rw [upd_same, h]
  · rw [upd_ne z]
structure Lent {K : PySem.W.Frag} (c : Ctx K) (p l : Addr) (I : List PyData → Prop) : Prop where
  ex : ∃ (ls : Addr) (ns : List Int), (c.L p ∧ c.L ls ∧ c.L l) ∧ (l ≠ p ∧ l ≠ ls) ∧
    (∀ H, c.W H → HandAt H p ls ns ∧ ∃ vs ys, H l = some (.lst vs) ∧ DpAll K (noL H) vs ys ∧ flatDs ys = true ∧ I ys) ∧
    (∀ H H', c.W H → HandAt H' p ls ns → (∀ a, a ≠ p → H' a = H a) → c.W H') ∧
    (∀ H H' vs ys, c.W H → H' l = some (.lst vs) → DpAll K (noL H') vs ys → flatDs ys = true → I ys → (∀ a, a ≠ l → H' a = H a) → c.W H')
section
variable {K : PySem.W.Frag} {c c' : Ctx K} {ρ : Rho} {E : DE} {k : Dv → Prop} {ta : TA} {tb te : TE} {t u tb' : TS} {p l : Addr} {I : List PyData → Prop}
theorem Lent.hand (h : Lent c p l I) : HandIn c p := by
  obtain ⟨ls, ns, ⟨h1, h2, h3⟩, _, h4, h5, _⟩ := h.ex
  exact ⟨h1, ls, ns, h2, fun H w => (h4 H w).1, h5⟩
theorem tp_put {H H' : Hp} {q : Addr} {us : List V} (h : H q = some (.lst us)) (hk : ∀ a, a ≠ q → H' a = H a) : Tp H H' := fun a o e m => by
  by_cases z : a = q
  · subst z; rw [h] at e; cases e; cases m
  · exact (hk a z).trans e
theorem HandAt.lst {H : Hp} {p l : Addr} {ns : List Int} (h : HandAt H p l ns) : ∃ us, H p = some (.lst us) := by
  obtain ⟨⟨_, _, _, _, _, h, _⟩, _, _⟩ := h
  exact ⟨_, h⟩
theorem Lent.le (h : Lent c p l I) (e : Le c c') : Lent c' p l I := by
  obtain ⟨ls, ns, ⟨h1, h2, h3⟩, h0, h4, h5, h6⟩ := h.ex
  refine ⟨ls, ns, ⟨e.L _ h1, e.L _ h2, e.L _ h3⟩, h0, fun H w => h4 H (e.W H w), fun H H' w ha hk => ?_, fun H H' vs ys w hl hd hf hI hk => ?_⟩
  · obtain ⟨us, hu⟩ := (h4 H (e.W H w)).1.lst
    exact e.F H H' w (h5 H H' (e.W H w) ha hk) (fun a _ na => hk a fun z => na (z ▸ h1)) (tp_put hu hk)
  · obtain ⟨_, us, _, hu, _⟩ := h4 H (e.W H w)
    exact e.F H H' w (h6 H H' vs ys (e.W H w) hl hd hf hI hk) (fun a _ na => hk a fun z => na (z ▸ h3)) (tp_put hu hk)
def Ctx.lend (c : Ctx K) (l : Addr) (I : List PyData → Prop) : Ctx K where
  B := c.B
  L := fun a => c.L a ∨ a = l
  W := fun H => c.W H ∧ ∃ vs ys, H l = some (.lst vs) ∧ DpAll K (noL H) vs ys ∧ flatDs ys = true ∧ I ys
  loc := fun H H' e t ⟨w, vs, ys, h1, h2, h3⟩ => ⟨c.loc H H' (fun a ha => e a (.inl ha)) t w, vs, ys, (e l (.inr rfl)).trans h1, dpa_mono (noL_tp t) _ _ h2, h3⟩
  dom := fun H ⟨w, vs, ys, h1, _⟩ a ha => ha.elim (c.dom H w a) fun z => by rw [z]; exact ⟨_, h1, rfl⟩
theorem own_other {σ : L2.St} {H : Hp} (o : Ok c ρ σ H) {i : Nat} {xs : List PyData} (h : ρ[i]? = some (.own l xs)) {s : Slot} (hs : isOwn s = false) {a : Addr} (z : Owns (ρ.set i s) a) : Owns ρ a ∧ a ≠ l := by
  obtain ⟨ys, z⟩ := z
  obtain ⟨j, hj, e⟩ := List.mem_iff_getElem.mp z
  have z' : (ρ.set i s)[j]? = some (Slot.own a ys) := by rw [List.getElem?_eq_getElem hj, e]
  rcases List_set_get z' with ⟨_, q, _⟩ | ⟨ne, z'⟩
  · subst q; cases hs
  · refine ⟨⟨ys, List.mem_of_getElem? z'⟩, fun q => ne ?_⟩
    subst q
    exact o.one i j _ xs ys h z'
theorem ws_lend {i : Nat} {xs : List PyData} (I : List PyData → Prop) (h : ρ[i]? = some (.own l xs)) (HI : HandIn c p) (hf : flatDs xs = true) (hI : I xs)
    (ht : ∀ c2, Le c c2 → Lent c2 p l I → Ws c2 t (ρ.set i (.val (.r (.ref l)))) ⟨fun ρ' => ρ'[i]? = some (.val (.r (.ref l))) ∧ ∀ ys, flatDs ys = true → I ys → E.nx (ρ'.set i (.own l ys)), E.rt, fun _ => False, fun _ => False⟩) : Ws c t ρ E := fun D σ H e o => by
  obtain ⟨vs, e1, h1, d1⟩ := o.own h
  have ol : Owns ρ l := ⟨xs, List.mem_of_getElem? h⟩
  obtain ⟨bl, nl⟩ := o.ob l ol
  obtain ⟨ls, ns, cls, hW, put⟩ := HI.ex
  have hil : i < ρ.length := (List.getElem?_eq_some_iff.mp h).1
  have lpn : l ≠ p := fun z => nl (z ▸ HI.L)
  have lln : l ≠ ls := fun z => nl (z ▸ cls)
  have le : Le c (c.lend l I) := ⟨fun a ha => .inl ha, fun H w => w.1, fun H H' w w' e t => by
    obtain ⟨_, vs, ys, g1, g2, g3⟩ := w
    exact ⟨w', vs, ys, (e l (.inr rfl) nl).trans g1, dpa_mono (noL_tp t) _ _ g2, g3⟩, Evl.Ex.refl _⟩
  have lent : Lent (c.lend l I) p l I := ⟨ls, ns, ⟨.inl HI.L, .inl cls, .inr rfl⟩, ⟨lpn, lln⟩, fun H w => ⟨hW H w.1, w.2⟩, fun H H' w ha hk => by
    obtain ⟨us, hu⟩ := (hW H w.1).lst
    obtain ⟨w0, vs, ys, g1, g2, g3⟩ := w
    exact ⟨put H H' w0 ha hk, vs, ys, (hk l lpn).trans g1, dpa_mono (noL_tp (tp_put hu hk)) _ _ g2, g3⟩, fun H H' vs ys w hl hd hf hI hk => by
    obtain ⟨w0, us, _, g1, _⟩ := w
    exact ⟨c.loc H H' (fun a ha => hk a fun z => nl (z ▸ ha)) (tp_put g1 hk) w0, vs, ys, hl, hd, hf, hI⟩⟩
  let ρ2 : Rho := ρ.set i (.val (.r (.ref l)))
  have iff : ∀ a, Hid (c.lend l I) ρ2 a → Hid c ρ a := fun a z => by
    rcases z with (z | z) | z
    · exact .inl z
    · exact .inr (z ▸ ol)
    · exact .inr (own_other o h rfl z).1
  have o2 : Ok (c.lend l I) ρ2 σ H := by
    refine ⟨⟨o.w, vs, xs, h1, dpa_mono noL_hid _ _ (dpa_noL xs vs hf d1), hf, hI⟩, fun a ob z => ?_, fun a z => ?_, fun j s hs => ?_, fun j j' a ys zs hs hs' => ?_, by show σ.length = (ρ.set i _).length; simp [o.len]⟩
    · obtain ⟨n, z'⟩ := hid_some (o.b a ob z)
      refine (hid_neg ?_).trans z'
      rintro (w | w)
      · exact n w
      · have z : c.B a = some ob := z
        rw [w, bl] at z; cases z
    · obtain ⟨z1, ne⟩ := own_other o h rfl z
      exact ⟨(o.ob a z1).1, fun w => w.elim (o.ob a z1).2 ne⟩
    · rcases List_set_get hs with ⟨rfl, rfl, _⟩ | ⟨ne, hs⟩
      · exact ⟨_, e1, .ref l, rfl, rfl⟩
      · obtain ⟨u, q, z⟩ := o.sl j s hs
        refine ⟨u, q, ?_⟩
        have ev : Ex (vis c ρ H) (vis (c.lend l I) ρ2 H) := hid_less iff
        cases s with
        | un => trivial
        | val y => obtain ⟨w, e1, e2⟩ := z; exact ⟨w, e1, dv_mono ev e2⟩
        | own m ys => obtain ⟨ws, e1, e2, e3⟩ := z; exact ⟨ws, e1, e2, own_mono ev _ _ e3⟩
    · rcases List_set_get hs with ⟨_, q, _⟩ | ⟨_, hs⟩
      · cases q
      · rcases List_set_get hs' with ⟨_, q, _⟩ | ⟨_, hs'⟩
        · cases q
        · exact o.one _ _ _ _ _ hs hs'
  refine ht (c.lend l I) le lent D σ H ⟨fun ρ' σ' H' o' ⟨hi, hn⟩ => ?_, fun v x H' w b dv hx => e.rt v x H' w.1 (b.trans (hid_less le.L)) (dv_mono (hid_less le.L) dv) hx, fun _ _ _ _ z => z.elim, fun _ _ _ _ z => z.elim⟩ o2
  obtain ⟨w', vs', ys, g1, g2, g3, g4⟩ := o'.w
  refine e.nx (ρ'.set i (.own l ys)) σ' H' ?_ (hn ys g3 g4)
  have hil' : i < ρ'.length := (List.getElem?_eq_some_iff.mp hi).1
  have hid2 : ∀ a, Hid c (ρ'.set i (.own l ys)) a → Hid (c.lend l I) ρ' a := fun a z => by
    rcases z with z | z
    · exact .inl (.inl z)
    · rcases owns_set z with z | ⟨zs, q⟩
      · exact .inr z
      · cases q; exact .inl (.inr rfl)
  have ev : Ex (vis (c.lend l I) ρ' H') (vis c (ρ'.set i (.own l ys)) H') := hid_less hid2
  refine ⟨w', fun a ob z => hid_less (fun b hb => .inl hb) a ob (o'.b a ob z), fun a z => ?_, fun j s hs => ?_, fun j j' a us zs hs hs' => ?_, by simp [o'.len]⟩
  · rcases owns_set z with z | ⟨zs, q⟩
    · exact ⟨(o'.ob a z).1, fun w => (o'.ob a z).2 (.inl w)⟩
    · cases q; exact ⟨bl, nl⟩
  · rcases List_set_get hs with ⟨rfl, rfl, _⟩ | ⟨ne, hs⟩
    · obtain ⟨u, q, v, rfl, dv⟩ := o'.sl i _ hi
      have dv : v = .ref l := dv
      subst dv
      exact ⟨_, q, _, rfl, g1, vs', rfl, dpa_mono (o'.noL.trans ev) _ _ g2⟩
    · obtain ⟨u, q, z⟩ := o'.sl j s hs
      refine ⟨u, q, ?_⟩
      cases s with
      | un => trivial
      | val y => obtain ⟨w, e1, e2⟩ := z; exact ⟨w, e1, dv_mono ev e2⟩
      | own m ys => obtain ⟨ws, e1, e2, e3⟩ := z; exact ⟨ws, e1, e2, own_mono ev _ _ e3⟩
  · have no : ∀ {j : Nat} {us : OwnC}, ρ'[j]? = some (.own l us) → False := fun hj => (o'.ob l ⟨_, List.mem_of_getElem? hj⟩).2 (.inr rfl)
    rcases List_set_get hs with ⟨r1, q1, _⟩ | ⟨ne, hs⟩
    · cases q1
      rcases List_set_get hs' with ⟨r2, q2, _⟩ | ⟨ne', hs'⟩
      · exact r1.symm.trans r2
      · exact (no hs').elim
    · rcases List_set_get hs' with ⟨r2, q2, _⟩ | ⟨ne', hs'⟩
      · cases q2; exact (no hs).elim
      · exact o'.one _ _ _ _ _ hs hs'
/-- the context without a lent list -/
def Ctx.unl (c : Ctx K) (l : Addr) (vs : List V) : Ctx K where
  B := c.B
  L := fun a => c.L a ∧ a ≠ l
  W := fun H => c.W (upd H l (.lst vs))
  loc := fun H H' e t w => c.loc _ _ (fun a ha => by
      by_cases z : a = l
      · subst z; rw [upd_same, upd_same]
      · rw [upd_ne z, upd_ne z]; exact e a ⟨ha, z⟩) (fun a o h m => by
      by_cases z : a = l
      · subst z; rw [upd_same] at h ⊢; exact h
      · rw [upd_ne z] at h ⊢; exact t a o h m) w
  dom := fun H w a ha => by
    have := c.dom _ w a ha.1
    rw [upd_ne ha.2] at this; exact this
theorem Lent.unl (N : Lent c p l I) (vs : List V) : HandIn (c.unl l vs) p := by
  obtain ⟨ls, ns, ⟨h1, h2, h3⟩, ⟨n1, n2⟩, h4, h5, h6⟩ := N.ex
  refine ⟨⟨h1, n1.symm⟩, ls, ns, ⟨h2, n2.symm⟩, fun H w => ?_, fun H H' w ha hk => ?_⟩
  · obtain ⟨⟨⟨i, pool, left, a, b, g, r⟩, g2, g3⟩, _⟩ := h4 _ w
    rw [upd_ne n1.symm] at g
    rw [upd_ne n2.symm] at g2
    exact ⟨⟨i, pool, left, a, b, g, r⟩, g2, g3⟩
  · obtain ⟨⟨i, pool, left, a, b, g, r⟩, g2, g3⟩ := ha
    refine h5 _ _ w ⟨⟨i, pool, left, a, b, (upd_ne n1.symm).trans g, r⟩, (upd_ne n2.symm).trans g2, g3⟩ fun a na => ?_
    by_cases z : a = l
    · subst z; rw [upd_same, upd_same]
    · rw [upd_ne z, upd_ne z]; exact hk a na
theorem Ok.unl {σ : L2.St} {H : Hp} (o : Ok c ρ σ H) (N : Lent c p l I) {i : Nat} (h : ρ[i]? = some (.val (.r (.ref l)))) {vs : List V} {ys : List PyData} (hl : H l = some (.lst vs)) (hd : DpAll K (Py.noL H) vs ys) :
    Ok (c.unl l vs) (ρ.set i (.own l ys)) σ H ∧ ∀ H', vis (c.unl l vs) (ρ.set i (.own l ys)) H' = vis c ρ H' := by
  obtain ⟨ls, ns, ⟨h1, h2, h3⟩, ⟨n1, n2⟩, h4, h5, h6⟩ := N.ex
  have hil : i < ρ.length := (List.getElem?_eq_some_iff.mp h).1
  have keep : ∀ a, Owns ρ a → Owns (ρ.set i (.own l ys)) a := fun a z => owns_keep (by rw [h]; rfl) z
  have same : ∀ a, Hid (c.unl l vs) (ρ.set i (.own l ys)) a ↔ Hid c ρ a := fun a => by
    constructor
    · rintro (z | z)
      · exact .inl z.1
      · rcases owns_set z with z | ⟨zs, q⟩
        · exact .inr z
        · cases q; exact .inl h3
    · rintro (z | z)
      · by_cases q : a = l
        · subst q
          exact .inr ⟨ys, List.mem_of_getElem? (i := i) (List.getElem?_set_self hil)⟩
        · exact .inl ⟨z, q⟩
      · exact .inr (keep a z)
  have sv : ∀ H', vis (c.unl l vs) (ρ.set i (.own l ys)) H' = vis c ρ H' := fun H' => by
    unfold vis
    congr 1
    funext a
    exact propext (same a)
  have bl : c.B l = none := by
    cases z : c.B l with
    | none => rfl
    | some ob => exact absurd h3 (hid_some (o.b l ob z)).1
  have no : ∀ {j : Nat} {us : OwnC}, ρ[j]? = some (.own l us) → False := fun hj => (o.ob l ⟨_, List.mem_of_getElem? hj⟩).2 h3
  refine ⟨⟨by show c.W (upd H l (.lst vs)); rw [upd_self hl]; exact o.w, fun a ob z => hid_less (fun b hb => hb.1) a ob (o.b a ob z), fun a z => ?_, fun j s hs => ?_, fun j j' a us zs hs hs' => ?_, by simp [o.len]⟩, sv⟩
  · rcases owns_set z with z | ⟨zs, q⟩
    · exact ⟨(o.ob a z).1, fun w => (o.ob a z).2 w.1⟩
    · cases q; exact ⟨bl, fun w => w.2 rfl⟩
  · rw [sv H]
    rcases List_set_get hs with ⟨rfl, rfl, _⟩ | ⟨ne, hs⟩
    · obtain ⟨u, q, v, rfl, dv⟩ := o.sl i _ h
      have dv : v = .ref l := dv
      subst dv
      exact ⟨_, q, _, rfl, hl, vs, rfl, dpa_mono o.noL _ _ hd⟩
    · exact o.sl j s hs
  · rcases List_set_get hs with ⟨r1, q1, _⟩ | ⟨ne, hs⟩
    · cases q1
      rcases List_set_get hs' with ⟨r2, q2, _⟩ | ⟨ne', hs'⟩
      · exact r1.symm.trans r2
      · exact (no hs').elim
    · rcases List_set_get hs' with ⟨r2, q2, _⟩ | ⟨ne', hs'⟩
      · cases q2; exact (no hs).elim
      · exact o.one _ _ _ _ _ hs hs'
/-- back into the context -/
theorem Ok.back {σ : L2.St} {H : Hp} {vs0 : List V} {i : Nat} {ys : List PyData} (N : Lent c p l I) (bl : c.B l = none) (o : Ok (c.unl l vs0) ρ σ H) (h : ρ[i]? = some (.own l ys)) (hf : flatDs ys = true) (hI : I ys) : Ok c (ρ.set i (.val (.r (.ref l)))) σ H := by
  obtain ⟨ls, ns, ⟨h1, h2, h3⟩, ⟨n1, n2⟩, h4, h5, h6⟩ := N.ex
  obtain ⟨vs, e1, hl, d1⟩ := o.own h
  have w : c.W H := h6 _ H vs ys o.w hl (dpa_mono noL_hid _ _ (dpa_noL ys vs hf d1)) hf hI fun a na => (upd_ne na).symm
  have ev : Ex (vis (c.unl l vs0) ρ H) (vis c (ρ.set i (.val (.r (.ref l)))) H) := hid_less fun a z => by
    rcases z with z | z
    · by_cases q : a = l
      · subst q; exact .inr ⟨ys, List.mem_of_getElem? h⟩
      · exact .inl ⟨z, q⟩
    · exact .inr (own_other o h rfl z).1
  refine ⟨w, fun a ob z => ?_, fun a z => ?_, fun j s hs => ?_, fun j j' a us zs hs hs' => ?_, by simp [o.len]⟩
  · obtain ⟨n, z'⟩ := hid_some (o.b a ob z)
    refine (hid_neg fun q => ?_).trans z'
    by_cases r : a = l
    · subst r; rw [bl] at z; cases z
    · exact n ⟨q, r⟩
  · obtain ⟨z1, ne⟩ := own_other o h rfl z
    exact ⟨(o.ob a z1).1, fun q => (o.ob a z1).2 ⟨q, ne⟩⟩
  · rcases List_set_get hs with ⟨rfl, rfl, _⟩ | ⟨ne, hs⟩
    · exact ⟨_, e1, .ref l, rfl, rfl⟩
    · obtain ⟨u, q, z⟩ := o.sl j s hs
      refine ⟨u, q, ?_⟩
      cases s with
      | un => trivial
      | val y => obtain ⟨w, e1, e2⟩ := z; exact ⟨w, e1, dv_mono ev e2⟩
      | own m ys => obtain ⟨ws, e1, e2, e3⟩ := z; exact ⟨ws, e1, e2, own_mono ev _ _ e3⟩
  · rcases List_set_get hs with ⟨_, q, _⟩ | ⟨_, hs⟩
    · cases q
    · rcases List_set_get hs' with ⟨_, q, _⟩ | ⟨_, hs'⟩
      · cases q
      · exact o.one _ _ _ _ _ hs hs'
theorem lent_b {σ : L2.St} {H : Hp} (o : Ok c ρ σ H) (N : Lent c p l I) : c.B l = none := by
  obtain ⟨ls, ns, ⟨h1, h2, h3⟩, _⟩ := N.ex
  cases z : c.B l with
  | none => rfl
  | some ob => exact absurd h3 (hid_some (o.b l ob z)).1
/-- a lent list is one's own within a statement -/
theorem ws_take {i : Nat} (h : ρ[i]? = some (.val (.r (.ref l)))) (N : Lent c p l I)
    (ht : ∀ (c2 : Ctx K) ys, HandIn c2 p → flatDs ys = true → I ys → Ws c2 t (ρ.set i (.own l ys)) ⟨fun ρ' => ∃ ys' : List PyData, ρ'[i]? = some (.own l ys') ∧ flatDs ys' = true ∧ I ys' ∧ E.nx (ρ'.set i (.val (.r (.ref l)))), fun _ => False, fun _ => False, fun _ => False⟩) : Ws c t ρ E := fun D σ H e o => by
  have bl := lent_b o N
  obtain ⟨ls, ns, _, _, h4, _, _⟩ := N.ex
  obtain ⟨_, vs, ys, hl, hd, hf, hI⟩ := h4 H o.w
  refine ht (c.unl l vs) ys (N.unl vs) hf hI D σ H ⟨fun ρ' σ' H' o' ⟨ys', g1, g2, g3, g4⟩ => ?_, fun _ _ _ _ _ _ z => z.elim, fun _ _ _ _ z => z.elim, fun _ _ _ _ z => z.elim⟩ (o.unl N h hl hd).1
  exact e.nx _ σ' H' (Ok.back N bl o' g1 g2 g3) g4
/-- a lent list is one's own while an expression is evaluated -/
theorem we_pin {i : Nat} (h : ρ[i]? = some (.val (.r (.ref l)))) (N : Lent c p l I) (ht : ∀ (c2 : Ctx K) ys, HandIn c2 p → flatDs ys = true → I ys → We c2 te (ρ.set i (.own l ys)) k) : We c te ρ k := fun σ H Q o q => by
  have bl := lent_b o N
  obtain ⟨ls, ns, _, _, h4, _, _⟩ := N.ex
  obtain ⟨_, vs, ys, hl, hd, hf, hI⟩ := h4 H o.w
  obtain ⟨o2, sv⟩ := o.unl N h hl hd
  have hil : i < ρ.length := (List.getElem?_eq_some_iff.mp h).1
  have gi : (ρ.set i (.own l ys))[i]? = some (.own l ys) := List.getElem?_set_self hil
  refine ht (c.unl l vs) ys (N.unl vs) hf hI σ H Q o2 fun v x H' o' s' d' kx => ?_
  have hl' : H' l = some (.lst vs) := (s'.own l ⟨ys, List.mem_of_getElem? gi⟩).trans hl
  have o3 := Ok.back N bl o' gi hf hI
  have e : (ρ.set i (.own l ys)).set i (.val (.r (.ref l))) = ρ := by
    rw [List.set_set]
    apply List.ext_getElem?
    intro j
    by_cases z : i = j
    · subst z; rw [List.getElem?_set_self hil, h]
    · rw [List.getElem?_set_ne z]
  rw [e] at o3
  refine q v x H' o3 ⟨?_, fun a z => s'.own a (owns_keep (by rw [h]; rfl) z)⟩ (by rw [sv] at d'; exact d') kx
  have := s'.ex
  rw [sv, sv] at this
  exact this
end
end Py

set_option Elab.async false
set_option linter.all false
set_option autoImplicit false
set_option maxRecDepth 100000
namespace Py
open PySem hiding start
open L2
/-! ### how often rings go round a point -/
def undM (u v p : Pt) : Int := if u.x ≤ p.x ∧ ¬ v.x ≤ p.x ∧ tn u v p = 1 then 1 else if v.x ≤ p.x ∧ ¬ u.x ≤ p.x ∧ tn u v p = -1 then -1 else 0
theorem und_flip (u v p : Pt) : undM v u p = -undM u v p := by
  have e := tn_flip u v p
  unfold undM
  rw [e]
  rcases sg_cases (crQ u v p) with ⟨_, h⟩ | ⟨_, h⟩ | ⟨_, h⟩ <;> (have h : tn u v p = _ := h; rw [h])
  all_goals by_cases a : u.x ≤ p.x <;> by_cases b : v.x ≤ p.x <;> simp [a, b]
def fA (w p : Pt) : Int := if w.x ≤ p.x ∧ w.y < p.y then 1 else 0
theorem und_bool (a b a' b' : Bool) (s : Int) (hs : s = 1 ∨ s = -1 ∨ s = 0) (h0 : a ≠ b ∨ a' ≠ b' → s ≠ 0)
    (h1 : a = true → a' = false → b = false → b' = false → s = 1) (h2 : a = true → a' = false → b = true → b' = true → s = -1) (h3 : a = true → a' = true → b = false → b' = true → s = -1) (h4 : a = false → a' = true → b = false → b' = false → s = -1)
    (h5 : b = true → b' = false → a = false → a' = false → s = -1) (h6 : b = true → b' = false → a = true → a' = true → s = 1) (h7 : b = true → b' = true → a = false → a' = true → s = 1) (h8 : b = false → b' = true → a = false → a' = false → s = 1) :
    (if a = true ∧ ¬ b = true ∧ s = 1 then (1 : Int) else if b = true ∧ ¬ a = true ∧ s = -1 then -1 else 0) - (if a' = true ∧ ¬ b' = true ∧ s = 1 then (1 : Int) else if b' = true ∧ ¬ a' = true ∧ s = -1 then -1 else 0) = (if a = true ∧ ¬ a' = true then (1 : Int) else 0) - (if b = true ∧ ¬ b' = true then (1 : Int) else 0) := by
  cases a <;> cases b <;> cases a' <;> cases b' <;> rcases hs with rfl | rfl | rfl <;> first | decide | (exfalso; first | exact (h0 (by decide)) rfl | exact absurd (h1 rfl rfl rfl rfl) (by decide) | exact absurd (h2 rfl rfl rfl rfl) (by decide) | exact absurd (h3 rfl rfl rfl rfl) (by decide) | exact absurd (h4 rfl rfl rfl rfl) (by decide) | exact absurd (h5 rfl rfl rfl rfl) (by decide) | exact absurd (h6 rfl rfl rfl rfl) (by decide) | exact absurd (h7 rfl rfl rfl rfl) (by decide) | exact absurd (h8 rfl rfl rfl rfl) (by decide))
theorem cr_rel (u v p : Pt) : crQ u v p = (u.x - p.x) * (v.y - p.y) - (u.y - p.y) * (v.x - p.x) := by unfold crQ; grind
theorem cr_adj {a b c d : Rat} :
    (a ≤ 0 → b < 0 → 0 < c → d < 0 → 0 < a * d - b * c) ∧ (a ≤ 0 → b < 0 → c ≤ 0 → 0 ≤ d → a * d - b * c ≤ 0) ∧ (a ≤ 0 → 0 ≤ b → 0 < c → 0 ≤ d → a * d - b * c ≤ 0) ∧ (0 < a → 0 ≤ b → 0 < c → d < 0 → a * d - b * c < 0) := by
  refine ⟨fun h1 h2 h3 h4 => ?_, fun h1 h2 h3 h4 => ?_, fun h1 h2 h3 h4 => ?_, fun h1 h2 h3 h4 => ?_⟩
  · have := Rat.mul_nonneg (show 0 ≤ -a by grind) (show 0 ≤ -d by grind)
    have := Rat.mul_pos (show 0 < -b by grind) h3
    grind
  · have := Rat.mul_nonneg (show 0 ≤ -a by grind) h4
    have := Rat.mul_nonneg (show 0 ≤ -b by grind) (show 0 ≤ -c by grind)
    grind
  · have := Rat.mul_nonneg (show 0 ≤ -a by grind) h4
    have := Rat.mul_nonneg h2 (show 0 ≤ c by grind)
    grind
  · have := Rat.mul_pos h1 (show 0 < -d by grind)
    have := Rat.mul_nonneg h2 (show 0 ≤ c by grind)
    grind
theorem cross_ne {a b c d : Rat} (N : ∀ t : Rat, 0 ≤ t → t ≤ 1 → a + (c - a) * t = 0 → b + (d - b) * t = 0 → False) (h : a ≤ 0 ∧ 0 < c ∨ c ≤ 0 ∧ 0 < a) : a * d - b * c ≠ 0 := fun z => by
  have hd : c - a ≠ 0 := by rcases h with h | h <;> grind
  have e : -a / (c - a) * (c - a) = -a := by grind
  generalize -a / (c - a) = t at *
  have hy : b + (d - b) * t = 0 := by
    have : (c - a) * (b + (d - b) * t) = 0 := by grind
    rcases Rat.mul_eq_zero.mp this with q | q
    · exact absurd q hd
    · exact q
  have t01 : 0 ≤ t ∧ t ≤ 1 := by
    rcases h with ⟨h1, h2⟩ | ⟨h1, h2⟩
    · constructor
      · by_cases q : 0 ≤ t
        · exact q
        · have := Rat.mul_pos (show 0 < -t by grind) (show 0 < c - a by grind); grind
      · by_cases q : t ≤ 1
        · exact q
        · have := Rat.mul_pos (show 0 < t - 1 by grind) (show 0 < c - a by grind); grind
    · constructor
      · by_cases q : 0 ≤ t
        · exact q
        · have := Rat.mul_pos (show 0 < -t by grind) (show 0 < a - c by grind); grind
      · by_cases q : t ≤ 1
        · exact q
        · have := Rat.mul_pos (show 0 < t - 1 by grind) (show 0 < a - c by grind); grind
  exact N t t01.1 t01.2 (by grind) hy
theorem und_quarter {u v p : Pt} (huv : u ≠ v) (hp : onS p u v = false) : undM u v p - undM u.quarter v.quarter p.quarter = fA u p - fA v p := by
  obtain ⟨q1, q2⟩ := quarter_xy u
  obtain ⟨q3, q4⟩ := quarter_xy v
  obtain ⟨q5, q6⟩ := quarter_xy p
  have N : ∀ t : Rat, 0 ≤ t → t ≤ 1 → (u.x - p.x) + ((v.x - p.x) - (u.x - p.x)) * t = 0 → (u.y - p.y) + ((v.y - p.y) - (u.y - p.y)) * t = 0 → False := fun t t0 t1 ex ey => by
    have : onS p u v = true := (onS_t huv).mpr ⟨t, t0, t1, by grind, by grind⟩
    rw [hp] at this; cases this
  have c0 : crQ u v p = (u.x - p.x) * (v.y - p.y) - (u.y - p.y) * (v.x - p.x) := cr_rel u v p
  have s1 := (sg_one (q := crQ u v p)).1
  have s2 := (sg_one (q := crQ u v p)).2
  have K1 := cross_ne (a := u.x - p.x) (b := u.y - p.y) (c := v.x - p.x) (d := v.y - p.y) N
  have K2 := cross_ne (a := u.y - p.y) (b := u.x - p.x) (c := v.y - p.y) (d := v.x - p.x) (fun t t0 t1 e1 e2 => N t t0 t1 e2 e1)
  obtain ⟨a1, a2, a3, a4⟩ := cr_adj (a := u.x - p.x) (b := u.y - p.y) (c := v.x - p.x) (d := v.y - p.y)
  obtain ⟨b1, b2, b3, b4⟩ := cr_adj (a := v.x - p.x) (b := v.y - p.y) (c := u.x - p.x) (d := u.y - p.y)
  have B := und_bool (decide (u.x ≤ p.x)) (decide (v.x ≤ p.x)) (decide (p.y ≤ u.y)) (decide (p.y ≤ v.y)) (tn u v p)
  have hs : tn u v p = 1 ∨ tn u v p = -1 ∨ tn u v p = 0 := by
    rcases sg_cases (crQ u v p) with ⟨_, h⟩ | ⟨_, h⟩ | ⟨_, h⟩
    · exact .inl h
    · exact .inr (.inl h)
    · exact .inr (.inr h)
  have nz : decide (u.x ≤ p.x) ≠ decide (v.x ≤ p.x) ∨ decide (p.y ≤ u.y) ≠ decide (p.y ≤ v.y) → crQ u v p ≠ 0 := fun h z => by
    rw [c0] at z
    rcases h with h | h
    · refine K1 ?_ z
      by_cases x1 : u.x ≤ p.x <;> by_cases x2 : v.x ≤ p.x <;> simp [x1, x2] at h
      · left; constructor <;> grind
      · right; constructor <;> grind
    · have z' : (u.y - p.y) * (v.x - p.x) - (u.x - p.x) * (v.y - p.y) = 0 := by grind
      by_cases x1 : p.y ≤ u.y <;> by_cases x2 : p.y ≤ v.y <;> simp [x1, x2] at h
      · by_cases y0 : u.y - p.y = 0
        · exact N 0 (by grind) (by grind) (by
            have : (u.x - p.x) * (v.y - p.y) = 0 := by grind
            rcases Rat.mul_eq_zero.mp this with q | q <;> grind) (by grind)
        · exact K2 (.inr ⟨by grind, by grind⟩) z'
      · by_cases y0 : v.y - p.y = 0
        · exact N 1 (by grind) (by grind) (by
            have : (u.y - p.y) * (v.x - p.x) = 0 := by grind
            rcases Rat.mul_eq_zero.mp this with q | q <;> grind) (by grind)
        · exact K2 (.inl ⟨by grind, by grind⟩) z'
  have hz : decide (u.x ≤ p.x) ≠ decide (v.x ≤ p.x) ∨ decide (p.y ≤ u.y) ≠ decide (p.y ≤ v.y) → tn u v p ≠ 0 := fun h z => nz h (tn_zero.mp z)
  have t1 : tn u v p = 1 ↔ 0 < crQ u v p := s1
  have t2 : tn u v p = -1 ↔ crQ u v p < 0 := s2
  have B := B hs hz
    (fun h1 h2 h3 h4 => t1.mpr (by rw [c0]; exact a1 (by have := of_decide_eq_true h1; grind) (by have := of_decide_eq_false h2; grind) (by have := of_decide_eq_false h3; grind) (by have := of_decide_eq_false h4; grind)))
    (fun h1 h2 h3 h4 => t2.mpr (by
      have n := nz (.inr (by rw [h2, h4]; decide))
      have := a2 (by have := of_decide_eq_true h1; grind) (by have := of_decide_eq_false h2; grind) (by have := of_decide_eq_true h3; grind) (by have := of_decide_eq_true h4; grind)
      rw [← c0] at this; grind))
    (fun h1 h2 h3 h4 => t2.mpr (by
      have n := nz (.inl (by rw [h1, h3]; decide))
      have := a3 (by have := of_decide_eq_true h1; grind) (by have := of_decide_eq_true h2; grind) (by have := of_decide_eq_false h3; grind) (by have := of_decide_eq_true h4; grind)
      rw [← c0] at this; grind))
    (fun h1 h2 h3 h4 => t2.mpr (by rw [c0]; exact a4 (by have := of_decide_eq_false h1; grind) (by have := of_decide_eq_true h2; grind) (by have := of_decide_eq_false h3; grind) (by have := of_decide_eq_false h4; grind)))
    (fun h1 h2 h3 h4 => t2.mpr (by rw [c0]; have := b1 (by have := of_decide_eq_true h1; grind) (by have := of_decide_eq_false h2; grind) (by have := of_decide_eq_false h3; grind) (by have := of_decide_eq_false h4; grind); grind))
    (fun h1 h2 h3 h4 => t1.mpr (by
      have n := nz (.inr (by rw [h2, h4]; decide))
      have := b2 (by have := of_decide_eq_true h1; grind) (by have := of_decide_eq_false h2; grind) (by have := of_decide_eq_true h3; grind) (by have := of_decide_eq_true h4; grind)
      rw [c0] at n ⊢; grind))
    (fun h1 h2 h3 h4 => t1.mpr (by
      have n := nz (.inl (by rw [h1, h3]; decide))
      have := b3 (by have := of_decide_eq_true h1; grind) (by have := of_decide_eq_true h2; grind) (by have := of_decide_eq_false h3; grind) (by have := of_decide_eq_true h4; grind)
      rw [c0] at n ⊢; grind))
    (fun h1 h2 h3 h4 => t1.mpr (by rw [c0]; have := b4 (by have := of_decide_eq_false h1; grind) (by have := of_decide_eq_true h2; grind) (by have := of_decide_eq_false h3; grind) (by have := of_decide_eq_false h4; grind); grind))
  have n1 : (u.quarter.x ≤ p.quarter.x) ↔ p.y ≤ u.y := by rw [q1, q5]; constructor <;> (intro h; grind)
  have n2 : (v.quarter.x ≤ p.quarter.x) ↔ p.y ≤ v.y := by rw [q3, q5]; constructor <;> (intro h; grind)
  have m1 : (u.y < p.y) ↔ ¬ p.y ≤ u.y := by constructor <;> (intro h; grind)
  have m2 : (v.y < p.y) ↔ ¬ p.y ≤ v.y := by constructor <;> (intro h; grind)
  unfold undM fA
  rw [tn_quarter]
  simp only [n1, n2, m1, m2]
  simp only [decide_eq_true_eq] at B
  exact B
/-- the sides of a closed row -/
def sideL (ps : List Pt) : List (Pt × Pt) := (List.range ps.length).map fun k => (ps[k]!, ps[(k + 1) % ps.length]!)
def sidesM (rs : List (List Pt)) : List (Pt × Pt) := rs.flatMap sideL
def roundsM (rs : List (List Pt)) (p : Pt) : Int := ((sidesM rs).map fun s => undM s.1 s.2 p).sum
end Py

set_option Elab.async false
set_option linter.all false
set_option autoImplicit false
set_option maxRecDepth 100000
set_option maxHeartbeats 4000000
namespace Py
open PySem hiding start
open L2
open Evl (Ex ex_rd ex_l ex_t fresh_back)
open Classical
/-! ### for k, x in enumerate(list) -/
theorem for_enum {K : PySem.W.Frag} {a : Addr} {xs : List V} {g : TG} {tb : TS} {D : Ends} {σ : L2.St} {H : Hp} (Pv : Nat → L2.St → Hp → Prop) (h0 : Pv 0 σ H) (hl : ∀ i σ H, i ≤ xs.length → Pv i σ H → SqL K H a xs)
    (hs : ∀ i x T σ H, xs[i]? = some x → Pv i σ H → H T = none → g (.ref T) σ (upd H T (.tup [.int (i : Nat), x])) fun σ2 H2 => tb { D with nx := Pv (i + 1), ct := Pv (i + 1), bk := D.nx } σ2 H2) (hd : ∀ σ H, Pv xs.length σ H → D.nx σ H) :
    ∃ W : Nat → Nat → L2.St → Hp → Prop, (∃ m, W 0 m σ H) ∧ ∀ i m σ H, W i m σ H →
      ((Ite K a).stop i H ∧ D.nx σ H) ∨ ((Ite K a).go i H ∧ ∃ N : L2.St → Hp → Prop, (∀ σ' H', N σ' H' → ∃ m', m' < m ∧ W (i + 1) m' σ' H') ∧ ∀ x H', (Ite K a).yld i H x H' → g x σ H' fun σ2 H2 => tb { D with nx := N, ct := N, bk := D.nx } σ2 H2) := by
  refine ⟨fun i m σ H => m = xs.length - i ∧ i ≤ xs.length ∧ Pv i σ H, ⟨xs.length, by simp, Nat.zero_le _, h0⟩, ?_⟩
  rintro i m σ H ⟨rfl, hi, p⟩
  have q := hl i σ H hi p
  by_cases hlt : i < xs.length
  · refine .inr ⟨⟨xs, xs[i], q, by simp [hlt]⟩, Pv (i + 1), fun σ' H' p' => ⟨xs.length - (i + 1), by omega, rfl, hlt, p'⟩, fun x H' y => ?_⟩
    obtain ⟨T, x', rfl, hT, rfl, f⟩ := y
    exact hs i x' T σ H (f xs q) p hT
  · have e : i = xs.length := by omega
    subst e
    exact .inl ⟨⟨xs, q, Nat.le_refl _⟩, hd σ H p⟩
section
variable {K : PySem.W.Frag} {c c' : Ctx K} {ρ : Rho} {E : DE} {k : Dv → Prop} {ta : TA} {tb te : TE} {t u tb' : TS}
theorem ws_forE {tl : TA} {g : TG} (js : List Nat) (h : Wa c tl ρ fun zs => ∃ xs, zs = [.d (.list xs)] ∧ ∃ P : Nat → Rho → Prop, P 0 ρ ∧
    (∀ c' : Ctx K, Le c c' → ∀ i x ρ', xs[i]? = some x → P i ρ' → Wg c' g js (.d (.tuple [.int i, x])) ρ' fun ρ2 => Ws c' tb' ρ2 { E with nx := P (i + 1), ct := P (i + 1), bk := E.nx }) ∧ ∀ ρ', P xs.length ρ' → E.nx ρ') : Ws c (tFor (iEnum K tl) g tb') ρ E := fun D σ H e o =>
  h σ H _ o fun us zs H1 o1 e1 d1 ⟨xs, hx, P, p0, ps, pd⟩ => by
    subst hx
    cases d1 with
    | cons dA dn =>
    cases dn
    change Dp _ _ _ _ at dA
    cases dA with
    | @lst a vs _ _ hs ha =>
      have b1 : Ex c.B (vis c ρ H1) := o1.base
      have le : Le c (c.at (vis c ρ H1)) := le_at b1
      have sq : ∀ {ρ' σ' H'}, Ok (c.at (vis c ρ H1)) ρ' σ' H' → SqL K H' a vs := fun o' => ex_l hid_sub (ex_l o'.b hs)
      refine ⟨a, vs, rfl, ex_l hid_sub hs, for_enum (K := K) (a := a) (xs := vs) (fun i σ' H' => ∃ ρ', Ok (c.at (vis c ρ H1)) ρ' σ' H' ∧ P i ρ') ⟨ρ, o1.at', p0⟩ (fun i σ' H' _ ⟨ρ', o', _⟩ => sq o') ?_ ?_⟩
      · rintro i y T σ' H' hy ⟨ρ', o', p'⟩ hT
        obtain ⟨d, hd, dd⟩ := dpa_get' ha hy
        obtain ⟨on, en⟩ := o'.new (o := .tup [.int (i : Nat), y]) hT
        have dd2 : Dp K (vis (c.at (vis c ρ H1)) ρ' (upd H' T (.tup [.int (i : Nat), y]))) (.ref T) (.tuple [.int (i : Nat), d]) :=
          dp_tup (vis_upd (o'.nh hT)) (.cons (.int _) (.cons (dp_mono (o'.base.trans en.ex) _ _ dd) .nil))
        refine ps _ le i d ρ' hd p' σ' _ _ _ on dd2 fun ρ2 σ2 o2 _ _ _ _ w => ?_
        exact w { D with nx := fun σ' H' => ∃ ρ', Ok (c.at (vis c ρ H1)) ρ' σ' H' ∧ P (i + 1) ρ', ct := fun σ' H' => ∃ ρ', Ok (c.at (vis c ρ H1)) ρ' σ' H' ∧ P (i + 1) ρ', bk := D.nx } σ2 _ ((e.at' b1).loop fun ρ σ H o p => ⟨ρ, o, p⟩) o2
      · rintro σ' H' ⟨ρ', o', p'⟩
        rw [dpa_len ha] at p'
        exact e.nx ρ' σ' H' (ok_at b1 o') (pd ρ' p')
end
/-! ### the sides as data, and sums of whole numbers -/

theorem sideL_len (ps : List Pt) : (sideL ps).length = ps.length := by simp [sideL]
theorem sideL_get {ps : List Pt} {k : Nat} (h : k < ps.length) : (sideL ps)[k]? = some (ps[k]!, ps[(k + 1) % ps.length]!) := by
  unfold sideL
  rw [List.getElem?_map, List.getElem?_range h]; rfl
theorem at_next {ps : List Pt} {k : Nat} (h : k < ps.length) : atI (ps.map ptD) (((k : Int) + 1).fmod (ps.length : Int)) = some (ptD ps[(k + 1) % ps.length]!) := by
  have e : ((k : Int) + 1).fmod (ps.length : Int) = (((k + 1) % ps.length : Nat) : Int) := by
    rw [Int.fmod_eq_emod_of_nonneg _ (by omega)]; rfl
  rw [e]
  exact at_cur (Nat.mod_lt _ (by omega))
theorem mem_next {ps : List Pt} {k : Nat} (h : k < ps.length) : ps[(k + 1) % ps.length]! ∈ ps := by
  have h2 : (k + 1) % ps.length < ps.length := Nat.mod_lt _ (by omega)
  rw [getElem!_pos ps _ h2]; exact List.getElem_mem h2
def sumI (zs : List Int) : Int := zs.foldl (· + ·) 0
theorem foldl_add (zs : List Int) (a : Int) : zs.foldl (· + ·) a = a + zs.sum := by
  induction zs generalizing a with
  | nil => simp
  | cons z zs ih => rw [List.foldl_cons, ih, List.sum_cons]; omega
theorem undM_abs (u v p : Pt) : (undM u v p).natAbs ≤ 1 := by unfold undM; split <;> (try split) <;> simp
theorem sum_abs {zs : List Int} (h : ∀ z ∈ zs, z.natAbs ≤ 1) : zs.sum.natAbs ≤ zs.length := by
  induction zs with
  | nil => simp
  | cons z zs ih =>
    rw [List.sum_cons, List.length_cons]
    have := ih fun y hy => h y (by simp [hy])
    have := h z (by simp)
    omega
end Py

set_option Elab.async false
set_option linter.all false
set_option autoImplicit false
set_option maxRecDepth 100000
set_option maxHeartbeats 4000000
namespace Py
open PySem hiding start
open L2
open Evl (Ex ex_rd ex_l ex_t fresh_back)
open Classical
/-! ### a list of one's own that is walked -/
section
variable {K : PySem.W.Frag} {c c' : Ctx K} {ρ : Rho} {E : DE} {k : Dv → Prop} {ta : TA} {tb te : TE} {t u tb' : TS}
theorem ws_forOwn {i : Nat} {l : Addr} {xs : List PyData} {g : TG} (js : List Nat) (P : Nat → Rho → Prop) (h : ∀ n ρ', P n ρ' → ρ'[i]? = some (.own l xs)) (h0 : ρ[i]? = some (.own l xs)) (p0 : P 0 ρ)
    (ps : ∀ n x ρ', xs[n]? = some x → P n ρ' → Wg c g js (.d x) ρ' fun ρ2 => Ws c tb' ρ2 { E with nx := P (n + 1), ct := P (n + 1), bk := E.nx }) (pd : ∀ ρ', P xs.length ρ' → E.nx ρ') : Ws c (tFor (iList K (tVar i)) g tb') ρ E := fun D σ H e o => by
  obtain ⟨vs, e1, h1, d1⟩ := o.own h0
  refine ⟨_, e1, l, rfl, ⟨vs, .inl (.inl h1)⟩, fun n m σ' H' => m = xs.length - n ∧ n ≤ xs.length ∧ ∃ ρ', Ok c ρ' σ' H' ∧ P n ρ', ⟨xs.length, rfl, Nat.zero_le _, ρ, o, p0⟩, ?_⟩
  rintro n m σ' H' ⟨rfl, hn, ρ', o', p'⟩
  obtain ⟨ws, q1, q2, q3⟩ := o'.own (h n ρ' p')
  have sq : SqL K H' l ws := .inl (.inl q2)
  have hl := dpa_len q3
  by_cases hlt : n < xs.length
  · have hw : n < ws.length := by omega
    refine .inr ⟨⟨ws, ws[n], sq, by simp [hw]⟩, fun σ2 H2 => ∃ ρ2, Ok c ρ2 σ2 H2 ∧ P (n + 1) ρ2, fun σ2 H2 ⟨ρ2, o2, p2⟩ => ⟨xs.length - (n + 1), by omega, rfl, hlt, ρ2, o2, p2⟩, fun x H2 y => ?_⟩
    obtain ⟨rfl, y⟩ := y
    have hx := y ws sq
    obtain ⟨d, hd, dd⟩ := dpa_get' q3 hx
    refine ps n d ρ' hd p' σ' _ x _ o' dd fun ρ2 σ2 o2 _ _ _ _ w => ?_
    exact w { D with nx := fun σ' H' => ∃ ρ', Ok c ρ' σ' H' ∧ P (n + 1) ρ', ct := fun σ' H' => ∃ ρ', Ok c ρ' σ' H' ∧ P (n + 1) ρ', bk := D.nx } σ2 _ (e.loop fun ρ σ H o p => ⟨ρ, o, p⟩) o2
  · have e2 : n = xs.length := by omega
    subst e2
    exact .inl ⟨⟨ws, sq, by omega⟩, e.nx ρ' σ' H' o' (pd ρ' p')⟩
end
/-! ### sums over range -/
def rsum (n : Nat) (g : Nat → Int) : Int := ((List.range n).map g).sum
theorem rsum_zero (g : Nat → Int) : rsum 0 g = 0 := rfl
theorem rsum_succ (n : Nat) (g : Nat → Int) : rsum (n + 1) g = rsum n g + g n := by
  unfold rsum; rw [List.range_succ, List.map_append, List.sum_append]; simp
theorem rsum_first (n : Nat) (g : Nat → Int) : rsum (n + 1) g = g 0 + rsum n fun k => g (k + 1) := by
  induction n generalizing g with
  | zero => simp [rsum]
  | succ n ih => rw [rsum_succ, ih, rsum_succ n fun k => g (k + 1)]; omega
theorem rsum_congr {n : Nat} {g h : Nat → Int} (e : ∀ k, k < n → g k = h k) : rsum n g = rsum n h := by
  induction n with
  | zero => rfl
  | succ n ih => rw [rsum_succ, rsum_succ, ih fun k hk => e k (by omega), e n (by omega)]
theorem rsum_neg (n : Nat) (g : Nat → Int) : (rsum n fun k => -g k) = -rsum n g := by
  induction n with
  | zero => rfl
  | succ n ih => rw [rsum_succ, rsum_succ, ih]; omega
theorem rsum_sub (n : Nat) (g h : Nat → Int) : (rsum n fun k => g k - h k) = rsum n g - rsum n h := by
  induction n with
  | zero => rfl
  | succ n ih => rw [rsum_succ, rsum_succ, rsum_succ, ih]; omega
theorem rsum_rot (n : Nat) (g : Nat → Int) : (rsum n fun k => g ((k + 1) % n)) = rsum n g := by
  cases n with
  | zero => rfl
  | succ m =>
    rw [rsum_succ, rsum_first m g, Nat.mod_self]
    have : (rsum m fun k => g ((k + 1) % (m + 1))) = rsum m fun k => g (k + 1) := rsum_congr fun k hk => by rw [Nat.mod_eq_of_lt (by omega)]
    omega
theorem rsum_rev (n : Nat) (g : Nat → Int) : (rsum n fun k => g (n - 1 - k)) = rsum n g := by
  induction n generalizing g with
  | zero => rfl
  | succ n ih =>
    rw [rsum_first, rsum_succ, ← ih g]
    have : (rsum n fun k => g (n + 1 - 1 - (k + 1))) = rsum n fun k => g (n - 1 - k) := rsum_congr fun k hk => by rw [show n + 1 - 1 - (k + 1) = n - 1 - k by omega]
    simp only [Nat.add_sub_cancel, Nat.sub_zero] at this ⊢
    omega
/-! ### rounds -/
def ringM (ps : List Pt) (p : Pt) : Int := rsum ps.length fun k => undM ps[k]! ps[(k + 1) % ps.length]! p
theorem ring_eq (ps : List Pt) (p : Pt) : ((sideL ps).map fun s => undM s.1 s.2 p).sum = ringM ps p := by
  unfold sideL ringM rsum
  rw [List.map_map]; rfl
theorem rounds_cons (ps : List Pt) (rs : List (List Pt)) (p : Pt) : roundsM (ps :: rs) p = ringM ps p + roundsM rs p := by
  unfold roundsM sidesM
  rw [List.flatMap_cons, List.map_append, List.sum_append, ring_eq]
theorem rounds_nil (p : Pt) : roundsM [] p = 0 := rfl
theorem rounds_all {rs : List (List Pt)} {f : List Pt → List Pt} {p q : Pt} (z : Int) (h : ∀ ps ∈ rs, ringM (f ps) q = z * ringM ps p) : roundsM (rs.map f) q = z * roundsM rs p := by
  induction rs with
  | nil => simp [rounds_nil]
  | cons ps rs ih =>
    rw [List.map_cons, rounds_cons, rounds_cons, h ps (by simp), ih fun r hr => h r (by simp [hr]), Int.mul_add]
theorem prev_next {n k : Nat} (h : k < n) : ((k + 1) % n + n - 1) % n = k := by
  by_cases e : k + 1 = n
  · rw [e, Nat.mod_self, show 0 + n - 1 = k by omega]; exact Nat.mod_eq_of_lt h
  · rw [Nat.mod_eq_of_lt (show k + 1 < n by omega), show k + 1 + n - 1 = k + n by omega, Nat.add_mod_right]; exact Nat.mod_eq_of_lt h
/-- sides told from the point before -/
theorem ring_back (ps : List Pt) (p : Pt) : (rsum ps.length fun k => undM ps[(k + ps.length - 1) % ps.length]! ps[k]! p) = ringM ps p := by
  unfold ringM
  rw [← rsum_rot]
  refine rsum_congr fun k hk => ?_
  rw [prev_next hk]
theorem ring_rev (ps : List Pt) (p : Pt) : ringM ps.reverse p = -1 * ringM ps p := by
  unfold ringM
  rw [List.length_reverse]
  have e : (rsum ps.length fun k => undM ps.reverse[k]! ps.reverse[(k + 1) % ps.length]! p) = rsum ps.length fun k => (fun j => -(undM ps[ps.length - 1 - j]! ps[(ps.length - 1 - j + 1) % ps.length]! p)) ((k + 1) % ps.length) := by
    refine rsum_congr fun k hk => ?_
    have h2 : (k + 1) % ps.length < ps.length := Nat.mod_lt _ (by omega)
    have r : ∀ j, j < ps.length → ps.reverse[j]! = ps[ps.length - 1 - j]! := fun j hj => by
      rw [getElem!_pos _ _ (by simpa using hj), List.getElem_reverse, getElem!_pos _ _ (by omega)]
    rw [r k hk, r _ h2]
    show undM _ _ p = -(undM _ _ p)
    rw [← und_flip]
    congr 2
    by_cases q : k + 1 = ps.length
    · rw [q, Nat.mod_self, show ps.length - 1 - 0 + 1 = ps.length by omega, Nat.mod_self]; congr 1; omega
    · rw [Nat.mod_eq_of_lt (show k + 1 < ps.length by omega), show ps.length - 1 - (k + 1) + 1 = ps.length - 1 - k by omega, Nat.mod_eq_of_lt (by omega)]
  have r1 := rsum_rot ps.length (fun j => -(undM ps[ps.length - 1 - j]! ps[(ps.length - 1 - j + 1) % ps.length]! p))
  have r2 := rsum_neg ps.length (fun j => undM ps[ps.length - 1 - j]! ps[(ps.length - 1 - j + 1) % ps.length]! p)
  have r3 := rsum_rev ps.length fun j => undM ps[j]! ps[(j + 1) % ps.length]! p
  rw [e, r1, r2, r3]
  omega
theorem und_same (u p : Pt) : undM u u p = 0 := by unfold undM; rw [if_neg (fun h => h.2.1 h.1), if_neg (fun h => h.2.1 h.1)]
theorem ring_quarter {ps : List Pt} {p : Pt} (h : ∀ s ∈ sideL ps, s.1 ≠ s.2 → onS p s.1 s.2 = false) : ringM (ps.map Pt.quarter) p.quarter = ringM ps p := by
  unfold ringM
  rw [List.length_map]
  have z : (rsum ps.length fun k => fA ps[k]! p - fA ps[(k + 1) % ps.length]! p) = 0 := by
    rw [rsum_sub, rsum_rot ps.length fun k => fA ps[k]! p]; omega
  have e : (rsum ps.length fun k => undM ps[k]! ps[(k + 1) % ps.length]! p - undM (ps.map Pt.quarter)[k]! (ps.map Pt.quarter)[(k + 1) % ps.length]! p.quarter) = rsum ps.length fun k => fA ps[k]! p - fA ps[(k + 1) % ps.length]! p := by
    refine rsum_congr fun k hk => ?_
    have h2 : (k + 1) % ps.length < ps.length := Nat.mod_lt _ (by omega)
    have r : ∀ j, j < ps.length → (ps.map Pt.quarter)[j]! = ps[j]!.quarter := fun j hj => by
      rw [getElem!_pos _ _ (by simpa using hj), List.getElem_map, getElem!_pos ps _ hj]
    rw [r k hk, r _ h2]
    by_cases q : ps[k]! = ps[(k + 1) % ps.length]!
    · rw [← q, und_same, und_same]; omega
    · exact und_quarter q (h _ (List.mem_of_getElem? (sideL_get hk)) q)
  rw [rsum_sub, z] at e
  omega
theorem le_int (p q : Pt) : decide (p.a * q.c ≤ q.a * p.c) = decide (p.x ≤ q.x) := by
  have e : ((q.a * p.c - p.a * q.c : Int) : Rat) = (q.x - p.x) * (p.c * q.c) := by
    have h1 := p.xc; have h2 := q.xc
    have e1 : ((q.a * p.c - p.a * q.c : Int) : Rat) = (q.a : Rat) * p.c - p.a * q.c := by rw [Rat.intCast_sub, Rat.intCast_mul, Rat.intCast_mul]
    rw [e1, h1, h2]; grind
  have d : (0 : Rat) < p.c * q.c := Rat.mul_pos p.cqp q.cqp
  have s := sg_int (q := q.x - p.x) d e
  have t := sg_one (q := q.x - p.x)
  by_cases h : p.x ≤ q.x
  · rw [decide_eq_true h, decide_eq_true_eq]
    by_cases w : p.a * q.c ≤ q.a * p.c
    · exact w
    · have : sg (q.x - p.x) = -1 := by rw [s, if_neg (by omega), if_pos (by omega)]
      have := t.2.mp this
      grind
  · rw [decide_eq_false h, decide_eq_false_iff_not]
    intro w
    have n : q.x - p.x < 0 := by grind
    have := t.2.mpr n
    rw [s] at this
    split at this
    · omega
    · split at this <;> omega
end Py

set_option Elab.async false
set_option linter.all false
set_option autoImplicit false
set_option maxRecDepth 100000
set_option maxHeartbeats 4000000
namespace Py
open PySem hiding start
open L2
open Evl (Ex ex_rd ex_l ex_t fresh_back)
open Classical
/-! ### a list that is lent for one call: ys ahead of it, I after it -/
structure Lend2 {K : PySem.W.Frag} (c c' : Ctx K) (p l : Addr) (ys : List PyData) (I : List PyData → Prop) : Prop where
  L : c'.L = c.L
  B : c'.B = c.B
  ex : ∃ (ls : Addr) (ns : List Int), (c.L p ∧ c.L ls ∧ c.L l) ∧ (l ≠ p ∧ l ≠ ls) ∧
    (∀ H, c.W H → HandAt H p ls ns ∧ ∃ vs, H l = some (.lst vs) ∧ DpAll K (noL H) vs ys ∧ flatDs ys = true) ∧
    (∀ H H', c.W H → HandAt H' p ls ns → (∀ a, a ≠ p → H' a = H a) → c.W H') ∧
    (∀ H H' vs zs, c.W H → H' l = some (.lst vs) → DpAll K (noL H') vs zs → flatDs zs = true → I zs → (∀ a, a ≠ l → H' a = H a) → c'.W H')
def Ws2 {K : PySem.W.Frag} (c c' : Ctx K) (t : TS) (ρ : Rho) (E : DE) : Prop := ∀ D σ H, EOk c' E D → Ok c ρ σ H → t D σ H
abbrev PT2 (K : PySem.W.Frag) := Ctx K → Ctx K → List Dv → (Dv → Prop) → Prop
def spD2 (K : PySem.W.Frag) (P : PT2 K) : Sp := fun vs H Q _ => ∃ (c c' : Ctx K) (xs : List Dv) (k : Dv → Prop), c.W H ∧ c.B = hid c.L H ∧ DvAll K c.B vs xs ∧ P c c' xs k ∧
  ∀ v y H', c'.W H' → Ex c'.B (hid c'.L H') → DvOk K (hid c'.L H') v y → k y → Q v H'
def noE (N : Rho → Prop) : DE := ⟨N, fun _ => False, fun _ => False, fun _ => False⟩
section
variable {K : PySem.W.Frag} {c c' : Ctx K} {ρ : Rho} {E : DE} {k : Dv → Prop} {ta : TA} {tb te : TE} {t u tb' : TS} {p l : Addr} {ys : List PyData} {I : List PyData → Prop}
theorem spD2_len {P : PT2 K} {n : Nat} (hp : ∀ (c c' : Ctx K) xs k, P c c' xs k → xs.length = n) : ∀ vs H Q X, spD2 K P vs H Q X → vs.length = n := fun vs H Q X ⟨c, c', xs, k, _, _, d, p, _⟩ => (dva_len d).trans (hp c c' xs k p)
theorem run_spD2 {P : PT2 K} {vs : List V} {H : Hp} {Q : VK} {X : XK} {N : List Str} (h : spD2 K P vs H Q X)
    (hw : ∀ (c c' : Ctx K) xs k, P c c' xs k → xs.length ≤ N.length ∧ Ws2 c c' t (startR N.length xs) ⟨fun _ => k (.d .none), k, fun _ => False, fun _ => False⟩) :
    t { nx := fun _ H' => Q .non H', rt := Q } (start N vs) H := by
  obtain ⟨c, c', xs, k, w, b, d, p, q⟩ := h
  obtain ⟨hl, hw⟩ := hw c c' xs k p
  exact hw _ _ _ ⟨fun ρ σ H' o z => q .non (.d .none) H' o.w o.b Dp.non z, fun v x H w b d z => q v x H w b d z, fun _ _ _ _ z => z.elim, fun _ _ _ _ z => z.elim⟩ (start_ok w b d hl)
theorem ws2_assoc {t1 t2 t3 : TS} (h : Ws2 c c' (tSeq (tSeq t1 t2) t3) ρ E) : Ws2 c c' (tSeq t1 (tSeq t2 t3)) ρ E := h
theorem Ok.unl2 {σ : L2.St} {H : Hp} (o : Ok c ρ σ H) (h3 : c.L l) {i : Nat} (h : ρ[i]? = some (.val (.r (.ref l)))) {vs : List V} {ys : List PyData} (hl : H l = some (.lst vs)) (hd : DpAll K (Py.noL H) vs ys) : Ok (c.unl l vs) (ρ.set i (.own l ys)) σ H := by
  have hil : i < ρ.length := (List.getElem?_eq_some_iff.mp h).1
  have keep : ∀ a, Owns ρ a → Owns (ρ.set i (.own l ys)) a := fun a z => owns_keep (by rw [h]; rfl) z
  have same : ∀ a, Hid (c.unl l vs) (ρ.set i (.own l ys)) a ↔ Hid c ρ a := fun a => by
    constructor
    · rintro (z | z)
      · exact .inl z.1
      · rcases owns_set z with z | ⟨zs, q⟩
        · exact .inr z
        · cases q; exact .inl h3
    · rintro (z | z)
      · by_cases q : a = l
        · subst q
          exact .inr ⟨ys, List.mem_of_getElem? (i := i) (List.getElem?_set_self hil)⟩
        · exact .inl ⟨z, q⟩
      · exact .inr (keep a z)
  have sv : ∀ H', vis (c.unl l vs) (ρ.set i (.own l ys)) H' = vis c ρ H' := fun H' => by
    unfold vis
    congr 1
    funext a
    exact propext (same a)
  have bl : c.B l = none := by
    cases z : c.B l with
    | none => rfl
    | some ob => exact absurd h3 (hid_some (o.b l ob z)).1
  have no : ∀ {j : Nat} {us : OwnC}, ρ[j]? = some (.own l us) → False := fun hj => (o.ob l ⟨_, List.mem_of_getElem? hj⟩).2 h3
  refine ⟨by show c.W (upd H l (.lst vs)); rw [upd_self hl]; exact o.w, fun a ob z => hid_less (fun b hb => hb.1) a ob (o.b a ob z), fun a z => ?_, fun j s hs => ?_, fun j j' a us zs hs hs' => ?_, by simp [o.len]⟩
  · rcases owns_set z with z | ⟨zs, q⟩
    · exact ⟨(o.ob a z).1, fun w => (o.ob a z).2 w.1⟩
    · cases q; exact ⟨bl, fun w => w.2 rfl⟩
  · rw [sv H]
    rcases List_set_get hs with ⟨rfl, rfl, _⟩ | ⟨ne, hs⟩
    · obtain ⟨u, q, v, rfl, dv⟩ := o.sl i _ h
      have dv : v = .ref l := dv
      subst dv
      exact ⟨_, q, _, rfl, hl, vs, rfl, dpa_mono o.noL _ _ hd⟩
    · exact o.sl j s hs
  · rcases List_set_get hs with ⟨r1, q1, _⟩ | ⟨ne, hs⟩
    · cases q1
      rcases List_set_get hs' with ⟨r2, q2, _⟩ | ⟨ne', hs'⟩
      · exact r1.symm.trans r2
      · exact (no hs').elim
    · rcases List_set_get hs' with ⟨r2, q2, _⟩ | ⟨ne', hs'⟩
      · cases q2; exact (no hs).elim
      · exact o.one _ _ _ _ _ hs hs'
theorem Ok.back2 {σ : L2.St} {H : Hp} {vs0 : List V} {i : Nat} {zs : List PyData} (N : Lend2 c c' p l ys I) (bl : c.B l = none) (o : Ok (c.unl l vs0) ρ σ H) (h : ρ[i]? = some (.own l zs)) (hf : flatDs zs = true) (hI : I zs) : Ok c' (ρ.set i (.val (.r (.ref l)))) σ H := by
  obtain ⟨ls, ns, ⟨h1, h2, h3⟩, ⟨n1, n2⟩, h4, h5, h6⟩ := N.ex
  obtain ⟨vs, e1, hl, d1⟩ := o.own h
  have w : c'.W H := h6 _ H vs zs o.w hl (dpa_mono noL_hid _ _ (dpa_noL zs vs hf d1)) hf hI fun a na => (upd_ne na).symm
  have hd : ∀ a, Hid c' (ρ.set i (.val (.r (.ref l)))) a → Hid (c.unl l vs0) ρ a := fun a z => by
    rcases z with z | z
    · rw [N.L] at z
      by_cases q : a = l
      · subst q; exact .inr ⟨zs, List.mem_of_getElem? h⟩
      · exact .inl ⟨z, q⟩
    · exact .inr (own_other o h rfl z).1
  have ev : Ex (vis (c.unl l vs0) ρ H) (vis c' (ρ.set i (.val (.r (.ref l)))) H) := hid_less hd
  refine ⟨w, fun a ob z => ?_, fun a z => ?_, fun j s hs => ?_, fun j j' a us zs hs hs' => ?_, by simp [o.len]⟩
  · rw [N.B] at z
    obtain ⟨n, z'⟩ := hid_some (o.b a ob z)
    refine (hid_neg fun q => ?_).trans z'
    rw [N.L] at q
    by_cases r : a = l
    · subst r; rw [bl] at z; cases z
    · exact n ⟨q, r⟩
  · obtain ⟨z1, ne⟩ := own_other o h rfl z
    refine ⟨?_, fun q => ?_⟩
    · rw [N.B]; exact (o.ob a z1).1
    · rw [N.L] at q; exact (o.ob a z1).2 ⟨q, ne⟩
  · rcases List_set_get hs with ⟨rfl, rfl, _⟩ | ⟨ne, hs⟩
    · exact ⟨_, e1, .ref l, rfl, rfl⟩
    · obtain ⟨u, q, z⟩ := o.sl j s hs
      refine ⟨u, q, ?_⟩
      cases s with
      | un => trivial
      | val y => obtain ⟨w, e1, e2⟩ := z; exact ⟨w, e1, dv_mono ev e2⟩
      | own m ys => obtain ⟨ws, e1, e2, e3⟩ := z; exact ⟨ws, e1, e2, own_mono ev _ _ e3⟩
  · rcases List_set_get hs with ⟨_, q, _⟩ | ⟨_, hs⟩
    · cases q
    · rcases List_set_get hs' with ⟨_, q, _⟩ | ⟨_, hs'⟩
      · cases q
      · exact o.one _ _ _ _ _ hs hs'
theorem Lend2.unl (N : Lend2 c c' p l ys I) (vs : List V) : HandIn (c.unl l vs) p := by
  obtain ⟨ls, ns, ⟨h1, h2, h3⟩, ⟨n1, n2⟩, h4, h5, h6⟩ := N.ex
  refine ⟨⟨h1, n1.symm⟩, ls, ns, ⟨h2, n2.symm⟩, fun H w => ?_, fun H H' w ha hk => ?_⟩
  · obtain ⟨⟨⟨i, pool, left, a, b, g, r⟩, g2, g3⟩, _⟩ := h4 _ w
    rw [upd_ne n1.symm] at g
    rw [upd_ne n2.symm] at g2
    exact ⟨⟨i, pool, left, a, b, g, r⟩, g2, g3⟩
  · obtain ⟨⟨i, pool, left, a, b, g, r⟩, g2, g3⟩ := ha
    refine h5 _ _ w ⟨⟨i, pool, left, a, b, (upd_ne n1.symm).trans g, r⟩, (upd_ne n2.symm).trans g2, g3⟩ fun a na => ?_
    by_cases z : a = l
    · subst z; rw [upd_same, upd_same]
    · rw [upd_ne z, upd_ne z]; exact hk a na
/-- in the def that is lent the list: its own within t -/
theorem ws2_take {i : Nat} (h : ρ[i]? = some (.val (.r (.ref l)))) (N : Lend2 c c' p l ys I) (M : Rho → Prop)
    (ht : ∀ c2 : Ctx K, HandIn c2 p → flatDs ys = true → Ws c2 t (ρ.set i (.own l ys)) (noE fun ρ' => ∃ zs : List PyData, ρ'[i]? = some (.own l zs) ∧ flatDs zs = true ∧ I zs ∧ M (ρ'.set i (.val (.r (.ref l))))))
    (hu : ∀ ρ', M ρ' → Ws c' u ρ' E) : Ws2 c c' (tSeq t u) ρ E := fun D σ H e o => by
  obtain ⟨ls, ns, ⟨h1, h2, h3⟩, n, h4, h5, h6⟩ := N.ex
  obtain ⟨_, vs, hl, hd, hf⟩ := h4 H o.w
  have bl : c.B l = none := by
    cases z : c.B l with
    | none => rfl
    | some ob => exact absurd h3 (hid_some (o.b l ob z)).1
  refine ht (c.unl l vs) (N.unl vs) hf { D with nx := u D } σ H ⟨fun ρ' σ' H' o' ⟨zs, g1, g2, g3, g4⟩ => ?_, fun _ _ _ _ _ _ z => z.elim, fun _ _ _ _ z => z.elim, fun _ _ _ _ z => z.elim⟩ (o.unl2 h3 h hl hd)
  exact hu _ g4 D σ' H' e (Ok.back2 N bl o' g1 g2 g3)
/-! ### the caller -/
noncomputable def Ctx.shut2 (c : Ctx K) (ρ : Rho) (H : Hp) (dom : ∀ a, Hid c ρ a → ∃ o, H a = some o ∧ isMut o = true) : Ctx K where
  B := vis c ρ H
  L := Hid c ρ
  W := fun H' => c.W H' ∧ ∀ a, Owns ρ a → H' a = H a
  loc := fun H1 H2 e t h => ⟨c.loc H1 H2 (fun a ha => e a (.inl ha)) t h.1, fun a ha => (e a (.inr ha)).trans (h.2 a ha)⟩
  dom := fun H1 h a ha => ha.elim (c.dom H1 h.1 a) fun z => by rw [h.2 a z]; exact dom a (.inr z)
theorem Ok.lend {σ : L2.St} {H : Hp} (o : Ok c ρ σ H) {i : Nat} {xs : List PyData} (h : ρ[i]? = some (.own l xs)) (hf : flatDs xs = true) (hI : I xs) : Ok (c.lend l I) (ρ.set i (.val (.r (.ref l)))) σ H := by
  obtain ⟨vs, e1, h1, d1⟩ := o.own h
  have ol : Owns ρ l := ⟨xs, List.mem_of_getElem? h⟩
  obtain ⟨bl, nl⟩ := o.ob l ol
  have iff : ∀ a, Hid (c.lend l I) (ρ.set i (.val (.r (.ref l)))) a → Hid c ρ a := fun a z => by
    rcases z with (z | z) | z
    · exact .inl z
    · exact .inr (z ▸ ol)
    · exact .inr (own_other o h rfl z).1
  have ev : Ex (vis c ρ H) (vis (c.lend l I) (ρ.set i (.val (.r (.ref l)))) H) := hid_less iff
  refine ⟨⟨o.w, vs, xs, h1, dpa_mono noL_hid _ _ (dpa_noL xs vs hf d1), hf, hI⟩, fun a ob z => ?_, fun a z => ?_, fun j s hs => ?_, fun j j' a ys zs hs hs' => ?_, by simp [o.len]⟩
  · obtain ⟨n, z'⟩ := hid_some (o.b a ob z)
    refine (hid_neg ?_).trans z'
    rintro (w | w)
    · exact n w
    · have z : c.B a = some ob := z
      rw [w, bl] at z; cases z
  · obtain ⟨z1, ne⟩ := own_other o h rfl z
    exact ⟨(o.ob a z1).1, fun w => w.elim (o.ob a z1).2 ne⟩
  · rcases List_set_get hs with ⟨rfl, rfl, _⟩ | ⟨ne, hs⟩
    · exact ⟨_, e1, .ref l, rfl, rfl⟩
    · obtain ⟨u, q, z⟩ := o.sl j s hs
      refine ⟨u, q, ?_⟩
      cases s with
      | un => trivial
      | val y => obtain ⟨w, e1, e2⟩ := z; exact ⟨w, e1, dv_mono ev e2⟩
      | own m ys => obtain ⟨ws, e1, e2, e3⟩ := z; exact ⟨ws, e1, e2, own_mono ev _ _ e3⟩
  · rcases List_set_get hs with ⟨_, q, _⟩ | ⟨_, hs⟩
    · cases q
    · rcases List_set_get hs' with ⟨_, q, _⟩ | ⟨_, hs'⟩
      · cases q
      · exact o.one _ _ _ _ _ hs hs'
theorem Ok.unlend {σ : L2.St} {H : Hp} (bl : c.B l = none) (nl : ¬ c.L l) (o : Ok (c.lend l I) ρ σ H) {i : Nat} (hi : ρ[i]? = some (.val (.r (.ref l)))) : ∃ ys, flatDs ys = true ∧ I ys ∧ Ok c (ρ.set i (.own l ys)) σ H := by
  obtain ⟨w', vs', ys, g1, g2, g3, g4⟩ := o.w
  refine ⟨ys, g3, g4, ?_⟩
  have hil' : i < ρ.length := (List.getElem?_eq_some_iff.mp hi).1
  have hid2 : ∀ a, Hid c (ρ.set i (.own l ys)) a → Hid (c.lend l I) ρ a := fun a z => by
    rcases z with z | z
    · exact .inl (.inl z)
    · rcases owns_set z with z | ⟨zs, q⟩
      · exact .inr z
      · cases q; exact .inl (.inr rfl)
  have ev : Ex (vis (c.lend l I) ρ H) (vis c (ρ.set i (.own l ys)) H) := hid_less hid2
  refine ⟨w', fun a ob z => hid_less (fun b hb => .inl hb) a ob (o.b a ob z), fun a z => ?_, fun j s hs => ?_, fun j j' a us zs hs hs' => ?_, by simp [o.len]⟩
  · rcases owns_set z with z | ⟨zs, q⟩
    · exact ⟨(o.ob a z).1, fun w => (o.ob a z).2 (.inl w)⟩
    · cases q; exact ⟨bl, nl⟩
  · rcases List_set_get hs with ⟨rfl, rfl, _⟩ | ⟨ne, hs⟩
    · obtain ⟨u, q, v, rfl, dv⟩ := o.sl i _ hi
      have dv : v = .ref l := dv
      subst dv
      exact ⟨_, q, _, rfl, g1, vs', rfl, dpa_mono (o.noL.trans ev) _ _ g2⟩
    · obtain ⟨u, q, z⟩ := o.sl j s hs
      refine ⟨u, q, ?_⟩
      cases s with
      | un => trivial
      | val y => obtain ⟨w, e1, e2⟩ := z; exact ⟨w, e1, dv_mono ev e2⟩
      | own m ys => obtain ⟨ws, e1, e2, e3⟩ := z; exact ⟨ws, e1, e2, own_mono ev _ _ e3⟩
  · have no : ∀ {j : Nat} {us : OwnC}, ρ[j]? = some (.own l us) → False := fun hj => (o.ob l ⟨_, List.mem_of_getElem? hj⟩).2 (.inr rfl)
    rcases List_set_get hs with ⟨r1, q1, _⟩ | ⟨ne, hs⟩
    · cases q1
      rcases List_set_get hs' with ⟨r2, q2, _⟩ | ⟨ne', hs'⟩
      · exact r1.symm.trans r2
      · exact (no hs').elim
    · rcases List_set_get hs' with ⟨r2, q2, _⟩ | ⟨ne', hs'⟩
      · cases q2; exact (no hs).elim
      · exact o.one _ _ _ _ _ hs hs'
theorem lent_lend (HI : HandIn c p) (nl : ¬ c.L l) : Lent (c.lend l I) p l I := by
  obtain ⟨ls, ns, cls, hW, put⟩ := HI.ex
  have lpn : l ≠ p := fun z => nl (z ▸ HI.L)
  have lln : l ≠ ls := fun z => nl (z ▸ cls)
  exact ⟨ls, ns, ⟨.inl HI.L, .inl cls, .inr rfl⟩, ⟨lpn, lln⟩, fun H w => ⟨hW H w.1, w.2⟩, fun H H' w ha hk => by
    obtain ⟨us, hu⟩ := (hW H w.1).lst
    obtain ⟨w0, vs, ys, g1, g2, g3⟩ := w
    exact ⟨put H H' w0 ha hk, vs, ys, (hk l lpn).trans g1, dpa_mono (noL_tp (tp_put hu hk)) _ _ g2, g3⟩, fun H H' vs ys w hl hd hf hI hk => by
    obtain ⟨w0, us, _, g1, _⟩ := w
    exact ⟨c.loc H H' (fun a ha => hk a fun z => nl (z ▸ ha)) (tp_put g1 hk) w0, vs, ys, hl, hd, hf, hI⟩⟩
theorem lend2_shut (HI : HandIn c p) (nl : ¬ c.L l) {J : List PyData → Prop} (hJ : ∀ zs, J zs → zs = ys) {H : Hp} {d1 : ∀ a, Hid (c.lend l J) ρ a → ∃ o, H a = some o ∧ isMut o = true} {d2 : ∀ a, Hid (c.lend l I) ρ a → ∃ o, H a = some o ∧ isMut o = true}
    (ob : ∀ a, Owns ρ a → ¬ (c.L a ∨ a = l)) : Lend2 ((c.lend l J).shut2 ρ H d1) ((c.lend l I).shut2 ρ H d2) p l ys I := by
  obtain ⟨ls, ns, ⟨h1, h2, h3⟩, ⟨n1, n2⟩, h4, h5, h6⟩ := (lent_lend (I := J) HI nl).ex
  refine ⟨rfl, rfl, ls, ns, ⟨.inl h1, .inl h2, .inl h3⟩, ⟨n1, n2⟩, fun H1 w => ?_, fun H1 H2 w ha hk => ⟨h5 H1 H2 w.1 ha hk, fun a z => (hk a fun q => ob a z (.inl (q ▸ HI.L))).trans (w.2 a z)⟩, fun H1 H2 vs zs w hl hd hf hI hk => ⟨?_, fun a z => (hk a fun q => ob a z (.inr q)).trans (w.2 a z)⟩⟩
  · obtain ⟨g1, vs, zs, g2, g3, g4, g5⟩ := h4 H1 w.1
    obtain rfl := hJ zs g5
    exact ⟨g1, vs, g2, g3, g4⟩
  · obtain ⟨w0, us, _, g1, _⟩ := w.1
    exact ⟨c.loc H1 H2 (fun a ha => hk a fun z => nl (z ▸ ha)) (tp_put g1 hk) w0, vs, zs, hl, hd, hf, hI⟩
theorem ws_appLend {i j : Nat} {li : Addr} {xs : List PyData} {P : PT2 K} {X : XK} (I : List PyData → Prop) (hi : ρ[i]? = some (.own li xs)) (hj : ρ[j]? = some (.own l ys)) (hij : i ≠ j) (HI : HandIn c p) (hf : flatDs ys = true) (hz : xs.length < 100000)
    (ht : ∀ c2 : Ctx K, HandIn c2 p → Wa c2 ta (ρ.set j (.val (.r (.ref l)))) fun zs => ∀ c3 c3' : Ctx K, Lend2 c3 c3' p l ys I → P c3 c3' zs fun y => ∃ d, y = .d d ∧ ∀ ys', flatDs ys' = true → I ys' → E.nx ((ρ.set i (.own li (xs ++ [d]))).set j (.own l ys'))) :
    Ws c (tDrop (tBM K "list" rAppend (tVar i) (tCons (tCall (spD2 K P) [] X ta) tNil))) ρ E := fun D σ H e o => by
  obtain ⟨vs, e1, h1, d1⟩ := o.own hi
  have ol : Owns ρ l := ⟨ys, List.mem_of_getElem? hj⟩
  obtain ⟨bl, nl⟩ := o.ob l ol
  have o2 : Ok (c.lend l (· = ys)) (ρ.set j (.val (.r (.ref l)))) σ H := o.lend hj hf rfl
  have hi2 : (ρ.set j (.val (.r (.ref l))))[i]? = some (.own li xs) := by rw [List.getElem?_set_ne (Ne.symm hij)]; exact hi
  have hjl : j < ρ.length := (List.getElem?_eq_some_iff.mp hj).1
  have hj2 : (ρ.set j (.val (.r (.ref l))))[j]? = some (.val (.r (.ref l))) := List.getElem?_set_self hjl
  refine ⟨_, e1, .inl ⟨rfl, _, .inl (.inl h1)⟩, ?_⟩
  refine ht _ (lent_lend HI nl).hand σ H _ o2 fun ws zs H1 o3 s3 d3 h3 => ?_
  rw [List.append_nil]
  have m2 : ∀ a, Hid (c.lend l I) (ρ.set j (.val (.r (.ref l)))) a → ∃ o, H1 a = some o ∧ isMut o = true := fun a z => o3.mut z
  refine ⟨(c.lend l (· = ys)).shut2 _ H1 fun a z => o3.mut z, (c.lend l I).shut2 _ H1 m2, zs, _, ⟨o3.w, fun _ _ => rfl⟩, rfl, d3, h3 _ _ (lend2_shut HI nl (fun zs h => h) fun a z => (o3.ob a z).2), fun v y H' w b dv ⟨d, hy, hk⟩ => ?_⟩
  subst hy
  have o4 : Ok (c.lend l I) (ρ.set j (.val (.r (.ref l)))) σ H' := by
    refine ⟨w.1, fun a ob z => vis_out (c := c.lend l I) (ρ := ρ.set j (.val (.r (.ref l)))) a ob (b a ob (o3.base a ob z)), fun a z => o3.ob a z, fun n s hs => ?_, o3.one, o3.len⟩
    obtain ⟨u, q, z⟩ := o3.sl n s hs
    refine ⟨u, q, ?_⟩
    cases s with
    | un => trivial
    | val y => obtain ⟨w, e1, e2⟩ := z; exact ⟨w, e1, dv_mono b e2⟩
    | own m ys => obtain ⟨ws, e1, e2, e3⟩ := z; exact ⟨ws, e1, (w.2 m ⟨_, List.mem_of_getElem? hs⟩).trans e2, own_mono b _ _ e3⟩
  have A := ws_app (c := (c.lend l I).at (vis (c.lend l I) (ρ.set j (.val (.r (.ref l)))) H')) (te := fun _ H0 Q0 => Q0 v H0) (E := noE fun ρ' => ρ' = (ρ.set j (.val (.r (.ref l)))).set i (.own li (xs ++ [d]))) hi2 hz (fun σ0 H0 Q0 o0 q0 => q0 v (.d d) H0 o0 (Stp.refl _) (dp_mono o0.base _ _ dv) ⟨d, rfl, rfl⟩) D σ H' ⟨fun ρ' σ' H2 o' z => by
      subst z
      have o5 := ok_at o4.base o'
      obtain ⟨ys', f', i', o6⟩ := o5.unlend bl nl (i := j) (by rw [List.getElem?_set_ne hij]; exact hj2)
      refine e.nx _ σ' H2 o6 ?_
      have := hk ys' f' i'
      rw [List.set_comm _ _ (Ne.symm hij), List.set_set]
      exact this, fun _ _ _ _ _ _ z => z.elim, fun _ _ _ _ z => z.elim, fun _ _ _ _ z => z.elim⟩ o4.at'
  obtain ⟨u, q1, A⟩ := A
  rw [e1] at q1
  cases q1
  exact A.2
end
end Py

set_option Elab.async false
set_option linter.all false
set_option autoImplicit false
set_option maxRecDepth 100000
set_option maxHeartbeats 4000000
namespace Py
open PySem hiding start
open L2
open Classical
/-! ### points whose bottom divides 6 * 2 ^ n -/
def dn (n : Nat) : Int := 6 * 2 ^ n
theorem dn_pos (n : Nat) : 0 < dn n := by unfold dn; have : (0 : Int) < 2 ^ n := Int.pow_pos (by decide); omega
theorem dn_succ (n : Nat) : dn (n + 1) = 2 * dn n := by unfold dn; rw [Int.pow_succ]; omega
theorem dn_q (n : Nat) : (0 : Rat) < (dn n : Rat) := Rat.intCast_pos.mpr (dn_pos n)
structure LoN (n : Nat) (p : Pt) (a b : Int) : Prop where
  x : p.x * (dn n : Rat) = (a : Rat)
  y : p.y * (dn n : Rat) = (b : Rat)
  a : (a.natAbs : Int) ≤ (9 + n) * dn n
  b : (b.natAbs : Int) ≤ (9 + n) * dn n
def Lo (n : Nat) (p : Pt) : Prop := ∃ a b, LoN n p a b
theorem Lo.mk' {n : Nat} {p : Pt} {a b s t : Int} (hx : p.x * (dn (n + 1) : Rat) = (a : Rat)) (hy : p.y * (dn (n + 1) : Rat) = (b : Rat)) (ha : (a.natAbs : Int) ≤ 2 * ((9 + n) * dn n) + 2 * dn n) (hb : (b.natAbs : Int) ≤ 2 * ((9 + n) * dn n) + 2 * dn n) : Lo (n + 1) p := by
  have e : (9 + ((n + 1 : Nat) : Int)) * dn (n + 1) = 2 * ((9 + n) * dn n) + 2 * dn n := by
    rw [dn_succ]
    have : ((n + 1 : Nat) : Int) = n + 1 := by omega
    rw [this]
    generalize dn n = d
    grind
  exact ⟨a, b, hx, hy, by rw [e]; exact ha, by rw [e]; exact hb⟩
theorem two_dn (n : Nat) : (dn (n + 1) : Rat) = 2 * (dn n : Rat) := by rw [dn_succ, Rat.intCast_mul]; rfl
theorem Lo.up {n : Nat} {p : Pt} (h : Lo n p) : Lo (n + 1) p := by
  obtain ⟨a, b, hx, hy, ha, hb⟩ := h
  have d := dn_pos n
  refine Lo.mk' (a := 2 * a) (b := 2 * b) (s := 0) (t := 0) ?_ ?_ (by omega) (by omega)
  · rw [two_dn, Rat.intCast_mul, ← hx]; grind
  · rw [two_dn, Rat.intCast_mul, ← hy]; grind
theorem Lo.le {n m : Nat} {p : Pt} (h : Lo n p) (e : n ≤ m) : Lo m p := by
  obtain ⟨k, rfl⟩ := Nat.le.dest e
  induction k with
  | zero => exact h
  | succ k ih => exact (ih (by omega)).up
theorem Lo.mid {n : Nat} {p q : Pt} (h : Lo n p) (g : Lo n q) : Lo (n + 1) (midM p q) := by
  obtain ⟨a, b, hx, hy, ha, hb⟩ := h
  obtain ⟨a', b', hx', hy', ha', hb'⟩ := g
  obtain ⟨mx, my⟩ := mid_xy p q
  have d := dn_pos n
  refine Lo.mk' (a := a + a') (b := b + b') (s := 0) (t := 0) ?_ ?_ (by omega) (by omega)
  · rw [two_dn, mx, Rat.intCast_add, ← hx, ← hx']; grind
  · rw [two_dn, my, Rat.intCast_add, ← hy, ← hy']; grind
theorem Lo.step {n : Nat} {p : Pt} (h : Lo n p) : Lo (n + 1) (ptBy (p.a + p.c) p.b p.c p.c_ne) ∧ (ptBy (p.a + p.c) p.b p.c p.c_ne).x = p.x + 1 := by
  obtain ⟨a, b, hx, hy, ha, hb⟩ := h
  obtain ⟨mx, my⟩ := ptBy_x (a := p.a + p.c) (b := p.b) p.c_ne
  have cq := p.cq
  have ex : (ptBy (p.a + p.c) p.b p.c p.c_ne).x = p.x + 1 := by rw [mx, divInt_q, Rat.intCast_add, p.xc]; grind
  have ey : (ptBy (p.a + p.c) p.b p.c p.c_ne).y = p.y := my
  have d := dn_pos n
  refine ⟨Lo.mk' (a := 2 * a + 2 * dn n) (b := 2 * b) (s := 0) (t := 0) ?_ ?_ (by omega) (by omega), ex⟩
  · rw [two_dn, ex, Rat.intCast_add, Rat.intCast_mul, Rat.intCast_mul, ← hx]; grind
  · rw [two_dn, ey, Rat.intCast_mul, ← hy]; grind
theorem Lo.fresh {a b c : Int} (a0 : 0 ≤ a) (a1 : a < 9) (b0 : 0 ≤ b) (b1 : b < 9) (c0 : 1 ≤ c) (c1 : c < 4) (hc : c ≠ 0) : Lo 0 (ptBy a b c hc) := by
  obtain ⟨mx, my⟩ := ptBy_x (a := a) (b := b) hc
  have e : dn 0 = 6 := by decide
  have h : c = 1 ∨ c = 2 ∨ c = 3 := by omega
  rcases h with rfl | rfl | rfl
  · refine ⟨a * 6, b * 6, ?_, ?_, by rw [e]; omega, by rw [e]; omega⟩
    · rw [mx, e, divInt_q, Rat.intCast_mul]; show (a : Rat) / 1 * 6 = (a : Rat) * 6; grind
    · rw [my, e, divInt_q, Rat.intCast_mul]; show (b : Rat) / 1 * 6 = (b : Rat) * 6; grind
  · refine ⟨a * 3, b * 3, ?_, ?_, by rw [e]; omega, by rw [e]; omega⟩
    · rw [mx, e, divInt_q, Rat.intCast_mul]; show (a : Rat) / 2 * 6 = (a : Rat) * 3; grind
    · rw [my, e, divInt_q, Rat.intCast_mul]; show (b : Rat) / 2 * 6 = (b : Rat) * 3; grind
  · refine ⟨a * 2, b * 2, ?_, ?_, by rw [e]; omega, by rw [e]; omega⟩
    · rw [mx, e, divInt_q, Rat.intCast_mul]; show (a : Rat) / 3 * 6 = (a : Rat) * 2; grind
    · rw [my, e, divInt_q, Rat.intCast_mul]; show (b : Rat) / 3 * 6 = (b : Rat) * 2; grind
theorem Lo.S {n : Nat} {p : Pt} (h : Lo n p) (hn : n ≤ 200) : ptS 300 p := by
  obtain ⟨a, b, hx, hy, ha, hb⟩ := h.le hn
  have d0 : dn 200 ≠ 0 := by have := dn_pos 200; omega
  have dq := dn_q 200
  have e : ptBy a b (dn 200) d0 = p := ptBy_eq d0 (by rw [divInt_q, ← hx]; generalize (dn 200 : Rat) = d at *; grind) (by rw [divInt_q, ← hy]; generalize (dn 200 : Rat) = d at *; grind)
  rw [← e]
  have k1 : (9 + ((200 : Nat) : Int)) * dn 200 < ((2 ^ 300 : Nat) : Int) := by decide
  have k2 : (dn 200).natAbs < 2 ^ 300 := by decide
  exact (ptB_by d0 (by decide) (by omega) (by omega) k2).S
theorem shp_sd {n : Nat} (s : Pt × Pt) : Shp (n + 2) (sdD s) := shp_tup (fun d hd => by
  rcases List.mem_cons.mp hd with rfl | hd
  · exact shp_pt _
  · rcases List.mem_cons.mp hd with rfl | hd
    · exact shp_pt _
    · cases hd) (Nat.le_of_ble_eq_true rfl)
theorem shp_sds {n : Nat} {L : List (Pt × Pt)} (h : L.length ≤ 100000) : Shp (n + 3) (.list (L.map sdD)) := shp_mapL (fun s _ => shp_sd s) h
theorem sides_len {rs : List (List Pt)} {m n : Nat} (h : ∀ ps ∈ rs, ps.length ≤ m) (hn : rs.length ≤ n) : (sidesM rs).length ≤ n * m := by
  have : (sidesM rs).length ≤ rs.length * m := by
    clear hn
    induction rs with
    | nil => simp [sidesM]
    | cons ps rs ih =>
      have e : sidesM (ps :: rs) = sideL ps ++ sidesM rs := by simp [sidesM]
      have := ih fun q hq => h q (by simp [hq])
      have := h ps (by simp)
      rw [e, List.length_append, sideL_len, List.length_cons, Nat.succ_mul]
      omega
  exact Nat.le_trans this (Nat.mul_le_mul_right _ hn)
theorem sides_take {rs : List (List Pt)} {i : Nat} {ps : List Pt} (h : rs[i]? = some ps) : sidesM (rs.take (i + 1)) = sidesM (rs.take i) ++ sideL ps := by
  unfold sidesM
  rw [List.take_add_one, h]; simp
theorem side_take {ps : List Pt} {k : Nat} (h : k < ps.length) : (sideL ps).take (k + 1) = (sideL ps).take k ++ [(ps[k]!, ps[(k + 1) % ps.length]!)] := by
  rw [List.take_add_one, sideL_get h]; rfl
theorem rounds_take {rs : List (List Pt)} {i : Nat} {ps : List Pt} {p : Pt} (h : rs[i]? = some ps) : roundsM (rs.take (i + 1)) p = roundsM (rs.take i) p + ringM ps p := by
  unfold roundsM
  rw [sides_take h, List.map_append, List.sum_append, ring_eq]
theorem side_mem {rs : List (List Pt)} {s : Pt × Pt} (h : s ∈ sidesM rs) : ∃ ps ∈ rs, s ∈ sideL ps ∧ s.1 ∈ ps ∧ s.2 ∈ ps := by
  obtain ⟨ps, h1, h2⟩ := List.mem_flatMap.mp h
  obtain ⟨k, hk⟩ := List.mem_iff_getElem?.mp h2
  have hlt : k < ps.length := by
    have := (List.getElem?_eq_some_iff.mp hk).1
    rwa [sideL_len] at this
  rw [sideL_get hlt] at hk
  cases hk
  exact ⟨ps, h1, h2, (mem_at hlt).1, mem_next hlt⟩
theorem Lend2.imp {K : PySem.W.Frag} {c c' : Ctx K} {p l : Addr} {ys : List PyData} {I J : List PyData → Prop} (N : Lend2 c c' p l ys I) (h : ∀ ys, J ys → I ys) : Lend2 c c' p l ys J := by
  obtain ⟨ls, ns, h1, h2, h3, h4, h5⟩ := N.ex
  exact ⟨N.L, N.B, ls, ns, h1, h2, h3, h4, fun H H' vs zs w hl hd hf hI => h5 H H' vs zs w hl hd hf (h zs hI)⟩
theorem pe_revLs (K : PySem.W.Frag) {X : Cx} {e : Expr} {te : TE} {k : Nat} {p1 p2 p3 pos : Pos} (he : PE X e te) (h : X.K = K := by rfl) : PE X (.Subscript e (.Slice none none (some (.UnaryOp .USub (.Constant (.int 1) k p1) p2)) p3) pos) (tRevL K te) := h ▸ pe_revL he
theorem mem_sides {rs : List (List Pt)} {ps : List Pt} {s : Pt × Pt} (h : ps ∈ rs) (g : s ∈ sideL ps) : s ∈ sidesM rs := List.mem_flatMap.mpr ⟨ps, h, g⟩
end Py

set_option Elab.async false
set_option linter.all false
set_option autoImplicit false
set_option maxRecDepth 100000
set_option maxHeartbeats 4000000
namespace Py
open PySem hiding start
open L2 PySem.Spec PyProof.Rows
open Evl (Ex ex_rd ex_l ex_t fresh_back)
open Classical
/-! ### list.extend by a tuple -/
theorem ext_tup (l : Addr) (items : Array Value) (n : Nat) (b : Addr) (items2 : Array Value) (n2 : Nat) (dd : Option Addr) (ss : Array (Option Value)) (hs0 : ¬(!items.isEmpty && Builtin.List.listTooLong (items.size + items2.size)) = true) (hs1 : items.size ≤ sizeLine) (hs2 : items.size + items2.size ≤ sizeLine + 1) :
    Meets (Builtin.«list.extend» ⟨[.ref l, .ref b], []⟩) (fun _ R s => s.heap.get? l = some { cls := .type "list", dict := none, data := .seq items n, slots := #[] } ∧ s.heap.get? b = some { cls := .type "tuple", dict := dd, data := .seq items2 n2, slots := ss } ∧ R (.ok (.ret Value.none)) { s with heap := s.heap.update l (Obj.mapSeq fun x => x ++ items2), toks := s.toks }) :=
  .of_wp fun prog w A R s h => by
    obtain ⟨hp, g, d, tk, os⟩ := s; obtain ⟨hl, hb, h⟩ := h; have f1 := AutoSeq1.idx_int; have f2 := AutoSeq1.sub_tuple_tuple; have f3 := AutoSeq1.sub_list_list; have f4 := AutoSeq1.sub_tuple_list; have f5 := AutoSeq1.sub_list_tuple;
    have hz' : (items ++ items2).size ≤ sizeLine + 1 := by rw [Array.size_append]; exact hs2
    wp_walk using (wpAny_updateSeq hl rfl (hz := hs1) (_hz' := hz')), AutoSeq1.wpAny_loadPart' hl, AutoSeq1.wpAny_loadPart' hb; exact ⟨_, rfl, h⟩
def rExtT (K : PySem.W.Frag) : V → List V → Hp → VK → Prop := fun x vs H Q => ∃ l b xs zs, x = .ref l ∧ vs = [.ref b] ∧ H l = some (.lst xs) ∧ SqT K H b zs ∧ xs.length + zs.length ≤ sizeLine ∧ Q .non (upd H l (.lst (xs ++ zs)))
theorem mt_extT (K : PySem.W.Frag) {X : Cx} (h : X.K = K := by rfl) : MtR X "list.extend" (rExtT K) := by
  subst h
  intro pins s σ H x vs v us Q I rx rv h
  obtain ⟨l, b, xs, zs, rfl, rfl, hH, hB, hz, q⟩ := h
  cases rx
  obtain ⟨u, rfl, ru⟩ := rv.one
  cases ru
  obtain ⟨z, its, n, r, hl, e⟩ := I.lstM hH
  obtain ⟨its2, r2, ⟨o2, e2, c2, n2, d2⟩, z2⟩ := I.tuple hB
  have hl2 := r2.length
  obtain ⟨oc, od, dt, sl⟩ := o2
  simp only at c2 d2
  subst c2 d2
  have hsz : its.toArray.size + its2.toArray.size ≤ sizeLine := by rw [List.size_toArray, List.size_toArray]; omega
  have hlong : ¬ (!its.toArray.isEmpty && Builtin.List.listTooLong (its.toArray.size + its2.toArray.size)) = true := by
    rw [notLongL hsz, Bool.and_false]
    exact Bool.false_ne_true
  refine call_meets F.slot_list_extend ⟨_, e, rfl⟩ F.entry_list_extend (F.args_list_extend_2 _ _)
    (ext_tup l its.toArray n b its2.toArray n2 od sl hlong (by rw [List.size_toArray]; omega) (by omega)) ⟨e, e2, ?_⟩
  refine ⟨.non, _, I.lset (its' := its ++ its2) hH e (by simp) (r.append r2) ?_, rfl, q⟩
  rw [List.length_append]
  omega
/-! ### tuples cut and turned about -/
theorem sl_tups (K : PySem.W.Frag) {X : Cx} (h : X.K = K := by rfl) : SlR X (rSlT K) := h ▸ sl_tup
theorem call_tupU (K : PySem.W.Frag) {X : Cx} (h : X.K = K := by rfl) : CallR X (.type "tuple") (fun xs H Q => ∃ p ys, xs = [.ref p] ∧ ((SqL K H p ys ∧ ∀ l, H l = none → Q (.ref l) (upd H l (.tup ys))) ∨ (SqT K H p ys ∧ Q (.ref p) H))) := h ▸ call_tuple_of
def rTupOf (K : PySem.W.Frag) : List V → Hp → VK → Prop := fun xs H Q => ∃ p ys, xs = [.ref p] ∧ ((SqL K H p ys ∧ ∀ l, H l = none → Q (.ref l) (upd H l (.tup ys))) ∨ (SqT K H p ys ∧ Q (.ref p) H))
theorem call_tups (K : PySem.W.Frag) {X : Cx} (h : X.K = K := by rfl) : CallR X (.type "tuple") (rTupOf K) := call_tupU K h
theorem pg_lsts (K : PySem.W.Frag) {X : Cx} {es : List Expr} {k : Nat} {t : TGs} {n : Nat} {pos : Pos} (hc : X.calm = true) (h0 : PGs X es t) (hn : (assignEach es X.env).length = n := by rfl) (hst : (assignEach es X.env).findIdx? (·.1) = none := by rfl) (h : X.K = K := by rfl) : PG X (.Tuple es k pos) (gLst K n t) := by
  subst h
  exact pg_lst hc h0 hn hst
section
variable {K : PySem.W.Frag} {c c' : Ctx K} {ρ : Rho} {E : DE} {k : Dv → Prop} {ta : TA} {tb te tf : TE} {t u : TS} {p l : Addr} {ys : List PyData} {I : List PyData → Prop}
theorem ws_extT {i : Nat} {xs : List PyData} (h : ρ[i]? = some (.own l xs)) (ht : We c te ρ fun y => ∃ ds, y = .d (.tuple ds) ∧ xs.length + ds.length ≤ 100000 ∧ E.nx (ρ.set i (.own l (xs ++ ds)))) :
    Ws c (tDrop (tBM K "list" (rExtT K) (tVar i) (tCons te tNil))) ρ E := fun D σ H e o => by
  obtain ⟨vs, e1, h1, d1⟩ := o.own h
  refine ⟨_, e1, .inl ⟨rfl, _, .inl (.inl h1)⟩, ht σ H _ o fun v y H1 o1 s1 dy ⟨ds, hy, hz, n⟩ => ?_⟩
  subst hy
  have ol : Owns ρ l := ⟨xs, List.mem_of_getElem? h⟩
  have h1' : H1 l = some (.lst vs) := (s1.own l ol).trans h1
  change Dp _ _ _ _ at dy
  cases dy with
  | @tup b us _ _ hs ha =>
    refine ⟨l, b, vs, us, rfl, rfl, h1', ex_t hid_sub hs, Evl.sz_of (by rw [dpa_len d1, dpa_len ha]; exact hz), e.nx _ σ _ (o1.chg h (dpa_app (dpa_mono s1.ex _ _ d1) ha)) n⟩
theorem we_slT {tl th : TO} (h : We c te ρ fun x => Wo c tl ρ fun lo => Wo c th ρ fun hi => ∃ xs, x = .d (.tuple xs) ∧ ¬ (HT.sIx xs.length 0 lo = 0 ∧ HT.sIx xs.length xs.length hi = xs.length) ∧ k (.d (.tuple (cutD xs lo hi)))) : We c (tSl (rSlT K) te tl th) ρ k := fun σ H Q o q =>
  h σ H _ o fun v x H1 o1 e1 d1 h1 => h1 σ H1 _ o1 fun lo H2 o2 e2 h2 => h2 σ H2 _ o2 fun hi H3 o3 e3 ⟨xs, hx, hw, hk⟩ => by
    subst hx
    have d3 : Dp K (vis c ρ H3) v (.tuple xs) := dp_mono (e2.trans e3).ex _ _ d1
    cases d3 with
    | @tup a vs _ _ hs ha =>
      refine ⟨a, vs, rfl, ex_t hid_sub hs, by rw [dpa_len ha]; exact hw, fun p hp => ?_⟩
      obtain ⟨o4, e4⟩ := o3.new (o := .tup (cutV vs lo hi)) hp
      exact q _ (.d _) _ o4 (((e1.trans e2).trans e3).trans e4) (dp_tup (vis_upd (o3.nh hp)) (dpa_mono e4.ex _ _ (dpa_cut ha lo hi))) hk
theorem rc_tupOf {ds : List PyData} (h : k (.d (.tuple ds))) : Rc c (rTupOf K) ρ [.d (.list ds)] k := fun σ H vs Q o d q => by
  cases d with
  | cons d1 d2 =>
    cases d2
    change Dp _ _ _ _ at d1
    cases d1 with
    | @lst a us _ _ hs ha =>
      refine ⟨a, us, rfl, .inl ⟨ex_l hid_sub hs, fun p hp => ?_⟩⟩
      obtain ⟨o4, e4⟩ := o.new (o := .tup us) hp
      exact q _ (.d _) _ o4 e4 (dp_tup (vis_upd (o.nh hp)) (dpa_mono e4.ex _ _ ha)) h
theorem rc_tupOf2 {ds : List PyData} (h : k (.d (.tuple ds))) : Rc c (rTupOf K) ρ [.d (.tuple ds)] k := fun σ H vs Q o d q => by
  cases d with
  | cons d1 d2 =>
    cases d2
    have d1' := d1
    change Dp _ _ _ _ at d1
    cases d1 with
    | @tup a us _ _ hs ha => exact ⟨a, us, rfl, .inr ⟨ex_t hid_sub hs, q.val o (x := .d _) d1' h⟩⟩
theorem wg_lst {n : Nat} {gs : TGs} {js : List Nat} {xs : List PyData} {N : Rho → Prop} (hl : xs.length = n) (h : Wgs c gs js xs ρ N) : Wg c (gLst K n gs) js (.d (.list xs)) ρ N := fun σ H v Q o d q => by
  change Dp _ _ _ _ at d
  cases d with
  | lst hs ha => exact ⟨_, _, rfl, ex_l hid_sub hs, (dpa_len ha).trans hl, h σ H _ Q o ha q⟩
/-- list(xs) as a list of one's own -/
theorem wf_listOf {k : List PyData → Prop} (h : We c te ρ fun x => ∃ xs, x = .d (.list xs) ∧ k xs) : Wf c (tCB (rListOf K) (tCons te tNil)) ρ k := fun σ H Q o q => h σ H _ o fun v x H1 o1 e1 d1 ⟨xs, hx, hk⟩ => by
  subst hx
  change Dp _ _ _ _ at d1
  cases d1 with
  | @lst a vs _ _ hs ha =>
    refine ⟨a, vs, rfl, .inl (ex_l hid_sub hs), fun p hp => ?_⟩
    obtain ⟨h0, o4, s4, d4⟩ := o1.fresh e1 hp ha
    exact q p _ _ _ h0 upd_same o4 s4 d4 hk
theorem wf_listOfOwn {k : List PyData → Prop} {i : Nat} {xs : List PyData} (h : ρ[i]? = some (.own l xs)) (hk : k xs) : Wf c (tCB (rListOf K) (tCons (tVar i) tNil)) ρ k := fun σ H Q o q => by
  obtain ⟨vs, e1, h1, d1⟩ := o.own h
  refine ⟨_, e1, l, vs, rfl, .inl (.inl (.inl h1)), fun p hp => ?_⟩
  obtain ⟨h0, o4, s4, d4⟩ := o.fresh (Stp.refl _) hp d1
  exact q p _ _ _ h0 upd_same o4 s4 d4 hk
/-- xs + ys -/
theorem wf_cat {k : List PyData → Prop} (h : We c te ρ fun x => ∃ xs, x = .d (.list xs) ∧ Wf c tb ρ fun ys => xs.length + ys.length ≤ 100000 ∧ k (xs ++ ys)) : Wf c (tOp (rAddU K) te tb) ρ k := fun σ H Q o q => h σ H _ o fun v x H1 o1 e1 d1 ⟨xs, hx, ht⟩ => by
  subst hx
  change Dp _ _ _ _ at d1
  cases d1 with
  | @lst a vs _ _ hs ha =>
  refine ht σ H1 _ o1 fun l2 vs2 ys H2 n2 g2 o2 s2 d2 ⟨hl, hk⟩ => ?_
  have ha2 := dpa_mono s2.ex _ _ ha
  have hs2 : SqL K (vis c ρ H2) a vs := ex_l s2.ex hs
  refine .inr (.inr (.inl ⟨a, l2, vs, vs2, rfl, rfl, ?_, g2, Evl.sz_of (by rw [dpa_len ha, dpa_len d2]; exact hl), fun p hp => ?_⟩))
  · have hp : (vis c ρ H1) a = some (.lst vs) := ‹_›
    exact (hid_some (s2.ex a _ hp)).2
  · obtain ⟨h0, o4, s4, d4⟩ := o2.fresh (e1.trans s2) hp (dpa_app ha2 (dpa_mono hid_sub _ _ d2))
    exact q p _ _ _ h0 upd_same o4 s4 d4 hk
/-! ### lists shown to a call that tells a new one -/
theorem wf_share {k : List PyData → Prop} {i : Nat} {xs : List PyData} (h : ρ[i]? = some (.own l xs)) (ht : Wf c te (ρ.set i (.val (.d (.list xs)))) fun ys => flatDs ys = true ∧ k ys) : Wf c te ρ k := fun σ H Q o q => by
  have ol : Owns ρ l := ⟨xs, List.mem_of_getElem? h⟩
  refine ht σ H _ (o.freeze h) fun l2 vs2 ys H1 n2 g2 of1 sf1 d2 ⟨fl, hk⟩ => ?_
  have nlc : ¬ c.L l := (o.ob l ol).2
  have lt : ∀ a, Owns (ρ.set i (.val (.d (.list xs)))) a → Owns ρ a := fun a z => owns_less z
  have nl : ¬ Hid c (ρ.set i (.val (.d (.list xs)))) l := fun z => z.elim nlc fun ⟨ys, z⟩ => by
    obtain ⟨j, hj, e'⟩ := List.mem_iff_getElem.mp z
    have z' : (ρ.set i (.val (.d (.list xs))))[j]? = some (Slot.own l ys) := by rw [List.getElem?_eq_getElem hj, e']
    rcases List_set_get z' with ⟨_, q, _⟩ | ⟨ne, z'⟩
    · cases q
    · exact ne (o.one i j l xs ys h z')
  obtain ⟨vs, _, h1, _⟩ := o.own h
  have hl : H1 l = H l := by
    have := sf1.ex l _ (show vis c _ H l = some (.lst vs) from (hid_neg nl).trans h1)
    rw [h1]; exact (hid_some this).2
  have gt : ∀ a, Owns ρ a → a = l ∨ Owns (ρ.set i (.val (.d (.list xs)))) a := fun a ⟨ys, z⟩ => by
    obtain ⟨j, hj, e'⟩ := List.mem_iff_getElem.mp z
    by_cases q : i = j
    · subst q
      have : some (Slot.own a ys) = some (Slot.own l xs) := by rw [← h, List.getElem?_eq_getElem hj, e']
      cases this; exact .inl rfl
    · exact .inr ⟨ys, List.mem_of_getElem? (i := j) (by rw [List.getElem?_set_ne q, List.getElem?_eq_getElem hj, e'])⟩
  have ow : ∀ a, Owns ρ a → H1 a = H a := fun a z => (gt a z).elim (fun q => by rw [q]; exact hl) (sf1.own a)
  have ex : Ex (vis c ρ H) (vis c ρ H1) := fun b u z => by
    obtain ⟨n1, z⟩ := hid_some z
    have := sf1.ex b u ((hid_neg fun q => n1 (q.imp id (lt b))).trans z)
    exact (hid_neg n1).trans (hid_some this).2
  have o1 : Ok c ρ σ H1 := o.grow of1.w ex ow
  refine q l2 vs2 ys H1 n2 g2 o1 ⟨ex, ow⟩ (dpa_mono (fun b u z => ?_) _ _ (dpa_noL ys vs2 fl d2)) hk
  obtain ⟨z1, m⟩ := noL_some z
  obtain ⟨nb, z2⟩ := hid_some z1
  obtain ⟨n1, z3⟩ := hid_some z2
  refine (hid_neg (L := fun x => x = l2) nb).trans ((hid_neg fun q => ?_).trans z3)
  obtain ⟨u', e', m'⟩ := o1.mut q
  rw [z3] at e'; cases e'
  rw [m] at m'; cases m'
theorem wf_callDarkE {P : PT0 K} {k : List PyData → Prop} {X : XK} (h : We c te ρ fun x => ∃ xs, x = .d (.list xs) ∧ flatDs xs = true ∧
    ∀ (c' : Ctx K) a, DarkAt c' a xs → P c' [.r (.ref a)] (fun y => ∃ ys, y = .d (.list ys) ∧ flatDs ys = true ∧ k ys) fun _ => False) : Wf c (tCall (spD K P) [] X (tCons te tNil)) ρ k := fun σ H Q o q => h σ H _ o fun v x H1 o1 e1 d1 ⟨xs, hx, hf, ht⟩ => by
  subst hx
  -- as a call by a name
  have T := wf_callDark (c := c) (ρ := ρ ++ [.val (.d (.list xs))]) (P := P) (k := k) (X := X) (i := ρ.length) (xs := xs) (by simp) hf ht
  have ow : ∀ a, Owns (ρ ++ [Slot.val (.d (.list xs))]) a ↔ Owns ρ a := fun a => by
    constructor
    · rintro ⟨zs, z⟩
      rcases List.mem_append.mp z with z | z
      · exact ⟨zs, z⟩
      · simp at z
    · rintro ⟨zs, z⟩
      exact ⟨zs, List.mem_append_left _ z⟩
  have sv : ∀ H', vis c (ρ ++ [Slot.val (.d (.list xs))]) H' = vis c ρ H' := fun H' => by
    unfold vis
    congr 1
    funext a
    exact propext (or_congr Iff.rfl (ow a))
  have o2 : Ok c (ρ ++ [.val (.d (.list xs))]) (σ ++ [some v]) H1 := by
    refine ⟨o1.w, o1.b, fun a z => o1.ob a ((ow a).mp z), fun n s hs => ?_, fun n m a us zs hs hs' => ?_, by simp [o1.len]⟩
    · rw [sv]
      by_cases z : n < ρ.length
      · rw [List.getElem?_append_left z] at hs
        rw [List.getElem?_append_left (by rw [o1.len]; exact z)]
        exact o1.sl n s hs
      · rw [List.getElem?_append_right (by omega)] at hs
        have hn : n - ρ.length = 0 := by
          cases q : n - ρ.length with
          | zero => rfl
          | succ m => rw [q] at hs; cases hs
        rw [hn] at hs
        cases hs
        have : n = σ.length := by rw [o1.len]; omega
        subst this
        exact ⟨some v, by simp, v, rfl, d1⟩
    · have inn : ∀ {n : Nat} {us : OwnC}, (ρ ++ [Slot.val (.d (.list xs))])[n]? = some (.own a us) → ρ[n]? = some (.own a us) := fun {n us} hs => by
        by_cases z : n < ρ.length
        · rwa [List.getElem?_append_left z] at hs
        · rw [List.getElem?_append_right (by omega)] at hs
          cases q : n - ρ.length with
          | zero => rw [q] at hs; cases hs
          | succ m => rw [q] at hs; cases hs
      exact o1.one n m a us zs (inn hs) (inn hs')
  have T2 := T (σ ++ [some v]) H1 (fun w H2 => Q w H2) o2 (fun l2 vs2 zs H2 n2 g2 o3 s3 d3 k3 => by
    have o4 : Ok c ρ σ H2 := by
      refine ⟨o3.w, o3.b, fun a z => o3.ob a ((ow a).mpr z), fun n s hs => ?_, fun n m a us zs hs hs' => ?_, o1.len⟩
      · have hn : n < ρ.length := (List.getElem?_eq_some_iff.mp hs).1
        have := o3.sl n s (by rw [List.getElem?_append_left hn]; exact hs)
        rw [sv, List.getElem?_append_left (by rw [o1.len]; exact hn)] at this
        exact this
      · have l1 := (List.getElem?_eq_some_iff.mp hs).1
        have l2 := (List.getElem?_eq_some_iff.mp hs').1
        exact o3.one n m a us zs (by rw [List.getElem?_append_left l1]; exact hs) (by rw [List.getElem?_append_left l2]; exact hs')
    have s4 : Stp c ρ H1 H2 := ⟨by have := s3.ex; rw [sv, sv] at this; exact this, fun a z => s3.own a ((ow a).mpr z)⟩
    have n0 : H l2 = none := by
      cases z : H l2 with
      | none => rfl
      | some ob =>
        have := (hid_some (e1.ex l2 ob (by unfold vis; rw [hid_neg (o1.nh n2)]; exact z))).2
        rw [n2] at this; cases this
    rw [sv] at d3
    exact q l2 vs2 zs H2 n0 g2 o4 (e1.trans s4) d3 k3)
  obtain ⟨w, ew, T3⟩ := T2
  have : w = v := by
    have h0 : (σ ++ [some v])[ρ.length]? = some (some v) := by rw [← o1.len]; simp
    rw [h0] at ew
    cases ew; rfl
  subst this
  exact T3
/-! ### a list that is lent for one call, by any statement -/
theorem vis_lend {j : Nat} (hj : ρ[j]? = some (.own l ys)) (H : Hp) : vis (c.lend l I) (ρ.set j (.val (.r (.ref l)))) H = vis c ρ H := by
  unfold vis
  congr 1
  funext a
  refine propext ⟨?_, ?_⟩
  · rintro ((z | z) | z)
    · exact .inl z
    · exact .inr ⟨ys, z ▸ List.mem_of_getElem? hj⟩
    · exact .inr (owns_less z)
  · rintro (z | ⟨us, z⟩)
    · exact .inl (.inl z)
    · obtain ⟨m, hm, e⟩ := List.mem_iff_getElem.mp z
      by_cases q : j = m
      · subst q
        have : some (Slot.own a us) = some (Slot.own l ys) := by rw [← hj, List.getElem?_eq_getElem hm, e]
        cases this; exact .inl (.inr rfl)
      · exact .inr ⟨us, List.mem_of_getElem? (i := m) (by rw [List.getElem?_set_ne q, List.getElem?_eq_getElem hm, e])⟩
theorem vis_own {j : Nat} {zs : List PyData} (hj : ρ[j]? = some (.own l ys)) (H : Hp) : vis c (ρ.set j (.own l zs)) H = vis c ρ H := by
  have hjl : j < ρ.length := (List.getElem?_eq_some_iff.mp hj).1
  unfold vis
  congr 1
  funext a
  refine propext (or_congr Iff.rfl ⟨fun z => ?_, fun ⟨us, z⟩ => ?_⟩)
  · rcases owns_set z with z | ⟨us, q⟩
    · exact z
    · cases q; exact ⟨ys, List.mem_of_getElem? hj⟩
  · obtain ⟨m, hm, e⟩ := List.mem_iff_getElem.mp z
    by_cases q : j = m
    · subst q
      have : some (Slot.own a us) = some (Slot.own l ys) := by rw [← hj, List.getElem?_eq_getElem hm, e]
      cases this
      exact ⟨zs, List.mem_of_getElem? (i := j) (List.getElem?_set_self hjl)⟩
    · exact ⟨us, List.mem_of_getElem? (i := m) (by rw [List.getElem?_set_ne q, List.getElem?_eq_getElem hm, e])⟩
theorem lend_core {j : Nat} {P : PT2 K} {σ : L2.St} {H : Hp} {vs : List V} {zs : List Dv} {Q : VK} {X : XK} {kk : Dv → Prop} (hj : ρ[j]? = some (.own l ys)) (HI : HandIn c p)
    (o : Ok (c.lend l (· = ys)) (ρ.set j (.val (.r (.ref l)))) σ H) (bl : c.B l = none) (nl : ¬ c.L l) (d : DvAll K (vis (c.lend l (· = ys)) (ρ.set j (.val (.r (.ref l)))) H) vs zs) (h : ∀ c3 c3' : Ctx K, Lend2 c3 c3' p l ys I → P c3 c3' zs kk)
    (q : ∀ v y ys' H', flatDs ys' = true → I ys' → Ok c (ρ.set j (.own l ys')) σ H' → Ex (vis c ρ H) (vis c ρ H') → (∀ a, Owns ρ a → a ≠ l → H' a = H a) → DvOk K (vis c ρ H') v y → kk y → Q v H') : spD2 K P vs H Q X := by
  have hjl : j < ρ.length := (List.getElem?_eq_some_iff.mp hj).1
  have m2 : ∀ a, Hid (c.lend l I) (ρ.set j (.val (.r (.ref l)))) a → ∃ o, H a = some o ∧ isMut o = true := fun a z => o.mut z
  refine ⟨(c.lend l (· = ys)).shut2 _ H fun a z => o.mut z, (c.lend l I).shut2 _ H m2, zs, _, ⟨o.w, fun _ _ => rfl⟩, rfl, d, h _ _ (lend2_shut HI nl (fun zs h => h) fun a z => (o.ob a z).2), fun v y H' w b dv ky => ?_⟩
  have o4 : Ok (c.lend l I) (ρ.set j (.val (.r (.ref l)))) σ H' := by
    refine ⟨w.1, fun a ob z => vis_out (c := c.lend l I) (ρ := ρ.set j (.val (.r (.ref l)))) a ob (b a ob (o.base a ob z)), fun a z => o.ob a z, fun n s hs => ?_, o.one, o.len⟩
    obtain ⟨u, q, z⟩ := o.sl n s hs
    refine ⟨u, q, ?_⟩
    cases s with
    | un => trivial
    | val y => obtain ⟨w, e1, e2⟩ := z; exact ⟨w, e1, dv_mono b e2⟩
    | own m ys => obtain ⟨ws, e1, e2, e3⟩ := z; exact ⟨ws, e1, (w.2 m ⟨_, List.mem_of_getElem? hs⟩).trans e2, own_mono b _ _ e3⟩
  obtain ⟨ys', f', i', o6⟩ := o4.unlend bl nl (i := j) (List.getElem?_set_self hjl)
  rw [List.set_set] at o6
  refine q v y ys' H' f' i' o6 ?_ (fun a z na => w.2 a ?_) ?_ ky
  · have b' : Ex (vis (c.lend l (· = ys)) (ρ.set j (.val (.r (.ref l)))) H) (vis (c.lend l I) (ρ.set j (.val (.r (.ref l)))) H') := b
    rw [vis_lend hj, vis_lend hj] at b'
    exact b'
  · obtain ⟨us, z⟩ := z
    obtain ⟨m, hm, e⟩ := List.mem_iff_getElem.mp z
    by_cases q : j = m
    · subst q
      have : some (Slot.own a us) = some (Slot.own l ys) := by rw [← hj, List.getElem?_eq_getElem hm, e]
      cases this; exact (na rfl).elim
    · exact ⟨us, List.mem_of_getElem? (i := m) (by rw [List.getElem?_set_ne q, List.getElem?_eq_getElem hm, e])⟩
  · have dv' : DvOk K (vis (c.lend l I) (ρ.set j (.val (.r (.ref l)))) H') v y := dv
    rw [vis_lend hj] at dv'
    exact dv'
theorem ws_asgLend {j : Nat} {P : PT2 K} {X : XK} {g : TG} {js : List Nat} (I : List PyData → Prop) (hj : ρ[j]? = some (.own l ys)) (HI : HandIn c p) (hf : flatDs ys = true)
    (ht : ∀ c2 : Ctx K, HandIn c2 p → Wa c2 ta (ρ.set j (.val (.r (.ref l)))) fun zs => ∀ c3 c3' : Ctx K, Lend2 c3 c3' p l ys I → P c3 c3' zs fun y => ∀ ys', flatDs ys' = true → I ys' → Wg c g js y (ρ.set j (.own l ys')) E.nx) :
    Ws c (tAsg (tCall (spD2 K P) [] X ta) g) ρ E := fun D σ H e o => by
  have ol : Owns ρ l := ⟨ys, List.mem_of_getElem? hj⟩
  obtain ⟨bl, nl⟩ := o.ob l ol
  have o2 : Ok (c.lend l (· = ys)) (ρ.set j (.val (.r (.ref l)))) σ H := o.lend hj hf rfl
  refine ht _ (lent_lend HI nl).hand σ H _ o2 fun ws zs H1 o3 s3 d3 h3 => ?_
  rw [List.append_nil]
  refine lend_core hj HI o3 bl nl d3 h3 fun v y ys' H' f' i' o6 _ _ dv ky => ?_
  refine ky ys' f' i' σ H' v _ o6 (by rw [vis_own hj]; exact dv) fun ρ' σ' o' _ _ _ _ n => e.nx ρ' σ' H' o' n
theorem Ok.push {σ : L2.St} {H : Hp} (o : Ok c ρ σ H) : Ok c (ρ ++ [.un]) (σ ++ [none]) H ∧ ∀ H', vis c (ρ ++ [.un]) H' = vis c ρ H' := by
  have ow : ∀ a, Owns (ρ ++ [Slot.un]) a ↔ Owns ρ a := fun a => by
    constructor
    · rintro ⟨zs, z⟩
      rcases List.mem_append.mp z with z | z
      · exact ⟨zs, z⟩
      · simp at z
    · rintro ⟨zs, z⟩
      exact ⟨zs, List.mem_append_left _ z⟩
  have sv : ∀ H', vis c (ρ ++ [Slot.un]) H' = vis c ρ H' := fun H' => by
    unfold vis
    congr 1
    funext a
    exact propext (or_congr Iff.rfl (ow a))
  refine ⟨⟨o.w, o.b, fun a z => o.ob a ((ow a).mp z), fun n s hs => ?_, fun n m a us zs hs hs' => ?_, by simp [o.len]⟩, sv⟩
  · rw [sv]
    by_cases z : n < ρ.length
    · rw [List.getElem?_append_left z] at hs
      rw [List.getElem?_append_left (by rw [o.len]; exact z)]
      exact o.sl n s hs
    · rw [List.getElem?_append_right (by omega)] at hs
      have hn : n - ρ.length = 0 := by
        cases q : n - ρ.length with
        | zero => rfl
        | succ m => rw [q] at hs; cases hs
      rw [hn] at hs
      cases hs
      have : n = σ.length := by rw [o.len]; omega
      subst this
      exact ⟨none, by simp, trivial⟩
  · have inn : ∀ {n : Nat} {us : OwnC}, (ρ ++ [Slot.un])[n]? = some (.own a us) → ρ[n]? = some (.own a us) := fun {n us} hs => by
      by_cases z : n < ρ.length
      · rwa [List.getElem?_append_left z] at hs
      · rw [List.getElem?_append_right (by omega)] at hs
        cases q : n - ρ.length with
        | zero => rw [q] at hs; cases hs
        | succ m => rw [q] at hs; cases hs
    exact o.one n m a us zs (inn hs) (inn hs')
theorem Ok.pop {σ : L2.St} {H : Hp} {s : Slot} {x : Option V} (hl : σ.length = ρ.length) (o : Ok c (ρ ++ [s]) (σ ++ [x]) H) : Ok c ρ σ H := by
  have ow : ∀ a, Owns ρ a → Owns (ρ ++ [s]) a := fun a ⟨zs, z⟩ => ⟨zs, List.mem_append_left _ z⟩
  have ev : Ex (vis c (ρ ++ [s]) H) (vis c ρ H) := hid_less fun a z => z.imp id (ow a)
  refine ⟨o.w, o.b, fun a z => o.ob a (ow a z), fun n s' hs => ?_, fun n m a us zs hs hs' => ?_, hl⟩
  · have hn : n < ρ.length := (List.getElem?_eq_some_iff.mp hs).1
    obtain ⟨u, q, z⟩ := o.sl n s' (by rw [List.getElem?_append_left hn]; exact hs)
    rw [List.getElem?_append_left (by rw [hl]; exact hn)] at q
    refine ⟨u, q, ?_⟩
    cases s' with
    | un => trivial
    | val y => obtain ⟨w, e1, e2⟩ := z; exact ⟨w, e1, dv_mono ev e2⟩
    | own m ys => obtain ⟨ws, e1, e2, e3⟩ := z; exact ⟨ws, e1, e2, own_mono ev _ _ e3⟩
  · have l1 := (List.getElem?_eq_some_iff.mp hs).1
    have l2 := (List.getElem?_eq_some_iff.mp hs').1
    exact o.one n m a us zs (by rw [List.getElem?_append_left l1]; exact hs) (by rw [List.getElem?_append_left l2]; exact hs')
/-- def(hand, a new list, a number) -/
theorem we_callLendNew {P : PT2 K} {X : XK} {i : Nat} {w : Int} (I : List PyData → Prop) (hh : ρ[i]? = some (.val (.r (.ref p)))) (HI : HandIn c p)
    (ht : Wf c tf ρ fun ys => flatDs ys = true ∧ ∀ (c3 c3' : Ctx K) l, Lend2 c3 c3' p l ys I → P c3 c3' [.r (.ref p), .r (.ref l), .d (.int w)] k) : We c (tCall (spD2 K P) [] X (tCons (tVar i) (tCons tf (tCons (tC (.int w)) tNil)))) ρ k := fun σ H Q o q => by
  obtain ⟨u, e, v, rfl, d⟩ := o.sl i _ hh
  obtain rfl : v = .ref p := d
  refine ⟨_, e, ht σ H _ o fun l vs ys H1 n1 h1 o1 s1 d1 ⟨hf, hP⟩ => ?_⟩
  show spD2 K P [.ref p, .ref l, .int w] H1 Q X
  obtain ⟨op, sv⟩ := o.push
  obtain ⟨op1, _⟩ := o1.push
  have sp : Stp c (ρ ++ [.un]) H H1 := ⟨by rw [sv, sv]; exact s1.ex, fun a ⟨zs, z⟩ => s1.own a ⟨zs, by
    rcases List.mem_append.mp z with z | z
    · exact z
    · simp at z⟩⟩
  have oo := op.putOwn op1 n1 h1 (by rw [sv]; exact d1) (op.clean sp n1) ρ.length
  have e1 : (ρ ++ [Slot.un]).set ρ.length (.own l ys) = ρ ++ [.own l ys] := by simp
  have e2 : (σ ++ [none]).set ρ.length (some (.ref l)) = σ ++ [some (V.ref l)] := by rw [← o.len]; simp
  rw [e1, e2] at oo
  have hj : (ρ ++ [Slot.own l ys])[ρ.length]? = some (.own l ys) := by simp
  obtain ⟨bl, nl⟩ := oo.ob l ⟨ys, List.mem_of_getElem? hj⟩
  have o2 := oo.lend (I := (· = ys)) hj hf rfl
  refine lend_core (zs := [.r (.ref p), .r (.ref l), .d (.int w)]) hj HI o2 bl nl (.cons (x := .r (.ref p)) rfl (.cons (x := .r (.ref l)) rfl (.cons (x := .d (.int w)) (Dp.int w) .nil))) (fun c3 c3' N => hP c3 c3' l N) fun v y ys' H' f' i' o6 ex ow dv ky => ?_
  have e3 : (ρ ++ [Slot.own l ys]).set ρ.length (.own l ys') = ρ ++ [.own l ys'] := by simp
  rw [e3] at o6
  have o7 : Ok c ρ σ H' := o6.pop o.len
  have lessV : ∀ H2, Ex (vis c (ρ ++ [Slot.own l ys]) H2) (vis c ρ H2) := fun H2 => hid_less fun a z => z.imp id fun ⟨zs, z⟩ => ⟨zs, List.mem_append_left _ z⟩
  refine q v y H' o7 ⟨fun a ob z => ?_, fun a z => ?_⟩ (dv_mono (lessV H') dv) ky
  · have na : a ≠ l := fun q => by subst q; rw [vis, hid_none n1] at z; cases z
    obtain ⟨n2, z2⟩ := hid_some (s1.ex a ob z)
    refine lessV H' a ob (ex a ob ((hid_neg ?_).trans z2))
    rintro (w | ⟨zs, w⟩)
    · exact n2 (.inl w)
    · rcases List.mem_append.mp w with w | w
      · exact n2 (.inr ⟨zs, w⟩)
      · simp at w; exact na w.1
  · have na : a ≠ l := fun q => by
      subst q
      exact o.nh n1 (.inr z)
    exact (ow a ⟨_, List.mem_append_left _ z.choose_spec⟩ na).trans (s1.own a z)
end
end Py

set_option Elab.async false
set_option linter.all false
set_option autoImplicit false
set_option maxRecDepth 100000
set_option maxHeartbeats 4000000
namespace Py
open PySem hiding start
open L2
open Classical
/-! ### points whose numbers are whole over one bottom -/
structure CdN (D M : Int) (p : Pt) (a b : Int) : Prop where
  x : p.x * (D : Rat) = (a : Rat)
  y : p.y * (D : Rat) = (b : Rat)
  a : (a.natAbs : Int) ≤ M * D
  b : (b.natAbs : Int) ≤ M * D
def Cd (D M : Int) (p : Pt) : Prop := ∃ a b, CdN D M p a b
theorem Cd.mul {D M e : Int} {p : Pt} (h : Cd D M p) (he : 0 < e) : Cd (e * D) M p := by
  obtain ⟨a, b, hx, hy, ha, hb⟩ := h
  have n : ∀ z : Int, (z.natAbs : Int) ≤ M * D → ((e * z).natAbs : Int) ≤ M * (e * D) := fun z hz => by
    rw [Int.natAbs_mul, Int.natCast_mul, Int.natAbs_of_nonneg (Int.le_of_lt he)]
    have := Int.mul_le_mul_of_nonneg_left hz (Int.le_of_lt he)
    have e1 : M * (e * D) = e * (M * D) := by grind
    omega
  exact ⟨e * a, e * b, by rw [Rat.intCast_mul, Rat.intCast_mul, ← hx]; grind, by rw [Rat.intCast_mul, Rat.intCast_mul, ← hy]; grind, n a ha, n b hb⟩
theorem Cd.le {D M M' : Int} {p : Pt} (h : Cd D M p) (hD : 0 < D) (hM : M ≤ M') : Cd D M' p := by
  obtain ⟨a, b, hx, hy, ha, hb⟩ := h
  have := Int.mul_le_mul_of_nonneg_right hM (Int.le_of_lt hD)
  exact ⟨a, b, hx, hy, by omega, by omega⟩
theorem Cd.mid {D M : Int} {p q : Pt} (h : Cd D M p) (g : Cd D M q) : Cd (2 * D) M (midM p q) := by
  obtain ⟨a, b, hx, hy, ha, hb⟩ := h
  obtain ⟨a', b', hx', hy', ha', hb'⟩ := g
  obtain ⟨mx, my⟩ := mid_xy p q
  have e : M * (2 * D) = 2 * (M * D) := by grind
  refine ⟨a + a', b + b', ?_, ?_, by omega, by omega⟩
  · rw [mx, Rat.intCast_mul, Rat.intCast_add, ← hx, ← hx']; show _ * (2 * (D : Rat)) = _; grind
  · rw [my, Rat.intCast_mul, Rat.intCast_add, ← hy, ← hy']; show _ * (2 * (D : Rat)) = _; grind
theorem Cd.by {a b c M : Int} (hc : 0 < c) (h0 : c ≠ 0) (ha : (a.natAbs : Int) ≤ M * c) (hb : (b.natAbs : Int) ≤ M * c) : Cd c M (ptBy a b c h0) := by
  obtain ⟨mx, my⟩ := ptBy_x (a := a) (b := b) h0
  have cq : (0 : Rat) < (c : Rat) := Rat.intCast_pos.mpr hc
  refine ⟨a, b, ?_, ?_, ha, hb⟩
  · rw [mx, divInt_q]; generalize (c : Rat) = z at *; grind
  · rw [my, divInt_q]; generalize (c : Rat) = z at *; grind
theorem Cd.own {M : Int} (p : Pt) (ha : (p.a.natAbs : Int) ≤ M * p.c) (hb : (p.b.natAbs : Int) ≤ M * p.c) : Cd p.c M p := by
  have := Cd.by p.pos p.c_ne ha hb
  rwa [ptBy_self] at this
theorem Cd.step {D M z : Int} {p : Pt} (h : Cd D M p) (hD : 0 < D) (z0 : 0 ≤ z) (z1 : z ≤ 1) : Cd D (M + 1) (ptBy (p.a + p.c * z) (p.b + p.c) p.c p.c_ne) ∧ (ptBy (p.a + p.c * z) (p.b + p.c) p.c p.c_ne).y = p.y + 1 := by
  obtain ⟨a, b, hx, hy, ha, hb⟩ := h
  obtain ⟨mx, my⟩ := ptBy_x (a := p.a + p.c * z) (b := p.b + p.c) p.c_ne
  have cq := p.cq
  have ex : (ptBy (p.a + p.c * z) (p.b + p.c) p.c p.c_ne).x = p.x + z := by rw [mx, divInt_q, Rat.intCast_add, Rat.intCast_mul, p.xc]; grind
  have ey : (ptBy (p.a + p.c * z) (p.b + p.c) p.c p.c_ne).y = p.y + 1 := by rw [my, divInt_q, Rat.intCast_add, p.yc]; grind
  have e : (M + 1) * D = M * D + D := by grind
  have hz : z = 0 ∨ z = 1 := by omega
  refine ⟨⟨a + z * D, b + D, ?_, ?_, ?_, by omega⟩, ey⟩
  · rw [ex, Rat.intCast_add, Rat.intCast_mul, ← hx]; grind
  · rw [ey, Rat.intCast_add, ← hy]; grind
  · rcases hz with rfl | rfl <;> omega
theorem Cd.S {D M : Int} {p : Pt} {n : Nat} (h : Cd D M p) (hD : 0 < D) (n0 : 0 < n) (h1 : D.natAbs < 2 ^ n) (h2 : (M * D).natAbs < 2 ^ n) : ptS n p := by
  obtain ⟨a, b, hx, hy, ha, hb⟩ := h
  have d0 : D ≠ 0 := by omega
  have dq : (0 : Rat) < (D : Rat) := Rat.intCast_pos.mpr hD
  have e : ptBy a b D d0 = p := ptBy_eq d0 (by rw [divInt_q, ← hx]; generalize (D : Rat) = d at *; grind) (by rw [divInt_q, ← hy]; generalize (D : Rat) = d at *; grind)
  rw [← e]
  exact (ptB_by d0 n0 (by omega) (by omega) h1).S
/-- what is seen behind n sides -/
structure SeenQ (m : Nat) (B L D M : Int) (ps : List Pt) : Prop where
  len : ps.length ≤ m
  D0 : 0 < D
  DB : D ≤ B
  six : ∃ e, D = 6 * e
  M0 : 2 ^ 40 ≤ M
  ML : M ≤ L
  cd : ∀ q ∈ ps, Cd D M q
theorem SeenQ.mul {m : Nat} {B L D M e E : Int} {ps : List Pt} (h : SeenQ m B L D M ps) (he : 0 < e) (hE : e ≤ E) : SeenQ m (E * B) L (e * D) M ps := by
  obtain ⟨h1, h2, h3, ⟨z, h4⟩, h5, h6, h7⟩ := h
  exact ⟨h1, Int.mul_pos he h2, Int.mul_le_mul hE h3 (Int.le_of_lt h2) (by omega), ⟨e * z, by rw [h4]; grind⟩, h5, h6, fun q hq => (h7 q hq).mul he⟩
theorem SeenQ.weak {m m' : Nat} {B B' L L' D M : Int} {ps : List Pt} (h : SeenQ m B L D M ps) (hm : m ≤ m') (hB : B ≤ B') (hL : L ≤ L') : SeenQ m' B' L' D M ps :=
  ⟨Nat.le_trans h.len hm, h.D0, Int.le_trans h.DB hB, h.six, h.M0, Int.le_trans h.ML hL, h.cd⟩
theorem SeenQ.add {m : Nat} {B L D M : Int} {ps : List Pt} {q : Pt} (h : SeenQ m B L D M ps) (hq : Cd D M q) : SeenQ (m + 1) B L D M (ps ++ [q]) :=
  ⟨by rw [List.length_append]; have := h.len; simp; omega, h.D0, h.DB, h.six, h.M0, h.ML, fun r hr => by
    rcases List.mem_append.mp hr with hr | hr
    · exact h.cd r hr
    · rw [List.mem_singleton.mp hr]; exact hq⟩
theorem SeenQ.up {m : Nat} {B L D M : Int} {ps : List Pt} (h : SeenQ m B L D M ps) : SeenQ m B (L + 1) D (M + 1) ps :=
  ⟨h.len, h.D0, h.DB, h.six, by have := h.M0; omega, by have := h.ML; omega, fun q hq => (h.cd q hq).le h.D0 (by omega)⟩
def SeenP (n : Nat) (ps : List Pt) : Prop := ∃ D M : Int, SeenQ (3 * n) (6 * 2 ^ (42 * n)) (2 ^ 40 + n) D M ps
def seenI (n : Nat) (ys : List PyData) : Prop := ∃ qs : List Pt, ys = qs.map ptD ∧ SeenP n qs
theorem fresh_cd {a b c : Int} (a0 : 0 ≤ a) (a1 : a < 9) (b0 : 0 ≤ b) (b1 : b < 9) (c0 : 1 ≤ c) (c1 : c < 4) (hc : c ≠ 0) {D M : Int} (hD : 0 < D) (h6 : ∃ e, D = 6 * e) (hM : 9 ≤ M) : Cd D M (ptBy a b c hc) := by
  obtain ⟨e, rfl⟩ := h6
  have he : 0 < e := by omega
  have base : Cd c 9 (ptBy a b c hc) := Cd.by (by omega) hc (by omega) (by omega)
  have h : c = 1 ∨ c = 2 ∨ c = 3 := by omega
  have up : ∀ m, 0 < m → m * c = 6 * e → Cd (6 * e) M (ptBy a b c hc) := fun m m0 h => by
    have := base.mul m0
    rw [h] at this
    exact this.le hD hM
  rcases h with rfl | rfl | rfl
  · exact up (6 * e) (by omega) (by omega)
  · exact up (3 * e) (by omega) (by omega)
  · exact up (2 * e) (by omega) (by omega)
theorem pow42 (n : Nat) : (2 : Int) ^ (42 * (n + 1)) = 2 ^ 42 * 2 ^ (42 * n) := by rw [show 42 * (n + 1) = 42 + 42 * n by omega, Int.pow_add]
theorem SeenQ.S {m : Nat} {B L D M : Int} {ps : List Pt} (h : SeenQ m B L D M ps) {q : Pt} (hq : Cd D M q) (hB : B ≤ 6 * 2 ^ 504) (hL : L ≤ 2 ^ 41) : ptS 560 q := by
  have b1 : D ≤ 6 * 2 ^ 504 := Int.le_trans h.DB hB
  have hM : M ≤ 2 ^ 41 := Int.le_trans h.ML hL
  have M0 : 0 ≤ M := by have := h.M0; omega
  have hD := h.D0
  have b2 : M * D ≤ 2 ^ 41 * (6 * 2 ^ 504) := Int.mul_le_mul hM b1 (Int.le_of_lt hD) (by decide)
  have b3 : 0 ≤ M * D := Int.mul_nonneg M0 (Int.le_of_lt hD)
  refine hq.S hD (by decide) ?_ ?_
  · have : (6 * 2 ^ 504 : Int) < ((2 ^ 560 : Nat) : Int) := by decide
    omega
  · have : (2 ^ 41 * (6 * 2 ^ 504) : Int) < ((2 ^ 560 : Nat) : Int) := by decide
    omega
theorem pow_le504 {n : Nat} (hn : n ≤ 11) : (6 * 2 ^ (42 * n) : Int) ≤ 6 * 2 ^ 462 := by
  have : (2 : Int) ^ (42 * n) ≤ 2 ^ 462 := by exact_mod_cast Nat.pow_le_pow_right (n := 2) (by decide) (show 42 * n ≤ 462 by omega)
  omega
/-! ### the points two sides share are ends, or the crossing -/
def crossM (a b c d : Pt) : Bool := decide (tn a b c * tn a b d < 0) && decide (tn c d a * tn c d b < 0)
theorem meet_cross {a b c d : Pt} (h : crossM a b c d = true) : meetM a b c d = [xsM a b c d] ∧ parQ a b c d ≠ 0 := by
  unfold crossM at h
  rw [Bool.and_eq_true, decide_eq_true_eq, decide_eq_true_eq] at h
  obtain ⟨h1, h2⟩ := h
  have n0 : ¬ (tn a b c = 0 ∧ tn a b d = 0) := fun z => by rw [z.1, z.2] at h1; omega
  have n1 : ¬ (tn a b c * tn a b d > 0 ∨ tn c d a * tn c d b > 0) := fun z => by omega
  refine ⟨?_, par_ne n0 n1⟩
  unfold meetM
  rw [if_neg n0, if_neg n1]
theorem mx4 (a b c d : Pt) : (mx (ptLo a b) (ptLo c d) = a ∨ mx (ptLo a b) (ptLo c d) = b ∨ mx (ptLo a b) (ptLo c d) = c ∨ mx (ptLo a b) (ptLo c d) = d) ∧ (mn (ptHi a b) (ptHi c d) = a ∨ mn (ptHi a b) (ptHi c d) = b ∨ mn (ptHi a b) (ptHi c d) = c ∨ mn (ptHi a b) (ptHi c d) = d) := by
  have h1 := lo_or a b
  have h2 := lo_or c d
  have h3 := mx_or (ptLo a b) (ptLo c d)
  have h4 := mn_or (ptHi a b) (ptHi c d)
  grind
theorem meet_ends {a b c d : Pt} (h : crossM a b c d = false) : ∀ p ∈ meetM a b c d, p = a ∨ p = b ∨ p = c ∨ p = d := by
  intro p hp
  unfold meetM at hp
  by_cases n0 : tn a b c = 0 ∧ tn a b d = 0
  · rw [if_pos n0] at hp
    unfold sharedM at hp
    simp only at hp
    obtain ⟨m1, m2⟩ := mx4 a b c d
    split at hp
    · cases hp
    · split at hp
      · have : p = mx (ptLo a b) (ptLo c d) := by simpa using hp
        rw [this]; exact m1
      · have : p = mx (ptLo a b) (ptLo c d) ∨ p = mn (ptHi a b) (ptHi c d) := by simpa using hp
        rcases this with rfl | rfl
        · exact m1
        · exact m2
  · rw [if_neg n0] at hp
    by_cases n1 : tn a b c * tn a b d > 0 ∨ tn c d a * tn c d b > 0
    · rw [if_pos n1] at hp; cases hp
    · rw [if_neg n1] at hp
      have ep : p = xsM a b c d := by simpa using hp
      have hpar := par_ne n0 n1
      obtain ⟨o1, o2⟩ := xsM_on hpar
      have z : tn a b c = 0 ∨ tn a b d = 0 ∨ tn c d a = 0 ∨ tn c d b = 0 := by
        have h3 : ¬ (tn a b c * tn a b d < 0 ∧ tn c d a * tn c d b < 0) := fun z => by
          unfold crossM at h
          rw [decide_eq_true z.1, decide_eq_true z.2] at h; cases h
        have h4 : tn a b c * tn a b d = 0 ∨ tn c d a * tn c d b = 0 := by omega
        rcases h4 with h4 | h4
        · rcases Int.mul_eq_zero.mp h4 with h | h
          · exact .inl h
          · exact .inr (.inl h)
        · rcases Int.mul_eq_zero.mp h4 with h | h
          · exact .inr (.inr (.inl h))
          · exact .inr (.inr (.inr h))
      have e1 := fun x y => tn_end x y
      have cz : ∀ x y z : Pt, tn x y z = 0 → crQ x y z = 0 := fun x y z h => tn_zero.mp h
      rcases z with z | z | z | z
      · exact .inr (.inr (.inl (ep.trans (xs_uniq hpar o1 o2 (cz _ _ _ z) (cz _ _ _ (tn_end c d).1)))))
      · exact .inr (.inr (.inr (ep.trans (xs_uniq hpar o1 o2 (cz _ _ _ z) (cz _ _ _ (tn_end c d).2)))))
      · exact .inl (ep.trans (xs_uniq hpar o1 o2 (cz _ _ _ (tn_end a b).1) (cz _ _ _ z)))
      · exact .inr (.inl (ep.trans (xs_uniq hpar o1 o2 (cz _ _ _ (tn_end a b).2) (cz _ _ _ z))))
end Py

set_option Elab.async false
set_option linter.all false
set_option autoImplicit false
set_option maxRecDepth 100000
set_option maxHeartbeats 4000000
namespace HT
open PySem PySem.Spec PyProof PyProof.Rows L2
section
variable {prog : Program} {w : World} {A : Around} {E : Value → Shared → Prop} {s : Shared}
theorem adjust_rev (n : Nat) : Builtin.Slice.sliceAdjust none none (-1) (n : Int) = ((n : Int) - 1, -1) := rfl
theorem places_rev (n : Nat) : Builtin.Slice.slicePlaces ((n : Int) - 1) (-1) (-1) = n := by
  unfold Builtin.Slice.slicePlaces
  have h1 : ¬ ((-1 : Int) > 0) := by decide
  simp only [h1, if_false]
  by_cases h : (n : Int) - 1 > -1
  · simp only [h, if_true]
    have : ((n : Int) - 1 - -1 - 1) / - -1 = (n : Int) - 1 := by
      show ((n : Int) - 1 - -1 - 1) / 1 = _
      rw [Int.ediv_one]; omega
    omega
  · simp only [h, if_false]; omega
theorem sliceApplied_rev {sl : Addr} {vs : Value} {n : Nat} {Q : Int × Int × Nat → Shared → Prop} (hs : s.heap.IsSliceOf sl .none .none vs) (ps : IsPart vs (some (-1)))
    (h : Q ((n : Int) - 1, -1, n) s) : wpAny (model prog w) A (Builtin.Slice.sliceApplied (.ref sl) (pure (n : Int))) Q E s := by
  obtain ⟨os, hos, hcs, hds⟩ := id hs
  unfold Builtin.Slice.sliceApplied Builtin.Slice.sliceFields
  refine wpAny_bind (wpAny_bind (wpAny_field hos hds (x := .none) rfl (wpAny_bind (wpAny_field hos hds (x := .none) rfl (wpAny_bind (wpAny_field hos hds (x := vs) rfl (wpAny_pure ?_)))))))
  refine wpAny_bind (slicePart_ ps ?_)
  show wpAny _ _ (if ((-1 : Int) == 0) = true then _ else _) _ _ s
  rw [if_neg (by decide)]
  refine wpAny_bind (slicePart_none (wpAny_bind (slicePart_none (wpAny_bind (wpAny_pure ?_)))))
  show wpAny _ _ (match Builtin.Slice.sliceAdjust none none (-1) (n : Int) with | (lo, hi) => pure (lo, (-1 : Int), Builtin.Slice.slicePlaces lo hi (-1))) _ _ s
  rw [adjust_rev n]
  show wpAny _ _ (pure ((n : Int) - 1, (-1 : Int), Builtin.Slice.slicePlaces ((n : Int) - 1) (-1) (-1))) _ _ s
  rw [places_rev]
  exact wpAny_pure h
theorem fm_congr {α β : Type} {f g : α → Option β} : ∀ {l : List α}, (∀ a ∈ l, f a = g a) → l.filterMap f = l.filterMap g
  | [], _ => rfl
  | a :: l, h => by rw [List.filterMap_cons, List.filterMap_cons, h a (by simp), fm_congr fun b hb => h b (by simp [hb])]
theorem fm_take (ys : List Value) : ∀ n : Nat, (List.range n).filterMap (fun m => ys[m]?) = ys.take n
  | 0 => rfl
  | n + 1 => by
    rw [List.range_succ, List.filterMap_append, fm_take ys n, List.take_add_one]
    cases h : ys[n]? <;> simp [h]
theorem pick_rev (xs : Array Value) : ((List.range xs.size).filterMap fun (m : Nat) => xs[((xs.size : Int) - 1 + (m : Int) * -1).toNat]?).toArray = xs.toList.reverse.toArray := by
  have e2 : (List.range xs.size).filterMap (fun (m : Nat) => xs[((xs.size : Int) - 1 + (m : Int) * -1).toNat]?) = (List.range xs.size).filterMap (fun m => xs.toList.reverse[m]?) := fm_congr fun m hm => by
    have hm := List.mem_range.mp hm
    have : ((xs.size : Int) - 1 + (m : Int) * -1).toNat = xs.size - 1 - m := by omega
    rw [this, List.getElem?_reverse (by simpa using hm), Array.getElem?_toList, Array.length_toList]
  rw [e2, fm_take, List.take_of_length_le (by simp)]
theorem getItem_tuple_rev {t sl : Addr} {items : Array Value} {vs : Value} {Q : Value → Shared → Prop} (ht : IsTup s.heap t items) (hs : s.heap.IsSliceOf sl .none .none vs) (ps : IsPart vs (some (-1)))
    (h : Q (.ref s.heap.objs.size) { s with heap := s.heap.push { cls := .type "tuple", data := .seq items.toList.reverse.toArray } })
    (hsz : items.size ≤ sizeLine) : wpAny (model prog w) A (getItem (.ref t) (.ref sl)) Q E s := by
  have htake : sizeOk (.seq items.toList.reverse.toArray) := by
    show items.toList.reverse.toArray.size ≤ sizeLine
    rw [List.size_toArray, List.length_reverse, Array.length_toList]
    omega
  obtain ⟨os, hos, hcs, hds⟩ := id hs
  have hTs : s.TypeIs (.ref sl) "slice" := ⟨os, hos, hcs⟩
  unfold getItem
  try with_reducible refine wpAny_holding ?_
  first | refine wpAny_bind (wpAny_pure ?_) | skip
  refine wpAny_bind (wpAny_sequenceKey ht.typeIs (by decide) ?_)
  refine wpAny_bind (wpAny_callSpecial?_slot (name := Str.ofString "__getitem__") ht.typeIs PyProof.Rows.slot_tuple_getitem
    (wpAny_call_entry PyProof.Rows.slot_tuple_getitem ht.typeIs entry_tuple_getitem ?_ (args_tuple_getitem _ _)))
  show wpAny _ _ (Builtin.Tuple.tupleItemsOf (.ref t) >>= _) _ _ s
  refine wpAny_bind (tupleItemsOf_ ht ?_)
  refine wpAny_bind (wpAny_typeOf hTs ?_)
  rw [if_pos (by decide)]
  refine wpAny_bind (sliceApplied_rev hs ps ?_)
  have hno : ¬ ((((items.size : Int) - 1) == 0 && (-1 : Int) == 1 && items.size == items.size) = true) := by
    intro q
    rw [Bool.and_eq_true, Bool.and_eq_true] at q
    have := eq_of_beq q.1.2
    omega
  show wpAny _ _ (if (((items.size : Int) - 1) == 0 && (-1 : Int) == 1 && items.size == items.size) = true then _ else _) _ _ s
  rw [if_neg hno, pick_rev]
  first
    | exact wpAny_bind (m := Builtin.Tuple.tupleExact _) (wpAny_newObj_type (wpAny_pure ⟨_, rfl, wpAny_pure h⟩) htake)
    | exact wpAny_bind (m := Builtin.Tuple.tupleExact _) (wpAny_newObj_type (wpAny_bind (wpAny_pure (wpAny_pure ⟨_, rfl, wpAny_pure h⟩))) htake)
    | exact wpAny_bind (wpAny_bind (m := Builtin.Tuple.tupleExact _) (wpAny_newObj_type (wpAny_pure (wpAny_pure ⟨_, rfl, wpAny_pure h⟩)) htake))
    | exact wpAny_bind (wpAny_bind (m := Builtin.Tuple.tupleExact _) (wpAny_newObj_type (wpAny_pure ⟨_, rfl, wpAny_pure h⟩) htake))
end
end HT
namespace L2
open PySem PySem.Spec PyProof.Rows
section
variable {X : Cx}
/-- t[::-1], a tuple -/
def tRevT (K : PySem.W.Frag) (te : TE) : TE := fun σ H Q => te σ H fun x H1 => ∃ a xs, x = .ref a ∧ SqT K H1 a xs ∧ ∀ p, H1 p = none → Q (.ref p) (upd H1 p (.tup xs.reverse))
theorem pe_revT {e : Expr} {te : TE} {k : Nat} {p1 p2 p3 pos : Pos} (he : PE X e te) : PE X (.Subscript e (.Slice none none (some (.UnaryOp .USub (.Constant (.int 1) k p1) p2)) p3) pos) (tRevT X.K te) := by
  refine ⟨fun pins s σ H Q I h => ?_⟩
  refine Subscript_ (thn (he.run pins s σ H _ I h) fun v s1 ⟨x, H1, I1, r1, q1⟩ => ?_)
  obtain ⟨a, xs, ex, hx, q⟩ := q1
  subst ex
  cases r1
  have hst : PO X (some (.UnaryOp .USub (.Constant (.int 1) k p1) p2)) (tPart (tUn (rU fun i => .int (-i)) (tC (.int 1)))) := po_some (pe_un un_neg pe_int)
  refine wpAny_Slice (thn (po_none.run pins s1 σ H1 (fun o H2 => o = none ∧ H2 = H1) I1 ⟨rfl, rfl⟩) fun vl s2 ⟨l, H2, I2, pl, el, e2⟩ => ?_)
  subst el e2
  refine thn (po_none.run pins s2 σ H2 (fun o H3 => o = none ∧ H3 = H2) I2 ⟨rfl, rfl⟩) fun vu s3 ⟨u, H3, I3, pu, eu, e3⟩ => ?_
  subst eu e3
  refine thn (hst.run pins s3 σ H3 (fun o H4 => o = some (-1) ∧ H4 = H3) I3 ⟨1, rfl, -1, rfl, rfl, rfl⟩) fun vs s4 ⟨o, H4, I4, ps, eo, e4⟩ => ?_
  subst eo e4
  cases pl
  cases pu
  have I5 : Inv X pins σ H4 { s4 with heap := s4.heap.push { cls := .type "slice", data := .fields #[.none, .none, vs] } } := I4.kept (t' := s4.toks) fun b ob q => Heap.get?_push_of_some _ q
  obtain ⟨its, r, ht, hz⟩ := I5.tuple hx
  have hlen := r.length
  show wpAny (model X.prog X.w) X.A (subscriptTail e (.Slice none none (some (.UnaryOp .USub (.Constant (.int 1) k p1) p2)) p3) (.ref a) (.ref s4.heap.objs.size)) (EP X pins σ Q) X.xe { s4 with heap := s4.heap.push { cls := .type "slice", data := .fields #[.none, .none, vs] } }
  refine tail_any (ops := [.ref a, .ref s4.heap.objs.size]) ht.typeIs (PyProof.Rows.slot_tuple_getitem.lookup) ?_ (by with_unfolding_all rfl)
  refine HT.getItem_tuple_rev ht (Heap.IsSliceOf.new _ .none .none vs) ps ?_ (by rw [List.size_toArray]; omega)
  refine ⟨.ref _, _, I5.laid (t' := s4.toks) (o := .tup xs.reverse) (fun b ob q => Heap.get?_push_of_some _ q) (Nat.le_refl _) ?_, rfl, q _ (I5.hok.fresh (Nat.le_refl _))⟩
  exact ⟨by rw [List.length_reverse]; exact hz, _, r.reverse, IsTup.new _ _⟩
theorem pe_revTs (K : PySem.W.Frag) {e : Expr} {te : TE} {k : Nat} {p1 p2 p3 pos : Pos} (he : PE X e te) (h : X.K = K := by rfl) : PE X (.Subscript e (.Slice none none (some (.UnaryOp .USub (.Constant (.int 1) k p1) p2)) p3) pos) (tRevT K te) := h ▸ pe_revT he
end
end L2
namespace Py
open PySem hiding start
open L2
theorem we_revT {K : PySem.W.Frag} {c : Ctx K} {ρ : Rho} {k : Dv → Prop} {te : TE} (h : We c te ρ fun x => ∃ xs, x = .d (.tuple xs) ∧ k (.d (.tuple xs.reverse))) : We c (tRevT K te) ρ k := fun σ H Q o q => h σ H _ o fun v x H1 o1 e1 d1 ⟨xs, hx, hk⟩ => by
  subst hx
  change Dp _ _ _ _ at d1
  cases d1 with
  | @tup a vs _ _ hs ha =>
    refine ⟨a, vs, rfl, Evl.ex_t hid_sub hs, fun p hp => ?_⟩
    obtain ⟨o4, e4⟩ := o1.new (o := .tup vs.reverse) hp
    exact q _ (.d _) _ o4 (e1.trans e4) (dp_tup (vis_upd (o1.nh hp)) (dpa_mono e4.ex _ _ (dpa_rev ha))) hk
end Py

set_option Elab.async false
set_option linter.all false
set_option autoImplicit false
set_option maxRecDepth 100000
set_option maxHeartbeats 4000000
namespace Py
open PySem hiding start
open L2
open Evl (Ex ex_rd ex_l ex_t fresh_back)
/-! ### keys -/
def keyD : Key → PyData
  | .inl i => .int i
  | .inr s => .str s
abbrev kyD (ks : List Key) : PyData := .tuple (ks.map keyD)
theorem dp_key {K : PySem.W.Frag} {G : Hp} {v : V} : ∀ {k : Key}, Dp K G v (keyD k) → v = kV k
  | .inl _, h => dp_int h
  | .inr _, h => dp_str h
theorem key_dp {K : PySem.W.Frag} {G : Hp} : ∀ (k : Key), Dp K G (kV k) (keyD k)
  | .inl i => Dp.int i
  | .inr s => Dp.str s
theorem dpa_keys {K : PySem.W.Frag} {G : Hp} : ∀ {ks : List Key} {vs : List V}, DpAll K G vs (ks.map keyD) → vs = ks.map kV
  | [], _, .nil => rfl
  | k :: ks, _, .cons h t => by rw [dp_key h, dpa_keys t]; rfl
theorem keys_dpa {K : PySem.W.Frag} {G : Hp} : ∀ (ks : List Key), DpAll K G (ks.map kV) (ks.map keyD)
  | [] => .nil
  | k :: ks => .cons (key_dp k) (keys_dpa ks)
section
variable {κ : Type} [DecidableEq κ] {K : PySem.W.Frag} {G : Hp}
def valD (kvs : List (κ × PyData)) (k : κ) : Option PyData := (kvs.find? fun kv => decide (kv.1 = k)).map (·.2)
def putD (kvs : List (κ × PyData)) (k : κ) (d : PyData) : List (κ × PyData) :=
  if (kvs.any fun kv => decide (kv.1 = k)) = true then kvs.map (fun kv => if kv.1 = k then (kv.1, d) else kv) else kvs ++ [(k, d)]
def dropD (kvs : List (κ × PyData)) (k : κ) : List (κ × PyData) := kvs.filter fun kv => decide (kv.1 ≠ k)
/-- the entries of the object and of the data -/
structure KD (K : PySem.W.Frag) (G : Hp) (us : List (κ × V)) (kvs : List (κ × PyData)) : Prop where
  k : us.map (·.1) = kvs.map (·.1)
  d : DpAll K G (us.map (·.2)) (kvs.map (·.2))
theorem KD.cons_inv {u : κ × V} {us : List (κ × V)} {kvs : List (κ × PyData)} (h : KD K G (u :: us) kvs) : ∃ d r, kvs = (u.1, d) :: r ∧ Dp K G u.2 d ∧ KD K G us r := by
  obtain ⟨h1, h2⟩ := h
  cases kvs with
  | nil => cases h1
  | cons kv r =>
    obtain ⟨k, d⟩ := kv
    simp only [List.map_cons, List.cons.injEq] at h1
    obtain ⟨e, h1⟩ := h1
    subst e
    cases h2 with
    | cons a b => exact ⟨d, r, rfl, a, h1, b⟩
theorem KD.nil_inv {kvs : List (κ × PyData)} (h : KD K G ([] : List (κ × V)) kvs) : kvs = [] := by
  have := h.k
  simpa using this.symm
theorem KD.nil : KD K G ([] : List (κ × V)) [] := ⟨rfl, .nil⟩
theorem KD.cons {k : κ} {v : V} {d : PyData} {us : List (κ × V)} {kvs : List (κ × PyData)} (h : Dp K G v d) (t : KD K G us kvs) : KD K G ((k, v) :: us) ((k, d) :: kvs) := ⟨by simp [t.k], .cons h t.d⟩
theorem KD.len {us : List (κ × V)} {kvs : List (κ × PyData)} (h : KD K G us kvs) : us.length = kvs.length := by simpa using congrArg List.length h.k
theorem KD.any {us : List (κ × V)} {kvs : List (κ × PyData)} (h : KD K G us kvs) (k : κ) : (us.any fun kv => decide (kv.1 = k)) = (kvs.any fun kv => decide (kv.1 = k)) := by
  induction us generalizing kvs with
  | nil => rw [h.nil_inv]; rfl
  | cons u us ih =>
    obtain ⟨d, r, rfl, _, t⟩ := h.cons_inv
    rw [List.any_cons, List.any_cons, ih t]
theorem KD.val {us : List (κ × V)} {kvs : List (κ × PyData)} (h : KD K G us kvs) (k : κ) : (valD kvs k = none ∧ valV us k = none) ∨ ∃ v d, valD kvs k = some d ∧ valV us k = some v ∧ Dp K G v d := by
  induction us generalizing kvs with
  | nil => rw [h.nil_inv]; exact .inl ⟨rfl, rfl⟩
  | cons u us ih =>
    obtain ⟨d, r, rfl, a, t⟩ := h.cons_inv
    by_cases e : u.1 = k
    · exact .inr ⟨u.2, d, by unfold valD; rw [List.find?_cons]; simp [e], valV_pos e, a⟩
    · have e1 : valD ((u.1, d) :: r) k = valD r k := by unfold valD; rw [List.find?_cons]; simp [e]
      rw [e1, valV_neg e]
      exact ih t
theorem KD.put {us : List (κ × V)} {kvs : List (κ × PyData)} (h : KD K G us kvs) (k : κ) {v : V} {d : PyData} (hd : Dp K G v d) : KD K G (putK us k v) (putD kvs k d) := by
  unfold putK putD
  rw [h.any k]
  split
  · rename_i z
    clear z
    induction us generalizing kvs with
    | nil => rw [h.nil_inv]; exact .nil
    | cons u us ih =>
      obtain ⟨d', r, rfl, a, t⟩ := h.cons_inv
      rw [List.map_cons, List.map_cons]
      obtain ⟨uk, uv⟩ := u
      by_cases e : uk = k
      · simp only [e, if_true]
        exact .cons hd (ih t)
      · simp only [e, if_false]
        exact .cons a (ih t)
  · refine ⟨by simp [h.k], ?_⟩
    rw [List.map_append, List.map_append]
    exact dpa_app h.d (.cons hd .nil)
theorem KD.drop {us : List (κ × V)} {kvs : List (κ × PyData)} (h : KD K G us kvs) (k : κ) : KD K G (dropK us k) (dropD kvs k) := by
  unfold dropK dropD
  induction us generalizing kvs with
  | nil => rw [h.nil_inv]; exact .nil
  | cons u us ih =>
    obtain ⟨d', r, rfl, a, t⟩ := h.cons_inv
    obtain ⟨uk, uv⟩ := u
    rw [List.filter_cons, List.filter_cons]
    by_cases e : uk = k
    · simp only [e]
      simpa using ih t
    · simp only [ne_eq, e, not_false_eq_true, decide_true, if_true]
      exact .cons a (ih t)
theorem valD_put (kvs : List (κ × PyData)) (k j : κ) (d : PyData) : valD (putD kvs k d) j = if j = k then some d else valD kvs j := by
  unfold putD
  by_cases h : (kvs.any fun kv => decide (kv.1 = k)) = true
  · rw [if_pos h]
    induction kvs with
    | nil => cases h
    | cons kv r ih =>
      obtain ⟨a, b⟩ := kv
      rw [List.map_cons]
      by_cases e : a = k
      · subst e
        by_cases z : j = a
        · subst z
          unfold valD; rw [List.find?_cons]; simp
        · have e2 : ∀ (b : PyData) (r : List (κ × PyData)), valD ((a, b) :: r) j = valD r j := fun b r => by unfold valD; rw [List.find?_cons]; simp [Ne.symm z]
          simp only [if_true]
          rw [e2, e2]
          by_cases w : (r.any fun kv => decide (kv.1 = a)) = true
          · exact ih w
          · have : r.map (fun kv => if kv.1 = a then (kv.1, d) else kv) = r := by
              conv => rhs; rw [← List.map_id r]
              refine List.map_congr_left fun kv hkv => ?_
              have : ¬ kv.1 = a := fun q => w (List.any_eq_true.mpr ⟨kv, hkv, by simp [q]⟩)
              simp [this]
            rw [this, if_neg z]
      · have w : (r.any fun kv => decide (kv.1 = k)) = true := by
          rw [List.any_cons] at h
          simpa [e] using h
        simp only [e, if_false]
        by_cases z : j = a
        · subst z
          have e2 : ∀ r : List (κ × PyData), valD ((j, b) :: r) j = some b := fun r => by unfold valD; rw [List.find?_cons]; simp
          rw [e2, e2, if_neg e]
        · have e2 : ∀ r : List (κ × PyData), valD ((a, b) :: r) j = valD r j := fun r => by unfold valD; rw [List.find?_cons]; simp [Ne.symm z]
          rw [e2, e2]
          exact ih w
  · rw [if_neg h]
    have no : ∀ kv ∈ kvs, ¬ kv.1 = k := fun kv hkv q => h (List.any_eq_true.mpr ⟨kv, hkv, by simp [q]⟩)
    unfold valD
    rw [List.find?_append]
    by_cases z : j = k
    · subst z
      have : kvs.find? (fun kv => decide (kv.1 = j)) = none := List.find?_eq_none.mpr fun kv hkv => by simp [no kv hkv]
      rw [this]
      simp
    · cases w : kvs.find? (fun kv => decide (kv.1 = j)) with
      | none => simp [Ne.symm z, z]
      | some kv => simp [z]
theorem len_putD (kvs : List (κ × PyData)) (k : κ) (d : PyData) : (putD kvs k d).length ≤ kvs.length + 1 := by
  unfold putD
  split <;> simp
/-- its keys -/
theorem keys_putD (kvs : List (κ × PyData)) (k : κ) (d : PyData) : (putD kvs k d).map (·.1) = if k ∈ kvs.map (·.1) then kvs.map (·.1) else kvs.map (·.1) ++ [k] := by
  unfold putD
  have e : (kvs.any fun kv => decide (kv.1 = k)) = decide (k ∈ kvs.map (·.1)) := by
    rw [Bool.eq_iff_iff, List.any_eq_true, decide_eq_true_eq, List.mem_map]
    simp
  rw [e]
  by_cases h : k ∈ kvs.map (·.1)
  · rw [decide_eq_true h, if_pos rfl, if_pos h, List.map_map]
    refine List.map_congr_left fun kv _ => ?_
    show (if kv.1 = k then (kv.1, d) else kv).1 = kv.1
    split <;> rfl
  · rw [decide_eq_false h, if_neg (by decide), if_neg h, List.map_append]; rfl
theorem valD_mem {kvs : List (κ × PyData)} {k : κ} : (valD kvs k).isSome = decide (k ∈ kvs.map (·.1)) := by
  rw [Bool.eq_iff_iff, decide_eq_true_eq]
  unfold valD
  rw [Option.isSome_map, List.find?_isSome, List.mem_map]
  simp
end
/-! ### rules -/
open Classical
section
variable {K : PySem.W.Frag} {c c' : Ctx K} {ρ : Rho} {E : DE} {k : Dv → Prop} {ta : TA} {tb te ty tx tv : TE} {t u : TS} {d : Addr}
theorem Ok.ownC {σ : L2.St} {H : Hp} (o : Ok c ρ σ H) {i : Nat} {x : OwnC} (h : ρ[i]? = some (.own d x)) : ∃ ob, σ[i]? = some (some (.ref d)) ∧ H d = some ob ∧ OwnOk K (vis c ρ H) ob x := by
  obtain ⟨u, q, ob, rfl, h1, d1⟩ := o.sl i _ h
  exact ⟨ob, q, h1, d1⟩
theorem Ok.ownT {σ : L2.St} {H : Hp} (o : Ok c ρ σ H) {i : Nat} {kvs : List (List Key × PyData)} (h : ρ[i]? = some (.own d (.t kvs))) : ∃ us, σ[i]? = some (some (.ref d)) ∧ H d = some (.dT us) ∧ KD K (vis c ρ H) us kvs := by
  obtain ⟨ob, q, h1, us, rfl, a, b⟩ := o.ownC h
  exact ⟨us, q, h1, a, b⟩
theorem Ok.ownK {σ : L2.St} {H : Hp} (o : Ok c ρ σ H) {i : Nat} {kvs : List (Key × PyData)} (h : ρ[i]? = some (.own d (.k kvs))) : ∃ us, σ[i]? = some (some (.ref d)) ∧ H d = some (.dK us) ∧ KD K (vis c ρ H) us kvs := by
  obtain ⟨ob, q, h1, us, rfl, a, b⟩ := o.ownC h
  exact ⟨us, q, h1, a, b⟩
/-- an object of one's own changes -/
theorem Ok.chgC {σ : L2.St} {H : Hp} (o : Ok c ρ σ H) {i : Nat} {x x' : OwnC} {ob : HO} (h : ρ[i]? = some (.own d x)) (dd : OwnOk K (vis c ρ H) ob x') : Ok c (ρ.set i (.own d x')) σ (upd H d ob) := by
  obtain ⟨ob0, e1, h1, d1⟩ := o.ownC h
  have ol : Owns ρ d := ⟨x, List.mem_of_getElem? h⟩
  have nl : ¬ c.L d := (o.ob d ol).2
  have ow1 : ∀ a, Owns (ρ.set i (.own d x')) a → Owns ρ a := fun a z => by
    rcases owns_set z with q | ⟨ys, q⟩
    · exact q
    · cases q; exact ol
  have ev : Ex (vis c ρ H) (vis c (ρ.set i (.own d x')) (upd H d ob)) := fun b ob z => by
    obtain ⟨n1, z⟩ := hid_some z
    have nb : b ≠ d := fun q => n1 (.inr (q ▸ ol))
    exact (hid_neg fun q => n1 (q.imp id (ow1 b))).trans ((upd_ne nb).trans z)
  refine ⟨c.loc _ _ (fun a z => upd_ne fun q => nl (q ▸ z)) (tp_mut h1 (own_mut d1)) o.w, (o.base.trans ev).trans vis_out, fun a z => o.ob a (ow1 a z), fun j s hs => ?_, fun j j' a ys zs hs hs' => ?_, by simp [o.len]⟩
  · rcases List_set_get hs with ⟨rfl, rfl, _⟩ | ⟨ne, hs⟩
    · exact ⟨some (.ref d), e1, _, rfl, upd_same, own_mono ev _ _ dd⟩
    · obtain ⟨u, q, z⟩ := o.sl j s hs
      refine ⟨u, q, ?_⟩
      cases s with
      | un => trivial
      | val y => obtain ⟨w, e1, e2⟩ := z; exact ⟨w, e1, dv_mono ev e2⟩
      | own m ys =>
        obtain ⟨ws, e1, e2, e3⟩ := z
        have nm : m ≠ d := fun q => ne (o.one i j d x ys h (q ▸ hs))
        exact ⟨ws, e1, (upd_ne nm).trans e2, own_mono ev _ _ e3⟩
  · rcases List_set_get hs with ⟨r1, q1, _⟩ | ⟨ne, hs⟩
    · rcases List_set_get hs' with ⟨r2, q2, _⟩ | ⟨ne', hs'⟩
      · exact r1.symm.trans r2
      · cases q1
        exact (r1.symm.trans (o.one i j' d x _ h hs'))
    · rcases List_set_get hs' with ⟨r2, q2, _⟩ | ⟨ne', hs'⟩
      · cases q2
        exact ((o.one i j d x _ h hs).symm.trans r2)
      · exact o.one _ _ _ _ _ hs hs'
theorem ws_dnewT {i : Nat} (n : ∀ d, E.nx (ρ.set i (.own d (.t [])))) : Ws c (tAsg tDNewT (gName i)) ρ E := fun D σ H e o p hp => by
  obtain ⟨o2, e2⟩ := o.new (o := .dT []) hp
  exact e.nx _ _ _ (o.putOwnC (xs := .t []) o2 hp upd_same ⟨[], rfl, rfl, .nil⟩ (o.clean e2 hp) i) (n p)
theorem ws_dnewK {i : Nat} (n : ∀ d, E.nx (ρ.set i (.own d (.k [])))) : Ws c (tAsg tDNewK (gName i)) ρ E := fun D σ H e o p hp => by
  obtain ⟨o2, e2⟩ := o.new (o := .dK []) hp
  exact e.nx _ _ _ (o.putOwnC (xs := .k []) o2 hp upd_same ⟨[], rfl, rfl, .nil⟩ (o.clean e2 hp) i) (n p)
/-- a tuple as a key -/
theorem key_at {σ : L2.St} {H : Hp} {v : V} {ks : List Key} (dv : DvOk K (vis c ρ H) v (.d (kyD ks))) : ∃ b, v = .ref b ∧ H b = some (.tup (ks.map kV)) := by
  change Dp _ _ _ _ at dv
  cases dv with
  | @tup b us _ hp hs ha => exact ⟨b, rfl, by rw [← dpa_keys ha]; exact (hid_some hp).2⟩
theorem dget_at {σ : L2.St} {H H1 : Hp} {j : Nat} {kvs : List (List Key × PyData)} (o : Ok c ρ σ H) (o1 : Ok c ρ σ H1) (h : ρ[j]? = some (.own d (.t kvs))) {v : V} {ks : List Key} (dv : DvOk K (vis c ρ H1) v (.d (kyD ks))) :
    (valD kvs ks = none ∧ DGet H1 d v none) ∨ ∃ w x, valD kvs ks = some x ∧ DGet H1 d v (some w) ∧ Dp K (vis c ρ H1) w x := by
  obtain ⟨us, q, h1, kd⟩ := o1.ownT h
  obtain ⟨b, rfl, hb⟩ := key_at (σ := σ) dv
  have g := DGet.t h1 hb
  rcases kd.val ks with ⟨a1, a2⟩ | ⟨w, x, a1, a2, a3⟩
  · rw [a2] at g; exact .inl ⟨a1, g⟩
  · rw [a2] at g; exact .inr ⟨w, x, a1, g, a3⟩
theorem we_din {j : Nat} {kvs : List (List Key × PyData)} (h : ρ[j]? = some (.own d (.t kvs))) (hk : We c ty ρ fun x => ∃ ks, x = .d (kyD ks) ∧ k (.d (.bool (valD kvs ks).isSome))) : We c (tDIn ty (tVar j)) ρ k := fun σ H Q o q => hk σ H _ o fun v x H1 o1 e1 dx ⟨ks, hx, kx⟩ => by
  subst hx
  obtain ⟨us, e, _⟩ := o.ownT h
  refine ⟨_, e, ?_⟩
  rcases dget_at o o1 h dx with ⟨a1, g⟩ | ⟨w, x, a1, g, _⟩
  · exact ⟨d, none, rfl, g, q (.bl _) (.d (.bool _)) H1 o1 e1 (Dp.bl _) (by rw [a1] at kx; exact kx)⟩
  · exact ⟨d, some w, rfl, g, q (.bl _) (.d (.bool _)) H1 o1 e1 (Dp.bl _) (by rw [a1] at kx; exact kx)⟩
theorem we_dnin {j : Nat} {kvs : List (List Key × PyData)} (h : ρ[j]? = some (.own d (.t kvs))) (hk : We c ty ρ fun x => ∃ ks, x = .d (kyD ks) ∧ k (.d (.bool (!(valD kvs ks).isSome)))) : We c (tDNotIn ty (tVar j)) ρ k := fun σ H Q o q => hk σ H _ o fun v x H1 o1 e1 dx ⟨ks, hx, kx⟩ => by
  subst hx
  obtain ⟨us, e, _⟩ := o.ownT h
  refine ⟨_, e, ?_⟩
  rcases dget_at o o1 h dx with ⟨a1, g⟩ | ⟨w, x, a1, g, _⟩
  · exact ⟨d, none, rfl, g, q (.bl _) (.d (.bool _)) H1 o1 e1 (Dp.bl _) (by rw [a1] at kx; exact kx)⟩
  · exact ⟨d, some w, rfl, g, q (.bl _) (.d (.bool _)) H1 o1 e1 (Dp.bl _) (by rw [a1] at kx; exact kx)⟩
theorem we_dget {j : Nat} {kvs : List (List Key × PyData)} (h : ρ[j]? = some (.own d (.t kvs))) (hk : We c ty ρ fun x => ∃ ks v, x = .d (kyD ks) ∧ valD kvs ks = some v ∧ k (.d v)) : We c (tDGet (tVar j) ty) ρ k := fun σ H Q o q => by
  obtain ⟨us, e, _⟩ := o.ownT h
  refine ⟨_, e, hk σ H _ o fun v x H1 o1 e1 dx ⟨ks, w, hx, hv, kx⟩ => ?_⟩
  subst hx
  rcases dget_at o o1 h dx with ⟨a1, g⟩ | ⟨w', x, a1, g, dw⟩
  · rw [hv] at a1; cases a1
  · rw [hv] at a1; cases a1
    exact ⟨d, w', rfl, g, q w' (.d _) H1 o1 e1 dw kx⟩
theorem we_dget2 {j : Nat} {kvs : List (List Key × PyData)} (h : ρ[j]? = some (.own d (.t kvs))) (hk : We c ty ρ fun x => We c tx ρ fun z => ∃ ks d0, x = .d (kyD ks) ∧ z = .d d0 ∧ k (.d ((valD kvs ks).getD d0))) : We c (tDGet2 (tVar j) ty tx) ρ k := fun σ H Q o q => by
  obtain ⟨us, e, hd, _⟩ := o.ownT h
  refine ⟨_, e, d, rfl, .inr ⟨us, .inl hd⟩, hk σ H _ o fun v x H1 o1 e1 dx hz => hz σ H1 _ o1 fun z zd H2 o2 e2 dz ⟨ks, d0, hx, hz', kx⟩ => ?_⟩
  subst hx hz'
  rcases dget_at o o2 h (dv_mono e2.ex dx) with ⟨a1, g⟩ | ⟨w', x, a1, g, dw⟩
  · rw [a1] at kx
    exact ⟨none, g, q z (.d _) H2 o2 (e1.trans e2) dz kx⟩
  · rw [a1] at kx
    exact ⟨some w', g, q w' (.d _) H2 o2 (e1.trans e2) dw kx⟩
theorem ws_dput {j : Nat} {kvs : List (List Key × PyData)} (h : ρ[j]? = some (.own d (.t kvs))) (hz : kvs.length < 100000) (hv : We c tv ρ fun z => We c ty ρ fun y => ∃ ks d0, z = .d d0 ∧ y = .d (kyD ks) ∧ E.nx (ρ.set j (.own d (.t (putD kvs ks d0))))) : Ws c (sDPut (tVar j) ty tv) ρ E := fun D σ H e o =>
  hv σ H _ o fun v z H1 o1 e1 dz hy => by
    obtain ⟨us, q, _⟩ := o1.ownT h
    refine ⟨_, q, hy σ H1 _ o1 fun y yd H2 o2 e2 dy ⟨ks, d0, hz', hy', n⟩ => ?_⟩
    subst hz' hy'
    obtain ⟨us, q, h2, kd⟩ := o2.ownT h
    obtain ⟨b, rfl, hb⟩ := key_at (σ := σ) dy
    have kp := kd.put ks (v := v) (d := d0) (dp_mono e2.ex _ _ dz)
    exact ⟨d, _, rfl, DPut.t h2 hb (Evl.sz_lt (by rw [kd.len]; exact hz)), e.nx _ _ _ (o2.chgC (x' := .t _) h ⟨_, rfl, kp.k, kp.d⟩) n⟩
/-! by ints and texts -/
theorem dgetk_at {σ : L2.St} {H1 : Hp} {j : Nat} {kvs : List (Key × PyData)} (o1 : Ok c ρ σ H1) (h : ρ[j]? = some (.own d (.k kvs))) {v : V} {ks : Key} (dv : DvOk K (vis c ρ H1) v (.d (keyD ks))) :
    (valD kvs ks = none ∧ DGet H1 d v none) ∨ ∃ w x, valD kvs ks = some x ∧ DGet H1 d v (some w) ∧ Dp K (vis c ρ H1) w x := by
  obtain ⟨us, q, h1, kd⟩ := o1.ownK h
  obtain rfl := dp_key (k := ks) dv
  have g := DGet.k (k := ks) h1
  rcases kd.val ks with ⟨a1, a2⟩ | ⟨w, x, a1, a2, a3⟩
  · rw [a2] at g; exact .inl ⟨a1, g⟩
  · rw [a2] at g; exact .inr ⟨w, x, a1, g, a3⟩
theorem we_dinK {j : Nat} {kvs : List (Key × PyData)} (h : ρ[j]? = some (.own d (.k kvs))) (hk : We c ty ρ fun x => ∃ ks, x = .d (keyD ks) ∧ k (.d (.bool (valD kvs ks).isSome))) : We c (tDIn ty (tVar j)) ρ k := fun σ H Q o q => hk σ H _ o fun v x H1 o1 e1 dx ⟨ks, hx, kx⟩ => by
  subst hx
  obtain ⟨us, e, _⟩ := o.ownK h
  refine ⟨_, e, ?_⟩
  rcases dgetk_at o1 h dx with ⟨a1, g⟩ | ⟨w, x, a1, g, _⟩
  · exact ⟨d, none, rfl, g, q (.bl _) (.d (.bool _)) H1 o1 e1 (Dp.bl _) (by rw [a1] at kx; exact kx)⟩
  · exact ⟨d, some w, rfl, g, q (.bl _) (.d (.bool _)) H1 o1 e1 (Dp.bl _) (by rw [a1] at kx; exact kx)⟩
theorem we_dninK {j : Nat} {kvs : List (Key × PyData)} (h : ρ[j]? = some (.own d (.k kvs))) (hk : We c ty ρ fun x => ∃ ks, x = .d (keyD ks) ∧ k (.d (.bool (!(valD kvs ks).isSome)))) : We c (tDNotIn ty (tVar j)) ρ k := fun σ H Q o q => hk σ H _ o fun v x H1 o1 e1 dx ⟨ks, hx, kx⟩ => by
  subst hx
  obtain ⟨us, e, _⟩ := o.ownK h
  refine ⟨_, e, ?_⟩
  rcases dgetk_at o1 h dx with ⟨a1, g⟩ | ⟨w, x, a1, g, _⟩
  · exact ⟨d, none, rfl, g, q (.bl _) (.d (.bool _)) H1 o1 e1 (Dp.bl _) (by rw [a1] at kx; exact kx)⟩
  · exact ⟨d, some w, rfl, g, q (.bl _) (.d (.bool _)) H1 o1 e1 (Dp.bl _) (by rw [a1] at kx; exact kx)⟩
theorem we_dgetK {j : Nat} {kvs : List (Key × PyData)} (h : ρ[j]? = some (.own d (.k kvs))) (hk : We c ty ρ fun x => ∃ ks v, x = .d (keyD ks) ∧ valD kvs ks = some v ∧ k (.d v)) : We c (tDGet (tVar j) ty) ρ k := fun σ H Q o q => by
  obtain ⟨us, e, _⟩ := o.ownK h
  refine ⟨_, e, hk σ H _ o fun v x H1 o1 e1 dx ⟨ks, w, hx, hv, kx⟩ => ?_⟩
  subst hx
  rcases dgetk_at o1 h dx with ⟨a1, g⟩ | ⟨w', x, a1, g, dw⟩
  · rw [hv] at a1; cases a1
  · rw [hv] at a1; cases a1
    exact ⟨d, w', rfl, g, q w' (.d _) H1 o1 e1 dw kx⟩
theorem we_dgetK2 {j : Nat} {kvs : List (Key × PyData)} (h : ρ[j]? = some (.own d (.k kvs))) (hk : We c ty ρ fun x => We c tx ρ fun z => ∃ ks d0, x = .d (keyD ks) ∧ z = .d d0 ∧ k (.d ((valD kvs ks).getD d0))) : We c (tDGet2 (tVar j) ty tx) ρ k := fun σ H Q o q => by
  obtain ⟨us, e, hd, _⟩ := o.ownK h
  refine ⟨_, e, d, rfl, .inl ⟨us, .inl hd⟩, hk σ H _ o fun v x H1 o1 e1 dx hz => hz σ H1 _ o1 fun z zd H2 o2 e2 dz ⟨ks, d0, hx, hz', kx⟩ => ?_⟩
  subst hx hz'
  rcases dgetk_at o2 h (dv_mono e2.ex dx) with ⟨a1, g⟩ | ⟨w', x, a1, g, dw⟩
  · rw [a1] at kx
    exact ⟨none, g, q z (.d _) H2 o2 (e1.trans e2) dz kx⟩
  · rw [a1] at kx
    exact ⟨some w', g, q w' (.d _) H2 o2 (e1.trans e2) dw kx⟩
theorem ws_dputK {j : Nat} {kvs : List (Key × PyData)} (h : ρ[j]? = some (.own d (.k kvs))) (hz : kvs.length < 100000) (hv : We c tv ρ fun z => We c ty ρ fun y => ∃ ks d0, z = .d d0 ∧ y = .d (keyD ks) ∧ E.nx (ρ.set j (.own d (.k (putD kvs ks d0))))) : Ws c (sDPut (tVar j) ty tv) ρ E := fun D σ H e o =>
  hv σ H _ o fun v z H1 o1 e1 dz hy => by
    obtain ⟨us, q, _⟩ := o1.ownK h
    refine ⟨_, q, hy σ H1 _ o1 fun y yd H2 o2 e2 dy ⟨ks, d0, hz', hy', n⟩ => ?_⟩
    subst hz' hy'
    obtain ⟨us, q, h2, kd⟩ := o2.ownK h
    obtain rfl := dp_key (k := ks) dy
    have kp := kd.put ks (v := v) (d := d0) (dp_mono e2.ex _ _ dz)
    exact ⟨d, _, rfl, DPut.k h2 (Evl.sz_lt (by rw [kd.len]; exact hz)), e.nx _ _ _ (o2.chgC (x' := .k _) h ⟨_, rfl, kp.k, kp.d⟩) n⟩
/-! list(d) -/
def rListDT : List V → Hp → VK → Prop := fun xs H Q => ∃ d kvs, xs = [V.ref d] ∧ Rd H d (.dT kvs) ∧ ∀ p bs, H p = none → IsKeys H kvs bs → Q (.ref p) (upd H p (.lst (bs.map V.ref)))
theorem call_list_dTs {X : Cx} (hc : X.calm = true) : CallR X (.type "list") rListDT := call_list_dT hc
theorem keys_vis {H : Hp} (lt : ∀ a o, H a = some o → isMut o = false → vis c ρ H a = some o) : ∀ {us : List (List Key × V)} {bs : List Addr}, IsKeys H us bs → DpAll K (vis c ρ H) (bs.map V.ref) ((us.map (·.1)).map kyD)
  | _, _, .nil => .nil
  | _, _, .cons h t => .cons (dp_tup (lt _ _ h rfl) (keys_dpa _)) (keys_vis lt t)
theorem Ok.seen {σ : L2.St} {H : Hp} (o : Ok c ρ σ H) (a : Addr) (ob : HO) (h : H a = some ob) (m : isMut ob = false) : vis c ρ H a = some ob := o.noL a ob (noL_of h m)
theorem wf_listDT {k : List PyData → Prop} {i : Nat} {kvs : List (List Key × PyData)} (h : ρ[i]? = some (.own d (.t kvs))) (hk : k ((kvs.map (·.1)).map kyD)) : Wf c (tCB rListDT (tCons (tVar i) tNil)) ρ k := fun σ H Q o q => by
  obtain ⟨us, e1, h1, kd⟩ := o.ownT h
  refine ⟨_, e1, d, us, rfl, .inl h1, fun p bs hp ik => ?_⟩
  have dd := keys_vis (K := K) (c := c) (ρ := ρ) (fun a ob h m => o.seen a ob h m) ik
  rw [kd.k] at dd
  obtain ⟨h0, o4, s4, d4⟩ := o.fresh (Stp.refl _) hp dd
  exact q p _ _ _ h0 upd_same o4 s4 d4 hk
/-! sorted(pairs) -/
theorem cr_sortPs (K : PySem.W.Frag) {X : Cx} (h : X.K = K := by rfl) : CallR X (.builtin "sorted") (rSortedPO K) := h ▸ cr_sortedPO
def lexLe (a b : Int × Int) : Prop := a.1 < b.1 ∨ (a.1 = b.1 ∧ a.2 ≤ b.2)
abbrev prD (z : Int × Int) : PyData := tupI z.1 z.2
noncomputable def prOf (H : Hp) (v : V) : Int × Int := match v with
  | .ref t => match H t with
    | some (.tup [.int i, .int j]) => (i, j)
    | _ => (0, 0)
  | _ => (0, 0)
theorem dpa_prs {G H : Hp} (s : Ex G H) : ∀ {zs : List (Int × Int)} {vs : List V}, DpAll K G vs (zs.map prD) → vs.map (prOf H) = zs ∧ ∀ x ∈ vs, ∃ t, x = V.ref t ∧ G t = some (.tup [.int (prOf H x).1, .int (prOf H x).2])
  | [], _, .nil => ⟨rfl, fun x hx => by cases hx⟩
  | z :: zs, _, .cons (v := v) h t => by
    obtain ⟨e1, e2⟩ := dpa_prs s t
    have h : Dp K G v (.tuple [.int z.1, .int z.2]) := h
    cases h with
    | @tup b us _ hp hs ha =>
      cases ha with
      | cons a1 ha =>
        cases ha with
        | cons a2 ha =>
          cases ha
          obtain rfl := dp_int a1
          obtain rfl := dp_int a2
          have e : prOf H (.ref b) = z := by
            show (match H b with | some (.tup [.int i, .int j]) => (i, j) | _ => (0, 0)) = z
            rw [s _ _ hp]
          refine ⟨by rw [List.map_cons, e1, e], fun x hx => ?_⟩
          rcases List.mem_cons.mp hx with rfl | hx
          · exact ⟨b, rfl, by rw [e]; exact hp⟩
          · exact e2 x hx
theorem prs_dpa {G H : Hp} : ∀ {vs : List V}, (∀ x ∈ vs, ∃ t, x = V.ref t ∧ G t = some (.tup [.int (prOf H x).1, .int (prOf H x).2])) → DpAll K G vs ((vs.map (prOf H)).map prD)
  | [], _ => .nil
  | v :: vs, h => by
    obtain ⟨t, e, g⟩ := h v (by simp)
    refine .cons ?_ (prs_dpa fun x hx => h x (by simp [hx]))
    have : v = .ref t := e
    rw [this] at g ⊢
    exact dp_tup g (.cons (.int _) (.cons (.int _) .nil))
theorem wf_sortP {k : List PyData → Prop} (h : We c te ρ fun x => ∃ zs : List (Int × Int), x = .d (.list (zs.map prD)) ∧ ∀ ys : List (Int × Int), ys.Perm zs → ys.Pairwise lexLe → k (ys.map prD)) : Wf c (tCB (rSortedPO K) (tCons te tNil)) ρ k := fun σ H Q o q => h σ H _ o fun v x H1 o1 e1 d1 ⟨zs, hx, hk⟩ => by
  subst hx
  change Dp _ _ _ _ at d1
  cases d1 with
  | @lst a vs _ _ hs ha =>
    obtain ⟨m1, m2⟩ := dpa_prs (hid_sub : Ex (vis c ρ H1) H1) ha
    refine ⟨a, vs, prOf H1, rfl, ex_l hid_sub hs, fun x hx => ?_, fun ys p srt stb hp => ?_⟩
    · obtain ⟨t, e, g⟩ := m2 x hx
      exact ⟨t, e, (hid_some g).2⟩
    · have pm : ys.Perm vs := stb.perm
      have dd : DpAll K (vis c ρ H1) ys ((ys.map (prOf H1)).map prD) := prs_dpa fun x hx => m2 x (pm.mem_iff.mp hx)
      obtain ⟨h0, o4, s4, d4⟩ := o1.fresh e1 hp dd
      refine q p _ _ _ h0 upd_same o4 s4 d4 (hk _ (by rw [← m1]; exact pm.map _) ?_)
      rw [List.pairwise_map]
      refine List.Pairwise.imp (fun {x y} h => ?_) (show List.Pairwise _ ys from srt)
      have h : SrtO.lexB (prOf H1 y) (prOf H1 x) = false := h
      have h := SrtO.lexB_no.mp h
      unfold lexLe
      omega
/-! in of data -/
theorem op_inDs (K : PySem.W.Frag) {X : Cx} (hu : X.A.units + 65 < cLine) (h : X.K = K := by rfl) : OpR X (compareOp .In) (rInD K) := h ▸ op_inD hu
theorem op_notInDs (K : PySem.W.Frag) {X : Cx} (hu : X.A.units + 65 < cLine) (h : X.K = K := by rfl) : OpR X (compareOp .NotIn) (rNotInD K) := h ▸ op_notInD hu
theorem rv_inD {x : PyData} {ds : List PyData} (h1 : SeqAt.shaped x = true) (h2 : SeqAt.shaped (.list ds) = true) (h : k (.d (.bool (ds.any fun z => PyData.eqv z x)))) : Rv c (rInD K) ρ (.d x) (.d (.list ds)) k := fun σ H v u Q o d1 d2 q =>
  ⟨x, ds, Dp.to _ _ (SeqAt.canLay_of_shaped h1) (dp_mono hid_sub _ _ d1), Dp.to _ _ (SeqAt.canLay_of_shaped h2) (dp_mono hid_sub _ _ d2), h1, h2, q.val o (x := .d _) (Dp.bl _) h⟩
theorem rv_notInD {x : PyData} {ds : List PyData} (h1 : SeqAt.shaped x = true) (h2 : SeqAt.shaped (.list ds) = true) (h : k (.d (.bool (!ds.any fun z => PyData.eqv z x)))) : Rv c (rNotInD K) ρ (.d x) (.d (.list ds)) k := fun σ H v u Q o d1 d2 q =>
  ⟨x, ds, Dp.to _ _ (SeqAt.canLay_of_shaped h1) (dp_mono hid_sub _ _ d1), Dp.to _ _ (SeqAt.canLay_of_shaped h2) (dp_mono hid_sub _ _ d2), h1, h2, q.val o (x := .d _) (Dp.bl _) h⟩
def rMinI : List V → Hp → VK → Prop := fun xs H Q => ∃ i j, xs = [.int i, .int j] ∧ Q (.int (if j < i then j else i)) H
theorem call_minI {X : Cx} (hc : X.calm = true) : CallR X (.builtin "min") rMinI := call_min2 hc
theorem rc_minI {i j : Int} (h : k (.d (.int (if j < i then j else i)))) : Rc c rMinI ρ [.d (.int i), .d (.int j)] k := fun σ H vs Q o d q => by
  cases d with
  | cons d1 d2 =>
    cases d2 with
    | cons d2 d3 =>
      cases d3
      obtain rfl := dp_int d1
      obtain rfl := dp_int d2
      exact ⟨i, j, rfl, q.val o (x := .d _) (Dp.int _) h⟩
end
end Py

set_option Elab.async false
set_option linter.all false
set_option autoImplicit false
set_option maxRecDepth 100000
set_option maxHeartbeats 4000000
namespace Py
open PySem hiding start
open L2
/-! ### the way through cells -/
def inSp (B : Bx) (p q : Pt) (t : Rat) : Prop := (0 ≤ t ∧ t ≤ 1) ∧ inStrip B.xl B.xh p.x q.x t ∧ inStrip B.yl B.yh p.y q.y t
def bef (B B' : Bx) (p q : Pt) : Prop := ∀ t t', inSp B p q t → inSp B' p q t' → t < t'
theorem sp_meets {B : Bx} {p q : Pt} (hpq : p ≠ q) : meetsQ B p q ↔ ∃ t, inSp B p q t := meetsQ_t B hpq
theorem way_flip (u v t : Rat) : wayX v u (1 - t) = wayX u v t := by unfold wayX; grind
theorem sp_flip {B : Bx} {p q : Pt} {t : Rat} : inSp B q p (1 - t) ↔ inSp B p q t := by
  unfold inSp inStrip
  rw [way_flip, way_flip]
  constructor
  · rintro ⟨⟨a, b⟩, c⟩; exact ⟨⟨by grind, by grind⟩, c⟩
  · rintro ⟨⟨a, b⟩, c⟩; exact ⟨⟨by grind, by grind⟩, c⟩
theorem bef_flip {B B' : Bx} {p q : Pt} : bef B B' q p ↔ bef B' B p q := by
  unfold bef
  constructor
  · intro h t t' h1 h2
    have := h (1 - t') (1 - t) (sp_flip.mpr h2) (sp_flip.mpr h1)
    grind
  · intro h t t' h1 h2
    have := h (1 - t') (1 - t) (sp_flip.mpr h2) (sp_flip.mpr h1)
    grind
/-- which span comes first -/
def cfQ (r1 : Rat) (o1 : Bool) (r2 : Rat) (o2 : Bool) : Prop := r1 < r2 ∨ (r1 = r2 ∧ o2 = true ∧ o1 = false)
theorem lo_up {r s t : Rat} {o : Bool} (h : inLo r o s) (hs : s ≤ t) : inLo r o t := by
  unfold inLo at *
  cases o <;> simp at * <;> grind
theorem hi_dn {r s t : Rat} {o : Bool} (h : inHi r o s) (hs : t ≤ s) : inHi r o t := by
  unfold inHi at *
  cases o <;> simp at * <;> grind
theorem lo_cf {r1 r2 t : Rat} {o1 o2 : Bool} (c : cfQ r1 o1 r2 o2) (h : inLo r2 o2 t) : inLo r1 o1 t := by
  unfold cfQ inLo at *
  cases o1 <;> cases o2 <;> simp at * <;> grind
theorem lo_ncf {r1 r2 t : Rat} {o1 o2 : Bool} (c : ¬ cfQ r1 o1 r2 o2) (h : inLo r1 o1 t) : inLo r2 o2 t := by
  unfold cfQ inLo at *
  cases o1 <;> cases o2 <;> simp at * <;> grind
theorem cf_bef {A A' : Rat → Prop} {rl rh rl' rh' : Rat} {ol oh ol' oh' : Bool} (h : ∀ t, (inLo rl ol t ∧ inHi rh oh t) ↔ A t) (h' : ∀ t, (inLo rl' ol' t ∧ inHi rh' oh' t) ↔ A' t) (dj : ∀ t, A t → ¬ A' t) :
    (cfQ rl ol rl' ol' → ∀ t t', A t → A' t' → t < t') ∧ (¬ cfQ rl ol rl' ol' → ∀ t t', A' t → A t' → t < t') := by
  constructor
  · intro c t t' a a'
    by_cases z : t < t'
    · exact z
    exfalso
    have z : t' ≤ t := by grind
    obtain ⟨l1, l2⟩ := (h t).mpr a
    obtain ⟨m1, m2⟩ := (h' t').mpr a'
    exact dj t' ((h t').mp ⟨lo_cf c m1, hi_dn l2 z⟩) a'
  · intro c t t' a' a
    by_cases z : t < t'
    · exact z
    exfalso
    have z : t' ≤ t := by grind
    obtain ⟨l1, l2⟩ := (h t').mpr a
    obtain ⟨m1, m2⟩ := (h' t).mpr a'
    exact dj t' a ((h' t').mp ⟨lo_ncf c l1, hi_dn m2 z⟩)
section
variable {a b : Int} {ha : 0 < a} {hb : 0 < b} {p q : Pt}
abbrev Ce := Int × Int
noncomputable abbrev ceB (a b : Int) (ha : 0 < a) (hb : 0 < b) (z : Ce) : Bx := cellOf z.1 z.2 a b ha hb
theorem strip_apart {z z' : Int} (h : z < z') {w : Rat} (hw : 0 < w) : (2 * (z : Rat) + 1) / 2 * w ≤ (2 * (z' : Rat) - 1) / 2 * w := by
  have h1 : (z : Rat) + 1 ≤ (z' : Rat) := by
    have : z + 1 ≤ z' := by omega
    have : ((z + 1 : Int) : Rat) ≤ ((z' : Int) : Rat) := by exact_mod_cast this
    simpa using this
  have := Rat.mul_nonneg (show 0 ≤ (z' : Rat) - (z : Rat) - 1 by grind) (show 0 ≤ w by grind)
  grind
theorem ce_xapart {z z' : Ce} (h : z.1 < z'.1) : (ceB a b ha hb z).xh ≤ (ceB a b ha hb z').xl := strip_apart h (wab ha hb)
theorem ce_yapart {z z' : Ce} (h : z.2 < z'.2) : (ceB a b ha hb z).yh ≤ (ceB a b ha hb z').yl := strip_apart h (wab ha hb)
theorem ce_disj {z z' : Ce} {t : Rat} (h : inSp (ceB a b ha hb z) p q t) (h' : inSp (ceB a b ha hb z') p q t) : z = z' := by
  obtain ⟨_, ⟨x1, x2⟩, y1, y2⟩ := h
  obtain ⟨_, ⟨u1, u2⟩, v1, v2⟩ := h'
  have e1 : z.1 = z'.1 := by
    rcases Int.lt_trichotomy z.1 z'.1 with g | g | g
    · have := ce_xapart (a := a) (b := b) (ha := ha) (hb := hb) g; grind
    · exact g
    · have := ce_xapart (a := a) (b := b) (ha := ha) (hb := hb) g; grind
  have e2 : z.2 = z'.2 := by
    rcases Int.lt_trichotomy z.2 z'.2 with g | g | g
    · have := ce_yapart (a := a) (b := b) (ha := ha) (hb := hb) g; grind
    · exact g
    · have := ce_yapart (a := a) (b := b) (ha := ha) (hb := hb) g; grind
  exact Prod.ext e1 e2
/-- cells in the row in which a side meets them -/
def Thr (a b : Int) (ha : 0 < a) (hb : 0 < b) (p q : Pt) (R : List Ce) : Prop := R.Pairwise (fun z z' => bef (ceB a b ha hb z) (ceB a b ha hb z') p q) ∧ ∀ z ∈ R, ∃ t, inSp (ceB a b ha hb z) p q t
theorem bef_irr {B : Bx} (h : ∃ t, inSp B p q t) : ¬ bef B B p q := fun z => by
  obtain ⟨t, ht⟩ := h
  have := z t t ht ht
  grind
theorem bef_asym {B B' : Bx} (h : ∃ t, inSp B p q t) (h' : ∃ t, inSp B' p q t) (z : bef B B' p q) : ¬ bef B' B p q := fun w => by
  obtain ⟨t, ht⟩ := h
  obtain ⟨t', ht'⟩ := h'
  have := z t t' ht ht'
  have := w t' t ht' ht
  grind
theorem bef_trans {B B' B'' : Bx} (h : ∃ t, inSp B' p q t) (z : bef B B' p q) (w : bef B' B'' p q) : bef B B'' p q := fun t t'' h1 h2 => by
  obtain ⟨t', ht'⟩ := h
  have := z t t' h1 ht'
  have := w t' t'' ht' h2
  grind
theorem thr_nodup {R : List Ce} (h : Thr a b ha hb p q R) : R.Nodup := by
  obtain ⟨h1, h2⟩ := h
  induction R with
  | nil => exact List.nodup_nil
  | cons z R ih =>
    rw [List.pairwise_cons] at h1
    rw [List.nodup_cons]
    refine ⟨fun hm => bef_irr (h2 z (by simp)) (h1.1 z hm), ih h1.2 fun y hy => h2 y (by simp [hy])⟩
theorem thr_uniq : ∀ {R R' : List Ce}, Thr a b ha hb p q R → Thr a b ha hb p q R' → (∀ z, z ∈ R ↔ z ∈ R') → R = R'
  | [], [], _, _, _ => rfl
  | [], z :: _, _, _, h => by have := (h z).mpr (by simp); cases this
  | z :: _, [], _, _, h => by have := (h z).mp (by simp); cases this
  | z :: R, z' :: R', A, A', h => by
    have n := thr_nodup A
    have n' := thr_nodup A'
    rw [List.nodup_cons] at n n'
    have e : z = z' := by
      have m1 := (h z).mp (by simp)
      have m2 := (h z').mpr (by simp)
      rcases List.mem_cons.mp m1 with e | m1
      · exact e
      rcases List.mem_cons.mp m2 with e | m2
      · exact e.symm
      have b1 := (List.pairwise_cons.mp A.1).1 z' m2
      have b2 := (List.pairwise_cons.mp A'.1).1 z m1
      exact absurd b2 (bef_asym (A.2 z (by simp)) (A'.2 z' (by simp)) b1)
    subst e
    have : R = R' := thr_uniq ⟨(List.pairwise_cons.mp A.1).2, fun y hy => A.2 y (by simp [hy])⟩ ⟨(List.pairwise_cons.mp A'.1).2, fun y hy => A'.2 y (by simp [hy])⟩ fun y => by
      have hy := h y
      rw [List.mem_cons, List.mem_cons] at hy
      constructor
      · intro m
        rcases hy.mp (.inr m) with e | m'
        · subst e; exact absurd m n.1
        · exact m'
      · intro m
        rcases hy.mpr (.inr m) with e | m'
        · subst e; exact absurd m n'.1
        · exact m'
    rw [this]
theorem thr_rev {R : List Ce} (h : Thr a b ha hb p q R) : Thr a b ha hb q p R.reverse := by
  refine ⟨?_, fun z hz => ?_⟩
  · rw [List.pairwise_reverse]
    exact h.1.imp fun w => bef_flip.mpr w
  · obtain ⟨t, ht⟩ := h.2 z (List.mem_reverse.mp hz)
    exact ⟨1 - t, sp_flip.mpr ht⟩
theorem thr_ins {R : List Ce} (h : Thr a b ha hb p q R) {n : Nat} {z : Ce} (hn : n ≤ R.length) (hz : ∃ t, inSp (ceB a b ha hb z) p q t) (h1 : ∀ (i : Nat) y, i < n → R[i]? = some y → bef (ceB a b ha hb y) (ceB a b ha hb z) p q) (h2 : ∀ y, R[n]? = some y → bef (ceB a b ha hb z) (ceB a b ha hb y) p q) :
    Thr a b ha hb p q (R.take n ++ z :: R.drop n) := by
  have P : (R.take n ++ R.drop n).Pairwise (fun z z' => bef (ceB a b ha hb z) (ceB a b ha hb z') p q) := by rw [List.take_append_drop]; exact h.1
  rw [List.pairwise_append] at P
  obtain ⟨P1, P2, P3⟩ := P
  have b1 : ∀ y ∈ R.take n, bef (ceB a b ha hb y) (ceB a b ha hb z) p q := fun y hy => by
    obtain ⟨i, hi, e⟩ := List.mem_iff_getElem.mp hy
    have hi' : i < n := by rw [List.length_take] at hi; omega
    refine h1 i y hi' ?_
    rw [← e, List.getElem_take]
    exact List.getElem?_eq_getElem _
  have b2 : ∀ y ∈ R.drop n, bef (ceB a b ha hb z) (ceB a b ha hb y) p q := fun y hy => by
    by_cases hn2 : n < R.length
    · have e : R.drop n = R[n] :: R.drop (n + 1) := by rw [List.drop_eq_getElem_cons hn2]
      have g := h2 R[n] (List.getElem?_eq_getElem hn2)
      rw [e] at hy P2
      rcases List.mem_cons.mp hy with rfl | hy
      · exact g
      · exact bef_trans (h.2 _ (List.getElem_mem hn2)) g ((List.pairwise_cons.mp P2).1 y hy)
    · rw [List.drop_of_length_le (by omega)] at hy; cases hy
  refine ⟨?_, fun y hy => ?_⟩
  · rw [List.pairwise_append, List.pairwise_cons]
    refine ⟨P1, ⟨b2, P2⟩, fun y hy y' hy' => ?_⟩
    rcases List.mem_cons.mp hy' with rfl | hy'
    · exact b1 y hy
    · exact P3 y hy y' hy'
  · rcases List.mem_append.mp hy with hy | hy
    · exact h.2 y (List.mem_of_mem_take hy)
    · rcases List.mem_cons.mp hy with rfl | hy
      · exact hz
      · exact h.2 y (List.mem_of_mem_drop hy)
theorem mem_ins {α : Type} {R : List α} {n : Nat} {z y : α} : y ∈ R.take n ++ z :: R.drop n ↔ y = z ∨ y ∈ R := by
  rw [List.mem_append, List.mem_cons]
  conv => rhs; rw [← List.take_append_drop n R, List.mem_append]
  constructor
  · rintro (h | h | h)
    · exact .inr (.inl h)
    · exact .inl h
    · exact .inr (.inr h)
  · rintro (h | h | h)
    · exact .inr (.inl h)
    · exact .inl h
    · exact .inr (.inr h)
/-- steps go the way of the side -/
theorem bef_step {z z' : Ce} (h : ∃ t, inSp (ceB a b ha hb z) p q t) (h' : ∃ t, inSp (ceB a b ha hb z') p q t) (w : bef (ceB a b ha hb z) (ceB a b ha hb z') p q) :
    (z.1 < z'.1 → p.x < q.x) ∧ (z'.1 < z.1 → q.x < p.x) ∧ (z.2 < z'.2 → p.y < q.y) ∧ (z'.2 < z.2 → q.y < p.y) := by
  obtain ⟨t, ht⟩ := h
  obtain ⟨t', ht'⟩ := h'
  have lt := w t t' ht ht'
  obtain ⟨_, ⟨x1, x2⟩, y1, y2⟩ := ht
  obtain ⟨_, ⟨u1, u2⟩, v1, v2⟩ := ht'
  have key : ∀ u v : Rat, wayX u v t < wayX u v t' → u < v := fun u v h => by
    unfold wayX at h
    by_cases g : u < v
    · exact g
    have := Rat.mul_nonneg (show 0 ≤ u - v by grind) (show 0 ≤ t' - t by grind)
    grind
  have key' : ∀ u v : Rat, wayX u v t' < wayX u v t → v < u := fun u v h => by
    unfold wayX at h
    by_cases g : v < u
    · exact g
    have := Rat.mul_nonneg (show 0 ≤ v - u by grind) (show 0 ≤ t' - t by grind)
    grind
  refine ⟨fun g => key _ _ ?_, fun g => key' _ _ ?_, fun g => key _ _ ?_, fun g => key' _ _ ?_⟩
  · have := ce_xapart (a := a) (b := b) (ha := ha) (hb := hb) g; grind
  · have := ce_xapart (a := a) (b := b) (ha := ha) (hb := hb) g; grind
  · have := ce_yapart (a := a) (b := b) (ha := ha) (hb := hb) g; grind
  · have := ce_yapart (a := a) (b := b) (ha := ha) (hb := hb) g; grind
end
instance {r1 : Rat} {o1 : Bool} {r2 : Rat} {o2 : Bool} : Decidable (cfQ r1 o1 r2 o2) := by unfold cfQ; infer_instance
abbrev ceD (z : Ce) : PyData := tupI z.1 z.2
abbrev ceK (z : Ce) : List Key := [.inl z.1, .inl z.2]
theorem ceK_inj {z y : Ce} (h : ceK z = ceK y) : z = y := by
  have h : [(Sum.inl z.1 : Key), .inl z.2] = [.inl y.1, .inl y.2] := h
  simp at h
  exact Prod.ext h.1 h.2
def SpanOk (a b : Int) (ha : 0 < a) (hb : 0 < b) (p q : Pt) (r : PyData × PyData × Ce) : Prop := ∃ (rl rh : Rat) (ol oh : Bool), BorOk 20000 r.1 rl ol ∧ BorOk 20000 r.2.1 rh oh ∧ ∀ t, (inLo rl ol t ∧ inHi rh oh t) ↔ inSp (ceB a b ha hb r.2.2) p q t
abbrev rowD (r : PyData × PyData × Ce) : PyData := .tuple [.tuple [r.1, r.2.1], ceD r.2.2]
theorem nodup_leC : ∀ {l r : List Ce}, l.Nodup → (∀ q ∈ l, q ∈ r) → l.length ≤ r.length
  | [], _, _, _ => Nat.zero_le _
  | p :: l, r, h, hs => by
    have hp := hs p (by simp)
    obtain ⟨n1, n2⟩ := List.nodup_cons.mp h
    have := nodup_leC (l := l) (r := r.erase p) n2 fun q hq => by
      have ne : q ≠ p := fun z => n1 (z ▸ hq)
      exact (List.mem_erase_of_ne ne).mpr (hs q (by simp [hq]))
    rw [List.length_erase_of_mem hp] at this
    have := List.length_pos_of_mem hp
    show l.length + 1 ≤ _
    omega
theorem lex_uniq {ys zs : List Ce} (pm : ys.Perm zs) (h : ys.Pairwise lexLe) (h' : zs.Pairwise lexLe) : ys = zs := pm.eq_of_pairwise (fun a b _ _ h1 h2 => by
  unfold lexLe at h1 h2
  exact Prod.ext (by omega) (by omega)) h h'
/-- a key is put -/
theorem keys_put {kvs : List (List Key × PyData)} {cs : List Ce} {z : Ce} {d : PyData} {i : Nat} (hi : cs[i]? = some z) (h : ∀ y, (valD kvs (ceK y)).isSome = decide (y ∈ cs.take i)) : ∀ y, (valD (putD kvs (ceK z) d) (ceK y)).isSome = decide (y ∈ cs.take (i + 1)) := fun y => by
  rw [valD_put, List.take_add_one, hi]
  by_cases e : y = z
  · subst e; simp
  · rw [if_neg fun q => e (ceK_inj q), h y]
    simp [e]
end Py
namespace L2
open PySem
theorem room65 {k : Nat} {A : Around} (r : Room k A) : A.units + 65 < cLine := by have := r.un; omega
end L2

set_option Elab.async false
set_option linter.all false
set_option autoImplicit false
set_option maxRecDepth 100000
set_option maxHeartbeats 4000000
namespace L2
open PySem PySem.Spec PyProof.Rows
section
variable {X : Cx}
/-- a text some times -/
def repS (a : Str) (n : Nat) : Str := ⟨(List.replicate n a.cps).foldl (· ++ ·) #[]⟩
theorem foldl_reps (l : List (Array Nat)) : ∀ a : Array Nat, (l.foldl (· ++ ·) a).toList = a.toList ++ (l.map Array.toList).flatten := by
  induction l with
  | nil => intro a; simp
  | cons x l ih => intro a; rw [List.foldl_cons, ih]; simp
theorem tl_rep (a : Str) (n : Nat) : (repS a n).cps.toList = (List.replicate n a.cps.toList).flatten := by
  unfold repS
  rw [foldl_reps]
  simp
def rMulS : R2 := fun x y H Q => ∃ a k, x = .str a ∧ y = .int k ∧ 1 ≤ k ∧ k ≤ 100000 ∧ 1 ≤ a.length ∧ a.length * k.toNat ≤ sizeLine ∧ a.length ≤ 1000 ∧ Q (.str (repS a k.toNat)) H
theorem op_mulS : OpR X (binaryOp .Mult) rMulS := by
  intro pins s σ H x y v u Q I rx ry h
  obtain ⟨a, k, rfl, rfl, h1, h2, h3, h4, h5, q⟩ := h
  obtain ⟨t, rfl⟩ := rx
  obtain ⟨t', rfl⟩ := ry
  have fin : ∀ (u : Tok) (j : Nat), EP X pins σ Q (.str (repS a k.toNat) u) { s with toks := j } := fun u j => ⟨.str _, H, I.tok _, ⟨_, rfl⟩, q⟩
  refine P.mul_str (by
    have e1 : decide (k < -(2 ^ 63 : Int)) = false := decide_eq_false (by omega)
    have e2 : decide (k ≥ 2 ^ 63) = false := decide_eq_false (by omega)
    rw [e1, e2]; rfl) (fun _ _ => ?_) (fun _ _ => ?_) ?_
  · have : (100000 : Int) ≤ (2 ^ 63 - 1) / k := by
      rw [Int.le_ediv_iff_mul_le (by omega)]
      have : (100000 : Int) * k ≤ 100000 * 100000 := Int.mul_le_mul_of_nonneg_left h2 (by decide)
      omega
    omega
  · unfold Builtin.Str.tooLong
    exact decide_eq_false (by omega)
  · rw [if_neg (by omega)]
    by_cases e : k = 1
    · subst e
      rw [if_pos (by simp)]
      have e2 : repS a (1 : Int).toNat = a := Str.ext' (Array.toList_inj.mp (by rw [tl_rep]; show (List.replicate 1 _).flatten = _; simp))
      have := fin t s.toks
      rw [e2] at this
      exact this
    · have e3 : (k == 1 || a.length == 0) = false := by
        have : (k == 1) = false := by simpa using e
        have h3' : (a.length == 0) = false := by simp; omega
        rw [this, h3']; rfl
      rw [e3]
      exact ⟨by
        show (repS a k.toNat).length ≤ _
        have : (repS a k.toNat).length = a.length * k.toNat := by
          show (repS a k.toNat).cps.size = _
          rw [← Array.length_toList, tl_rep]
          have ea : a.length = a.cps.toList.length := by simp [Str.length]
          rw [ea, List.length_flatten]
          simp [Nat.mul_comm]
        omega, fin _ _⟩
def rStrX : List V → Hp → VK → Prop := fun xs H Q => (∃ i, xs = [.int i] ∧ i.natAbs.log2 < 1920 ∧ Q (.str (toString i)) H) ∨ ∃ a, xs = [.str a] ∧ Q (.str a) H
theorem call_strX : CallR X (.type "str") rStrX := by
  intro pins s σ H xs us Q I r h
  rcases h with h | h
  · exact call_str_int pins s σ H xs us Q I r h
  · exact SkE.call_str_str pins s σ H xs us Q I r h
def rIntS : List V → Hp → VK → Prop := fun xs H Q => ∃ a n, xs = [.str a] ∧ PySem.intText? a = some n ∧ a.length ≤ 640 ∧ Q (.int n) H
theorem call_intS : CallR X (.type "int") rIntS := call_int_str
def rSw : V → List V → Hp → VK → Prop := fun x xs H Q => ∃ a b, x = .str a ∧ xs = [.str b] ∧ Q (.bl (Txt.startswith a b)) H
def rSpl : V → List V → Hp → VK → Prop := fun x xs H Q => ∃ a b, x = .str a ∧ xs = [.str b] ∧ (b.length == 0) = false ∧ a.length + 2 ≤ sizeLine ∧ rNewStrs (Txt.split a b) H Q
def rJoin (K : PySem.W.Frag) : V → List V → Hp → VK → Prop := fun x xs H Q => ∃ a p, ∃ ys : List Str, x = .str a ∧ xs = [.ref p] ∧ (SqL K H p (ys.map V.str) ∨ SqT K H p (ys.map V.str)) ∧ (ys.map (·.length)).sum + ys.length * a.length ≤ 16777216 ∧ Q (.str (Txt.join a ys)) H
theorem pe_sw {o e : Expr} {to te : TE} {apos pos : Pos} (ho : PE X o to) (he : PE X e te) (hs : starEach [e] X.env = [(false, eval e X.env)] := by rfl) (hbase : attributeBase o "startswith" X.env (eval o X.env) = eval o X.env := by rfl) (hline : (apos.endLine == pos.line) = true := by rfl) :
    PE X (.Call (.Attribute o "startswith" apos) [e] [] pos) (tM1 rSw to te) := pe_m1 F.slot_str_startswith F.type_str_startswith mt_startswith ho he hs hbase hline
theorem pe_spl {o e : Expr} {to te : TE} {apos pos : Pos} (ho : PE X o to) (he : PE X e te) (hs : starEach [e] X.env = [(false, eval e X.env)] := by rfl) (hbase : attributeBase o "split" X.env (eval o X.env) = eval o X.env := by rfl) (hline : (apos.endLine == pos.line) = true := by rfl) :
    PE X (.Call (.Attribute o "split" apos) [e] [] pos) (tM1 rSpl to te) := pe_split ho he hs hbase hline
theorem pe_joins (K : PySem.W.Frag) {o e : Expr} {to te : TE} {apos pos : Pos} (ho : PE X o to) (he : PE X e te) (hs : starEach [e] X.env = [(false, eval e X.env)] := by rfl) (hbase : attributeBase o "join" X.env (eval o X.env) = eval o X.env := by rfl) (hline : (apos.endLine == pos.line) = true := by rfl) (h : X.K = K := by rfl) :
    PE X (.Call (.Attribute o "join" apos) [e] [] pos) (tM1 (rJoin K) to te) := h ▸ pe_join ho he hs hbase hline
def rInS : R2 := fun x y H Q => ∃ (c : Nat) (z : Str), x = .str ⟨#[c]⟩ ∧ y = .str z ∧ Q (.bl (decide (c ∈ z.cps.toList))) H
theorem op_inS : OpR X (compareOp .In) rInS := op_in_sign
theorem sl_strs : SlR X rSlS := sl_str
/-- over the signs of a text -/
theorem lc_str {x : Str} {g : TG} {tt : TT} {te : TE} {vs : List Nat} {σ : St} {H1 : Hp} {D : Addr} {Qd : Hp → Prop} (Pv : Nat → Hp → Prop) (h0 : Pv 0 (upd H1 D (.lst [])))
    (hs : ∀ i c H, x.cps.toList[i]? = some c → Pv i H → g (.str ⟨#[c]⟩) (wipe σ vs) H fun σ2 H2 => wipe σ2 vs = wipe σ vs ∧ tt σ2 H2 fun b H3 =>
      if b = true then te σ2 H3 fun y H4 => ∃ acc, H4 D = some (.lst acc) ∧ acc.length < sizeLine ∧ Pv (i + 1) (upd H4 D (.lst (acc ++ [y]))) else Pv (i + 1) H3) (hd : ∀ H, Pv x.cps.toList.length H → Qd H) :
    ∃ W : Nat → Nat → Hp → Prop, (∃ m, W 0 m (upd H1 D (.lst []))) ∧ ∀ i m H, W i m H →
      ((Its x).stop i H ∧ Qd H) ∨ ((Its x).go i H ∧ ∃ Nx : Hp → Prop, (∀ H', Nx H' → ∃ m', m' < m ∧ W (i + 1) m' H') ∧ ∀ y H', (Its x).yld i H y H' → g y (wipe σ vs) H' fun σ2 H2 => wipe σ2 vs = wipe σ vs ∧ tt σ2 H2 fun b H3 =>
        if b = true then te σ2 H3 fun y H4 => ∃ acc, H4 D = some (.lst acc) ∧ acc.length < sizeLine ∧ Nx (upd H4 D (.lst (acc ++ [y]))) else Nx H3) := by
  have hl : x.cps.toList.length = x.cps.size := Array.length_toList
  refine ⟨fun i m H => m = x.cps.size - i ∧ i ≤ x.cps.size ∧ Pv i H, ⟨x.cps.size, by simp, Nat.zero_le _, h0⟩, ?_⟩
  rintro i m H ⟨rfl, hi, p⟩
  by_cases hlt : i < x.cps.size
  · refine .inr ⟨hlt, Pv (i + 1), fun H' p' => ⟨x.cps.size - (i + 1), by omega, rfl, hlt, p'⟩, fun y H' z => ?_⟩
    obtain ⟨e, c, hc, e2⟩ := z
    subst e e2
    exact hs i c _ (by rw [Array.getElem?_toList]; exact hc) p
  · have e : i = x.cps.size := by omega
    subst e
    exact .inl ⟨Nat.le_refl _, hd H (by rw [hl]; exact p)⟩
end
end L2
namespace Py
open PySem hiding start
open L2
open Evl (Ex ex_rd ex_l ex_t fresh_back)
open Classical
section
variable {K : PySem.W.Frag} {c c' : Ctx K} {ρ : Rho} {E : DE} {k : Dv → Prop} {ta tb te to tx tl : TE} {g : TG} {tt : TT}
theorem rv_addS {a b : Str} (hl : a.length + b.length ≤ 100000) (h : k (.d (.str (a ++ b)))) : Rv c (rAddU K) ρ (.d (.str a)) (.d (.str b)) k := fun σ H v u Q o d1 d2 q => by
  obtain rfl := dp_str d1
  obtain rfl := dp_str d2
  exact .inr (.inl ⟨a, b, rfl, rfl, Evl.sz_of hl, q.val o (x := .d _) (Dp.str _) h⟩)
theorem eqv_str (a b : Str) : PyData.eqv (.str a) (.str b) = decide (a = b) := by
  simp only [PyData.eqv]
  by_cases z : a = b <;> simp [z]
theorem rv_eqF {a b : Str} (h : k (.d (.bool (decide (a = b))))) : Rv c rEq ρ (.d (.str a)) (.d (.str b)) k := fun σ H v u Q o d1 d2 q => by
  obtain rfl := dp_str d1
  obtain rfl := dp_str d2
  refine ⟨rfl, ?_⟩
  have e : decide (V.str a = V.str b) = decide (a = b) := by
    by_cases z : a = b
    · subst z; simp
    · rw [decide_eq_false z]; exact decide_eq_false fun w => z (by cases w; rfl)
  rw [e]
  exact q.val o (x := .d _) (Dp.bl _) h
theorem rv_neF {a b : Str} (h : k (.d (.bool (!decide (a = b))))) : Rv c rNe ρ (.d (.str a)) (.d (.str b)) k := fun σ H v u Q o d1 d2 q => by
  obtain rfl := dp_str d1
  obtain rfl := dp_str d2
  refine ⟨rfl, ?_⟩
  have e : decide (V.str a = V.str b) = decide (a = b) := by
    by_cases z : a = b
    · subst z; simp
    · rw [decide_eq_false z]; exact decide_eq_false fun w => z (by cases w; rfl)
  rw [e]
  exact q.val o (x := .d _) (Dp.bl _) h
theorem rv_eqFI {a b : Int} (h : k (.d (.bool (decide (a = b))))) : Rv c rEq ρ (.d (.int a)) (.d (.int b)) k := fun σ H v u Q o d1 d2 q => by
  obtain rfl := dp_int d1
  obtain rfl := dp_int d2
  refine ⟨rfl, ?_⟩
  have e : decide (V.int a = V.int b) = decide (a = b) := by
    by_cases z : a = b
    · subst z; simp
    · rw [decide_eq_false z]; exact decide_eq_false fun w => z (by cases w; rfl)
  rw [e]
  exact q.val o (x := .d _) (Dp.bl _) h
theorem rv_mulS {a : Str} {n : Int} (h1 : 1 ≤ n) (h2 : n ≤ 10000) (h3 : 1 ≤ a.length) (h4 : a.length ≤ 10) (h : k (.d (.str (repS a n.toNat)))) : Rv c rMulS ρ (.d (.str a)) (.d (.int n)) k := fun σ H v u Q o d1 d2 q => by
  obtain rfl := dp_str d1
  obtain rfl := dp_int d2
  refine ⟨a, n, rfl, rfl, h1, by omega, h3, Evl.sz_of ?_, by omega, q.val o (x := .d _) (Dp.str _) h⟩
  have : a.length * n.toNat ≤ 10 * 10000 := Nat.mul_le_mul h4 (by omega)
  omega
theorem rc_strI {i : Int} (hl : i.natAbs < 2 ^ 1900) (h : k (.d (.str (toString i)))) : Rc c rStrX ρ [.d (.int i)] k := fun σ H vs Q o d q => by
  cases d with
  | cons d1 d2 =>
    cases d2
    obtain rfl := dp_int d1
    exact .inl ⟨i, rfl, Nat.lt_of_lt_of_le (PySem.Flt.log2_lt_of (k := 1900) (by decide) hl) (by decide), q.val o (x := .d _) (Dp.str _) h⟩
theorem rc_strS {a : Str} (h : k (.d (.str a))) : Rc c rStrX ρ [.d (.str a)] k := fun σ H vs Q o d q => by
  cases d with
  | cons d1 d2 =>
    cases d2
    obtain rfl := dp_str d1
    exact .inr ⟨a, rfl, q.val o (x := .d _) (Dp.str _) h⟩
theorem rc_intS {a : Str} {n : Int} (hn : PySem.intText? a = some n) (hl : a.length ≤ 640) (h : k (.d (.int n))) : Rc c rIntS ρ [.d (.str a)] k := fun σ H vs Q o d q => by
  cases d with
  | cons d1 d2 =>
    cases d2
    obtain rfl := dp_str d1
    exact ⟨a, n, rfl, hn, hl, q.val o (x := .d _) (Dp.int _) h⟩
theorem rc_lenS {a : Str} (hl : a.length ≤ 100000) (h : k (.d (.int (a.length : Int)))) : Rc c (rLen K) ρ [.d (.str a)] k := fun σ H vs Q o d q => by
  cases d with
  | cons d1 d2 =>
    cases d2
    obtain rfl := dp_str d1
    exact ⟨_, _, rfl, ⟨Evl.sz_of hl, rfl⟩, q.val o (x := .d _) (Dp.int _) h⟩
theorem rv_ixS {a : Str} {i : Int} {z : Nat} (hl : a.length ≤ 100000) (e : atI a.cps.toList i = some z) (h : k (.d (.str ⟨#[z]⟩))) : Rv c (rIx K) ρ (.d (.str a)) (.d (.int i)) k := fun σ H v u Q o d1 d2 q => by
  obtain rfl := dp_str d1
  obtain rfl := dp_int d2
  exact .inr (.inr ⟨a, i, z, rfl, rfl, Evl.sz_of hl, e, q.val o (x := .d _) (Dp.str _) h⟩)
theorem rv_inS {z : Nat} {a : Str} (h : k (.d (.bool (decide (z ∈ a.cps.toList))))) : Rv c rInS ρ (.d (.str ⟨#[z]⟩)) (.d (.str a)) k := fun σ H v u Q o d1 d2 q => by
  obtain rfl := dp_str d1
  obtain rfl := dp_str d2
  exact ⟨z, a, rfl, rfl, q.val o (x := .d _) (Dp.bl _) h⟩
theorem we_slS {tl th : TO} (h : We c te ρ fun x => Wo c tl ρ fun lo => Wo c th ρ fun hi => ∃ a, x = .d (.str a) ∧ a.length ≤ 100000 ∧ k (.d (.str (cutS a lo hi)))) : We c (tSl rSlS te tl th) ρ k := fun σ H Q o q =>
  h σ H _ o fun v x H1 o1 e1 d1 h1 => h1 σ H1 _ o1 fun lo H2 o2 e2 h2 => h2 σ H2 _ o2 fun hi H3 o3 e3 ⟨a, hx, hl, hk⟩ => by
    subst hx
    obtain rfl := dp_str d1
    exact ⟨a, rfl, Evl.sz_of hl, q (.str _) (.d _) _ o3 ((e1.trans e2).trans e3) (Dp.str _) hk⟩
theorem we_sw (h : We c to ρ fun x => ∃ a, x = .d (.str a) ∧ We c te ρ fun y => ∃ b, y = .d (.str b) ∧ k (.d (.bool (Txt.startswith a b)))) : We c (tM1 rSw to te) ρ k := fun σ H Q o q => by
  refine h σ H _ o fun v x H1 o1 e1 d1 ⟨a, hx, h1⟩ => ?_
  subst hx
  obtain rfl := dp_str d1
  refine ⟨⟨a, rfl⟩, h1 σ H1 _ o1 fun u y H2 o2 e2 d2 ⟨b, hy, hk⟩ => ?_⟩
  subst hy
  obtain rfl := dp_str d2
  exact ⟨a, b, rfl, rfl, q (.bl _) (.d _) _ o2 (e1.trans e2) (Dp.bl _) hk⟩
/-- a comprehension over a text -/
theorem wf_lcS {tl : TE} {g : TG} {tt : TT} {vs : List Nat} {k : List PyData → Prop} (js : List Nat) (hj : ∀ i ∈ js, i ∈ vs) (hw : (vs.all fun v => (ρ[v]?.map isOwn) == some false) = true) (h : We c tl ρ fun x => ∃ z : Str, x = .d (.str z) ∧ z.cps.toList.length ≤ 100000 ∧ ∃ P : Nat → List PyData → Prop, P 0 [] ∧
    (∀ c' : Ctx K, Le c c' → ∀ i s acc, z.cps.toList[i]? = some s → acc.length ≤ i → P i acc → Wg c' g js (.d (.str ⟨#[s]⟩)) (wipeR ρ vs) fun ρ2 => Wt c' tt ρ2 fun b => (b = true → We c' te ρ2 fun y => ∃ d, y = .d d ∧ P (i + 1) (acc ++ [d])) ∧ (b = false → P (i + 1) acc)) ∧
    ∀ acc, acc.length ≤ z.cps.toList.length → P z.cps.toList.length acc → k acc) : Wf c (tLc (iStr tl) g tt te vs) ρ k := fun σ H Q o q =>
  h σ H _ o fun v x H1 o1 e1 d1 ⟨z0, hx, hz, P, p0, ps, pd⟩ => by
    subst hx
    obtain rfl := dp_str d1
    · refine ⟨z0, rfl, fun D hD => ?_⟩
      have nD : ¬ Hid c ρ D := o1.nh hD
      have nDL : ¬ c.L D := fun z => nD (.inl z)
      -- what stood ahead of the list, for all turns
      let B1 : Hp := vis c ρ H1
      have bB : Ex c.B B1 := o1.base
      have B1D : B1 D = none := hid_none hD
      have own0 : ∀ a, Owns ρ a → B1 a = none := fun a z => hid_pos (.inr z)
      let Pv : Nat → Hp → Prop := fun i H' => ∃ (ws : List V) (acc : List PyData), H' D = some (.lst ws) ∧ Ok (c.at B1) ρ σ H' ∧ Stp c ρ H1 H' ∧ DpAll K (hid (· = D) (vis c ρ H')) ws acc ∧ acc.length ≤ i ∧ P i acc
      have hH0 : H D = none := by
        cases z : H D with
        | none => rfl
        | some ob =>
          have := e1.ex D ob (by unfold vis; rw [hid_neg nD]; exact z)
          rw [vis, hid_none hD] at this; cases this
      refine lc_str (x := z0) Pv ?_ ?_ ?_
      · obtain ⟨o2, e2⟩ := o1.new (o := .lst []) hD
        have o2' : Ok (c.at B1) ρ σ (upd H1 D (.lst [])) := ⟨o2.w, e2.ex.trans vis_out, fun l z => ⟨own0 l z, (o2.ob l z).2⟩, o2.sl, o2.one, o2.len⟩
        exact ⟨[], [], upd_same, o2', e2, .nil, Nat.le_refl 0, p0⟩
      · rintro i y H' hy ⟨ws, acc, hD', o', s', dacc, hl, p'⟩
        have hd := hy
        have hi : i < 100000 := by
          have := (List.getElem?_eq_some_iff.mp hd).1
          omega
        -- the context of this turn
        let B2 : Hp := hid (· = D) (vis c ρ H')
        have bB2 : Ex B1 B2 := fun b ob z => by
          have nb : b ≠ D := fun q => by rw [q, B1D] at z; cases z
          exact (hid_neg (L := fun x => x = D) nb).trans (s'.ex b ob z)
        let c2 : Ctx K := c.hide D (.lst ws) B2
        have le : Le c c2 := le_hide nDL (bB.trans bB2)
        have visE : ∀ (ρ2 : Rho) (H2 : Hp), Ex (vis c2 ρ2 H2) (hid (· = D) (vis c ρ2 H2)) := fun ρ2 H2 b ob z => by
          obtain ⟨n1, z⟩ := hid_some z
          have nb : b ≠ D := fun q => n1 (.inl (.inr q))
          refine (hid_neg (L := fun x => x = D) nb).trans ((hid_neg fun q => n1 (q.imp .inl id)).trans z)
        have visE' : ∀ (ρ2 : Rho) (H2 : Hp), Ex (hid (· = D) (vis c ρ2 H2)) (vis c2 ρ2 H2) := fun ρ2 H2 b ob z => by
          obtain ⟨nb, z⟩ := hid_some z
          obtain ⟨n1, z⟩ := hid_some z
          refine (hid_neg fun q => ?_).trans z
          rcases q with (q | q) | q
          · exact n1 (.inl q)
          · exact nb q
          · exact n1 (.inr q)
        have oD : ∀ (l : Addr), Owns ρ l → l ≠ D := fun l z q => nD (.inr (q ▸ z))
        have slots : ∀ (j : Nat) (s : Slot), ρ[j]? = some s → ∃ ob, σ[j]? = some ob ∧ SlotOk K (vis c2 ρ H') H' ob s := fun j s hs' => by
          obtain ⟨u1, q1, z1⟩ := (o1.clean s' hD j s hs')
          refine ⟨u1, q1, ?_⟩
          cases s with
          | un => trivial
          | val y => obtain ⟨w, w1, w2⟩ := z1; exact ⟨w, w1, dv_mono (visE' ρ H') w2⟩
          | own l ys => obtain ⟨w, w1, w2, w3⟩ := z1; exact ⟨w, w1, w2, own_mono (visE' ρ H') _ _ w3⟩
        have o2 : Ok c2 ρ σ H' := ⟨⟨o'.w, hD'⟩, (visE' ρ H').trans vis_out, fun l z => ⟨(show hid (· = D) (vis c ρ H') l = none from hid_none' (hid_pos (Or.inr z))), fun q => q.elim (o'.ob l z).2 (oD l z)⟩, slots, o'.one, o'.len⟩
        have o3 : Ok c2 (wipeR ρ vs) (L2.wipe σ vs) H' := o2.wipe vs
        have ev : Ex (vis c2 ρ H') (vis c2 (wipeR ρ vs) H') := hid_less fun b z => z.imp id owns_wipe
        have dd2 : Dp K (vis c2 (wipeR ρ vs) H') (.str ⟨#[y]⟩) (.str ⟨#[y]⟩) := .str _
        refine ps c2 le i y acc hd hl p' (L2.wipe σ vs) H' (.str ⟨#[y]⟩) _ o3 dd2 fun ρ4 σ4 o4 a4 l4 b4 b4' w4 => ⟨wipe_eq hj a4 l4, ?_⟩
        refine w4 σ4 H' _ o4 fun b H5 o5 s5 z5 => ?_
        -- what is the same again once the element is told
        have back : ∀ H6, Ok c2 ρ4 σ4 H6 → Stp c2 ρ4 H' H6 → H6 D = some (.lst ws) ∧ (∀ a, Owns ρ a → H6 a = H' a) ∧ Ex (vis c2 ρ H') (vis c2 ρ H6) := fun H6 o6 s6 => by
          refine ⟨o6.w.2, fun a z => s6.own a (b4 a (owns_wipe' hw z).1), fun b ob z => ?_⟩
          · obtain ⟨n1, z⟩ := hid_some z
            have n2 : ¬ Hid c2 ρ4 b := fun q => n1 (q.imp id fun q => owns_wipe (b4' b q))
            have := s6.ex b ob (by unfold vis; rw [hid_neg n2]; exact z)
            unfold vis
            rw [hid_neg n1]
            exact (hid_some this).2
        cases b with
        | false =>
          rw [if_neg Bool.false_ne_true]
          obtain ⟨hD5, ow5, ex5⟩ := back H5 o5 s5
          have exA : Ex (vis c ρ H') (vis c ρ H5) := fun b ob z => by
            by_cases nb : b = D
            · subst nb
              unfold vis at *
              rw [hid_neg nD] at *
              rw [hD'] at z
              rw [hD5]; exact z
            · have := ex5 b ob (visE' ρ H' b ob ((hid_neg (L := fun x => x = D) nb).trans z))
              exact hid_sub b ob (visE ρ H5 b ob this)
          have stp : Stp c ρ H' H5 := ⟨exA, ow5⟩
          refine ⟨ws, acc, hD5, o'.grow o5.w.1 exA ow5, s'.trans stp, dpa_mono (fun b ob z => visE ρ H5 b ob (ex5 b ob (visE' ρ H' b ob z))) _ _ dacc, Nat.le_succ_of_le hl, z5.2 rfl⟩
        | true =>
          rw [if_pos rfl]
          refine z5.1 rfl σ4 H5 _ o5 fun v6 y6 H6 o6 s6 d6 ⟨d, hy6, p6⟩ => ?_
          subst hy6
          obtain ⟨hD6, ow6, ex6⟩ := back H6 o6 (s5.trans s6)
          refine ⟨ws, hD6, ?_, ?_⟩
          · have w1 := dpa_len dacc
            exact Evl.sz_lt (by omega)
          · -- the list has one more
            have ow7 : ∀ a, Owns ρ a → upd H6 D (.lst (ws ++ [v6])) a = H' a := fun a z => (upd_ne (oD a z)).trans (ow6 a z)
            have e67 : Ex (hid (· = D) (vis c ρ H6)) (hid (· = D) (vis c ρ (upd H6 D (.lst (ws ++ [v6]))))) := fun b ob z => by
              obtain ⟨nb, z⟩ := hid_some z
              obtain ⟨n1, z⟩ := hid_some z
              refine (hid_neg (L := fun x => x = D) nb).trans ((hid_neg n1).trans ((upd_ne nb).trans z))
            have exB : Ex (hid (· = D) (vis c ρ H')) (hid (· = D) (vis c ρ (upd H6 D (.lst (ws ++ [v6]))))) := fun b ob z => e67 b ob (visE ρ H6 b ob (ex6 b ob (visE' ρ H' b ob z)))
            have w7 : c.W (upd H6 D (.lst (ws ++ [v6]))) := c.loc _ _ (fun a z => upd_ne fun q => nDL (q ▸ z)) (tp_lst hD6) o6.w.1
            have o7 : Ok (c.at B1) ρ σ (upd H6 D (.lst (ws ++ [v6]))) := by
              refine ⟨w7, fun b ob z => ?_, o'.ob, fun j s hs' => ?_, o'.one, o'.len⟩
              · have := exB b ob (bB2 b ob z)
                exact vis_out b ob (hid_sub b ob this)
              · obtain ⟨u1, q1, z1⟩ := (o1.clean s' hD j s hs')
                refine ⟨u1, q1, ?_⟩
                cases s with
                | un => trivial
                | val y => obtain ⟨w, w1, w2⟩ := z1; exact ⟨w, w1, dv_mono (exB.trans hid_sub) w2⟩
                | own l ys =>
                  obtain ⟨w, w1, w2, w3⟩ := z1
                  exact ⟨w, w1, (ow7 l ⟨ys, List.mem_of_getElem? hs'⟩).trans w2, own_mono (exB.trans hid_sub) _ _ w3⟩
            refine ⟨ws ++ [v6], acc ++ [d], upd_same, o7, ⟨fun b ob z => ?_, fun a z => (ow7 a z).trans (s'.own a z)⟩, ?_, by simp; omega, p6⟩
            · have nb : b ≠ D := fun q => by subst q; rw [vis, hid_none hD] at z; cases z
              have := exB b ob ((hid_neg (L := fun x => x = D) nb).trans (s'.ex b ob z))
              exact hid_sub b ob this
            · refine dpa_app (dpa_mono exB _ _ dacc) (.cons (dp_mono (fun b ob z => ?_) _ _ d6) .nil)
              -- what the element is made of
              have z0 := visE ρ4 H6 b ob z
              obtain ⟨nb, z1⟩ := hid_some z0
              obtain ⟨n1, z2⟩ := hid_some z1
              refine e67 b ob ((hid_neg (L := fun x => x = D) nb).trans ((hid_neg fun q => ?_).trans z2))
              rcases q with q | q
              · exact n1 (.inl q)
              · exact n1 (.inr (b4 b (owns_wipe' hw q).1))
      · rintro H' ⟨ws, acc, hD', o', s', dacc, hl, p'⟩
        exact q D ws acc H' hH0 hD' (ok_at bB o') (e1.trans s') dacc (pd acc hl p')
theorem dpa_strs {G : Hp} : ∀ ys : List Str, DpAll K G (ys.map V.str) (ys.map PyData.str)
  | [] => .nil
  | y :: ys => .cons (.str y) (dpa_strs ys)
theorem dpa_strs' {G : Hp} : ∀ {ys : List Str} {vs : List V}, DpAll K G vs (ys.map PyData.str) → vs = ys.map V.str
  | [], _, .nil => rfl
  | y :: ys, _, .cons h t => by rw [dp_str h, dpa_strs' t]; rfl
theorem wf_spl {k : List PyData → Prop} (h : We c to ρ fun x => ∃ a, x = .d (.str a) ∧ We c te ρ fun y => ∃ b, y = .d (.str b) ∧ (b.length == 0) = false ∧ a.length ≤ 90000 ∧ k ((Txt.split a b).map .str)) : Wf c (tM1 rSpl to te) ρ k := fun σ H Q o q => by
  refine h σ H _ o fun v x H1 o1 e1 d1 ⟨a, hx, h1⟩ => ?_
  subst hx
  obtain rfl := dp_str d1
  refine ⟨⟨a, rfl⟩, h1 σ H1 _ o1 fun u y H2 o2 e2 d2 ⟨b, hy, hb, hl, hk⟩ => ?_⟩
  subst hy
  obtain rfl := dp_str d2
  refine ⟨a, b, rfl, rfl, hb, Evl.sz_of (by omega), fun p hp => ?_⟩
  obtain ⟨h0, o4, s4, d4⟩ := o2.fresh (e1.trans e2) hp (dpa_strs (Txt.split a b))
  exact q p _ _ _ h0 upd_same o4 s4 d4 hk
theorem we_joins (h : We c to ρ fun x => ∃ a, x = .d (.str a) ∧ We c te ρ fun y => ∃ ys : List Str, y = .d (.list (ys.map .str)) ∧ (ys.map (·.length)).sum + ys.length * a.length ≤ 90000 ∧ k (.d (.str (Txt.join a ys)))) : We c (tM1 (rJoin K) to te) ρ k := fun σ H Q o q => by
  refine h σ H _ o fun v x H1 o1 e1 d1 ⟨a, hx, h1⟩ => ?_
  subst hx
  obtain rfl := dp_str d1
  refine ⟨⟨a, rfl⟩, h1 σ H1 _ o1 fun u y H2 o2 e2 d2 ⟨ys, hy, hl, hk⟩ => ?_⟩
  subst hy
  change Dp _ _ _ _ at d2
  cases d2 with
  | @lst p vs _ _ hs ha =>
    rw [dpa_strs' ha] at hs
    exact ⟨a, p, ys, rfl, rfl, .inl (ex_l hid_sub hs), by omega, q (.str _) (.d _) _ o2 (e1.trans e2) (Dp.str _) hk⟩
/-! in a display of numbers, of texts -/
theorem rv_niIT {i : Int} {ns : List Int} (h : k (.d (.bool (!decide (i ∈ ns))))) : Rv c (rIn K true) ρ (.d (.int i)) (.d (.tuple (ns.map .int))) k := fun σ H v u Q o d1 d2 q => by
  obtain rfl := dp_int d1
  change Dp _ _ _ _ at d2
  cases d2 with
  | tup hs ha =>
    have e := dpa_ints ha
    subst e
    refine ⟨_, _, rfl, .inr (ex_t hid_sub hs), rfl, flat_ints, ?_⟩
    rw [if_pos rfl, inV_ints]
    exact q.val o (x := .d _) (Dp.bl _) h
theorem inV_strs {a : Str} : ∀ {ns : List Str}, inV (.str a) (ns.map V.str) = decide (a ∈ ns)
  | [] => by simp [inV]
  | n :: ns => by
    have ih := inV_strs (a := a) (ns := ns)
    unfold inV at *
    rw [List.map_cons, List.any_cons, ih]
    have e : eqV (.str n) (.str a) = decide (n = a) := by show (n == a) = _; by_cases z : n = a <;> simp [z]
    rw [e]
    by_cases z : n = a
    · subst z; simp
    · have z' : a ≠ n := fun q => z q.symm
      simp [z, z']
theorem flat_strs : ∀ {ns : List Str}, (ns.map V.str).all flatV = true
  | [] => rfl
  | _ :: ns => by rw [List.map_cons, List.all_cons, flat_strs (ns := ns)]; rfl
theorem rv_niST {a : Str} {ns : List Str} (h : k (.d (.bool (!decide (a ∈ ns))))) : Rv c (rIn K true) ρ (.d (.str a)) (.d (.tuple (ns.map .str))) k := fun σ H v u Q o d1 d2 q => by
  obtain rfl := dp_str d1
  change Dp _ _ _ _ at d2
  cases d2 with
  | tup hs ha =>
    have e := dpa_strs' ha
    subst e
    refine ⟨_, _, rfl, .inr (ex_t hid_sub hs), rfl, flat_strs, ?_⟩
    rw [if_pos rfl, inV_strs]
    exact q.val o (x := .d _) (Dp.bl _) h
end
end Py

set_option Elab.async false
set_option linter.all false
set_option autoImplicit false
set_option maxRecDepth 100000
set_option maxHeartbeats 4000000
namespace Py
open PySem hiding start
open L2
/-! ### numbers as texts -/
abbrev tlS (a : Str) : List Nat := a.cps.toList
abbrev nt (n : Int) : Str := Str.ofString (toString n)
theorem len_tlS (a : Str) : a.length = (tlS a).length := by simp [Str.length]
theorem ext_tlS {a b : Str} (h : tlS a = tlS b) : a = b := Str.ext' (Array.toList_inj.mp h)
theorem tlS_app (a b : Str) : tlS (a ++ b) = tlS a ++ tlS b := TL.tl_append a b
theorem tlS_nt (n : Int) : tlS (nt n) = if n < 0 then 45 :: TL.numL n.natAbs else TL.numL n.natAbs := by
  cases n with
  | ofNat m => rw [if_neg (by show ¬ ((m : Nat) : Int) < 0; omega)]; exact TL.tl_num m
  | negSucc m =>
    rw [if_pos (Int.negSucc_lt_zero m)]
    have e : toString (Int.negSucc m) = "-" ++ toString (m + 1) := rfl
    show TL.tl (Str.ofString (toString (Int.negSucc m))) = _
    rw [e, TL.tl_ofString, String.toList_append, List.map_append]
    show 45 :: (Nat.repr (m + 1)).toList.map Char.toNat = 45 :: TL.numL (m + 1)
    rw [Nat.toList_repr]; rfl
theorem numL_ge : ∀ {k n : Nat}, 10 ^ k ≤ n → k + 1 ≤ (TL.numL n).length := by
  intro k
  induction k with
  | zero =>
    intro n _
    have := TL.numL_ne n
    have := List.length_pos_iff.mpr this
    omega
  | succ k ih =>
    intro n h
    have h10 : 10 ≤ n := by
      have : 1 ≤ 10 ^ k := Nat.one_le_pow _ _ (by decide)
      rw [Nat.pow_succ] at h; omega
    rw [TL.numL_step h10, List.length_append]
    have := ih (n := n / 10) (by rw [Nat.pow_succ] at h; omega)
    simp; omega
theorem numL_head : ∀ n : Nat, ∃ z r, TL.numL n = z :: r ∧ (z = 48 ↔ n = 0) ∧ (n = 0 → r = []) := by
  intro n
  induction n using Nat.strongRecOn with
  | _ n ih =>
    by_cases h : n < 10
    · exact ⟨48 + n, [], TL.numL_lt h, by omega, fun _ => rfl⟩
    · obtain ⟨z, r, e, h1, h2⟩ := ih (n / 10) (by omega)
      refine ⟨z, r ++ [48 + n % 10], by rw [TL.numL_step (by omega), e]; rfl, by omega, fun q => by omega⟩
theorem int_nt {n : Int} (h : n.natAbs < 10 ^ 4000) : PySem.intText? (nt n) = some n := by
  have hl := TL.numL_len (n := n.natAbs) (k := 4000) (by decide) h
  have hd := TL.numL_digits n.natAbs
  have hv := TL.numL_val n.natAbs
  have e : (nt n).cps.toList = _ := tlS_nt n
  by_cases hn : n < 0
  · rw [if_pos hn] at e
    rw [PySem.intText_neg e hd (TL.numL_ne _) (by rw [len_tlS]; show (nt n).cps.toList.length ≤ 4300; rw [e, List.length_cons]; omega), hv]
    congr 1; omega
  · rw [if_neg hn] at e
    rw [PySem.intText_digits (x := nt n) (by rw [e]; exact hd) (by rw [e]; exact TL.numL_ne _) (by rw [len_tlS]; show (nt n).cps.toList.length ≤ 4300; rw [e]; omega), e, hv]
    congr 1; omega
theorem nt_len {n : Int} {k : Nat} (hk : 0 < k) (h : n.natAbs < 10 ^ k) : (nt n).length ≤ k + 1 := by
  have hl := TL.numL_len (n := n.natAbs) hk h
  rw [len_tlS, tlS_nt]
  split <;> simp <;> omega
theorem nt_free {n : Int} {s : Nat} (h : s < 45 ∨ (45 < s ∧ s < 48) ∨ 57 < s) : s ∉ tlS (nt n) := by
  rw [tlS_nt]
  have hf := TL.numL_free (n := n.natAbs) (s := s) (by omega)
  split
  · intro hm
    rcases List.mem_cons.mp hm with e | hm
    · omega
    · exact hf hm
  · exact hf
/-- the figures of a number's text -/
def figs (n : Int) : Str := ⟨(TL.numL n.natAbs).toArray⟩
theorem tl_figs (n : Int) : tlS (figs n) = TL.numL n.natAbs := rfl
theorem sw_dash (a : Str) : Txt.startswith a "-" = decide ((tlS a).head? = some 45) := by
  have e1 : ("-" : Str).length = 1 := by decide +kernel
  have e2 : ("-" : Str).cps = #[45] := by decide +kernel
  unfold Txt.startswith Builtin.Str.subAt
  rw [e1, e2, len_tlS]
  have e3 : (a.cps.extract 0 (0 + 1) == #[45]) = decide ((tlS a).take 1 = [45]) := by
    rw [Bool.eq_iff_iff, beq_iff_eq, decide_eq_true_eq, ← Array.toList_inj]
    simp
  rw [e3]
  cases h : tlS a with
  | nil => rfl
  | cons z r => simp
theorem sw_nt (n : Int) : Txt.startswith (nt n) "-" = decide (n < 0) := by
  rw [sw_dash, tlS_nt]
  by_cases h : n < 0
  · rw [if_pos h, decide_eq_true h]; rfl
  · rw [if_neg h, decide_eq_false h]
    obtain ⟨z, r, e, _⟩ := numL_head n.natAbs
    have hd := TL.numL_digits n.natAbs z (by rw [e]; simp)
    rw [e]
    refine decide_eq_false fun q => ?_
    have q : z = 45 := by simpa using q
    omega
theorem cut1 (a : Str) : tlS (cutS a (some 1) none) = (tlS a).drop 1 := by
  show ((tlS a).drop (HT.sIx a.length 0 (some ((1 : Nat) : Int)))).take (HT.sIx a.length a.length none - HT.sIx a.length 0 (some ((1 : Nat) : Int))) = _
  rw [HT.sIx_nat, HT.sIx_none, len_tlS]
  cases tlS a with
  | nil => rfl
  | cons z r =>
    have : min 1 (z :: r).length = 1 := by simp
    rw [this]
    simp
/-! ### names -/
def isNmS (s : Str) : Bool := (decide (1 ≤ s.length) && decide (s.length ≤ 8)) && (tlS s).all fun z => decide (z ∈ tlS ("abcdefghijklmnopqrstuvwxyz" : Str))
def isNm : PyData → Bool
  | .str s => isNmS s
  | _ => false
def isWh : PyData → Bool
  | .int _ => true
  | _ => false
/-- whether data is a wish that is so many deep at most -/
def isW : Nat → PyData → Bool
  | 0, _ => false
  | n + 1, .tuple [.str w, a] => if w = "in" then isNm a else if w = "least" then isWh a else decide (w = "no") && isW n a
  | n + 1, .tuple [.str w, a, b] => if w = "round" then isNm a && isWh b else if w ∈ (["both", "any"] : List Str) then isW n a && isW n b else false
  | _ + 1, _ => false
mutual
def strsOk : PyData → Bool
  | .str s => decide (s.length ≤ 1000)
  | .list ds => strsOks ds
  | .tuple ds => strsOks ds
  | .dict _ => false
  | _ => true
def strsOks : List PyData → Bool
  | [] => true
  | d :: ds => strsOk d && strsOks ds
end
/-! ### wishes -/
inductive Wi where
  | inn (s : Str)
  | rnd (s : Str) (n : Int)
  | lst (n : Int)
  | no (v : Wi)
  | two (b : Bool) (v w : Wi)
inductive Part where
  | w (v : Wi)
  | s (a : Str)
  | n (i : Int)
def bW (b : Bool) : Str := if b then "both" else "any"
def Wi.hd : Wi → Str
  | .inn _ => "in"
  | .rnd _ _ => "round"
  | .lst _ => "least"
  | .no _ => "no"
  | .two b _ _ => bW b
def Wi.ps : Wi → List Part
  | .inn a => [.s a]
  | .rnd a n => [.s a, .n n]
  | .lst n => [.n n]
  | .no v => [.w v]
  | .two _ v w => [.w v, .w w]
def wD : Wi → PyData
  | .inn a => .tuple [.str "in", .str a]
  | .rnd a n => .tuple [.str "round", .str a, .int n]
  | .lst n => .tuple [.str "least", .int n]
  | .no v => .tuple [.str "no", wD v]
  | .two b v w => .tuple [.str (bW b), wD v, wD w]
def Part.d : Part → PyData
  | .w v => wD v
  | .s a => .str a
  | .n i => .int i
theorem wD_eq (w : Wi) : wD w = .tuple (.str w.hd :: w.ps.map Part.d) := by cases w <;> rfl
def wdep : Wi → Nat
  | .no v => wdep v + 1
  | .two _ v w => max (wdep v) (wdep w) + 1
  | _ => 1
def wws : Wi → List Str
  | .inn a => ["in", a]
  | .rnd a n => ["round", a, nt n]
  | .lst n => ["least", nt n]
  | .no v => "no" :: wws v
  | .two b v w => bW b :: (wws v ++ wws w)
def Part.ws : Part → List Str
  | .w v => wws v
  | .s a => [a]
  | .n i => [nt i]
def Part.dep : Part → Nat
  | .w v => wdep v
  | _ => 0
theorem wws_eq (w : Wi) : wws w = w.hd :: (w.ps.map Part.ws).flatten := by cases w <;> simp [wws, Wi.hd, Wi.ps, Part.ws]
/-- names are names, numbers have bounds -/
def WiOk : Wi → Prop
  | .inn a => isNmS a = true
  | .rnd a n => isNmS a = true ∧ n.natAbs < 10 ^ 61
  | .lst n => n.natAbs < 10 ^ 61
  | .no v => WiOk v
  | .two _ v w => WiOk v ∧ WiOk w
def Part.ok : Part → Prop
  | .w v => WiOk v
  | .s a => isNmS a = true
  | .n i => i.natAbs < 10 ^ 61
theorem WiOk.ps {w : Wi} (h : WiOk w) : ∀ p ∈ w.ps, p.ok := by
  intro p hp
  cases w <;> simp only [Wi.ps, List.mem_cons, List.not_mem_nil, or_false] at hp
  · subst hp; exact h
  · rcases hp with rfl | rfl
    · exact h.1
    · exact h.2
  · subst hp; exact h
  · subst hp; exact h
  · rcases hp with rfl | rfl
    · exact h.1
    · exact h.2
theorem ps_dep {w : Wi} : ∀ p ∈ w.ps, p.dep < wdep w := by
  intro p hp
  cases w <;> simp only [Wi.ps, List.mem_cons, List.not_mem_nil, or_false] at hp
  · subst hp; exact Nat.zero_lt_one
  · rcases hp with rfl | rfl <;> exact Nat.zero_lt_one
  · subst hp; exact Nat.zero_lt_one
  · subst hp; exact Nat.lt_succ_self _
  · rcases hp with rfl | rfl <;> (show wdep _ < max _ _ + 1; omega)
def nums : Wi → Bool
  | .rnd _ n => decide (n.natAbs < 10 ^ 60)
  | .lst n => decide (n.natAbs < 10 ^ 60)
  | .no v => nums v
  | .two _ v w => nums v && nums w
  | _ => true
def goodW (w : Wi) (m : Nat) : Bool := decide (wdep w ≤ m) && nums w
theorem isW_wD : ∀ (w : Wi) (m : Nat), WiOk w → isW m (wD w) = decide (wdep w ≤ m)
  | .inn a, m, h => by
    cases m with
    | zero => rfl
    | succ m => show isNmS a = _; rw [h]; exact (decide_eq_true (by show 1 ≤ m + 1; omega)).symm
  | .rnd a n, m, h => by
    cases m with
    | zero => rfl
    | succ m => show (isNmS a && true) = _; rw [h.1]; exact (decide_eq_true (by show 1 ≤ m + 1; omega)).symm
  | .lst n, m, h => by
    cases m with
    | zero => rfl
    | succ m => show true = _; exact (decide_eq_true (by show 1 ≤ m + 1; omega)).symm
  | .no v, m, h => by
    cases m with
    | zero => exact (decide_eq_false (by show ¬ wdep v + 1 ≤ 0; omega)).symm
    | succ m =>
      show isW m (wD v) = _
      rw [isW_wD v m h]
      show _ = decide (wdep v + 1 ≤ m + 1)
      simp
  | .two b v w, m, h => by
    cases m with
    | zero => exact (decide_eq_false (by show ¬ max (wdep v) (wdep w) + 1 ≤ 0; omega)).symm
    | succ m =>
      have e : isW (m + 1) (wD (.two b v w)) = (isW m (wD v) && isW m (wD w)) := by cases b <;> rfl
      rw [e, isW_wD v m h.1, isW_wD w m h.2]
      show _ = decide (max (wdep v) (wdep w) + 1 ≤ m + 1)
      rw [Bool.eq_iff_iff, Bool.and_eq_true, decide_eq_true_eq, decide_eq_true_eq, decide_eq_true_eq]
      omega
theorem nm_len {a : Str} (h : isNmS a = true) : 1 ≤ a.length ∧ a.length ≤ 8 := by
  unfold isNmS at h
  rw [Bool.and_eq_true, Bool.and_eq_true] at h
  exact ⟨of_decide_eq_true h.1.1, of_decide_eq_true h.1.2⟩
theorem nm_mem {a : Str} (h : isNmS a = true) {z : Nat} (hz : z ∈ tlS a) : 97 ≤ z ∧ z ≤ 122 := by
  unfold isNmS at h
  rw [Bool.and_eq_true] at h
  have := of_decide_eq_true (List.all_eq_true.mp h.2 z hz)
  have key : ∀ y ∈ tlS ("abcdefghijklmnopqrstuvwxyz" : Str), 97 ≤ y ∧ y ≤ 122 := by decide +kernel
  exact key z this
theorem strs_wD : ∀ {w : Wi}, WiOk w → strsOk (wD w) = true
  | .inn a, h => by
    show (decide (("in" : Str).length ≤ 1000) && (decide (a.length ≤ 1000) && true)) = true
    rw [decide_eq_true (by decide +kernel), decide_eq_true (Nat.le_trans (nm_len h).2 (by decide))]; rfl
  | .rnd a n, h => by
    show (decide (("round" : Str).length ≤ 1000) && (decide (a.length ≤ 1000) && (true && true))) = true
    rw [decide_eq_true (by decide +kernel), decide_eq_true (Nat.le_trans (nm_len h.1).2 (by decide))]; rfl
  | .lst n, h => rfl
  | .no v, h => by
    show (decide (("no" : Str).length ≤ 1000) && (strsOk (wD v) && true)) = true
    rw [decide_eq_true (by decide +kernel), strs_wD (w := v) h]; rfl
  | .two b v w, h => by
    show (decide ((bW b).length ≤ 1000) && (strsOk (wD v) && (strsOk (wD w) && true))) = true
    rw [decide_eq_true (by cases b <;> decide +kernel), strs_wD h.1, strs_wD h.2]; rfl
/-! texts of wishes -/
def wT (w : Wi) : Str := Txt.join " " (wws w)
theorem wws_ne (w : Wi) : wws w ≠ [] := by cases w <;> simp [wws]
theorem wws_free : ∀ {w : Wi}, WiOk w → ∀ a ∈ wws w, 32 ∉ tlS a
  | .inn a, h => fun b hb => by
    rcases List.mem_cons.mp hb with rfl | hb
    · decide +kernel
    · rw [List.mem_singleton.mp hb]; exact fun q => by have := nm_mem h q; omega
  | .rnd a n, h => fun b hb => by
    rcases List.mem_cons.mp hb with rfl | hb
    · decide +kernel
    rcases List.mem_cons.mp hb with rfl | hb
    · exact fun q => by have := nm_mem h.1 q; omega
    · rw [List.mem_singleton.mp hb]; exact nt_free (by decide)
  | .lst n, h => fun b hb => by
    rcases List.mem_cons.mp hb with rfl | hb
    · decide +kernel
    · rw [List.mem_singleton.mp hb]; exact nt_free (by decide)
  | .no v, h => fun b hb => by
    rcases List.mem_cons.mp hb with rfl | hb
    · decide +kernel
    · exact wws_free (w := v) h b hb
  | .two t v w, h => fun b hb => by
    rcases List.mem_cons.mp hb with rfl | hb
    · cases t <;> decide +kernel
    rcases List.mem_append.mp hb with hb | hb
    · exact wws_free h.1 b hb
    · exact wws_free h.2 b hb
theorem wT_split {w : Wi} (h : WiOk w) : Txt.split (wT w) " " = wws w := by
  unfold wT
  exact TL.split_join (y := " ") (s := 32) (S := []) (by decide +kernel) (by decide +kernel) (wws_ne w) (wws_free h)
def wei (l : List Str) : Nat := (l.map (·.length)).sum + l.length
theorem wei_cons (a : Str) (l : List Str) : wei (a :: l) = a.length + 1 + wei l := by unfold wei; simp; omega
theorem wei_app (l m : List Str) : wei (l ++ m) = wei l + wei m := by unfold wei; simp; omega
theorem wei_w : ∀ {w : Wi}, WiOk w → wei (wws w) + 10 ≤ 90 * 2 ^ (wdep w - 1)
  | .inn a, h => by
    have := nm_len h
    show wei ["in", a] + 10 ≤ 90 * 2 ^ 0
    rw [wei_cons, wei_cons]
    show ("in" : Str).length + 1 + (a.length + 1 + 0) + 10 ≤ 90
    have : ("in" : Str).length = 2 := by decide +kernel
    omega
  | .rnd a n, h => by
    have := nm_len h.1
    have := nt_len (by decide) h.2
    show wei ["round", a, nt n] + 10 ≤ 90 * 2 ^ 0
    rw [wei_cons, wei_cons, wei_cons]
    show ("round" : Str).length + 1 + (a.length + 1 + ((nt n).length + 1 + 0)) + 10 ≤ 90
    have : ("round" : Str).length = 5 := by decide +kernel
    omega
  | .lst n, h => by
    have := nt_len (by decide) h
    show wei ["least", nt n] + 10 ≤ 90 * 2 ^ 0
    rw [wei_cons, wei_cons]
    show ("least" : Str).length + 1 + ((nt n).length + 1 + 0) + 10 ≤ 90
    have : ("least" : Str).length = 5 := by decide +kernel
    omega
  | .no v, h => by
    have ih := wei_w (w := v) h
    show wei ("no" :: wws v) + 10 ≤ 90 * 2 ^ (wdep v + 1 - 1)
    rw [wei_cons]
    have : ("no" : Str).length = 2 := by decide +kernel
    have hd : 1 ≤ wdep v := by cases v <;> simp [wdep]
    have : 2 ^ (wdep v + 1 - 1) = 2 * 2 ^ (wdep v - 1) := by rw [show wdep v + 1 - 1 = (wdep v - 1) + 1 by omega, Nat.pow_succ]; omega
    have : 1 ≤ 2 ^ (wdep v - 1) := Nat.one_le_pow _ _ (by decide)
    omega
  | .two b v w, h => by
    have i1 := wei_w (w := v) h.1
    have i2 := wei_w (w := w) h.2
    show wei (bW b :: (wws v ++ wws w)) + 10 ≤ 90 * 2 ^ (max (wdep v) (wdep w) + 1 - 1)
    rw [wei_cons, wei_app]
    have : (bW b).length ≤ 4 := by cases b <;> decide +kernel
    have h1 : 1 ≤ wdep v := by cases v <;> simp [wdep]
    have h2 : 1 ≤ wdep w := by cases w <;> simp [wdep]
    have m1 : 2 ^ (wdep v - 1) ≤ 2 ^ (max (wdep v) (wdep w) - 1) := Nat.pow_le_pow_right (by decide) (by omega)
    have m2 : 2 ^ (wdep w - 1) ≤ 2 ^ (max (wdep v) (wdep w) - 1) := Nat.pow_le_pow_right (by decide) (by omega)
    have : 2 ^ (max (wdep v) (wdep w) + 1 - 1) = 2 * 2 ^ (max (wdep v) (wdep w) - 1) := by rw [show max (wdep v) (wdep w) + 1 - 1 = (max (wdep v) (wdep w) - 1) + 1 by omega, Nat.pow_succ]; omega
    omega
theorem tl_wT (w : Wi) : tlS (wT w) = TL.joinL [32] ((wws w).map tlS) := by
  unfold wT
  rw [TL.join_eq]
  have := TL.tl_join (" " : Str) (wws w)
  have e : TL.tl (" " : Str) = [32] := by decide +kernel
  rw [e] at this
  exact this
theorem joinL_len : ∀ l : List Str, (TL.joinL [32] (l.map tlS)).length ≤ wei l
  | [] => by simp [TL.joinL]
  | [a] => by simp [TL.joinL, wei, len_tlS]
  | a :: b :: l => by
    have ih := joinL_len (b :: l)
    rw [wei_cons]
    show (tlS a ++ ([32] ++ TL.joinL [32] ((b :: l).map tlS))).length ≤ _
    rw [List.length_append, List.length_append, len_tlS]
    simp only [List.length_cons, List.length_nil]
    omega
theorem wT_len (w : Wi) : (wT w).length ≤ wei (wws w) := by
  rw [len_tlS, tl_wT]; exact joinL_len _
def noN : Nat → Wi → Wi
  | 0, w => w
  | n + 1, w => .no (noN n w)
theorem noN_ok {w : Wi} (h : WiOk w) : ∀ n, WiOk (noN n w)
  | 0 => h
  | n + 1 => noN_ok h n
theorem noN_dep (w : Wi) : ∀ n, wdep (noN n w) = wdep w + n
  | 0 => rfl
  | n + 1 => by show wdep (noN n w) + 1 = _; rw [noN_dep w n]; omega
theorem noN_wei (w : Wi) : ∀ n, wei (wws (noN n w)) = wei (wws w) + 3 * n
  | 0 => rfl
  | n + 1 => by
    show wei ("no" :: wws (noN n w)) = _
    rw [wei_cons, noN_wei w n]
    have : ("no" : Str).length = 2 := by decide +kernel
    omega
theorem wT_no (w : Wi) : tlS (wT (.no w)) = [110, 111, 32] ++ tlS (wT w) := by
  rw [tl_wT, tl_wT]
  show TL.joinL [32] (tlS "no" :: (wws w).map tlS) = _
  have e : tlS ("no" : Str) = [110, 111] := by decide +kernel
  rw [e]
  cases h : wws w with
  | nil => exact absurd h (wws_ne w)
  | cons a l => rfl
theorem rep_noN (w : Wi) : ∀ n, repS "no " n ++ wT w = wT (noN n w) := fun n => ext_tlS (by
  have tr : tlS (repS "no " n) = _ := tl_rep _ _
  rw [tlS_app, tr]
  have e : ("no " : Str).cps.toList = [110, 111, 32] := by decide +kernel
  rw [e]
  clear tr
  induction n with
  | zero => rfl
  | succ n ih =>
    show _ = tlS (wT (.no (noN n w)))
    rw [wT_no, ← ih, List.replicate_succ, List.flatten_cons, List.append_assoc])
end Py

set_option Elab.async false
set_option linter.all false
set_option autoImplicit false
set_option maxRecDepth 100000
set_option maxHeartbeats 4000000
namespace Py
open PySem hiding start
open L2
open Evl (Ex ex_rd ex_l ex_t fresh_back)
open Classical
section
variable {K : PySem.W.Frag} {c c' : Ctx K} {ρ : Rho} {E : DE} {k : Dv → Prop} {ta tb te to tx tl : TE}
/-- a call that may raise, whose result is a new list -/
theorem wf_callFS {P : PT0 K} {k : List PyData → Prop} {W : WX} {x : Rho → Value → Prop} {t : TA} (hx : XOk c W x) (h : Wa c t ρ fun xs => ∀ c' : Ctx K, Le c c' → P c' xs (fun x => ∃ l ys, x = .f l ys ∧ c'.B l = none ∧ ¬ c'.L l ∧ k ys) (x ρ)) : Wf c (tCallS (spD K P) (WE W) t) ρ k := fun σ H Q o q =>
  h σ H _ o fun vs xs H1 o1 e1 d1 h1 => by
    refine ⟨c.shut ρ H1 o1.w fun a z => o1.mut z, xs, _, _, ⟨o1.w, fun _ _ => rfl⟩, rfl, d1, h1 _ o1.le, fun v y H' w b dv ky => ?_, fun cls H' w b kx => hx ρ σ H' cls (o1.grow w.1 b w.2) kx⟩
    obtain ⟨l, ys, rfl, bl, nl, hk⟩ := ky
    obtain ⟨rfl, us, hl, da⟩ := dv
    have s : Stp c ρ H1 H' := ⟨b, w.2⟩
    have nl : ¬ Hid c ρ l := nl
    have h1l : H1 l = none := by
      have z : hid (Hid c ρ) H1 l = none := bl
      rw [hid_neg nl] at z; exact z
    have h0l : H l = none := by
      cases z : H l with
      | none => rfl
      | some ob =>
        have := (hid_some (e1.ex l ob (by unfold vis; rw [hid_neg nl]; exact z))).2
        rw [h1l] at this; cases this
    exact q l us ys H' h0l (hid_some hl).2 (o1.grow w.1 b w.2) (e1.trans s) da hk
/-- a comprehension over a text, sign by sign -/
theorem wf_lcSm {j : Nat} {vs : List Nat} {k : List PyData → Prop} (f : Nat → PyData) (hj : (j ∈ vs)) (hw : (vs.all fun v => (ρ[v]?.map isOwn) == some false) = true) (hu : ((wipeR ρ vs)[j]?.map isOwn) = some false)
    (h : We c tl ρ fun x => ∃ z : Str, x = .d (.str z) ∧ z.length ≤ 100000 ∧ (∀ c' : Ctx K, Le c c' → ∀ s, s ∈ z.cps.toList → We c' te ((wipeR ρ vs).set j (.val (.d (.str ⟨#[s]⟩)))) fun y => y = .d (f s)) ∧ k (z.cps.toList.map f)) :
    Wf c (tLc (iStr tl) (gName j) tYes te vs) ρ k := by
  refine wf_lcS [j] (by simpa using hj) hw (h.imp fun x ⟨z, h1, h2, h3, h4⟩ => ⟨z, h1, by have e : z.length = z.cps.toList.length := len_tlS z; omega, fun i acc => acc = (z.cps.toList.take i).map f, by simp, fun c' le i s acc hs _ hp => ?_, fun acc _ hp => by
    have hp : acc = (z.cps.toList.take z.cps.toList.length).map f := hp
    rw [List.take_length] at hp
    rw [hp]; exact h4⟩)
  refine wg_name hu (wt_yes ⟨fun _ => (h3 c' le s (List.mem_of_getElem? hs)).imp fun y hy => ⟨_, hy, ?_⟩, fun q => Bool.noConfusion q⟩)
  subst hp
  exact (map_take hs).symm
end
/-- a list amid others -/
theorem mid_get {α : Type} {pre l post : List α} {j : Nat} {a : α} (h : l[j]? = some a) : (pre ++ l ++ post)[pre.length + j]? = some a := by
  have hl := (List.getElem?_eq_some_iff.mp h).1
  rw [List.append_assoc, List.getElem?_append_right (by omega), show pre.length + j - pre.length = j by omega, List.getElem?_append_left hl, h]
theorem mid_get0 {α : Type} {pre l post : List α} {a : α} (h : l[0]? = some a) : (pre ++ l ++ post)[pre.length]? = some a := mid_get (j := 0) h
theorem nb1 {b : Bool} (h : (!b) = false) : b = true := by cases b <;> simp_all
theorem nb0 {b : Bool} (h : (!b) = true) : b = false := by cases b <;> simp_all
theorem strs_tup {ds : List PyData} (h : strsOk (.tuple ds) = true) : ∀ d ∈ ds, strsOk d = true := by
  have h : strsOks ds = true := h
  induction ds with
  | nil => intro d hd; cases hd
  | cons e ds ih =>
    have h : (strsOk e && strsOks ds) = true := h
    rw [Bool.and_eq_true] at h
    intro d hd
    rcases List.mem_cons.mp hd with rfl | hd
    · exact h.1
    · exact ih h.2 h.2 d hd
theorem isW_other {n : Nat} {d : PyData} (h1 : ∀ w a, d ≠ .tuple [.str w, a]) (h2 : ∀ w a b, d ≠ .tuple [.str w, a, b]) : isW n d = false := by
  unfold isW
  split
  · rfl
  · exact absurd rfl (h1 _ _)
  · exact absurd rfl (h2 _ _ _)
  · rfl
end Py
namespace Py
open PySem hiding start
open L2
open Evl (Ex ex_rd ex_l ex_t fresh_back)
open Classical
/-! ### for x, y in zip(..) -/
theorem for_zipB {K : PySem.W.Frag} (t1 t2 : Bool) {a b : Addr} {xs ys : List V} {g : TG} {tb : TS} {D : Ends} {σ : L2.St} {H : Hp} (he : xs.length = ys.length) (Pv : Nat → L2.St → Hp → Prop) (h0 : Pv 0 σ H) (hl : ∀ i σ H, i ≤ xs.length → Pv i σ H → SqB K t1 H a xs ∧ SqB K t2 H b ys)
    (hs : ∀ i x y T σ H, xs[i]? = some x → ys[i]? = some y → Pv i σ H → H T = none → g (.ref T) σ (upd H T (.tup [x, y])) fun σ2 H2 => tb { D with nx := Pv (i + 1), ct := Pv (i + 1), bk := D.nx } σ2 H2) (hd : ∀ σ H, Pv xs.length σ H → D.nx σ H) :
    ∃ W : Nat → Nat → L2.St → Hp → Prop, (∃ m, W 0 m σ H) ∧ ∀ i m σ H, W i m σ H →
      ((ItzB K t1 t2 a b).stop i H ∧ D.nx σ H) ∨ ((ItzB K t1 t2 a b).go i H ∧ ∃ N : L2.St → Hp → Prop, (∀ σ' H', N σ' H' → ∃ m', m' < m ∧ W (i + 1) m' σ' H') ∧ ∀ x H', (ItzB K t1 t2 a b).yld i H x H' → g x σ H' fun σ2 H2 => tb { D with nx := N, ct := N, bk := D.nx } σ2 H2) := by
  refine ⟨fun i m σ H => m = xs.length - i ∧ i ≤ xs.length ∧ Pv i σ H, ⟨xs.length, by simp, Nat.zero_le _, h0⟩, ?_⟩
  rintro i m σ H ⟨rfl, hi, p⟩
  obtain ⟨q1, q2⟩ := hl i σ H hi p
  by_cases hlt : i < xs.length
  · refine .inr ⟨⟨xs, ys, xs[i], ys[i]'(by omega), q1, q2, by simp [hlt], by simp [show i < ys.length by omega]⟩, Pv (i + 1), fun σ' H' p' => ⟨xs.length - (i + 1), by omega, rfl, hlt, p'⟩, fun x H' y => ?_⟩
    obtain ⟨T, x', y', rfl, hT, rfl, f1, f2⟩ := y
    exact hs i x' y' T σ H (f1 xs q1) (f2 ys q2) p hT
  · have e : i = xs.length := by omega
    subst e
    exact .inl ⟨⟨xs, ys, q1, q2, .inl ⟨rfl, by omega⟩⟩, hd σ H p⟩
theorem ws_forZ {K : PySem.W.Frag} {c : Ctx K} {ρ : Rho} {E : DE} {tb' : TS} {tl : TA} {g : TG} (js : List Nat) (h : Wa c tl ρ fun zs => ∃ t1 t2 xs ys, zs = [.d (sqD t1 xs), .d (sqD t2 ys)] ∧ xs.length = ys.length ∧ ∃ P : Nat → Rho → Prop, P 0 ρ ∧
    (∀ c' : Ctx K, Le c c' → ∀ i x y ρ', xs[i]? = some x → ys[i]? = some y → P i ρ' → Wg c' g js (.d (.tuple [x, y])) ρ' fun ρ2 => Ws c' tb' ρ2 { E with nx := P (i + 1), ct := P (i + 1), bk := E.nx }) ∧ ∀ ρ', P xs.length ρ' → E.nx ρ') : Ws c (tFor (iZipU K tl) g tb') ρ E := fun D σ H e o =>
  h σ H _ o fun us zs H1 o1 e1 d1 ⟨t1, t2, xs, ys, hx, hle, P, p0, ps, pd⟩ => by
    subst hx
    cases d1 with
    | cons dA dn =>
    cases dn with
    | cons dB dn =>
    cases dn
    obtain ⟨a, us, rfl, hs, ha⟩ := sqD_inv dA
    obtain ⟨b, ws, rfl, hs2, ha2⟩ := sqD_inv dB
    have b1 : Ex c.B (vis c ρ H1) := o1.base
    have le : Le c (c.at (vis c ρ H1)) := le_at b1
    refine ⟨t1, t2, a, b, us, ws, rfl, exB hid_sub hs, exB hid_sub hs2, for_zipB (K := K) t1 t2 (by rw [dpa_len ha, dpa_len ha2]; exact hle) (fun i σ' H' => ∃ ρ', Ok (c.at (vis c ρ H1)) ρ' σ' H' ∧ P i ρ') ⟨ρ, o1.at', p0⟩ (fun i σ' H' _ ⟨ρ', o', _⟩ => ⟨exB hid_sub (exB o'.b hs), exB hid_sub (exB o'.b hs2)⟩) ?_ ?_⟩
    · rintro i x y T σ' H' hx hy ⟨ρ', o', p'⟩ hT
      obtain ⟨d, hd, dd⟩ := dpa_get' ha hx
      obtain ⟨d', hd', dd'⟩ := dpa_get' ha2 hy
      obtain ⟨on, en⟩ := o'.new (o := .tup [x, y]) hT
      have dd2 : Dp K (vis (c.at (vis c ρ H1)) ρ' (upd H' T (.tup [x, y]))) (.ref T) (.tuple [d, d']) :=
        dp_tup (vis_upd (o'.nh hT)) (.cons (dp_mono (o'.base.trans en.ex) _ _ dd) (.cons (dp_mono (o'.base.trans en.ex) _ _ dd') .nil))
      refine ps _ le i d d' ρ' hd hd' p' σ' _ _ _ on dd2 fun ρ2 σ2 o2 _ _ _ _ w => ?_
      exact w { D with nx := fun σ' H' => ∃ ρ', Ok (c.at (vis c ρ H1)) ρ' σ' H' ∧ P (i + 1) ρ', ct := fun σ' H' => ∃ ρ', Ok (c.at (vis c ρ H1)) ρ' σ' H' ∧ P (i + 1) ρ', bk := D.nx } σ2 _ ((e.at' b1).loop fun ρ σ H o p => ⟨ρ, o, p⟩) o2
    · rintro σ' H' ⟨ρ', o', p'⟩
      rw [dpa_len ha] at p'
      exact e.nx ρ' σ' H' (ok_at b1 o') (pd ρ' p')
/-! ### texts joined -/
theorem joinL_app {S : List Nat} : ∀ {l m : List (List Nat)}, l ≠ [] → m ≠ [] → TL.joinL S (l ++ m) = TL.joinL S l ++ (S ++ TL.joinL S m)
  | [], _, h, _ => absurd rfl h
  | [a], m, _, hm => by
    cases m with
    | nil => exact absurd rfl hm
    | cons b m => rfl
  | a :: b :: l, m, _, hm => by
    have ih := joinL_app (S := S) (l := b :: l) (m := m) (by simp) hm
    show a ++ (S ++ TL.joinL S (b :: l ++ m)) = (a ++ (S ++ TL.joinL S (b :: l))) ++ _
    rw [ih]; simp
abbrev jn (l : List Str) : Str := Txt.join " " l
theorem tl_jn (l : List Str) : tlS (jn l) = TL.joinL [32] (l.map tlS) := by
  have e := TL.tl_join (" " : Str) l
  have e2 : TL.tl (" " : Str) = [32] := by decide +kernel
  rw [e2] at e
  unfold jn
  rw [TL.join_eq]
  exact e
theorem jn_one (a : Str) : jn [a] = a := ext_tlS (by rw [tl_jn]; rfl)
theorem jn_app {l m : List Str} (hl : l ≠ []) (hm : m ≠ []) : jn l ++ " " ++ jn m = jn (l ++ m) := ext_tlS (by
  have e2 : tlS (" " : Str) = [32] := by decide +kernel
  rw [tlS_app, tlS_app, tl_jn, tl_jn, tl_jn, e2, List.map_append, joinL_app (by simpa using hl) (by simpa using hm)]
  simp)
theorem jn_len (l : List Str) : (jn l).length ≤ wei l := by rw [len_tlS, tl_jn]; exact joinL_len l
theorem join0 (l : List Str) : tlS (Txt.join "" l) = (l.map tlS).flatten := by
  have e := TL.tl_join ("" : Str) l
  have e2 : TL.tl ("" : Str) = [] := by decide +kernel
  rw [e2] at e
  rw [TL.join_eq]
  refine e.trans ?_
  generalize l.map TL.tl = m
  induction m with
  | nil => rfl
  | cons a m ih =>
    cases m with
    | nil => simp [TL.joinL]
    | cons b m =>
      show a ++ ([] ++ TL.joinL [] (b :: m)) = _
      rw [ih]; simp
theorem wdep_eq (w : Wi) : wdep w = (w.ps.map Part.dep).foldl max 0 + 1 := by
  cases w <;> simp [wdep, Wi.ps, Part.dep]
end Py

set_option Elab.async false
set_option linter.all false
set_option autoImplicit false
set_option maxRecDepth 100000
set_option maxHeartbeats 4000000
/-! Errors with fields. -/
namespace Py
open PySem hiding start
open L2
open Evl (Ex ex_rd ex_l ex_t fresh_back)
open Classical
section
variable {K : PySem.W.Frag} {c c' : Ctx K} {ρ : Rho} {E : DE} {ta tb te to : TE} {t u : TS} {k : Dv → Prop}
/-- the fields of an error, as data -/
abbrev FD := List (Str × PyData)
def XdOk (K : PySem.W.Frag) (G : Hp) : Option Addr → Option FD → Prop
  | none, none => True
  | some d, some fs => ∃ us : List (Str × V), G d = some (.xd us) ∧ us.map (·.1) = fs.map (·.1) ∧ DpAll K G (us.map (·.2)) (fs.map (·.2))
  | _, _ => False
theorem xd_mono {G G' : Hp} (e : Ex G G') : ∀ {d : Option Addr} {fo : Option FD}, XdOk K G d fo → XdOk K G' d fo
  | none, none, _ => trivial
  | some _, some _, ⟨us, h1, h2, h3⟩ => ⟨us, e _ _ h1, h2, dpa_mono e _ _ h3⟩
  | none, some _, h => h.elim
  | some _, none, h => h.elim
abbrev PTF (K : PySem.W.Frag) := Ctx K → List Dv → (Dv → Prop) → (Value → Option FD → Prop) → Prop
def spF (K : PySem.W.Frag) (P : PTF K) : Sp := fun vs H Q E => ∃ (c : Ctx K) (xs : List Dv) (k : Dv → Prop) (x : Value → Option FD → Prop), c.W H ∧ c.B = hid c.L H ∧ DvAll K c.B vs xs ∧ P c xs k x ∧
  (∀ v y H', c.W H' → Ex c.B (hid c.L H') → DvOk K (hid c.L H') v y → k y → Q v H') ∧ ∀ cls d fo H', c.W H' → Ex c.B (hid c.L H') → XdOk K (hid c.L H') d fo → x cls fo → E cls d H'
theorem callF_core {P : PTF K} {σ : L2.St} {H : Hp} {vs : List V} {xs : List Dv} {Q : VK} {X : XK} {k : Dv → Prop} {x : Value → Option FD → Prop} (o : Ok c ρ σ H) (d : DvAll K (vis c ρ H) vs xs) (h : ∀ c', Le c c' → P c' xs k x)
    (q : Qk c ρ σ H k Q) (e : ∀ cls d fo H', Ok c ρ σ H' → Stp c ρ H H' → XdOk K (vis c ρ H') d fo → x cls fo → X cls d H') : spF K P vs H Q X := by
  refine ⟨c.shut ρ H o.w fun a z => o.mut z, xs, k, x, ⟨o.w, fun _ _ => rfl⟩, rfl, d, h _ o.le, fun v y H' w b dv ky => ?_, fun cls d fo H' w b xd kx => ?_⟩
  · have s : Stp c ρ H H' := ⟨b, w.2⟩
    exact q v y H' (o.grow w.1 b w.2) s dv ky
  · exact e cls d fo H' (o.grow w.1 b w.2) ⟨b, w.2⟩ xd kx
theorem we_callF0 {P : PTF K} {X : XK} {t : TA} (h : Wa c t ρ fun xs => ∀ c', Le c c' → P c' xs k fun _ _ => False) : We c (tCall (spF K P) [] X t) ρ k := fun σ H Q o q =>
  h σ H _ o fun vs xs H1 o1 e1 d1 h1 => by
    rw [List.append_nil]
    exact callF_core o1 d1 h1 (q.to e1) fun _ _ _ _ _ _ _ z => z.elim
/-- what is wished of a raised error -/
def XOkF (c : Ctx K) (W : WX) (x : Rho → Value → Option FD → Prop) : Prop := ∀ ρ σ H cls d fo, Ok c ρ σ H → XdOk K (vis c ρ H) d fo → x ρ cls fo → W cls d σ H
theorem vis_le (le : Le c c') {H : Hp} : Ex (vis c' ρ H) (vis c ρ H) := hid_less fun a z => z.imp (le.L a) id
theorem XOkF.le {W : WX} {x : Rho → Value → Option FD → Prop} (h : XOkF c W x) (le : Le c c') : XOkF c' W x := fun ρ σ H cls d fo o xd z => h ρ σ H cls d fo (ok_le le o) (xd_mono (vis_le le) xd) z
/-- of errors without fields -/
theorem XOkF.toX {W : WX} {x : Rho → Value → Option FD → Prop} (h : XOkF c W x) : XOk c W fun ρ cls => x ρ cls none := fun ρ σ H cls o z => h ρ σ H cls none none o trivial z
theorem we_callSF {P : PTF K} {W : WX} {x : Rho → Value → Option FD → Prop} {t : TA} (hx : XOkF c W x) (h : Wa c t ρ fun xs => ∀ c', Le c c' → P c' xs k (x ρ)) : We c (tCallS (spF K P) (WE W) t) ρ k := fun σ H Q o q =>
  h σ H _ o fun vs xs H1 o1 e1 d1 h1 => callF_core o1 d1 h1 (q.to e1) fun cls d fo H' o' _ xd z => hx ρ σ H' cls d fo o' xd z
theorem run_spF {P : PTF K} {vs : List V} {H : Hp} {Q : VK} {X : XK} {N : List Str} (h : spF K P vs H Q X)
    (hw : ∀ (c : Ctx K) xs k x, P c xs k x → xs.length ≤ N.length ∧ (XOkF c (fun cls d _ H => X cls d H) (fun _ => x) → Ws c t (startR N.length xs) ⟨fun _ => k (.d .none), k, fun _ => False, fun _ => False⟩)) :
    t { nx := fun _ H' => Q .non H', rt := Q } (start N vs) H := by
  obtain ⟨c, xs, k, x, w, b, d, p, q, e⟩ := h
  obtain ⟨hl, hw⟩ := hw c xs k x p
  refine hw (fun ρ σ H cls d fo o xd z => e cls d fo H o.w o.b (xd_mono vis_out xd) z) _ _ _ ⟨fun ρ σ H' o z => q .non (.d .none) H' o.w o.b Dp.non z, q, fun _ _ _ _ z => z.elim, fun _ _ _ _ z => z.elim⟩ (start_ok w b d hl)
theorem spF_len {P : PTF K} {n : Nat} (hp : ∀ (c : Ctx K) xs k x, P c xs k x → xs.length = n) : ∀ vs H Q X, spF K P vs H Q X → vs.length = n := fun vs H Q X ⟨c, xs, k, x, _, _, d, p, _⟩ => (dva_len d).trans (hp c xs k x p)
theorem xokF_none {W : WX} : XOkF c W fun _ _ _ => False := fun _ _ _ _ _ _ _ _ z => z.elim
/-! ### an __init__ that keeps what it is handed -/
def spIn1 (C : Addr) (f : Str) : Sp := fun vs H Q _ => ∃ (a : Addr) (y : V), vs = [.ref a, y] ∧ H a = some (exo a C none) ∧ ∀ d, H d = none → d ≠ a → Q .non (upd (upd H d (exd d [(f, y)])) a (exo a C (some d)))
def spIn2 (C : Addr) (f g : Str) : Sp := fun vs H Q _ => ∃ (a : Addr) (y z : V), vs = [.ref a, y, z] ∧ H a = some (exo a C none) ∧ ∀ d, H d = none → d ≠ a → Q .non (upd (upd (upd H d (exd d [(f, y)])) a (exo a C (some d))) d (exd d [(g, z), (f, y)]))
theorem body_In1 {C : Addr} {f : Str} {vs : List V} {H : Hp} {Q : VK} {X : XK} {N : List Str} (hN : N.length = 2) (T : OexC K C) (hf : PySem.W.findIn K (.ref C) f = some none) (h : spIn1 C f vs H Q X) :
    tOst K f (tVar 0) (tVar 1) { nx := fun _ H' => Q .non H', rt := Q } (start N vs) H := by
  obtain ⟨a, y, rfl, ha, h⟩ := h
  match N, hN with
  | [n1, n2], _ => exact ⟨y, rfl, _, rfl, a, C, rfl, T, hf, .inl ⟨ha, h⟩⟩
theorem body_In2 {C : Addr} {f g : Str} {vs : List V} {H : Hp} {Q : VK} {X : XK} {N : List Str} (hN : N.length = 3) (T : OexC K C) (hf : PySem.W.findIn K (.ref C) f = some none) (hg : PySem.W.findIn K (.ref C) g = some none) (h : spIn2 C f g vs H Q X) :
    tSeq (tOst K f (tVar 0) (tVar 1)) (tOst K g (tVar 0) (tVar 2)) { nx := fun _ H' => Q .non H', rt := Q } (start N vs) H := by
  obtain ⟨a, y, z, rfl, ha, h⟩ := h
  match N, hN with
  | [n1, n2, n3], _ =>
    refine ⟨y, rfl, _, rfl, a, C, rfl, T, hf, .inl ⟨ha, fun d hd hne => ?_⟩⟩
    refine ⟨z, rfl, _, rfl, a, C, rfl, T, hg, .inr ⟨d, [(f, y)], upd_same, ?_, by show 1 ≤ 900; decide, h d hd hne⟩⟩
    rw [upd_ne hne, upd_same]
/-- raise C(e) -/
def tRaise1 (C : Addr) (f : Str) (W : WX) (ta : TA) : TS := fun _ σ H => tMkO C (spIn1 C f) [] ta σ H fun cls d H' => W cls d σ H'
def tRaise2 (C : Addr) (f g : Str) (W : WX) (ta : TA) : TS := fun _ σ H => tMkO C (spIn2 C f g) [] ta σ H fun cls d H' => W cls d σ H'
theorem xd_end {a d : Addr} {H1 : Hp} {o1 o2 : HO} {fs : List (Str × V)} (ha : H1 a = none) (hne : d ≠ a) (H2 : Hp) (h : ∀ b, b ≠ a → b ≠ d → H2 b = H1 b) : upd (del H2 a) d (.xd fs) = upd H1 d (.xd fs) := by
  funext b
  by_cases e : b = d
  · rw [e, upd_same, upd_same]
  · rw [upd_ne e, upd_ne e]
    by_cases e2 : b = a
    · rw [e2, del_same, ha]
    · rw [del_ne e2, h b e2 e]
theorem xd_new {σ : L2.St} {H1 : Hp} {d : Addr} {us : List (Str × V)} {fs : FD} (o1 : Ok c ρ σ H1) (hd : H1 d = none) (h1 : us.map (·.1) = fs.map (·.1)) (h2 : DpAll K (vis c ρ H1) (us.map (·.2)) (fs.map (·.2))) : Ok c ρ σ (upd H1 d (.xd us)) ∧ XdOk K (vis c ρ (upd H1 d (.xd us))) (some d) (some fs) := by
  obtain ⟨o2, e2⟩ := o1.new (o := .xd us) hd
  exact ⟨o2, us, vis_upd (o1.nh hd), h1, dpa_mono e2.ex _ _ h2⟩
theorem ws_rs1 {C : Addr} {f : Str} {W : WX} {x : Rho → Value → Option FD → Prop} (hx : XOkF c W x) (h : We c te ρ fun y => ∃ d, y = .d d ∧ x ρ (.ref C) (some [(f, d)])) : Ws c (tRaise1 C f W (tCons te tNil)) ρ E := fun D σ H e o =>
  h σ H _ o fun v y H1 o1 s1 dy ⟨d, hy, hxx⟩ => by
    subst hy
    refine ⟨by show 1 ≤ 1000; decide, fun a ha => ⟨a, v, rfl, upd_same, fun dd hd hne => ⟨rfl, dd, [(f, v)], upd_same, ?_, ?_, ?_⟩⟩⟩
    · rw [upd_ne hne, upd_same]
    · rw [upd_ne hne] at hd; exact hd
    · rw [upd_ne hne] at hd
      rw [xd_end (o1 := exo a C none) (o2 := exo a C none) ha hne _ fun b b1 b2 => by rw [upd_ne b1, upd_ne b2, upd_ne b1]]
      obtain ⟨o2, xd⟩ := xd_new (fs := [(f, d)]) (us := [(f, v)]) o1 hd rfl (.cons dy .nil)
      exact hx ρ σ _ _ _ _ o2 xd hxx
theorem ws_rs2 {C : Addr} {f g : Str} {W : WX} {x : Rho → Value → Option FD → Prop} (hx : XOkF c W x) (h : We c ta ρ fun y => ∃ d, y = .d d ∧ We c tb ρ fun z => ∃ d2, z = .d d2 ∧ x ρ (.ref C) (some [(g, d2), (f, d)])) : Ws c (tRaise2 C f g W (tCons ta (tCons tb tNil))) ρ E := fun D σ H e o =>
  h σ H _ o fun v y H1 o1 s1 dy ⟨d, hy, h2⟩ => by
    subst hy
    refine h2 σ H1 _ o1 fun v2 z H2 o2 s2 dz ⟨d2, hz, hxx⟩ => ?_
    subst hz
    refine ⟨by show 2 ≤ 1000; decide, fun a ha => ⟨a, v, v2, rfl, upd_same, fun dd hd hne => ⟨rfl, dd, [(g, v2), (f, v)], ?_, upd_same, ?_, ?_⟩⟩⟩
    · rw [upd_ne (Ne.symm hne), upd_same]
    · rw [upd_ne hne] at hd; exact hd
    · rw [upd_ne hne] at hd
      rw [xd_end (o1 := exo a C none) (o2 := exo a C none) ha hne _ fun b b1 b2 => by rw [upd_ne b2, upd_ne b1, upd_ne b2, upd_ne b1]]
      obtain ⟨o3, xd⟩ := xd_new (fs := [(g, d2), (f, d)]) (us := [(g, v2), (f, v)]) o2 hd rfl (.cons dz (.cons (dp_mono s2.ex _ _ dy) .nil))
      exact hx ρ σ _ _ _ _ o3 xd hxx
/-! ### try -/
theorem ws_tAsF {tb0 : WX → TS} {ts : Addr → Value → Option Addr → TS} {Wout : WX} {xo : Rho → Value → Option FD → Prop} {C : Value} {i : Nat} (ho : XOkF c Wout xo)
    (h : ∀ W, XOkF c W (fun ρ' cls fo => ∃ b, PySem.W.exmOne K cls C = some b ∧
        (b = true → ∀ (a : Addr) (d : Option Addr) (c1 : Ctx K), Le c c1 → XdOk K c1.B d fo → Ws c1 (ts a cls d) (ρ'.set i (.val (.r (.ref a)))) ⟨fun ρ2 => E.nx (ρ2.set i .un), E.rt, fun ρ2 => E.bk (ρ2.set i .un), fun ρ2 => E.ct (ρ2.set i .un)⟩) ∧ (b = false → xo ρ' cls fo)) → Ws c (tb0 W) ρ E) :
    Ws c (tTryAs K C i tb0 ts Wout) ρ E := fun D σ H e o => by
  refine h (wAs K C i ts Wout D) (fun ρ' σ' H' cls d fo o' xd ⟨b, hb, h1, h2⟩ => ⟨b, hb, fun z a ha => ?_, fun z => ho ρ' σ' H' cls d fo o' xd (h2 z)⟩) D σ H e o
  have e1 := e.at' (B := vis c ρ' H') o'.base
  refine h1 z a d (c.at (vis c ρ' H')) (le_at o'.base) xd _ _ _ ⟨fun ρ2 σ2 H2 o2 z2 => e1.nx _ _ _ (o2.un i none) z2, e1.rt, fun ρ2 σ2 H2 o2 z2 => e1.bk _ _ _ (o2.un i none) z2, fun ρ2 σ2 H2 o2 z2 => e1.ct _ _ _ (o2.un i none) z2⟩ (o'.at'.put (x := .r (.ref a)) rfl i)
/-- a field of the error that the suite holds -/
theorem we_xf {a C : Addr} {d : Option Addr} {f : Str} {fs : FD} {x : PyData} {i : Nat} (hi : ρ[i]? = some (.val (.r (.ref a)))) (xd : XdOk K c.B d (some fs)) (hf : fs.lookup f = some x) (hk : k (.d x)) : We c (tXf a (.ref C) d C f (tVar i)) ρ k := fun σ H Q o q => by
  obtain ⟨u, e, v, rfl, rfl⟩ := o.sl i _ hi
  cases d with
  | none => exact xd.elim
  | some dd =>
  obtain ⟨us, h1, h2, h3⟩ := xd
  have key : ∀ {us : List (Str × V)} {fs : FD}, us.map (·.1) = fs.map (·.1) → DpAll K c.B (us.map (·.2)) (fs.map (·.2)) → fs.lookup f = some x → ∃ w, us.lookup f = some w ∧ Dp K c.B w x := by
    intro us
    induction us with
    | nil =>
      intro fs e1 _ e3
      cases fs with
      | nil => cases e3
      | cons p fs => cases e1
    | cons p us ih =>
      intro fs e1 e2 e3
      cases fs with
      | nil => cases e1
      | cons r fs =>
        obtain ⟨p1, p2⟩ := p
        obtain ⟨r1, r2⟩ := r
        rw [List.map_cons, List.map_cons] at e1
        injection e1 with e1 e1'
        have e1 : p1 = r1 := e1
        subst e1
        cases e2 with
        | cons d1 d2 =>
        rw [List.lookup_cons] at e3 ⊢
        cases z : (f == p1) with
        | true =>
          rw [z] at e3
          have : r2 = x := Option.some.inj e3
          subst this
          exact ⟨p2, rfl, d1⟩
        | false =>
          rw [z] at e3
          exact ih e1' d2 e3
  obtain ⟨w, hw, dw⟩ := key h2 h3 hf
  have hH : H dd = some (.xd us) := (hid_some (o.b dd _ h1)).2
  exact ⟨_, e, rfl, rfl, dd, us, w, rfl, hH, hw, q.val o (x := .d _) (dp_mono o.base _ _ dw) hk⟩
end
end Py
namespace PySem.W
open PySem PySem.Spec PySem.Calls PyProof.Rows
section
variable {prog : Program} {w : World} {A : Around} {E : Value → Shared → Prop} {s : Shared} {K : Frag} {x D : Addr} {ox : Obj} {od : Option Obj}
theorem findObj_dataD {C : Addr} {name : Str} {a g : Value} (hc : (clsIn K C).isSome = true) (ha : findIn K (.ref C) name = some (some a)) (hg : specialIn K a "__get__" = some (some g)) (ht : takesIn K a = some true) : findObj K C od name = some (.bind g a) := by
  obtain ⟨cd, hc⟩ := Option.isSome_iff_exists.mp hc
  unfold findObj
  rw [hc, Option.bind_some, ha, Option.bind_some]
  simp [hg, ht]
/-- the class of an error that has its dict -/
theorem kin_classD {Q : Option Value → Shared → Prop} (C : L2.ExcC K D) (X : K.In s.heap) (I : InstAt s.heap x ox D od) (h : Q (some (.ref D)) { s with toks := s.toks + 1 }) : wpAny (model prog w) A (getAttr? (.ref x) "__class__") Q E s := by
  have hf : findObj K D od "__class__" = some (.bind (.builtin "getset_descriptor.__get__") (.builtin "object.__class__")) := findObj_dataD (by obtain ⟨cd, hc, _⟩ := any_some C.hd; rw [hc]; rfl) C.ha C.hn C.ht
  obtain ⟨hp, g, d, t, os⟩ := s
  have L0 := I.type (M := model prog w)
  have L1 := looks_findIn (M := model prog w) X C.hg
  have L2 := looks_findIn (M := model prog w) X C.hk
  have L3 := looks_find (M := model prog w) X I hf
  have sub : Looks (model prog w) hp (isInstance (.ref x) (.type "BaseException")) true := L0.andThen (looks_subIn X C.hs)
  have hx0 : (false && onTheHeap (Value.builtin "BaseException.__getattribute__")) = false := rfl
  have hx2 : (Value.builtin "BaseException.__getattribute__" == Value.builtin "object.__getattribute__") = false := by decide +kernel
  have hx1 : (onTheHeap (Value.ref D) && Value.builtin "BaseException.__getattribute__" == Value.builtin "object.__getattribute__") = false := by rw [hx2]; rfl
  unfold getAttr? getAttrBy? getAttrBy
  refine wpAny_bind (wpAny_mkText (wpAny_bind (wpAny_attempt (wpAny_holding (wpAny_bind (L0.at (wpAny_bind (L1.at ?_))))))))
  show wpAny _ _ (if (onTheHeap (Value.ref D) && Value.builtin "BaseException.__getattribute__" == Value.builtin "object.__getattribute__") = true then _ else _) _ _ _
  rw [hx1, if_neg Bool.false_ne_true]
  unfold getAttrByItsOwn hookBefore
  refine wpAny_bind ?_
  rw [if_pos (show onTheHeap (Value.ref D) = true from rfl)]
  refine L2.at ?_
  refine wpAny_bind (wpAny_attempt (wpAny_holding ?_))
  unfold callGetattribute
  rw [hx0, if_neg Bool.false_ne_true]
  unfold boundAndCalled
  rw [PySem.F.excAttr_ValueError.ga.bind (.ref x)]
  refine wpAny_bind (wpAny_pure ?_)
  show wpAny _ _ (call (.builtin "BaseException.__getattribute__") [.ref x, .str "__class__" t]) _ _ _
  refine wpAny_call (codeAny_call_builtin PySem.F.excAttr_ValueError.ga.plain PySem.F.entry_bexc_ga ?_)
  refine @check_slot (model prog w) _ _ ⟨hp, g, d, t + 1, os⟩ "BaseException.__getattribute__" "BaseException" "__getattribute__" (.ref x) [.str "__class__" t] [] _ (by decide +kernel) (by decide +kernel) sub (PySem.F.args_bexc_ga (.ref x) (.str "__class__" t)) ?_
  unfold Builtin.«object.__getattribute__»
  refine wpAny_bind (wpAny_of_eq (a := ((Value.ref x : Value), [Value.str "__class__" t])) (by first | rfl | (simp only [slotArgs]; rfl)) ?_)
  refine wpAny_bind (wpAny_pure (wpAny_bind (L0.at (wpAny_bind (L3.at ?_)))))
  show wpAny _ _ (holding [Value.builtin "object.__class__"] (call (.builtin "getset_descriptor.__get__") [.builtin "object.__class__", .ref x, .ref D]) >>= ret) _ _ _
  refine wpAny_bind (wpAny_holding (wpAny_call (class_get (s := ⟨hp, g, d, t + 1, os⟩) (ox := ox) (od := od) X I C.hm ?_)))
  refine wpAny_pure ?_
  show wpAny _ _ (handedOut (.ref D)) _ _ _
  rw [handedOut_of (v := .ref D) rfl]
  first
    | exact wpAny_pure (wpAny_pure h)
    | exact wpAny_pure h
    | exact wpAny_pure (wpAny_bind (wpAny_pure (wpAny_pure h)))
theorem kitx_excD (C : L2.ExcC K D) : KitX K (.ref x) (.ref D) (fun h => InstAt h x ox D od) where
  ty := fun _ _ _ I => I.type
  it := fun _ _ X _ => by
    obtain ⟨cdD, hcD, _⟩ := any_some C.hd
    unfold clsIn at hcD
    split at hcD
    · rename_i c' d' cd' sl' ho
      intro A' Q' E' s' k q
      unfold isType loadHead
      exact wpAny_bind (wpAny_loadPart (k _ _ (X _ _ ho)) (wpAny_pure q))
    · cases hcD
  ne := fun h tp dd its n sl X htp => by
    obtain ⟨cdD, hcD, _⟩ := any_some C.hd
    refine Bool.eq_false_iff.mpr fun q => ?_
    have e : D = tp := Value.ref.inj (beq_iff_eq.mp q)
    subst e
    unfold clsIn at hcD
    split at hcD
    · rename_i c' d' cd' sl' ho
      have z := (X _ _ ho).symm.trans htp
      cases z
    · cases hcD
  ca := fun X I k => kin_classD C X I k
end
end PySem.W
namespace L2
open PySem PySem.Spec PyProof.Rows
/-- isinstance(e, c), e the error that the suite holds, with its fields or without -/
def rIsD (K : PySem.W.Frag) (a : Addr) (cls : Value) (d : Option Addr) : List V → Hp → VK → Prop := fun xs H Q => ∃ (D : Addr) (c : V) (cv : Value) (b : Bool), cls = .ref D ∧ (∀ dd, d = some dd → ∃ fs, H dd = some (.xd fs)) ∧ ExcC K D ∧ xs = [.ref a, c] ∧ (∀ u, RelV c u → u = cv) ∧ PySem.W.kitOne K (.ref D) cv = some b ∧ Q (.bl b) H
theorem call_isD {X : Cx} {a : Addr} {oe : Obj} {cls : Value} {d : Option Addr} {pn : List (Addr × Obj)} (hz : Zc cls d oe) (hf : ∃ vs, oe.data = .fields vs) : CallR (X.suite a ((a, oe) :: pn)) (.builtin "isinstance") (rIsD X.K a cls d) := by
  intro pins s σ H xs us Q I r h
  obtain ⟨D, c, cv, b, rfl, hd, C, rfl, hcv, e, q⟩ := h
  cases r with
  | cons rx rr =>
    cases rr with
    | cons rt rr =>
      cases rr
      cases rx
      have ec := hcv _ rt
      subst ec
      obtain ⟨hget, _⟩ := I.pin (a, oe) (List.mem_append.mpr (.inl List.mem_cons_self))
      obtain ⟨vs, hv⟩ := hf
      have J : ∃ od, PySem.W.InstAt s.heap a oe D od := by
        cases d with
        | none =>
          obtain ⟨oc, od, oda, osl⟩ := oe
          obtain ⟨h1, h2⟩ := hz
          dsimp only at h1 h2 hv
          subst h1 h2 hv
          exact ⟨none, hget, rfl, rfl, trivial⟩
        | some dd =>
          obtain ⟨fs, hx⟩ := hd dd rfl
          have hx : ObjOk X.prog X.w H s.heap dd (.xd fs) := I.hok dd _ hx
          obtain ⟨mA, hns, hr⟩ := hx
          obtain ⟨od, ho, _⟩ := lookIn_ns hns
          exact ⟨some od, hget, hz.1, by unfold PySem.W.notCls; rw [hv], by rw [hz.2]; exact ho⟩
      obtain ⟨od, J⟩ := J
      exact PySem.W.kia_one (PySem.W.kitx_excD C) I.kIn J e (fun z => nomatch z) fun tk => ⟨.bl b, H, I.kept (t' := tk) fun _ _ z => z, rfl, q⟩
end L2
namespace Py
open PySem hiding start
open L2
section
variable {K : PySem.W.Frag} {c : Ctx K} {ρ : Rho} {k : Dv → Prop}
theorem call_isDs (K : PySem.W.Frag) {X : Cx} {a : Addr} {oe : Obj} {cls : Value} {d : Option Addr} {pn : List (Addr × Obj)} (hz : Zc cls d oe) (hf : ∃ vs, oe.data = .fields vs) (h : X.K = K := by rfl) : CallR (X.suite a ((a, oe) :: pn)) (.builtin "isinstance") (rIsD K a cls d) := h ▸ call_isD hz hf
theorem rc_isD {a D : Addr} {d : Option Addr} {fo : Option FD} {u : V} {cv : Value} {b : Bool} (xd : XdOk K c.B d fo) (C : ExcC K D) (hu : ∀ z, RelV u z → z = cv) (hb : PySem.W.kitOne K (.ref D) cv = some b) (h : k (.d (.bool b))) : Rc c (rIsD K a (.ref D) d) ρ [.r (.ref a), .r u] k := fun σ H vs Q o dv q => by
  cases dv with
  | cons d1 d2 =>
    cases d2 with
    | cons d2 d3 =>
      cases d3
      obtain rfl : _ = V.ref a := d1
      obtain rfl : _ = u := d2
      refine ⟨D, _, cv, b, rfl, fun dd e => ?_, C, rfl, hu, hb, q.val o (x := .d _) (Dp.bl _) h⟩
      subst e
      cases fo with
      | none => exact xd.elim
      | some fs =>
        obtain ⟨us, h1, _⟩ := xd
        exact ⟨us, (hid_some (o.b dd _ h1)).2⟩
end
end Py

set_option Elab.async false
set_option linter.all false
set_option autoImplicit false
set_option maxRecDepth 100000
set_option maxHeartbeats 4000000
/-! Own error classes with an __init__; errors made without arguments. -/
namespace Py
open PySem hiding start
open L2 PySem.Spec PyProof.Rows
/-- a statement of a class's body -/
def inCls (s : Stmt) (i : Nat) : Stmt := match s with
  | .ClassDef _ _ _ body _ _ _ _ _ _ _ => body.getD i (.Pass ⟨0, 0, 0, 0⟩)
  | _ => .Pass ⟨0, 0, 0, 0⟩
/-- the class's row, as it is asked for -/
def OexRow (K : PySem.W.Frag) (C : Addr) : Prop := ∃ nm q N bs bm sn sub ab col dd k0 k1 k2 k3 k5, K.lookup C = some (excClassObj nm q C N bs bm true sn sub ab col dd k0 k1 k2 k3 k5 "ValueError.__new__") ∧ PySem.HandSPX.refsVE bm = true
theorem oexRow_mk {K : PySem.W.Frag} {C : Addr} {nm q N bs bm sn sub ab col dd k0 k1 k2 k3 k5} (h : K.lookup C = some (excClassObj nm q C N bs bm true sn sub ab col dd k0 k1 k2 k3 k5 "ValueError.__new__")) (r : PySem.HandSPX.refsVE bm = true) : OexRow K C := ⟨nm, q, N, bs, bm, sn, sub, ab, col, dd, k0, k1, k2, k3, k5, h, r⟩
/-- a class's __init__ as it stands -/
def InF (K : PySem.W.Frag) (C : Addr) (qual : Str) (st : Stmt) : Prop := ∃ (f : Addr) (oc : Value) (od : Option Addr) (sl : Array (Option Value)) (kV dc pm : Value) (an : Option Addr) (cd ct : Value),
  PySem.W.findIn K (.ref C) "__init__" = some (some (.ref f)) ∧ PySem.W.typeIn K (.ref f) = some (.type "function") ∧ K.lookup f = some ⟨oc, od, .func (PySem.W.fnOf "__init__" qual (defArgs st) (defBody st) (defScope st) .none kV dc pm an cd ct), sl⟩ ∧ PySem.W.codeIn K cd qual = true ∧ PySem.W.keepIn K (.ref f) = true
theorem inf_mk {K : PySem.W.Frag} {C : Addr} {qual : Str} {st : Stmt} {f : Addr} {oc : Value} {od : Option Addr} {sl : Array (Option Value)} {kV dc pm : Value} {an : Option Addr} {cd ct : Value}
    (a : PySem.W.findIn K (.ref C) "__init__" = some (some (.ref f))) (t : PySem.W.typeIn K (.ref f) = some (.type "function")) (l : K.lookup f = some ⟨oc, od, .func (PySem.W.fnOf "__init__" qual (defArgs st) (defBody st) (defScope st) .none kV dc pm an cd ct), sl⟩) (c : PySem.W.codeIn K cd qual = true) (k : PySem.W.keepIn K (.ref f) = true) : InF K C qual st :=
  ⟨f, oc, od, sl, kV, dc, pm, an, cd, ct, a, t, l, c, k⟩
/-- a class that is made by its own __init__ -/
structure Ini (P : Program) (w : World) (K : PySem.W.Frag) (mg : Str → Option Value) (base : Heap) (x : Str) (C : Addr) (ps : List Str) (k : Nat) (sp : Sp) : Prop where
  T : OexC K C
  m : mg x = some (.ref C)
  ex : ∃ fI fd, PySem.W.findIn K (.ref C) "__init__" = some (some (.ref fI)) ∧ PySem.W.typeIn K (.ref fI) = some (.type "function") ∧ FnOk P w K mg base CX0 k fI fd ps sp ∧ Binds K fd ps []
section
variable {X : Cx} {k k' : Nat} {ps : List Str} {sp : Sp} {x : Str} {C : Addr} {p pos : Pos} {e : Expr} {es : List Expr} {t : TA} {W : WX}
theorem pmk_ini (D : Ini X.prog X.w X.K X.mg X.base x C ps k sp) (hk : k + 1 ≤ k') (hr : Room k' X.A) (ha : PA X (e :: es) t) (hg : Gl X x := by rfl) (hdb : (x == ("__debug__" : Str)) = false := by decide)
    (he : starEach (e :: es) X.env = (false, eval e X.env) :: starEach es X.env := by rfl) (hpl : (backTo pos (starEach es X.env)).any (·.1) = false := by rfl) : PMk X (.Call (.Name x p) (e :: es) [] pos) (tMkO C sp [] t) := by
  obtain ⟨fI, fd, iC, tI, F, b⟩ := D.ex
  exact pmk_oex D.T iC tI F (hr.mono hk) b .nil pass0 hg D.m ha hdb he hpl
theorem ps_raise1 {f : Str} {pos2 : Pos} (hc : X.calm = true) (tk : Takes X W) (h : PMk X (.Call (.Name x p) (e :: es) [] pos) (tMkO C (spIn1 C f) [] t)) : PS X (.Raise (some (.Call (.Name x p) (e :: es) [] pos)) none pos2) (tRaise1 C f W t) := ps_raise hc tk h
theorem ps_raise2 {f g : Str} {pos2 : Pos} (hc : X.calm = true) (tk : Takes X W) (h : PMk X (.Call (.Name x p) (e :: es) [] pos) (tMkO C (spIn2 C f g) [] t)) : PS X (.Raise (some (.Call (.Name x p) (e :: es) [] pos)) none pos2) (tRaise2 C f g W t) := ps_raise hc tk h
/-- X(), X an own error class without an __init__ -/
theorem pmk_own0 {bmB : List Value} {B newId initId : String} (F : ExcBaseFacts B newId initId bmB) (q : PySem.W.excIn X.K C bmB newId = true) (gC : X.mg x = some (.ref C)) (kC : PySem.W.keepIn X.K (.ref C) = true) (r : Raises X (.ref C)) (hg : Gl X x)
    (hdb : (x == ("__debug__" : Str)) = false := by decide) : PMk X (.Call (.Name x p) [] [] pos) (fun _ H Q => Q (.ref C) none H) := by
  intro pins s σ H Q I h
  refine wpAny_Call_Name_kw (ld_glob I hg gC ?_ hdb)
  refine PySem.W.callWith_K0 I.kIn kC ?_
  show wpAny _ _ (call (.ref C) []) _ _ _
  obtain ⟨bm, N, nm, qn, bs, hdct, sn, sub, ab, col, dd, k0, k1, k2, k3, k5, mN, hC, hN, hni, T⟩ := exc_obj I.kIn q
  refine wpAny_call_exc_subT F T hC hN hni (fun h' e hm => ?_) (by show 0 ≤ sizeLine; omega)
  exact mk_of I hm r h (I.hok.gone hm.new)
/-- e.f, in a suite -/
theorem pe_xfs {a : Addr} {oe : Obj} {cls : Value} {d : Option Addr} {pn : List (Addr × Obj)} {te : TE} {n : Str} (T : XfC X.K C) (hno : PySem.W.findIn X.K (.ref C) n = some none) (hz : Zc cls d oe) (hf : ∃ vs, oe.data = .fields vs) (he : PE (X.suite a ((a, oe) :: pn)) e te)
    (hb : attributeBase e n X.env (eval e X.env) = eval e X.env := by rfl) : PE (X.suite a ((a, oe) :: pn)) (.Attribute e n pos) (tXf a cls d C n te) := pe_xf T hno hz hf he hb
end
section
variable {P : Program} {w : World} {K : PySem.W.Frag} {mg : Str → Option Value} {base : Heap}
theorem ini1 {x qual : Str} {C : Addr} {st : Stmt} {f n1 n2 : Str} (T : OexC K C) (m : mg x = some (.ref C)) (hf : PySem.W.findIn K (.ref C) f = some none) (I : InF K C qual st) (S : FnScope [n1, n2] [n1, n2] (defScope st))
    (hb : ∀ {fI : Addr} {fd : FuncData}, Fun K "__init__" qual st fI fd → Binds K fd [n1, n2] [])
    (hbody : ∀ (cdv : Value) (A : Around) (outer : List Env) (s : Shared) (H : Hp) (fI : Addr) (E : XK), Room 0 (A.deeper (envOfC qual (defScope st) s.heap.objs.size fI cdv)) →
      PSs (cxOf CX0 P w K mg base [n1, n2] qual (defScope st) fI cdv A outer s H E).nox (defBody st) (tOst K f (tVar 0) (tVar 1))) : Ini P w K mg base x C [n1, n2] 1 (spIn1 C f) := by
  obtain ⟨fI, oc, od, sl, kV, dc, pm, an, cd, ct, a, t, l, c, k⟩ := I
  have F := fun_mk (st := st) l c k
  refine ⟨T, m, fI, _, a, t, F.ok S (fun vs H Q E h => ?_) (fun cdv A outer s H vs Q E hr h => ⟨_, hbody cdv A outer s H fI E hr, body_In1 rfl T hf h⟩), hb F⟩
  obtain ⟨_, _, rfl, _⟩ := h
  rfl
theorem ini2 {x qual : Str} {C : Addr} {st : Stmt} {f g n1 n2 n3 : Str} (T : OexC K C) (m : mg x = some (.ref C)) (hf : PySem.W.findIn K (.ref C) f = some none) (hg : PySem.W.findIn K (.ref C) g = some none) (I : InF K C qual st) (S : FnScope [n1, n2, n3] [n1, n2, n3] (defScope st))
    (hb : ∀ {fI : Addr} {fd : FuncData}, Fun K "__init__" qual st fI fd → Binds K fd [n1, n2, n3] [])
    (hbody : ∀ (cdv : Value) (A : Around) (outer : List Env) (s : Shared) (H : Hp) (fI : Addr) (E : XK), Room 0 (A.deeper (envOfC qual (defScope st) s.heap.objs.size fI cdv)) →
      PSs (cxOf CX0 P w K mg base [n1, n2, n3] qual (defScope st) fI cdv A outer s H E).nox (defBody st) (tSeq (tOst K f (tVar 0) (tVar 1)) (tOst K g (tVar 0) (tVar 2)))) : Ini P w K mg base x C [n1, n2, n3] 1 (spIn2 C f g) := by
  obtain ⟨fI, oc, od, sl, kV, dc, pm, an, cd, ct, a, t, l, c, k⟩ := I
  have F := fun_mk (st := st) l c k
  refine ⟨T, m, fI, _, a, t, F.ok S (fun vs H Q E h => ?_) (fun cdv A outer s H vs Q E hr h => ⟨_, hbody cdv A outer s H fI E hr, body_In2 rfl T hf hg h⟩), hb F⟩
  obtain ⟨_, _, _, rfl, _⟩ := h
  rfl
end
def tEither (t1 t2 : TE) : TE := fun σ H Q => t1 σ H Q ∨ t2 σ H Q
theorem pe_either {X : Cx} {e : Expr} {t1 t2 : TE} (h1 : PE X e t1) (h2 : PE X e t2) : PE X e (tEither t1 t2) := ⟨fun pins s σ H Q I h => h.elim (h1.run pins s σ H Q I) (h2.run pins s σ H Q I)⟩
section
variable {K : PySem.W.Frag} {c : Ctx K} {ρ : Rho} {k : Dv → Prop} {t1 t2 : TE}
theorem we_eitherL (h : We c t1 ρ k) : We c (tEither t1 t2) ρ k := fun σ H Q o q => .inl (h σ H Q o q)
theorem we_eitherR (h : We c t2 ρ k) : We c (tEither t1 t2) ρ k := fun σ H Q o q => .inr (h σ H Q o q)
theorem we_dicN (h : k (.d (.dict []))) : We c tDNewK ρ k := fun σ H Q o q => fun p hp => by
  obtain ⟨o2, e2⟩ := o.new (o := .dK []) hp
  exact q (.ref p) (.d (.dict [])) _ o2 e2 (Dp.dic (hp := vis_upd (o.nh hp))) h
theorem we_dicC (kvs : List (Key × V)) (hl : kvs.length ≤ 15) (h : k (.d (.dict []))) : We c (tDisp (kvs.map fun kv => (tC (kV kv.1), tC kv.2))) ρ k := fun σ H Q o q => fun p hp => by
  have key : ∀ (kvs : List (Key × V)) (σ : L2.St) (H : Hp) (Q : List (V × V) → Hp → Prop), Q (kvs.map fun kv => (kV kv.1, kv.2)) H → tPairs (kvs.map fun kv => (tC (kV kv.1), tC kv.2)) σ H Q := by
    intro kvs
    induction kvs with
    | nil => intro σ H Q h; exact h
    | cons kv kvs ih => intro σ H Q h; exact ih σ H _ h
  refine key kvs σ _ _ ⟨upd_same, kvs, rfl, hl, ?_⟩
  have e : upd (upd H p (.dK [])) p (.dK (mergeK [] kvs)) = upd H p (.dK (mergeK [] kvs)) := by
    funext b
    by_cases z : b = p
    · rw [z, upd_same, upd_same]
    · rw [upd_ne z, upd_ne z, upd_ne z]
  rw [e]
  obtain ⟨o2, e2⟩ := o.new (o := .dK (mergeK [] kvs)) hp
  exact q (.ref p) (.d (.dict [])) _ o2 e2 (Dp.dic (hp := vis_upd (o.nh hp))) h
end
end Py

set_option Elab.async false
set_option linter.all false
set_option autoImplicit false
set_option maxRecDepth 100000
set_option maxHeartbeats 4000000
/-! The store: things of one's own beside the slots, whatever holds their addresses. -/
namespace Py
open PySem hiding start
open L2
open Evl (Ex ex_rd ex_l ex_t fresh_back)
open Classical
/-- a thing of one's own: what raw objects it is made of -/
structure OC (K : PySem.W.Frag) where
  ok : Hp → List (Addr × HO) → Prop
  mono : ∀ G G' us, Ex G G' → ok G us → ok G' us
abbrev Sto (K : PySem.W.Frag) := List (OC K)
inductive StOk (K : PySem.W.Frag) (G : Hp) : List (Addr × HO) → Sto K → Prop
  | nil : StOk K G [] []
  | cons {us vs : List (Addr × HO)} {x : OC K} {O : Sto K} : x.ok G us → StOk K G vs O → StOk K G (us ++ vs) (x :: O)
section
variable {K : PySem.W.Frag} {c c' : Ctx K} {ρ : Rho} {G G' B : Hp} {O O' : Sto K} {us : List (Addr × HO)}
theorem stok_mono (e : Ex G G') : ∀ {us : List (Addr × HO)} {O : Sto K}, StOk K G us O → StOk K G' us O
  | _, _, .nil => .nil
  | _, _, .cons h t => .cons (OC.mono _ _ _ _ e h) (stok_mono e t)
theorem stok_app : ∀ {us vs : List (Addr × HO)} {O O' : Sto K}, StOk K G us O → StOk K G vs O' → StOk K G (us ++ vs) (O ++ O')
  | _, _, _, _, .nil, h => h
  | _, _, _, _, .cons h t, h' => by
    rw [List.append_assoc]
    exact .cons h (stok_app t h')
theorem stok_one {x : OC K} (h : x.ok G us) : StOk K G us [x] := by
  have := StOk.cons h .nil
  rwa [List.append_nil] at this
/-- the n-th thing's own objects -/
theorem stok_at : ∀ {us : List (Addr × HO)} {O : Sto K} {n : Nat} {x : OC K}, StOk K G us O → O[n]? = some x →
    ∃ u1 u u2, us = u1 ++ u ++ u2 ∧ x.ok G u ∧ StOk K G u1 (O.take n) ∧ StOk K G u2 (O.drop (n + 1))
  | _, _, n, x, .nil, h => by simp at h
  | _, _, 0, x, .cons (us := u) (vs := v) h t, e => by
    cases e
    exact ⟨[], u, v, by simp, h, by simpa using StOk.nil, by simpa using t⟩
  | _, _, n + 1, x, .cons (us := u) (vs := v) h t, e => by
    obtain ⟨u1, w, u2, e1, h1, h2, h3⟩ := stok_at (n := n) t e
    subst e1
    exact ⟨u ++ u1, w, u2, by simp [List.append_assoc], h1, by simpa using StOk.cons h h2, by simpa using h3⟩
theorem stok_split {O2 : Sto K} : ∀ {us : List (Addr × HO)} {O1 : Sto K}, StOk K G us (O1 ++ O2) → ∃ u1 u2, us = u1 ++ u2 ∧ StOk K G u1 O1 ∧ StOk K G u2 O2
  | us, [], h => ⟨[], us, rfl, .nil, h⟩
  | _, x :: O1, .cons h t => by
    obtain ⟨u1, u2, e, h1, h2⟩ := stok_split (O1 := O1) t
    subst e
    exact ⟨_ ++ u1, u2, by simp [List.append_assoc], .cons h h1, h2⟩
/-- a context that hides the store as it stands -/
def Ctx.sto (c : Ctx K) (us : List (Addr × HO)) (B : Hp) : Ctx K where
  B := B
  L := fun a => c.L a ∨ a ∈ us.map (·.1)
  W := fun H => c.W H ∧ ∀ p ∈ us, isMut p.2 = true ∧ H p.1 = some p.2
  loc := fun H H' e t h => ⟨c.loc H H' (fun a ha => e a (.inl ha)) t h.1, fun p hp => ⟨(h.2 p hp).1, (e p.1 (.inr (List.mem_map_of_mem hp))).trans (h.2 p hp).2⟩⟩
  dom := fun H h a ha => ha.elim (c.dom H h.1 a) fun z => by
    obtain ⟨p, hp, rfl⟩ := List.mem_map.mp z
    exact ⟨p.2, (h.2 p hp).2, (h.2 p hp).1⟩
/-- the store beside the context -/
structure StC (c : Ctx K) (O : Sto K) (us : List (Addr × HO)) (B : Hp) : Prop where
  ok : StOk K B us O
  nd : (us.map (·.1)).Nodup
  out : ∀ p ∈ us, ¬ c.L p.1 ∧ c.B p.1 = none
  ex : Ex c.B B
theorem le_sto (S : StC c O us B) : Le c (c.sto us B) :=
  ⟨fun _ h => .inl h, fun _ h => h.1, fun H H' h h' e _ => ⟨h', fun p hp => ⟨(h.2 p hp).1, (e p.1 (.inr (List.mem_map_of_mem hp)) (S.out p hp).1).trans (h.2 p hp).2⟩⟩, S.ex⟩
theorem StC.le (S : StC c' O us B) (le : Le c c') : StC c O us B := ⟨S.ok, S.nd, fun p hp => ⟨fun q => (S.out p hp).1 (le.L _ q), fresh_back le.B (S.out p hp).2⟩, le.B.trans S.ex⟩
/-- a thing that the context knows -/
def At (c : Ctx K) (x : OC K) : Prop := ∃ us, x.ok c.B us ∧ (∀ p ∈ us, c.L p.1) ∧ ∀ H, c.W H → ∀ p ∈ us, H p.1 = some p.2
theorem At.le {x : OC K} (h : At c x) (le : Le c c') : At c' x := by
  obtain ⟨us, h1, h2, h3⟩ := h
  exact ⟨us, x.mono _ _ _ le.B h1, fun p hp => le.L _ (h2 p hp), fun H w p hp => h3 H (le.W H w) p hp⟩
def Has (c : Ctx K) (O : Sto K) : Prop := ∀ x ∈ O, At c x
theorem Has.le (h : Has c O) (le : Le c c') : Has c' O := fun x hx => (h x hx).le le
theorem Has.get (h : Has c O) {n : Nat} {x : OC K} (e : O[n]? = some x) : At c x := h x (List.mem_of_getElem? e)
theorem StC.has (S : StC c O us B) : Has (c.sto us B) O := fun x hx => by
  obtain ⟨n, hn, e⟩ := List.mem_iff_getElem.mp hx
  obtain ⟨u1, u, u2, e1, h1, _, _⟩ := stok_at S.ok (n := n) (x := x) (by rw [List.getElem?_eq_getElem hn, e])
  have m : ∀ p ∈ u, p ∈ us := fun p hp => by rw [e1]; simp [hp]
  exact ⟨u, h1, fun p hp => .inr (List.mem_map_of_mem (m p hp)), fun H w p hp => (w.2 p (m p hp)).2⟩
/-! ### the state with another store -/
abbrev OkS (c : Ctx K) (us : List (Addr × HO)) (B : Hp) (ρ : Rho) (σ : L2.St) (H : Hp) : Prop := Ok (c.sto us B) ρ σ H
noncomputable abbrev visS (c : Ctx K) (us : List (Addr × HO)) (ρ : Rho) (H : Hp) : Hp := vis (c.sto us c.B) ρ H
theorem vis_sto {B B' : Hp} {us : List (Addr × HO)} {H : Hp} : vis (c.sto us B) ρ H = vis (c.sto us B') ρ H := rfl
theorem sto_at {B B' : Hp} : (c.sto us B).at B' = c.sto us B' := rfl
/-- the base is all that is seen -/
theorem OkS.re {B : Hp} {σ : L2.St} {H : Hp} (S : StC c O us B) (o : OkS c us B ρ σ H) : StC c O us (vis (c.sto us B) ρ H) ∧ OkS c us (vis (c.sto us B) ρ H) ρ σ H :=
  ⟨⟨stok_mono o.base S.ok, S.nd, S.out, S.ex.trans o.base⟩, o.at'⟩
theorem own_out {B : Hp} {σ : L2.St} {H : Hp} (o : OkS c us B ρ σ H) {a : Addr} (h : Owns ρ a) : a ∉ us.map (·.1) := fun z => (o.ob a h).2 (.inr z)
/-- the context's part from the state alone -/
theorem OkS.mk' {B : Hp} {σ : L2.St} {H H' : Hp} {us' : List (Addr × HO)} (o : OkS c us B ρ σ H) (w : c.W H') (hw : ∀ p ∈ us', isMut p.2 = true ∧ H' p.1 = some p.2) (hn : ∀ a ∈ us'.map (·.1), ¬ Owns ρ a)
    (e : Ex (vis (c.sto us B) ρ H) (vis (c.sto us' B) ρ H')) (ho : ∀ a, Owns ρ a → H' a = H a) : OkS c us' B ρ σ H' where
  w := ⟨w, hw⟩
  b := (o.base.trans e).trans vis_out
  ob := fun l h => ⟨(o.ob l h).1, fun q => q.elim (fun z => (o.ob l h).2 (.inl z)) fun z => hn l z h⟩
  sl := fun i s h => by
    obtain ⟨u, q, z⟩ := o.sl i s h
    refine ⟨u, q, ?_⟩
    cases s with
    | un => trivial
    | val y => obtain ⟨v, e1, e2⟩ := z; exact ⟨v, e1, dv_mono e e2⟩
    | own l xs =>
      obtain ⟨vs, e1, e2, e3⟩ := z
      exact ⟨vs, e1, (ho l ⟨xs, List.mem_of_getElem? h⟩).trans e2, own_mono e _ _ e3⟩
  one := o.one
  len := o.len
theorem hid_iff {L L' : Addr → Prop} {H : Hp} (h : ∀ a, L a ↔ L' a) : hid L H = hid L' H := by
  have : L = L' := funext fun a => propext (h a)
  rw [this]
theorem hid_upd {L : Addr → Prop} {H : Hp} {p : Addr} {o : HO} (h : L p) : hid L (upd H p o) = hid L H := by
  funext a
  by_cases q : L a
  · rw [hid_pos q, hid_pos q]
  · rw [hid_neg q, hid_neg q, upd_ne fun z => q (by rw [z]; exact h)]
theorem map_mid {u1 u2 : List (Addr × HO)} {l : Addr} {ob ob' : HO} : ((u1 ++ [(l, ob)] ++ u2).map (·.1)) = (u1 ++ [(l, ob')] ++ u2).map (·.1) := by simp
/-- one object of the store changes -/
theorem OkS.chg {B : Hp} {σ : L2.St} {H : Hp} {u1 u2 : List (Addr × HO)} {l : Addr} {ob ob' : HO} (nl : ¬ c.L l) (nd : ((u1 ++ [(l, ob)] ++ u2).map (·.1)).Nodup) (o : OkS c (u1 ++ [(l, ob)] ++ u2) B ρ σ H) (hm : isMut ob' = true) :
    OkS c (u1 ++ [(l, ob')] ++ u2) B ρ σ (upd H l ob') ∧ vis (c.sto (u1 ++ [(l, ob')] ++ u2) B) ρ (upd H l ob') = vis (c.sto (u1 ++ [(l, ob)] ++ u2) B) ρ H := by
  have hl := o.w.2 (l, ob) (by simp)
  have hlu : Hid (c.sto (u1 ++ [(l, ob)] ++ u2) B) ρ l := .inl (.inr (by simp))
  have ev : vis (c.sto (u1 ++ [(l, ob')] ++ u2) B) ρ (upd H l ob') = vis (c.sto (u1 ++ [(l, ob)] ++ u2) B) ρ H := by
    unfold vis
    rw [hid_upd (show Hid (c.sto (u1 ++ [(l, ob')] ++ u2) B) ρ l from .inl (.inr (by simp)))]
    refine hid_iff fun a => ?_
    unfold Hid
    show (c.L a ∨ _) ∨ _ ↔ (c.L a ∨ _) ∨ _
    rw [map_mid (ob := ob') (ob' := ob)]
  have nd' := nd
  simp only [List.map_append, List.map_cons, List.map_nil] at nd'
  have hne : ∀ p ∈ u1 ++ u2, p.1 ≠ l := fun p hp z => by
    rw [List.append_assoc, List.nodup_append] at nd'
    obtain ⟨_, n2, n3⟩ := nd'
    rw [List.singleton_append, List.nodup_cons] at n2
    rcases List.mem_append.mp hp with q | q
    · exact n3 p.1 (List.mem_map_of_mem q) l (by simp) z
    · exact n2.1 (z ▸ List.mem_map_of_mem q)
  refine ⟨o.mk' (c.loc _ _ (fun a ha => upd_ne fun z => nl (z ▸ ha)) (tp_mut hl.2 hl.1) o.w.1) (fun p hp => ?_) (fun a ha => ?_) (by rw [ev]; exact Evl.Ex.refl _) fun a ha => upd_ne fun z => ?_, ev⟩
  · by_cases z : p = (l, ob')
    · subst z
      exact ⟨hm, upd_same⟩
    · have hp' : p ∈ u1 ++ u2 := by
        simp only [List.mem_append, List.mem_singleton] at hp ⊢
        rcases hp with (q | q) | q
        · exact .inl q
        · exact (z q).elim
        · exact .inr q
      obtain ⟨h1, h2⟩ := o.w.2 p (by simp only [List.mem_append] at hp' ⊢; rcases hp' with q | q; exact .inl (.inl q); exact .inr q)
      exact ⟨h1, (upd_ne (hne p hp')).trans h2⟩
  · rw [map_mid (ob' := ob)] at ha
    exact fun z => own_out o z ha
  · subst z
    exact own_out o ha (by simp)
/-- a new object is put to the store -/
theorem OkS.new {B : Hp} {σ : L2.St} {H : Hp} {p : Addr} {ob : HO} (o : OkS c us B ρ σ H) (hp : H p = none) (hm : isMut ob = true) :
    OkS c (us ++ [(p, ob)]) B ρ σ (upd H p ob) ∧ vis (c.sto (us ++ [(p, ob)]) B) ρ (upd H p ob) = vis (c.sto us B) ρ H := by
  have np : ¬ Hid (c.sto us B) ρ p := o.nh hp
  have ev : vis (c.sto (us ++ [(p, ob)]) B) ρ (upd H p ob) = vis (c.sto us B) ρ H := by
    unfold vis
    rw [hid_upd (show Hid (c.sto (us ++ [(p, ob)]) B) ρ p from .inl (.inr (by simp)))]
    funext a
    by_cases q : a = p
    · subst q
      rw [hid_none hp, hid_none hp]
    · have e : Hid (c.sto (us ++ [(p, ob)]) B) ρ a ↔ Hid (c.sto us B) ρ a := by
        unfold Hid
        show (c.L a ∨ _) ∨ _ ↔ (c.L a ∨ _) ∨ _
        simp [q]
      by_cases r : Hid (c.sto us B) ρ a
      · rw [hid_pos r, hid_pos (e.mpr r)]
      · rw [hid_neg r, hid_neg fun z => r (e.mp z)]
  refine ⟨o.mk' (c.loc _ _ (fun a ha => upd_ne fun z => np (.inl (.inl (z ▸ ha)))) (tp_new hp) o.w.1) (fun q hq => ?_) (fun a ha => ?_) (by rw [ev]; exact Evl.Ex.refl _) fun a ha => upd_ne fun z => np (.inr (z ▸ ha)), ev⟩
  · rcases List.mem_append.mp hq with z | z
    · obtain ⟨h1, h2⟩ := o.w.2 q z
      exact ⟨h1, (upd_ne fun y => np (.inl (.inr (by rw [← y]; exact List.mem_map_of_mem z)))).trans h2⟩
    · rw [List.mem_singleton] at z
      subst z
      exact ⟨hm, upd_same⟩
  · rw [List.map_append, List.mem_append] at ha
    rcases ha with z | z
    · exact fun y => own_out o y z
    · have z : a = p := by simpa using z
      subst z
      exact fun y => np (.inr y)
/-- objects of the store that are left as they stand -/
theorem OkS.drop {B : Hp} {σ : L2.St} {H : Hp} {u1 u u2 : List (Addr × HO)} (o : OkS c (u1 ++ u ++ u2) B ρ σ H) : OkS c (u1 ++ u2) B ρ σ H ∧ Ex (vis (c.sto (u1 ++ u ++ u2) B) ρ H) (vis (c.sto (u1 ++ u2) B) ρ H) := by
  have e : Ex (vis (c.sto (u1 ++ u ++ u2) B) ρ H) (vis (c.sto (u1 ++ u2) B) ρ H) := hid_less fun a h => h.imp (fun h => h.imp id fun h => by
    simp only [List.map_append, List.mem_append] at h ⊢
    exact h.elim (fun q => .inl (.inl q)) fun q => .inr q) id
  refine ⟨o.mk' o.w.1 (fun p hp => o.w.2 p ?_) (fun a ha z => own_out o z ?_) e fun _ _ => rfl, e⟩
  · simp only [List.mem_append] at hp ⊢
    exact hp.elim (fun q => .inl (.inl q)) fun q => .inr q
  · simp only [List.map_append, List.mem_append] at ha ⊢
    exact ha.elim (fun q => .inl (.inl q)) fun q => .inr q
end
end Py

set_option Elab.async false
set_option linter.all false
set_option autoImplicit false
set_option maxRecDepth 100000
set_option maxHeartbeats 4000000
/-! The judgements over a store. -/
namespace Py
open PySem hiding start
open L2
open Evl (Ex ex_rd ex_l ex_t fresh_back)
open Classical
structure StpZ {K : PySem.W.Frag} (c : Ctx K) (ρ : Rho) (us : List (Addr × HO)) (H : Hp) (us' : List (Addr × HO)) (H' : Hp) : Prop where
  ex : Ex (vis (c.sto us c.B) ρ H) (vis (c.sto us' c.B) ρ H')
  own : ∀ a, Owns ρ a → H' a = H a
section
variable {K : PySem.W.Frag} {c c' : Ctx K} {ρ : Rho} {B : Hp} {O : Sto K} {us us' us2 : List (Addr × HO)} {H H1 H2 : Hp}
theorem StpZ.refl : StpZ c ρ us H us H := ⟨Evl.Ex.refl _, fun _ _ => rfl⟩
theorem StpZ.trans (a : StpZ c ρ us H us' H1) (b : StpZ c ρ us' H1 us2 H2) : StpZ c ρ us H us2 H2 := ⟨a.ex.trans b.ex, fun x h => (b.own x h).trans (a.own x h)⟩
theorem StpZ.of (s : Stp (c.sto us B) ρ H H1) : StpZ c ρ us H us H1 := ⟨s.ex, s.own⟩
/-- what an expression is worth, and the store behind it -/
def QZ (c : Ctx K) (ρ : Rho) (σ : L2.St) (us : List (Addr × HO)) (H : Hp) (k : Sto K → Dv → Prop) (Q : VK) : Prop := ∀ v x O' us' B' H', StC c O' us' B' → OkS c us' B' ρ σ H' → StpZ c ρ us H us' H' → DvOk K (vis (c.sto us' B') ρ H') v x → k O' x → Q v H'
def Ze (c : Ctx K) (O : Sto K) (te : TE) (ρ : Rho) (k : Sto K → Dv → Prop) : Prop := ∀ us B σ H (Q : VK), StC c O us B → OkS c us B ρ σ H → QZ c ρ σ us H k Q → te σ H Q
def Zt (c : Ctx K) (O : Sto K) (tt : TT) (ρ : Rho) (k : Sto K → Bool → Prop) : Prop := ∀ us B σ H (Q : Bool → Hp → Prop), StC c O us B → OkS c us B ρ σ H → (∀ b O' us' B' H', StC c O' us' B' → OkS c us' B' ρ σ H' → StpZ c ρ us H us' H' → k O' b → Q b H') → tt σ H Q
def Za (c : Ctx K) (O : Sto K) (ta : TA) (ρ : Rho) (k : Sto K → List Dv → Prop) : Prop := ∀ us B σ H (Q : List V → Hp → Prop), StC c O us B → OkS c us B ρ σ H → (∀ vs xs O' us' B' H', StC c O' us' B' → OkS c us' B' ρ σ H' → StpZ c ρ us H us' H' → DvAll K (vis (c.sto us' B') ρ H') vs xs → k O' xs → Q vs H') → ta σ H Q
theorem QZ.to {σ : L2.St} {k : Sto K → Dv → Prop} {Q : VK} (q : QZ c ρ σ us H k Q) (e : StpZ c ρ us H us' H1) : QZ c ρ σ us' H1 k Q := fun v x O' us2 B' H' S o s d kx => q v x O' us2 B' H' S o (e.trans s) d kx
structure DZ (K : PySem.W.Frag) where
  nx : Sto K → Rho → Prop
  rt : Sto K → Dv → Prop
  bk : Sto K → Rho → Prop
  ct : Sto K → Rho → Prop
structure EOkZ (c : Ctx K) (E : DZ K) (D : Ends) : Prop where
  nx : ∀ O us B ρ σ H, StC c O us B → OkS c us B ρ σ H → E.nx O ρ → D.nx σ H
  rt : ∀ O us B v x H, StC c O us B → (c.sto us B).W H → Ex B (hid (c.sto us B).L H) → DvOk K (hid (c.sto us B).L H) v x → E.rt O x → D.rt v H
  bk : ∀ O us B ρ σ H, StC c O us B → OkS c us B ρ σ H → E.bk O ρ → D.bk σ H
  ct : ∀ O us B ρ σ H, StC c O us B → OkS c us B ρ σ H → E.ct O ρ → D.ct σ H
def Zs (c : Ctx K) (O : Sto K) (t : TS) (ρ : Rho) (E : DZ K) : Prop := ∀ D us B σ H, EOkZ c E D → StC c O us B → OkS c us B ρ σ H → t D σ H
/-- the ends at one store -/
def DZ.at (E : DZ K) (O : Sto K) : DE := ⟨E.nx O, E.rt O, E.bk O, E.ct O⟩
theorem EOkZ.old {E : DZ K} {D : Ends} (e : EOkZ c E D) (S : StC c O us B) : EOk (c.sto us B) (E.at O) D :=
  ⟨fun ρ σ H o k => e.nx O us B ρ σ H S o k, fun v x H w b d k => e.rt O us B v x H S w b d k, fun ρ σ H o k => e.bk O us B ρ σ H S o k, fun ρ σ H o k => e.ct O us B ρ σ H S o k⟩
theorem EOkZ.next {E : DZ K} {D : Ends} (e : EOkZ c E D) {f : Sto K → Rho → Prop} {g : L2.St → Hp → Prop} (h : ∀ O us B ρ σ H, StC c O us B → OkS c us B ρ σ H → f O ρ → g σ H) : EOkZ c { E with nx := f } { D with nx := g } := ⟨h, e.rt, e.bk, e.ct⟩
theorem EOkZ.loop {E : DZ K} {D : Ends} (e : EOkZ c E D) {f : Sto K → Rho → Prop} {g : L2.St → Hp → Prop} (h : ∀ O us B ρ σ H, StC c O us B → OkS c us B ρ σ H → f O ρ → g σ H) : EOkZ c { E with nx := f, ct := f, bk := E.nx } { D with nx := g, ct := g, bk := D.nx } := ⟨h, e.rt, e.nx, h⟩
theorem ok_le' (le : Le c c') {σ : L2.St} (o : OkS c' us B ρ σ H) (S : StC c' O us B) : OkS c us B ρ σ H := by
  have e : Ex (vis (c'.sto us B) ρ H) (vis (c.sto us B) ρ H) := hid_less fun a z => z.imp (fun h => h.imp (le.L a) id) id
  refine ⟨⟨le.W H o.w.1, o.w.2⟩, (show Ex B _ from o.b).trans (hid_less fun a z => z.imp (le.L a) id), fun l z => ⟨(o.ob l z).1, fun q => (o.ob l z).2 (q.imp (le.L l) id)⟩, fun i s h => ?_, o.one, o.len⟩
  obtain ⟨u, q, z⟩ := o.sl i s h
  refine ⟨u, q, ?_⟩
  cases s with
  | un => trivial
  | val y => obtain ⟨w, e1, e2⟩ := z; exact ⟨w, e1, dv_mono e e2⟩
  | own l xs => obtain ⟨vs, e1, e2, e3⟩ := z; exact ⟨vs, e1, e2, own_mono e _ _ e3⟩
theorem EOkZ.le {E : DZ K} {D : Ends} (e : EOkZ c E D) {c' : Ctx K} {B1 : Hp} (h : c' = c.at B1) (hb : Ex c.B B1) : EOkZ c' E D := by
  subst h
  have le := le_at (c := c) hb
  exact ⟨fun O us B ρ σ H S o k => e.nx O us B ρ σ H (S.le le) o k, fun O us B v x H S w b d k => e.rt O us B v x H (S.le le) w b d k, fun O us B ρ σ H S o k => e.bk O us B ρ σ H (S.le le) o k, fun O us B ρ σ H S o k => e.ct O us B ρ σ H (S.le le) o k⟩

/-! ### what leaves the store alone -/
variable {k : Sto K → Dv → Prop} {ta tb te : TE} {r : R2} {t u : TS} {tc : TT} {E : DZ K}
theorem ze_old (h : ∀ c', Le c c' → Has c' O → We c' te ρ (k O)) : Ze c O te ρ k := fun us B σ H Q S o q =>
  h _ (le_sto S) S.has σ H Q o fun v x H' o' s d kx => q v x O us B H' S o' (StpZ.of s) d kx
theorem zt_old {k : Sto K → Bool → Prop} {tt : TT} (h : ∀ c', Le c c' → Has c' O → Wt c' tt ρ (k O)) : Zt c O tt ρ k := fun us B σ H Q S o q =>
  h _ (le_sto S) S.has σ H Q o fun b H' o' s kb => q b O us B H' S o' (StpZ.of s) kb
theorem za_old {k : Sto K → List Dv → Prop} {t : TA} (h : ∀ c', Le c c' → Has c' O → Wa c' t ρ (k O)) : Za c O t ρ k := fun us B σ H Q S o q =>
  h _ (le_sto S) S.has σ H Q o fun vs xs H' o' s d kx => q vs xs O us B H' S o' (StpZ.of s) d kx
theorem zs_old (h : ∀ c', Le c c' → Has c' O → Ws c' t ρ (E.at O)) : Zs c O t ρ E := fun D us B σ H e S o => h _ (le_sto S) S.has D σ H (e.old S) o
theorem Ze.imp {k' : Sto K → Dv → Prop} (h : Ze c O te ρ k) (i : ∀ O x, k O x → k' O x) : Ze c O te ρ k' := fun us B σ H Q S o q => h us B σ H Q S o fun v x O' us' B' H' S' o' s d kx => q v x O' us' B' H' S' o' s d (i _ _ kx)
theorem Zs.imp {E' : DZ K} (h : Zs c O t ρ E) (h1 : ∀ O ρ, E.nx O ρ → E'.nx O ρ) (h2 : ∀ O x, E.rt O x → E'.rt O x) (h3 : ∀ O ρ, E.bk O ρ → E'.bk O ρ) (h4 : ∀ O ρ, E.ct O ρ → E'.ct O ρ) : Zs c O t ρ E' := fun D us B σ H e S o =>
  h D us B σ H ⟨fun O us B ρ σ H S o z => e.nx O us B ρ σ H S o (h1 _ _ z), fun O us B v x H S w b d z => e.rt O us B v x H S w b d (h2 _ _ z), fun O us B ρ σ H S o z => e.bk O us B ρ σ H S o (h3 _ _ z), fun O us B ρ σ H S o z => e.ct O us B ρ σ H S o (h4 _ _ z)⟩ S o
/-! ### expressions -/
theorem ze_op (h : Ze c O ta ρ fun O1 x => Ze c O1 tb ρ fun O2 y => ∀ c', Le c c' → Has c' O2 → Rv c' r ρ x y (k O2)) : Ze c O (tOp r ta tb) ρ k := fun us B σ H Q S o q =>
  h us B σ H _ S o fun v x O1 us1 B1 H1 S1 o1 s1 d1 h1 => h1 us1 B1 σ H1 _ S1 o1 fun u y O2 us2 B2 H2 S2 o2 s2 d2 h2 =>
    h2 _ (le_sto S2) S2.has σ H2 v u Q o2 (dv_mono s2.ex d1) d2 fun v x H' o' s d kx => q v x O2 us2 B2 H' S2 o' ((s1.trans s2).trans (StpZ.of s)) d kx
theorem ze_cb {r : List V → Hp → VK → Prop} {t : TA} (h : Za c O t ρ fun O1 xs => ∀ c', Le c c' → Has c' O1 → Rc c' r ρ xs (k O1)) : Ze c O (tCB r t) ρ k := fun us B σ H Q S o q =>
  h us B σ H _ S o fun vs xs O1 us1 B1 H1 S1 o1 s1 d1 h1 => h1 _ (le_sto S1) S1.has σ H1 vs Q o1 d1 fun v x H' o' s d kx => q v x O1 us1 B1 H' S1 o' (s1.trans (StpZ.of s)) d kx
theorem za_nil {k : Sto K → List Dv → Prop} (h : k O []) : Za c O tNil ρ k := fun us B σ H Q S o q => q [] [] O us B H S o .refl .nil h
theorem za_cons {k : Sto K → List Dv → Prop} {tr : TA} (h : Ze c O ta ρ fun O1 x => Za c O1 tr ρ fun O2 xs => k O2 (x :: xs)) : Za c O (tCons ta tr) ρ k := fun us B σ H Q S o q =>
  h us B σ H _ S o fun v x O1 us1 B1 H1 S1 o1 s1 d1 h1 => h1 us1 B1 σ H1 _ S1 o1 fun vs xs O2 us2 B2 H2 S2 o2 s2 d2 h2 => q (v :: vs) (x :: xs) O2 us2 B2 H2 S2 o2 (s1.trans s2) (.cons (dv_mono s2.ex d1) d2) h2
theorem ze_var {i : Nat} {x : Dv} (h : ρ[i]? = some (.val x)) (kx : k O x) : Ze c O (tVar i) ρ k := ze_old fun c' _ _ => we_var h kx
theorem ze_tup {t : TA} (h : Za c O t ρ fun O1 xs => ∃ ds, allD xs = some ds ∧ xs.length ≤ 100000 ∧ k O1 (.d (.tuple ds))) : Ze c O (tTup t) ρ k := fun us B σ H Q S o q =>
  h us B σ H _ S o fun vs xs O1 us1 B1 H1 S1 o1 s1 d1 ⟨ds, h1, h2, h3⟩ => ⟨Evl.sz_of (by rw [dva_len d1]; exact h2), fun p hp => by
    obtain ⟨o2, e2⟩ := Ok.new o1 (o := .tup vs) hp
    exact q _ (.d _) O1 us1 B1 _ S1 o2 (s1.trans (StpZ.of e2)) (dp_tup (vis_upd (o1.nh hp)) (dpa_mono e2.ex _ _ (allD_ok h1 d1))) h3⟩
/-! ### tests -/
theorem zt_test {k : Sto K → Bool → Prop} (h : Ze c O te ρ fun O x => ∃ b, x = .d (.bool b) ∧ k O b) : Zt c O (tTest te) ρ k := fun us B σ H Q S o q => h us B σ H _ S o fun v x O1 us1 B1 H1 S1 o1 s1 d1 ⟨b, hx, hb⟩ => by
  subst hx
  exact ⟨b, dp_bl d1, q b O1 us1 B1 H1 S1 o1 s1 hb⟩
theorem zt_B {k : Sto K → Bool → Prop} (h : Ze c O te ρ fun O x => ∃ b, x = .d (.bool b) ∧ k O b) : Zt c O (tB te) ρ k := fun us B σ H Q S o q => h us B σ H _ S o fun v x O1 us1 B1 H1 S1 o1 s1 d1 ⟨b, hx, hb⟩ => by
  subst hx
  exact ⟨b, dp_bl d1, q b O1 us1 B1 H1 S1 o1 s1 hb⟩
theorem zt_truthB {k : Sto K → Bool → Prop} (h : Ze c O te ρ fun O x => ∃ b, x = .d (.bool b) ∧ k O b) : Zt c O (tTruth K te) ρ k := fun us B σ H Q S o q => h us B σ H _ S o fun v x O1 us1 B1 H1 S1 o1 s1 d1 ⟨b, hx, hb⟩ => by
  subst hx
  refine ⟨b, ?_, q b O1 us1 B1 H1 S1 o1 s1 hb⟩
  rw [dp_bl d1]
  exact rfl
theorem zt_and {t u : TT} {k : Sto K → Bool → Prop} (h : Zt c O t ρ fun O1 a => (a = true → Zt c O1 u ρ k) ∧ (a = false → k O1 false)) : Zt c O (tAnd t u) ρ k := fun us B σ H Q S o q => h us B σ H _ S o fun a O1 us1 B1 H1 S1 o1 s1 z => by
  cases a with
  | true => exact z.1 rfl us1 B1 σ H1 Q S1 o1 fun b O2 us2 B2 H2 S2 o2 s2 kb => q b O2 us2 B2 H2 S2 o2 (s1.trans s2) kb
  | false => exact q false O1 us1 B1 H1 S1 o1 s1 (z.2 rfl)
theorem zt_or {t u : TT} {k : Sto K → Bool → Prop} (h : Zt c O t ρ fun O1 a => (a = false → Zt c O1 u ρ k) ∧ (a = true → k O1 true)) : Zt c O (tOr t u) ρ k := fun us B σ H Q S o q => h us B σ H _ S o fun a O1 us1 B1 H1 S1 o1 s1 z => by
  cases a with
  | false => exact z.1 rfl us1 B1 σ H1 Q S1 o1 fun b O2 us2 B2 H2 S2 o2 s2 kb => q b O2 us2 B2 H2 S2 o2 (s1.trans s2) kb
  | true => exact q true O1 us1 B1 H1 S1 o1 s1 (z.2 rfl)
theorem zt_not {t : TT} {k : Sto K → Bool → Prop} (h : Zt c O t ρ fun O1 a => k O1 (!a)) : Zt c O (tNot t) ρ k := fun us B σ H Q S o q => h us B σ H _ S o fun a O1 us1 B1 H1 S1 o1 s1 z => q (!a) O1 us1 B1 H1 S1 o1 s1 z
theorem ze_andV (h : Ze c O ta ρ fun O1 x => ∃ a, x = .d (.bool a) ∧ (a = true → Ze c O1 tb ρ k) ∧ (a = false → k O1 (.d (.bool false)))) : Ze c O (tAndV ta tb) ρ k := fun us B σ H Q S o q => h us B σ H _ S o fun v x O1 us1 B1 H1 S1 o1 s1 d1 ⟨a, hx, z1, z2⟩ => by
  subst hx
  refine ⟨a, dp_bl d1, ?_⟩
  cases a with
  | true => exact z1 rfl us1 B1 σ H1 Q S1 o1 (q.to s1)
  | false => exact q (.bl false) (.d _) O1 us1 B1 H1 S1 o1 s1 (Dp.bl _) (z2 rfl)
theorem ze_orV (h : Ze c O ta ρ fun O1 x => ∃ a, x = .d (.bool a) ∧ (a = false → Ze c O1 tb ρ k) ∧ (a = true → k O1 (.d (.bool true)))) : Ze c O (tOrV ta tb) ρ k := fun us B σ H Q S o q => h us B σ H _ S o fun v x O1 us1 B1 H1 S1 o1 s1 d1 ⟨a, hx, z1, z2⟩ => by
  subst hx
  refine ⟨a, dp_bl d1, ?_⟩
  cases a with
  | false => exact z1 rfl us1 B1 σ H1 Q S1 o1 (q.to s1)
  | true => exact q (.bl true) (.d _) O1 us1 B1 H1 S1 o1 s1 (Dp.bl _) (z2 rfl)
theorem ze_notV (h : Ze c O ta ρ fun O1 x => ∃ a, x = .d (.bool a) ∧ k O1 (.d (.bool (!a)))) : Ze c O (tNotV ta) ρ k := fun us B σ H Q S o q => h us B σ H _ S o fun v x O1 us1 B1 H1 S1 o1 s1 d1 ⟨a, hx, z⟩ => by
  subst hx
  exact ⟨a, dp_bl d1, q (.bl (!a)) (.d _) O1 us1 B1 H1 S1 o1 s1 (Dp.bl _) z⟩
theorem zt_split {t : TT} {A A' : Sto K → Prop} (b0 : Bool) (h : Zt c O t ρ fun O1 b => b = b0 ∧ (b0 = true → A O1) ∧ (b0 = false → A' O1)) : Zt c O t ρ fun O1 b => (b = true → A O1) ∧ (b = false → A' O1) := fun us B σ H Q S o q => h us B σ H _ S o fun b O1 us1 B1 H1 S1 o1 s1 ⟨e, h1, h2⟩ => q b O1 us1 B1 H1 S1 o1 s1 ⟨fun z => h1 (e ▸ z), fun z => h2 (e ▸ z)⟩
/-! ### statements -/
theorem zs_next (h : E.nx O ρ) : Zs c O tNext ρ E := fun D us B σ H e S o => e.nx O us B ρ σ H S o h
theorem zs_brk (h : E.bk O ρ) : Zs c O tBreak ρ E := fun D us B σ H e S o => e.bk O us B ρ σ H S o h
theorem zs_cont (h : E.ct O ρ) : Zs c O tCont ρ E := fun D us B σ H e S o => e.ct O us B ρ σ H S o h
theorem zs_seq (h : Zs c O t ρ { E with nx := fun O' ρ' => Zs c O' u ρ' E }) : Zs c O (tSeq t u) ρ E := fun D us B σ H e S o =>
  h { D with nx := u D } us B σ H (e.next fun O' us' B' ρ' σ' H' S' o' w => w D us' B' σ' H' e S' o') S o
theorem zs_cut (M : Sto K → Rho → Prop) (h : Zs c O t ρ { E with nx := M }) (k : ∀ O' ρ', M O' ρ' → Zs c O' u ρ' E) : Zs c O (tSeq t u) ρ E := zs_seq (h.imp k (fun _ _ z => z) (fun _ _ z => z) fun _ _ z => z)
theorem zs_mid (M : Sto K → Rho → Prop) (h : Zs c O t ρ { E with nx := M }) (k : ∀ O' ρ', M O' ρ' → E.nx O' ρ') : Zs c O t ρ E := h.imp k (fun _ _ z => z) (fun _ _ z => z) fun _ _ z => z
theorem zs_dead (h : Zs c O t ρ { E with nx := fun _ _ => False }) : Zs c O (tDead t) ρ E := fun D us B σ H e S o => h _ us B σ H (e.next (f := fun _ _ => False) (g := fun _ _ => False) (fun _ _ _ _ _ _ _ _ z => z)) S o
theorem zs_asg {i : Nat} (h : Ze c O te ρ fun O1 x => E.nx O1 (ρ.set i (.val x))) : Zs c O (tAsg te (gName i)) ρ E := fun D us B σ H e S o =>
  h us B σ H _ S o fun v x O1 us1 B1 H1 S1 o1 s1 d1 k1 => e.nx O1 us1 B1 _ _ _ S1 (o1.put d1 i) k1
theorem zs_drop (h : Ze c O te ρ fun O1 _ => E.nx O1 ρ) : Zs c O (tDrop te) ρ E := fun D us B σ H e S o =>
  h us B σ H _ S o fun v x O1 us1 B1 H1 S1 o1 s1 d1 k1 => e.nx O1 us1 B1 _ _ _ S1 o1 k1
theorem zs_ret (h : Ze c O te ρ E.rt) : Zs c O (tRet te) ρ E := fun D us B σ H e S o =>
  h us B σ H _ S o fun v x O1 us1 B1 H1 S1 o1 s1 d1 k1 => e.rt O1 us1 B1 v x H1 S1 o1.w o1.b (dv_mono vis_out d1) k1
theorem zs_retN (h : E.rt O (.d .none)) : Zs c O tRetN ρ E := fun D us B σ H e S o => e.rt O us B .non (.d .none) H S o.w o.b Dp.non h
theorem zs_if (h : Zt c O tc ρ fun O1 b => (b = true → Zs c O1 t ρ E) ∧ (b = false → Zs c O1 u ρ E)) : Zs c O (tIfS tc t u) ρ E := fun D us B σ H e S o =>
  h us B σ H _ S o fun b O1 us1 B1 H1 S1 o1 s1 k1 => by
    cases b with
    | true => exact k1.1 rfl D us1 B1 σ H1 e S1 o1
    | false => exact k1.2 rfl D us1 B1 σ H1 e S1 o1
theorem zs_while {m0 : Nat} (P : Nat → Sto K → Rho → Prop) (p0 : P m0 O ρ) (h : ∀ m O' ρ', P m O' ρ' → Zt c O' tc ρ' fun O1 b => (b = true → Zs c O1 t ρ' { E with nx := fun O2 ρ2 => ∃ m', m' < m ∧ P m' O2 ρ2, ct := fun O2 ρ2 => ∃ m', m' < m ∧ P m' O2 ρ2, bk := E.nx }) ∧ (b = false → E.nx O1 ρ')) : Zs c O (tWhile tc t) ρ E := fun D us B σ H e S o => by
  refine ⟨fun m σ' H' => ∃ O' us' B' ρ', StC c O' us' B' ∧ OkS c us' B' ρ' σ' H' ∧ P m O' ρ', ⟨m0, O, us, B, ρ, S, o, p0⟩, ?_⟩
  rintro m σ' H' ⟨O', us', B', ρ', S', o', p'⟩
  refine h m O' ρ' p' us' B' σ' H' _ S' o' fun b O1 us1 B1 H1 S1 o1 s1 z => ?_
  cases b with
  | true =>
    rw [if_pos rfl]
    refine ⟨fun σ2 H2 => ∃ O2 us2 B2 ρ2, StC c O2 us2 B2 ∧ OkS c us2 B2 ρ2 σ2 H2 ∧ ∃ m', m' < m ∧ P m' O2 ρ2, fun σ2 H2 ⟨O2, us2, B2, ρ2, S2, o2, m', lt, p2⟩ => ⟨m', lt, O2, us2, B2, ρ2, S2, o2, p2⟩, ?_⟩
    exact z.1 rfl _ us1 B1 σ' H1 (e.loop fun O us B ρ σ H S o p => ⟨O, us, B, ρ, S, o, p⟩) S1 o1
  | false =>
    rw [if_neg Bool.false_ne_true]
    exact e.nx O1 us1 B1 ρ' σ' H1 S1 o1 (z.2 rfl)
/-- what a list is made of, known to the context -/
theorem zs_for {tl : TE} {g : TG} (js : List Nat) (h : Ze c O tl ρ fun O1 x => ∃ xs, x = .d (.list xs) ∧ ∃ P : Nat → Sto K → Rho → Prop, P 0 O1 ρ ∧
    (∀ c' : Ctx K, Le c c' → ∀ i x O' ρ', xs[i]? = some x → P i O' ρ' → ∀ c2 : Ctx K, Le c' c2 → Wg c2 g js (.d x) ρ' fun ρ2 => Zs c' O' t ρ2 { E with nx := P (i + 1), ct := P (i + 1), bk := E.nx }) ∧ ∀ O' ρ', P xs.length O' ρ' → E.nx O' ρ') : Zs c O (tFor (iList K tl) g t) ρ E := fun D us B σ H e S o =>
  h us B σ H _ S o fun v x O1 us1 B1 H1 S1 o1 s1 d1 ⟨xs, hx, P, p0, ps, pd⟩ => by
    subst hx
    change Dp _ _ _ _ at d1
    cases d1 with
    | @lst a vs _ _ hs ha =>
      obtain ⟨S2, o2⟩ := OkS.re S1 o1
      let B2 : Hp := vis (c.sto us1 B1) ρ H1
      have cB : Ex c.B B2 := S2.ex
      have le : Le c (c.at B2) := le_at cB
      have S3 : StC (c.at B2) O1 us1 B2 := ⟨S2.ok, S2.nd, fun p hp => ⟨(S2.out p hp).1, hid_pos (.inl (.inr (List.mem_map_of_mem hp)))⟩, Evl.Ex.refl _⟩
      have sq : ∀ {O' us' B' ρ' σ' H'}, StC (c.at B2) O' us' B' → OkS (c.at B2) us' B' ρ' σ' H' → SqL K H' a vs := fun S' o' => ex_l hid_sub (ex_l o'.b (ex_l S'.ex hs))
      refine ⟨a, rfl, ⟨vs, ex_l hid_sub hs⟩, for_list (K := K) (a := a) (xs := vs) (fun i σ' H' => ∃ O' us' B' ρ', StC (c.at B2) O' us' B' ∧ OkS (c.at B2) us' B' ρ' σ' H' ∧ P i O' ρ') ⟨O1, us1, B2, ρ, S3, o2, p0⟩ (fun i σ' H' _ ⟨O', us', B', ρ', S', o', _⟩ => sq S' o') ?_ ?_⟩
      · rintro i y σ' H' hy ⟨O', us', B', ρ', S', o', p'⟩
        obtain ⟨d, hd, dd⟩ := dpa_get' ha hy
        refine ps _ le i d O' ρ' hd p' ((c.at B2).sto us' B') (le_sto S') σ' H' y _ o' (dp_mono (S'.ex.trans o'.base) _ _ dd) fun ρ2 σ2 o2 _ _ _ _ w => ?_
        exact w { D with nx := fun σ' H' => ∃ O' us' B' ρ', StC (c.at B2) O' us' B' ∧ OkS (c.at B2) us' B' ρ' σ' H' ∧ P (i + 1) O' ρ', ct := fun σ' H' => ∃ O' us' B' ρ', StC (c.at B2) O' us' B' ∧ OkS (c.at B2) us' B' ρ' σ' H' ∧ P (i + 1) O' ρ', bk := D.nx } us' B' σ2 H' ((e.le rfl cB).loop fun O us B ρ σ H S o p => ⟨O, us, B, ρ, S, o, p⟩) S' o2
      · rintro σ' H' ⟨O', us', B', ρ', S', o', p'⟩
        rw [dpa_len ha] at p'
        exact e.nx O' us' B' ρ' σ' H' (S'.le le) o' (pd O' ρ' p')
theorem zs_forT {tl : TE} {g : TG} (js : List Nat) (h : Ze c O tl ρ fun O1 x => ∃ xs, x = .d (.tuple xs) ∧ ∃ P : Nat → Sto K → Rho → Prop, P 0 O1 ρ ∧
    (∀ c' : Ctx K, Le c c' → ∀ i x O' ρ', xs[i]? = some x → P i O' ρ' → ∀ c2 : Ctx K, Le c' c2 → Wg c2 g js (.d x) ρ' fun ρ2 => Zs c' O' t ρ2 { E with nx := P (i + 1), ct := P (i + 1), bk := E.nx }) ∧ ∀ O' ρ', P xs.length O' ρ' → E.nx O' ρ') : Zs c O (tFor (iTup K tl) g t) ρ E := fun D us B σ H e S o =>
  h us B σ H _ S o fun v x O1 us1 B1 H1 S1 o1 s1 d1 ⟨xs, hx, P, p0, ps, pd⟩ => by
    subst hx
    change Dp _ _ _ _ at d1
    cases d1 with
    | @tup a vs _ _ hs ha =>
      obtain ⟨S2, o2⟩ := OkS.re S1 o1
      let B2 : Hp := vis (c.sto us1 B1) ρ H1
      have cB : Ex c.B B2 := S2.ex
      have le : Le c (c.at B2) := le_at cB
      have S3 : StC (c.at B2) O1 us1 B2 := ⟨S2.ok, S2.nd, fun p hp => ⟨(S2.out p hp).1, hid_pos (.inl (.inr (List.mem_map_of_mem hp)))⟩, Evl.Ex.refl _⟩
      have sq : ∀ {O' us' B' ρ' σ' H'}, StC (c.at B2) O' us' B' → OkS (c.at B2) us' B' ρ' σ' H' → SqT K H' a vs := fun S' o' => ex_t hid_sub (ex_t o'.b (ex_t S'.ex hs))
      refine ⟨a, rfl, ⟨vs, ex_t hid_sub hs⟩, for_tup (K := K) (a := a) (xs := vs) (fun i σ' H' => ∃ O' us' B' ρ', StC (c.at B2) O' us' B' ∧ OkS (c.at B2) us' B' ρ' σ' H' ∧ P i O' ρ') ⟨O1, us1, B2, ρ, S3, o2, p0⟩ (fun i σ' H' _ ⟨O', us', B', ρ', S', o', _⟩ => sq S' o') ?_ ?_⟩
      · rintro i y σ' H' hy ⟨O', us', B', ρ', S', o', p'⟩
        obtain ⟨d, hd, dd⟩ := dpa_get' ha hy
        refine ps _ le i d O' ρ' hd p' ((c.at B2).sto us' B') (le_sto S') σ' H' y _ o' (dp_mono (S'.ex.trans o'.base) _ _ dd) fun ρ2 σ2 o2 _ _ _ _ w => ?_
        exact w { D with nx := fun σ' H' => ∃ O' us' B' ρ', StC (c.at B2) O' us' B' ∧ OkS (c.at B2) us' B' ρ' σ' H' ∧ P (i + 1) O' ρ', ct := fun σ' H' => ∃ O' us' B' ρ', StC (c.at B2) O' us' B' ∧ OkS (c.at B2) us' B' ρ' σ' H' ∧ P (i + 1) O' ρ', bk := D.nx } us' B' σ2 H' ((e.le rfl cB).loop fun O us B ρ σ H S o p => ⟨O, us, B, ρ, S, o, p⟩) S' o2
      · rintro σ' H' ⟨O', us', B', ρ', S', o', p'⟩
        rw [dpa_len ha] at p'
        exact e.nx O' us' B' ρ' σ' H' (S'.le le) o' (pd O' ρ' p')
theorem zs_forR1 {ta : TA} {g : TG} (js : List Nat) (h : Za c O ta ρ fun O1 ys => ∃ n : Int, ys = [.d (.int n)] ∧ -(2 ^ 62) ≤ n ∧ n < 2 ^ 62 ∧ ∃ P : Nat → Sto K → Rho → Prop, P 0 O1 ρ ∧
    (∀ i O' ρ', i < n.toNat → P i O' ρ' → ∀ c2 : Ctx K, Le c c2 → Wg c2 g js (.d (.int i)) ρ' fun ρ2 => Zs c O' t ρ2 { E with nx := P (i + 1), ct := P (i + 1), bk := E.nx }) ∧ ∀ O' ρ', P n.toNat O' ρ' → E.nx O' ρ') : Zs c O (tFor (iRng1 ta) g t) ρ E := fun D us B σ H e S o =>
  h us B σ H _ S o fun vs ys O1 us1 B1 H1 S1 o1 s1 d1 ⟨n, hy, b1, b2, P, p0, ps, pd⟩ => by
    subst hy
    cases d1 with
    | cons a1 a2 =>
      cases a2
      obtain rfl := dp_int a1
      refine ⟨n, rfl, b1, b2, for_range (lo := 0) (n := n.toNat) (fun i σ' H' => ∃ O' us' B' ρ', StC c O' us' B' ∧ OkS c us' B' ρ' σ' H' ∧ P i O' ρ') ⟨O1, us1, B1, ρ, S1, o1, p0⟩ ?_ ?_⟩
      · rintro i σ' H' hi ⟨O', us', B', ρ', S', o', p'⟩
        rw [Int.zero_add]
        refine ps i O' ρ' hi p' (c.sto us' B') (le_sto S') σ' H' _ _ o' (Dp.int _) fun ρ2 σ2 o2 _ _ _ _ w => ?_
        exact w { D with nx := fun σ' H' => ∃ O' us' B' ρ', StC c O' us' B' ∧ OkS c us' B' ρ' σ' H' ∧ P (i + 1) O' ρ', ct := fun σ' H' => ∃ O' us' B' ρ', StC c O' us' B' ∧ OkS c us' B' ρ' σ' H' ∧ P (i + 1) O' ρ', bk := D.nx } us' B' σ2 H' (e.loop fun O us B ρ σ H S o p => ⟨O, us, B, ρ, S, o, p⟩) S' o2
      · rintro σ' H' ⟨O', us', B', ρ', S', o', p'⟩
        exact e.nx O' us' B' ρ' σ' H' S' o' (pd O' ρ' p')
theorem zs_forQ1 {tl : TE} {g : TG} (h : Zs c O (tFor (iList K tl) g t) ρ E) : Zs c O (tFor (iSeq K tl) g t) ρ E := fun D us B σ H e S o => .inl (h D us B σ H e S o)
theorem zs_forQ2 {tl : TE} {g : TG} (h : Zs c O (tFor (iTup K tl) g t) ρ E) : Zs c O (tFor (iSeq K tl) g t) ρ E := fun D us B σ H e S o => .inr (h D us B σ H e S o)
/-- targets that tell data in slots -/
theorem zs_asgG {g : TG} (js : List Nat) (h : Ze c O te ρ fun O1 x => ∀ c2 : Ctx K, Le c c2 → Wg c2 g js x ρ (E.nx O1)) : Zs c O (tAsg te g) ρ E := fun D us B σ H e S o =>
  h us B σ H _ S o fun v x O1 us1 B1 H1 S1 o1 s1 d1 k1 => k1 (c.sto us1 B1) (le_sto S1) σ H1 v _ o1 d1 fun ρ' σ' o' _ _ _ _ n => e.nx O1 us1 B1 ρ' σ' H1 S1 o' n
theorem zs_par {i j : Nat} {ta : TA} (h : Za c O ta ρ fun O1 xs => ∃ x y, xs = [x, y] ∧ E.nx O1 ((ρ.set i (.val x)).set j (.val y))) : Zs c O (tPar i j ta) ρ E := fun D us B σ H e S o =>
  h us B σ H _ S o fun vs xs O1 us1 B1 H1 S1 o1 s1 d1 ⟨x, y, hx, k1⟩ => by
    subst hx
    cases d1 with
    | cons a1 d2 =>
      cases d2 with
      | cons a2 d3 =>
        cases d3
        refine ⟨_, _, rfl, e.nx O1 us1 B1 _ _ _ S1 ((o1.put a1 i).put ?_ j) k1⟩
        exact dv_mono (hid_less fun a h => h.imp id fun z => (owns_set z).elim id fun ⟨xs, q⟩ => by cases q) a2
end
end Py

set_option Elab.async false
set_option linter.all false
set_option autoImplicit false
set_option maxRecDepth 100000
set_option maxHeartbeats 4000000
/-! Lists in the store; calls with a store. -/
namespace Py
open PySem hiding start
open L2
open Evl (Ex ex_rd ex_l ex_t fresh_back)
open Classical
section
variable {K : PySem.W.Frag} {c c' : Ctx K} {ρ : Rho} {B : Hp} {O O' : Sto K} {us us' us2 : List (Addr × HO)} {H H1 H2 : Hp} {σ : L2.St}
/-! ### one object -/
/-- a thing that is one object -/
def OneAt (x : OC K) (l : Addr) : Prop := ∀ G u, x.ok G u → ∃ ob, u = [(l, ob)]
theorem st_at (S : StC c O us B) (o : OkS c us B ρ σ H) {n : Nat} {x : OC K} (hn : O[n]? = some x) : ∃ u, x.ok (vis (c.sto us B) ρ H) u ∧ ∀ p ∈ u, isMut p.2 = true ∧ H p.1 = some p.2 := by
  obtain ⟨u1, u, u2, e, h1, _, _⟩ := stok_at S.ok hn
  exact ⟨u, x.mono _ _ _ o.base h1, fun p hp => o.w.2 p (by rw [e]; simp [hp])⟩
theorem st_put (S : StC c O us B) (o : OkS c us B ρ σ H) {n : Nat} {x x' : OC K} {l : Addr} {ob' : HO} (hn : O[n]? = some x) (h1 : OneAt x l) (hm : isMut ob' = true) (hx' : x'.ok (vis (c.sto us B) ρ H) [(l, ob')]) :
    ∃ us' B', StC c (O.set n x') us' B' ∧ OkS c us' B' ρ σ (upd H l ob') ∧ StpZ c ρ us H us' (upd H l ob') := by
  obtain ⟨u1, u, u2, e, g1, g2, g3⟩ := stok_at S.ok hn
  obtain ⟨ob, rfl⟩ := h1 _ _ g1
  subst e
  have nl := S.out (l, ob) (by simp)
  obtain ⟨o2, ev⟩ := OkS.chg nl.1 S.nd o hm
  have hle : n < O.length := (List.getElem?_eq_some_iff.mp hn).1
  refine ⟨u1 ++ [(l, ob')] ++ u2, vis (c.sto (u1 ++ [(l, ob)] ++ u2) B) ρ H, ⟨?_, by rw [map_mid (ob' := ob)]; exact S.nd, fun p hp => ?_, S.ex.trans o.base⟩, ?_, ?_, fun a ha => upd_ne fun z => ?_⟩
  · have eO : O.set n x' = O.take n ++ [x'] ++ O.drop (n + 1) := by
      rw [List.set_eq_take_append_cons_drop, if_pos hle]; simp
    rw [eO]
    exact stok_app (stok_app (stok_mono o.base g2) (stok_one hx')) (stok_mono o.base g3)
  · have hp2 : p.1 ∈ (u1 ++ [(l, ob')] ++ u2).map (·.1) := List.mem_map_of_mem hp
    rw [map_mid (ob' := ob)] at hp2
    obtain ⟨p', hp', e'⟩ := List.mem_map.mp hp2
    have := S.out p' hp'
    rw [e'] at this
    exact this
  · have := Ok.at' o2
    rw [ev] at this
    exact this
  · show Ex _ (vis (c.sto _ B) ρ _)
    have ev' := ev
    try dsimp only at ev'
    rw [ev']; exact Evl.Ex.refl _
  · subst z
    exact own_out o ha (by simp)
theorem st_new (S : StC c O us B) (o : OkS c us B ρ σ H) {x : OC K} {p : Addr} {ob : HO} (hp : H p = none) (hm : isMut ob = true) (hx : x.ok (vis (c.sto us B) ρ H) [(p, ob)]) :
    ∃ us' B', StC c (O ++ [x]) us' B' ∧ OkS c us' B' ρ σ (upd H p ob) ∧ StpZ c ρ us H us' (upd H p ob) := by
  obtain ⟨o2, ev⟩ := OkS.new o hp hm
  have np : ¬ Hid (c.sto us B) ρ p := o.nh hp
  have cp : c.B p = none := by
    cases z : c.B p with
    | none => rfl
    | some y =>
      have := (hid_some (o.b p y (S.ex p y z))).2
      rw [hp] at this; cases this
  refine ⟨us ++ [(p, ob)], vis (c.sto us B) ρ H, ⟨stok_app (stok_mono o.base S.ok) (stok_one hx), ?_, fun q hq => ?_, S.ex.trans o.base⟩, ?_, ?_, fun a ha => upd_ne fun z => np (.inr (z ▸ ha))⟩
  · rw [List.map_append, List.nodup_append]
    refine ⟨S.nd, by simp, fun a ha b hb z => ?_⟩
    have : b = p := by simpa using hb
    subst this
    subst z
    exact np (.inl (.inr ha))
  · rcases List.mem_append.mp hq with z | z
    · exact S.out q z
    · rw [List.mem_singleton] at z
      subst z
      exact ⟨fun z => np (.inl (.inl z)), cp⟩
  · have := Ok.at' o2
    rw [ev] at this
    exact this
  · show Ex _ (vis (c.sto _ B) ρ _)
    have ev' := ev
    try dsimp only at ev'
    rw [ev']; exact Evl.Ex.refl _
theorem st_drop (S : StC c O us B) (o : OkS c us B ρ σ H) {n : Nat} {x : OC K} (hn : O[n]? = some x) : ∃ u us' B', x.ok (vis (c.sto us B) ρ H) u ∧ (∀ p ∈ u, vis (c.sto us' B') ρ H p.1 = some p.2) ∧ StC c (O.eraseIdx n) us' B' ∧ OkS c us' B' ρ σ H ∧ StpZ c ρ us H us' H := by
  obtain ⟨u1, u, u2, e, g1, g2, g3⟩ := stok_at S.ok hn
  subst e
  obtain ⟨o2, ev⟩ := OkS.drop o
  have nd' := S.nd
  refine ⟨u, u1 ++ u2, B, x.mono _ _ _ o.base g1, fun p hp => ?_, ⟨?_, ?_, fun p hp => S.out p ?_, S.ex⟩, o2, ev, fun _ _ => rfl⟩
  · refine (hid_neg ?_).trans (o.w.2 p (by simp [hp])).2
    rintro ((z | z) | z)
    · exact (S.out p (by simp [hp])).1 z
    · simp only [List.map_append] at nd' z
      rw [List.append_assoc, List.nodup_append] at nd'
      obtain ⟨_, n2, n3⟩ := nd'
      rw [List.nodup_append] at n2
      rcases List.mem_append.mp z with q | q
      · exact n3 _ q p.1 (List.mem_append_left _ (List.mem_map_of_mem hp)) rfl
      · exact n2.2.2 p.1 (List.mem_map_of_mem hp) _ q rfl
    · exact own_out o z (by simp only [List.map_append, List.mem_append]; exact .inl (.inr (List.mem_map_of_mem hp)))
  · rw [List.eraseIdx_eq_take_drop_succ]
    exact stok_app g2 g3
  · simp only [List.map_append] at nd' ⊢
    rw [List.append_assoc, List.nodup_append] at nd'
    obtain ⟨n1, n2, n3⟩ := nd'
    rw [List.nodup_append] at n2 ⊢
    exact ⟨n1, n2.2.1, fun a ha b hb => n3 a ha b (List.mem_append_right _ hb)⟩
  · simp only [List.mem_append] at hp ⊢
    exact hp.elim (fun q => .inl (.inl q)) .inr
/-! ### lists -/
/-- a list of data -/
def LstO (l : Addr) (xs : List PyData) : OC K := ⟨fun G u => ∃ vs, u = [(l, .lst vs)] ∧ DpAll K G vs xs, fun G G' u e ⟨vs, h1, h2⟩ => ⟨vs, h1, dpa_mono e _ _ h2⟩⟩
/-- a list of things -/
def LsvO (l : Addr) (xs : List Dv) : OC K := ⟨fun G u => ∃ vs, u = [(l, .lst vs)] ∧ DvAll K G vs xs, fun G G' u e ⟨vs, h1, h2⟩ => ⟨vs, h1, dva_mono e h2⟩⟩
theorem one_lst {l : Addr} {xs : List PyData} : OneAt (LstO (K := K) l xs) l := fun G u ⟨vs, h, _⟩ => ⟨_, h⟩
theorem one_lsv {l : Addr} {xs : List Dv} : OneAt (LsvO (K := K) l xs) l := fun G u ⟨vs, h, _⟩ => ⟨_, h⟩
theorem lst_at (S : StC c O us B) (o : OkS c us B ρ σ H) {n : Nat} {l : Addr} {xs : List PyData} (hn : O[n]? = some (LstO l xs)) : ∃ vs, H l = some (.lst vs) ∧ DpAll K (vis (c.sto us B) ρ H) vs xs := by
  obtain ⟨u, ⟨vs, rfl, h2⟩, h3⟩ := st_at S o hn
  exact ⟨vs, (h3 _ (List.mem_singleton.mpr rfl)).2, h2⟩
theorem lsv_at (S : StC c O us B) (o : OkS c us B ρ σ H) {n : Nat} {l : Addr} {xs : List Dv} (hn : O[n]? = some (LsvO l xs)) : ∃ vs, H l = some (.lst vs) ∧ DvAll K (vis (c.sto us B) ρ H) vs xs := by
  obtain ⟨u, ⟨vs, rfl, h2⟩, h3⟩ := st_at S o hn
  exact ⟨vs, (h3 _ (List.mem_singleton.mpr rfl)).2, h2⟩
/-- a list that the context knows -/
theorem At.lst {l : Addr} {xs : List PyData} (h : At c (LstO l xs)) : ∃ vs, (∀ H, c.W H → H l = some (.lst vs)) ∧ DpAll K c.B vs xs := by
  obtain ⟨u, ⟨vs, rfl, h2⟩, _, h3⟩ := h
  exact ⟨vs, fun H w => h3 H w _ (List.mem_singleton.mpr rfl), h2⟩
theorem At.lsv {l : Addr} {xs : List Dv} (h : At c (LsvO l xs)) : ∃ vs, (∀ H, c.W H → H l = some (.lst vs)) ∧ DvAll K c.B vs xs := by
  obtain ⟨u, ⟨vs, rfl, h2⟩, _, h3⟩ := h
  exact ⟨vs, fun H w => h3 H w _ (List.mem_singleton.mpr rfl), h2⟩
/-! reading a list that the context knows -/
variable {k0 : Dv → Prop} {l : Addr}
theorem rv_ixAt {xs : List PyData} {i : Int} {d : PyData} (h : At c (LstO l xs)) (e : atI xs i = some d) (hk : k0 (.d d)) : Rv c (rIx K) ρ (.r (.ref l)) (.d (.int i)) k0 := fun σ H v u Q o d1 d2 q => by
  obtain ⟨vs, h1, h2⟩ := h.lst
  obtain rfl : v = V.ref l := d1
  obtain rfl := dp_int d2
  obtain ⟨w, e1, e2⟩ := dpa_atI h2 e
  exact .inl ⟨_, _, _, w, rfl, rfl, .inl (.inl (h1 H o.w)), e1, q.val o (x := .d _) (dp_mono o.base _ _ e2) hk⟩
theorem dva_atI {G : Hp} {vs : List V} {ds : List Dv} {i : Int} {d : Dv} (h : DvAll K G vs ds) (e : atI ds i = some d) : ∃ v, atI vs i = some v ∧ DvOk K G v d := by
  unfold atI at *
  rw [dva_len h]
  cases z : ixN ds.length i with
  | none => rw [z] at e; cases e
  | some j =>
    rw [z] at e
    exact dva_get h e
theorem rv_ixAtV {xs : List Dv} {i : Int} {d : Dv} (h : At c (LsvO l xs)) (e : atI xs i = some d) (hk : k0 d) : Rv c (rIx K) ρ (.r (.ref l)) (.d (.int i)) k0 := fun σ H v u Q o d1 d2 q => by
  obtain ⟨vs, h1, h2⟩ := h.lsv
  obtain rfl : v = V.ref l := d1
  obtain rfl := dp_int d2
  obtain ⟨w, e1, e2⟩ := dva_atI h2 e
  exact .inl ⟨_, _, _, w, rfl, rfl, .inl (.inl (h1 H o.w)), e1, q.val o (dv_mono o.base e2) hk⟩
theorem rc_lenAt {xs : List PyData} (h : At c (LstO l xs)) (hk : k0 (.d (.int (xs.length : Int)))) : Rc c (rLen K) ρ [.r (.ref l)] k0 := fun σ H vs Q o d q => by
  obtain ⟨ws, h1, h2⟩ := h.lst
  cases d with
  | cons d1 d2 =>
    cases d2
    obtain rfl : _ = V.ref l := d1
    exact ⟨_, xs.length, rfl, .inl ⟨_, .inl (.inl (h1 H o.w)), (dpa_len h2).symm⟩, q.val o (x := .d _) (Dp.int _) hk⟩
theorem rc_lenAtV {xs : List Dv} (h : At c (LsvO l xs)) (hk : k0 (.d (.int (xs.length : Int)))) : Rc c (rLen K) ρ [.r (.ref l)] k0 := fun σ H vs Q o d q => by
  obtain ⟨ws, h1, h2⟩ := h.lsv
  cases d with
  | cons d1 d2 =>
    cases d2
    obtain rfl : _ = V.ref l := d1
    exact ⟨_, xs.length, rfl, .inl ⟨_, .inl (.inl (h1 H o.w)), (dva_len h2).symm⟩, q.val o (x := .d _) (Dp.int _) hk⟩
/-! ### methods that change a list of the store -/
variable {k : Sto K → Dv → Prop} {ta tb te ti : TE} {t u : TS} {tc : TT} {E : DZ K}
/-- an expression whose value is a list -/
def TyZ (c : Ctx K) (O : Sto K) (x : Dv) (T : String) : Prop := ∀ ρ us B σ H v, StC c O us B → OkS c us B ρ σ H → DvOk K (vis (c.sto us B) ρ H) v x → tyV K T v H
theorem tyz_lst {n : Nat} {xs : List PyData} (h : O[n]? = some (LstO l xs)) : TyZ c O (.r (.ref l)) "list" := fun ρ us B σ H v S o d => by
  obtain rfl : v = V.ref l := d
  obtain ⟨vs, h1, _⟩ := lst_at S o h
  exact .inl ⟨rfl, _, .inl (.inl h1)⟩
theorem tyz_lsv {n : Nat} {xs : List Dv} (h : O[n]? = some (LsvO l xs)) : TyZ c O (.r (.ref l)) "list" := fun ρ us B σ H v S o d => by
  obtain rfl : v = V.ref l := d
  obtain ⟨vs, h1, _⟩ := lsv_at S o h
  exact .inl ⟨rfl, _, .inl (.inl h1)⟩
/-- a method's reading -/
def Zr (c : Ctx K) (O : Sto K) (r : V → List V → Hp → VK → Prop) (ρ : Rho) (x : Dv) (xs : List Dv) (k : Sto K → Dv → Prop) : Prop := ∀ us B σ H v vs (Q : VK), StC c O us B → OkS c us B ρ σ H → DvOk K (vis (c.sto us B) ρ H) v x → DvAll K (vis (c.sto us B) ρ H) vs xs → QZ c ρ σ us H k Q → r v vs H Q
theorem ze_bm {T : String} {r : V → List V → Hp → VK → Prop} {to : TE} {t : TA} (h : Ze c O to ρ fun O1 x => TyZ c O1 x T ∧ Za c O1 t ρ fun O2 xs => Zr c O2 r ρ x xs k) : Ze c O (tBM K T r to t) ρ k := fun us B σ H Q S o q =>
  h us B σ H _ S o fun v x O1 us1 B1 H1 S1 o1 s1 d1 ⟨h1, h2⟩ => ⟨h1 ρ us1 B1 σ H1 v S1 o1 d1, h2 us1 B1 σ H1 _ S1 o1 fun vs xs O2 us2 B2 H2 S2 o2 s2 d2 h3 => h3 us2 B2 σ H2 v vs Q S2 o2 (dv_mono s2.ex d1) d2 (q.to (s1.trans s2))⟩
theorem ze_bm0 {T : String} {r : V → List V → Hp → VK → Prop} {to : TE} (h : Ze c O to ρ fun O1 x => TyZ c O1 x T ∧ Zr c O1 r ρ x [] k) : Ze c O (tBM0 K T r to) ρ k := fun us B σ H Q S o q =>
  h us B σ H _ S o fun v x O1 us1 B1 H1 S1 o1 s1 d1 ⟨h1, h2⟩ => ⟨h1 ρ us1 B1 σ H1 v S1 o1 d1, h2 us1 B1 σ H1 v [] Q S1 o1 d1 .nil (q.to s1)⟩
theorem dva_app {G : Hp} : ∀ {ds es : List Dv} {vs us : List V}, DvAll K G vs ds → DvAll K G us es → DvAll K G (vs ++ us) (ds ++ es)
  | _, _, _, _, .nil, h => h
  | _, _, _, _, .cons h1 h2, h => .cons h1 (dva_app h2 h)
theorem dva_set {G : Hp} {v : V} {d : Dv} (hd : DvOk K G v d) : ∀ {ds : List Dv} {vs : List V} (n : Nat), DvAll K G vs ds → DvAll K G (vs.set n v) (ds.set n d)
  | _, _, _, .nil => by simpa using DvAll.nil
  | _, _, 0, .cons _ h => by simpa using DvAll.cons hd h
  | _, _, n + 1, .cons h1 h => by simpa using DvAll.cons h1 (dva_set hd n h)
theorem zr_app {n : Nat} {xs : List PyData} {d : PyData} (hn : O[n]? = some (LstO l xs)) (hz : xs.length < 100000) (hk : k (O.set n (LstO l (xs ++ [d]))) (.d .none)) : Zr c O rAppend ρ (.r (.ref l)) [.d d] k := fun us B σ H v vs Q S o d1 d2 q => by
  obtain rfl : v = V.ref l := d1
  cases d2 with
  | cons a1 a2 =>
  cases a2
  obtain ⟨ws, h1, h2⟩ := lst_at S o hn
  obtain ⟨us', B', S', o', s'⟩ := st_put S o hn one_lst (x' := LstO l (xs ++ [d])) (ob' := .lst (ws ++ [_])) rfl ⟨_, rfl, dpa_app h2 (.cons a1 .nil)⟩
  exact ⟨l, ws, _, rfl, rfl, h1, Evl.sz_lt (by rw [dpa_len h2]; exact hz), q .non (.d .none) _ us' B' _ S' o' s' Dp.non hk⟩
theorem zr_appV {n : Nat} {xs : List Dv} {d : Dv} (hn : O[n]? = some (LsvO l xs)) (hz : xs.length < 100000) (hk : k (O.set n (LsvO l (xs ++ [d]))) (.d .none)) : Zr c O rAppend ρ (.r (.ref l)) [d] k := fun us B σ H v vs Q S o d1 d2 q => by
  obtain rfl : v = V.ref l := d1
  cases d2 with
  | cons a1 a2 =>
  cases a2
  obtain ⟨ws, h1, h2⟩ := lsv_at S o hn
  obtain ⟨us', B', S', o', s'⟩ := st_put S o hn one_lsv (x' := LsvO l (xs ++ [d])) (ob' := .lst (ws ++ [_])) rfl ⟨_, rfl, dva_app h2 (.cons a1 .nil)⟩
  exact ⟨l, ws, _, rfl, rfl, h1, Evl.sz_lt (by rw [dva_len h2]; exact hz), q .non (.d .none) _ us' B' _ S' o' s' Dp.non hk⟩
theorem zr_clear {n : Nat} {xs : List PyData} (hn : O[n]? = some (LstO l xs)) (hk : k (O.set n (LstO l [])) (.d .none)) : Zr c O rClear ρ (.r (.ref l)) [] k := fun us B σ H v vs Q S o d1 d2 q => by
  obtain rfl : v = V.ref l := d1
  cases d2
  obtain ⟨ws, h1, h2⟩ := lst_at S o hn
  obtain ⟨us', B', S', o', s'⟩ := st_put S o hn one_lst (x' := LstO l []) (ob' := .lst []) rfl ⟨_, rfl, .nil⟩
  exact ⟨l, ws, rfl, rfl, h1, q .non (.d .none) _ us' B' _ S' o' s' Dp.non hk⟩
theorem zr_clearV {n : Nat} {xs : List Dv} (hn : O[n]? = some (LsvO l xs)) (hk : k (O.set n (LsvO l [])) (.d .none)) : Zr c O rClear ρ (.r (.ref l)) [] k := fun us B σ H v vs Q S o d1 d2 q => by
  obtain rfl : v = V.ref l := d1
  cases d2
  obtain ⟨ws, h1, h2⟩ := lsv_at S o hn
  obtain ⟨us', B', S', o', s'⟩ := st_put S o hn one_lsv (x' := LsvO l []) (ob' := .lst []) rfl ⟨_, rfl, .nil⟩
  exact ⟨l, ws, rfl, rfl, h1, q .non (.d .none) _ us' B' _ S' o' s' Dp.non hk⟩
theorem zr_ins {n : Nat} {xs : List PyData} {d : PyData} {j : Int} (hn : O[n]? = some (LstO l xs)) (hz : xs.length < 100000) (j0 : 0 ≤ j) (j1 : j < 2 ^ 63) (hk : k (O.set n (LstO l (xs.take j.toNat ++ [d] ++ xs.drop j.toNat))) (.d .none)) : Zr c O rInsert ρ (.r (.ref l)) [.d (.int j), .d d] k := fun us B σ H v vs Q S o d1 d2 q => by
  obtain rfl : v = V.ref l := d1
  cases d2 with
  | cons a1 a2 =>
  cases a2 with
  | cons a2 a3 =>
  cases a3
  obtain rfl := dp_int a1
  obtain ⟨ws, h1, h2⟩ := lst_at S o hn
  obtain ⟨us', B', S', o', s'⟩ := st_put S o hn one_lst (x' := LstO l (xs.take j.toNat ++ [d] ++ xs.drop j.toNat)) (ob' := .lst (ws.take j.toNat ++ [_] ++ ws.drop j.toNat)) rfl ⟨_, rfl, dpa_app (dpa_app (dpa_take _ h2) (.cons a2 .nil)) (dpa_drop _ h2)⟩
  exact ⟨l, ws, j, _, rfl, rfl, h1, Evl.sz_lt (by rw [dpa_len h2]; exact hz), j0, j1, q .non (.d .none) _ us' B' _ S' o' s' Dp.non hk⟩
/-- xs[j] = e -/
theorem zs_set {to : TE} (h : Ze c O te ρ fun O1 y => Ze c O1 to ρ fun O2 x => Ze c O2 ti ρ fun O3 z => ∃ l n xs d j m, x = .r (.ref l) ∧ y = .d d ∧ z = .d (.int j) ∧ O3[n]? = some (LstO l xs) ∧ ixN xs.length j = some m ∧ E.nx (O3.set n (LstO l (xs.set m d))) ρ) :
    Zs c O (tAsg te (gSub to ti rSetL)) ρ E := fun D us B σ H e S o =>
  h us B σ H _ S o fun v y O1 us1 B1 H1 S1 o1 s1 d1 h1 => h1 us1 B1 σ H1 _ S1 o1 fun w x O2 us2 B2 H2 S2 o2 s2 d2 h2 => h2 us2 B2 σ H2 _ S2 o2 fun u z O3 us3 B3 H3 S3 o3 s3 d3 ⟨l, n, xs, d, j, m, hx, hy, hz, hn, hm, nx⟩ => by
    subst hx hy hz
    obtain rfl : w = V.ref l := d2
    obtain rfl := dp_int d3
    obtain ⟨ws, h1, h2⟩ := lst_at S3 o3 hn
    obtain ⟨us', B', S', o', s'⟩ := st_put S3 o3 hn one_lst (x' := LstO l (xs.set m d)) (ob' := .lst (ws.set m v)) rfl ⟨_, rfl, dpa_set (dp_mono (s2.trans s3).ex _ _ d1) m h2⟩
    exact ⟨l, ws, j, m, rfl, rfl, h1, by rw [dpa_len h2]; exact hm, e.nx _ us' B' _ _ _ S' o' nx⟩
theorem zs_setV {to : TE} (h : Ze c O te ρ fun O1 y => Ze c O1 to ρ fun O2 x => Ze c O2 ti ρ fun O3 z => ∃ l n xs j m, x = .r (.ref l) ∧ z = .d (.int j) ∧ O3[n]? = some (LsvO l xs) ∧ ixN xs.length j = some m ∧ E.nx (O3.set n (LsvO l (xs.set m y))) ρ) :
    Zs c O (tAsg te (gSub to ti rSetL)) ρ E := fun D us B σ H e S o =>
  h us B σ H _ S o fun v y O1 us1 B1 H1 S1 o1 s1 d1 h1 => h1 us1 B1 σ H1 _ S1 o1 fun w x O2 us2 B2 H2 S2 o2 s2 d2 h2 => h2 us2 B2 σ H2 _ S2 o2 fun u z O3 us3 B3 H3 S3 o3 s3 d3 ⟨l, n, xs, j, m, hx, hz, hn, hm, nx⟩ => by
    subst hx hz
    obtain rfl : w = V.ref l := d2
    obtain rfl := dp_int d3
    obtain ⟨ws, h1, h2⟩ := lsv_at S3 o3 hn
    obtain ⟨us', B', S', o', s'⟩ := st_put S3 o3 hn one_lsv (x' := LsvO l (xs.set m y)) (ob' := .lst (ws.set m v)) rfl ⟨_, rfl, dva_set (dv_mono (s2.trans s3).ex d1) m h2⟩
    exact ⟨l, ws, j, m, rfl, rfl, h1, by rw [dva_len h2]; exact hm, e.nx _ us' B' _ _ _ S' o' nx⟩
/-! ### new lists -/
theorem ze_ofWf (h : ∀ c', Le c c' → Has c' O → Wf c' te ρ fun xs => ∀ l, k (O ++ [LstO l xs]) (.r (.ref l))) : Ze c O te ρ k := fun us B σ H Q S o q =>
  h _ (le_sto S) S.has σ H Q o fun l vs xs H1 n h1 o1 s1 d1 k1 => by
    have n1 : ¬ Hid (c.sto us B) ρ l := o.nh n
    -- before the new object
    let H2 : Hp := H1
    have cl : c.B l = none := by
      cases z : c.B l with
      | none => rfl
      | some y =>
        have := (hid_some (o.b l y (S.ex l y z))).2
        rw [n] at this; cases this
    have hne : ∀ p ∈ us, p.1 ≠ l := fun p hp z => n1 (.inl (.inr (z ▸ List.mem_map_of_mem hp)))
    have ev : vis (c.sto (us ++ [(l, .lst vs)]) B) ρ H1 = hid (· = l) (vis (c.sto us B) ρ H1) := by
      funext a
      by_cases za : a = l
      · subst za
        rw [hid_pos (L := fun x => x = a) rfl]
        exact hid_pos (.inl (.inr (by simp)))
      · rw [hid_neg (L := fun x => x = l) za]
        have e : Hid (c.sto (us ++ [(l, .lst vs)]) B) ρ a ↔ Hid (c.sto us B) ρ a := by
          unfold Hid
          show (c.L a ∨ _) ∨ _ ↔ (c.L a ∨ _) ∨ _
          simp [za]
        unfold vis
        by_cases r : Hid (c.sto us B) ρ a
        · rw [hid_pos r, hid_pos (e.mpr r)]
        · rw [hid_neg r, hid_neg fun z => r (e.mp z)]
    have ex : Ex (vis (c.sto us B) ρ H) (vis (c.sto (us ++ [(l, .lst vs)]) B) ρ H1) := by
      rw [ev]
      intro a ob q
      have na : a ≠ l := fun z => by subst z; rw [vis, hid_none n] at q; cases q
      exact (hid_neg (L := fun x => x = l) na).trans (s1.ex a ob q)
    have o2 : OkS c (us ++ [(l, .lst vs)]) B ρ σ H1 := o.mk' o1.w.1 (fun p hp => by
      rcases List.mem_append.mp hp with z | z
      · exact o1.w.2 p z
      · rw [List.mem_singleton] at z; subst z; exact ⟨rfl, h1⟩) (fun a ha => by
      rw [List.map_append, List.mem_append] at ha
      rcases ha with z | z
      · exact fun y => own_out o y z
      · have z : a = l := by simpa using z
        subst z
        exact fun y => n1 (.inr y)) ex s1.own
    have S2 : StC c (O ++ [LstO l xs]) (us ++ [(l, .lst vs)]) (vis (c.sto (us ++ [(l, .lst vs)]) B) ρ H1) := ⟨stok_app (stok_mono o2.base S.ok) (stok_one ⟨vs, rfl, by rw [ev]; exact d1⟩), by
      rw [List.map_append, List.nodup_append]
      refine ⟨S.nd, by simp, fun a ha b hb z => ?_⟩
      have : b = l := by simpa using hb
      subst this
      subst z
      exact n1 (.inl (.inr ha)), fun q hq => by
      rcases List.mem_append.mp hq with z | z
      · exact S.out q z
      · rw [List.mem_singleton] at z
        subst z
        exact ⟨fun z => n1 (.inl (.inl z)), cl⟩, S.ex.trans o2.base⟩
    exact q (.ref l) (.r (.ref l)) _ _ _ H1 S2 (Ok.at' o2) ⟨ex, s1.own⟩ rfl (k1 l)
/-- a display of things, as a list of the store -/
theorem ze_lstV {t : TA} (h : Za c O t ρ fun O1 xs => xs.length ≤ 100000 ∧ ∀ l, k (O1 ++ [LsvO l xs]) (.r (.ref l))) : Ze c O (tLst t) ρ k := fun us B σ H Q S o q =>
  h us B σ H _ S o fun vs xs O1 us1 B1 H1 S1 o1 s1 d1 ⟨h2, h3⟩ => ⟨Evl.sz_of (by rw [dva_len d1]; exact h2), fun p hp => by
    obtain ⟨us', B', S', o', s'⟩ := st_new S1 o1 (x := LsvO p xs) hp rfl ⟨vs, rfl, d1⟩
    exact q _ (.r (.ref p)) _ us' B' _ S' o' (s1.trans s') rfl (h3 p)⟩
theorem ze_lstD {t : TA} (h : Za c O t ρ fun O1 xs => ∃ ds, allD xs = some ds ∧ xs.length ≤ 100000 ∧ ∀ l, k (O1 ++ [LstO l ds]) (.r (.ref l))) : Ze c O (tLst t) ρ k := fun us B σ H Q S o q =>
  h us B σ H _ S o fun vs xs O1 us1 B1 H1 S1 o1 s1 d1 ⟨ds, h1, h2, h3⟩ => ⟨Evl.sz_of (by rw [dva_len d1]; exact h2), fun p hp => by
    obtain ⟨us', B', S', o', s'⟩ := st_new S1 o1 (x := LstO p ds) hp rfl ⟨vs, rfl, allD_ok h1 d1⟩
    exact q _ (.r (.ref p)) _ us' B' _ S' o' (s1.trans s') rfl (h3 p)⟩
/-! ### a list is data from now on -/
theorem zs_freeze {n i : Nat} {xs : List PyData} (hi : ρ[i]? = some (.val (.r (.ref l)))) (hn : O[n]? = some (LstO l xs)) (h : Zs c (O.eraseIdx n) t (ρ.set i (.val (.d (.list xs)))) E) : Zs c O t ρ E := fun D us B σ H e S o => by
  obtain ⟨u, us', B', ⟨vs, rfl, d1⟩, h2, S', o', s'⟩ := st_drop S o hn
  have hl := h2 _ (List.mem_singleton.mpr rfl)
  obtain ⟨w, e1, v, rfl, ev⟩ := o.sl i _ hi
  obtain rfl : v = V.ref l := ev
  have o2 := o'.put (x := .d (.list xs)) (v := .ref l) (dp_lst hl (dpa_mono s'.ex _ _ d1)) i
  have eσ : σ.set i (some (.ref l)) = σ := by
    refine List.ext_getElem? fun j => ?_
    by_cases z : i = j
    · subst z
      rw [List.getElem?_set_self', e1]; rfl
    · rw [List.getElem?_set_ne z]
  rw [eσ] at o2
  exact h D us' B' σ H e S' o2
/-- the same of a value -/
theorem ze_freeze {n : Nat} {xs : List PyData} (h : Ze c O te ρ fun O1 x => ∃ l, x = .r (.ref l) ∧ O1[n]? = some (LstO l xs) ∧ k (O1.eraseIdx n) (.d (.list xs))) : Ze c O te ρ k := fun us B σ H Q S o q =>
  h us B σ H _ S o fun v x O1 us1 B1 H1 S1 o1 s1 d1 ⟨l, hx, hn, hk⟩ => by
    subst hx
    obtain rfl : v = V.ref l := d1
    obtain ⟨u, us', B', ⟨vs, rfl, d1⟩, h2, S', o', s'⟩ := st_drop S1 o1 hn
    exact q (.ref l) (.d (.list xs)) _ us' B' H1 S' o' (s1.trans s') (dp_lst (h2 _ (List.mem_singleton.mpr rfl)) (dpa_mono s'.ex _ _ d1)) hk
end
end Py

set_option Elab.async false
set_option linter.all false
set_option autoImplicit false
set_option maxRecDepth 100000
set_option maxHeartbeats 4000000
/-! Calls over a store. -/
namespace Py
open PySem hiding start
open L2
open Evl (Ex ex_rd ex_l ex_t fresh_back)
open Classical
section
variable {K : PySem.W.Frag} {c c' : Ctx K} {ρ : Rho} {B : Hp} {O O' : Sto K} {us us' us2 : List (Addr × HO)} {H H1 H2 : Hp} {σ : L2.St}
/-- the promise of a def over a store: what it is lent, what it tells and leaves; what it raises and leaves -/
abbrev PTZ (K : PySem.W.Frag) := Ctx K → Sto K → List Dv → (Sto K → Dv → Prop) → (Sto K → Value → Option FD → Prop) → Prop
def spZ (K : PySem.W.Frag) (P : PTZ K) : Sp := fun vs H Q E => ∃ (c : Ctx K) (O : Sto K) (us : List (Addr × HO)) (xs : List Dv) (k : Sto K → Dv → Prop) (x : Sto K → Value → Option FD → Prop),
  StC c O us c.B ∧ (c.sto us c.B).W H ∧ c.B = hid (c.sto us c.B).L H ∧ DvAll K c.B vs xs ∧ P c O xs k x ∧
  (∀ v y O' us' B' H', StC c O' us' B' → (c.sto us' B').W H' → Ex B' (hid (c.sto us' B').L H') → DvOk K (hid (c.sto us' B').L H') v y → k O' y → Q v H') ∧
  ∀ cls d fo O' us' B' H', StC c O' us' B' → (c.sto us' B').W H' → Ex B' (hid (c.sto us' B').L H') → XdOk K (hid (c.sto us' B').L H') d fo → x O' cls fo → E cls d H'
theorem spZ_len {P : PTZ K} {n : Nat} (hp : ∀ (c : Ctx K) O xs k x, P c O xs k x → xs.length = n) : ∀ vs H Q X, spZ K P vs H Q X → vs.length = n := fun vs H Q X ⟨c, O, us, xs, k, x, _, _, _, d, p, _⟩ => (dva_len d).trans (hp c O xs k x p)
/-- what is wished of a raised error -/
def XOkZ (c : Ctx K) (W : WX) (x : Sto K → Rho → Value → Option FD → Prop) : Prop := ∀ O us B ρ σ H cls d fo, StC c O us B → OkS c us B ρ σ H → XdOk K (vis (c.sto us B) ρ H) d fo → x O ρ cls fo → W cls d σ H
theorem XOkZ.old {W : WX} {x : Sto K → Rho → Value → Option FD → Prop} (h : XOkZ c W x) (S : StC c O us B) : XOkF (c.sto us B) W (x O) := fun ρ σ H cls d fo o xd z => h O us B ρ σ H cls d fo S o xd z
theorem xokZ_none {W : WX} : XOkZ c W fun _ _ _ _ => False := fun _ _ _ _ _ _ _ _ _ _ _ _ z => z.elim
/-- the body of a def against its promise -/
theorem run_spZ {P : PTZ K} {vs : List V} {Q : VK} {X : XK} {N : List Str} {t : TS} (h : spZ K P vs H Q X)
    (hw : ∀ (c : Ctx K) O xs k x, P c O xs k x → xs.length ≤ N.length ∧ (XOkZ c (fun cls d _ H => X cls d H) (fun O _ => x O) → Zs c O t (startR N.length xs) ⟨fun O _ => k O (.d .none), k, fun _ _ => False, fun _ _ => False⟩)) :
    t { nx := fun _ H' => Q .non H', rt := Q } (start N vs) H := by
  obtain ⟨c, O, us, xs, k, x, S, w, b, d, p, q, e⟩ := h
  obtain ⟨hl, hw⟩ := hw c O xs k x p
  refine hw (fun O us B ρ σ H cls d fo S o xd z => e cls d fo O us B H S o.w o.b (xd_mono vis_out xd) z) _ us c.B _ _ ⟨fun O us B ρ σ H S o z => q .non (.d .none) O us B H S o.w o.b Dp.non z, fun O us B v x H S w b d z => q v x O us B H S w b d z, fun _ _ _ _ _ _ _ _ z => z.elim, fun _ _ _ _ _ _ _ _ z => z.elim⟩ S (start_ok (c := c.sto us c.B) (N := N) w b d hl)
/-! ### the caller -/
/-- the context of a call that is lent a part of the store -/
noncomputable def Ctx.shutZ (c : Ctx K) (us uR : List (Addr × HO)) (ρ : Rho) (H : Hp) (dom : ∀ a, Owns ρ a → ∃ o, H a = some o ∧ isMut o = true) : Ctx K where
  B := vis (c.sto us c.B) ρ H
  L := fun a => (c.L a ∨ a ∈ uR.map (·.1)) ∨ Owns ρ a
  W := fun H' => (c.W H' ∧ ∀ p ∈ uR, isMut p.2 = true ∧ H' p.1 = some p.2) ∧ ∀ a, Owns ρ a → H' a = H a
  loc := fun H1 H2 e t h => ⟨⟨c.loc H1 H2 (fun a ha => e a (.inl (.inl ha))) t h.1.1, fun p hp => ⟨(h.1.2 p hp).1, (e p.1 (.inl (.inr (List.mem_map_of_mem hp)))).trans (h.1.2 p hp).2⟩⟩, fun a ha => (e a (.inr ha)).trans (h.2 a ha)⟩
  dom := fun H1 h a ha => by
    rcases ha with (z | z) | z
    · exact c.dom H1 h.1.1 a z
    · obtain ⟨p, hp, rfl⟩ := List.mem_map.mp z
      exact ⟨p.2, (h.1.2 p hp).2, (h.1.2 p hp).1⟩
    · rw [h.2 a z]; exact dom a z
theorem callZ_core {P : PTZ K} {uL uR : List (Addr × HO)} {OL OR : Sto K} {vs : List V} {xs : List Dv} {Q : VK} {X : XK} {k : Sto K → Dv → Prop} {x : Sto K → Value → Option FD → Prop}
    (SL : StC c OL uL B) (SR : StC c OR uR B) (nd : ((uL ++ uR).map (·.1)).Nodup) (o : OkS c (uL ++ uR) B ρ σ H) (d : DvAll K (vis (c.sto (uL ++ uR) B) ρ H) vs xs) (h : ∀ c', Le c c' → Has c' OR → P c' OL xs k x)
    (q : ∀ v y O' us' B' H', StC c (O' ++ OR) us' B' → OkS c us' B' ρ σ H' → StpZ c ρ (uL ++ uR) H us' H' → DvOk K (vis (c.sto us' B') ρ H') v y → k O' y → Q v H')
    (e : ∀ cls d fo O' us' B' H', StC c (O' ++ OR) us' B' → OkS c us' B' ρ σ H' → StpZ c ρ (uL ++ uR) H us' H' → XdOk K (vis (c.sto us' B') ρ H') d fo → x O' cls fo → X cls d H') : spZ K P vs H Q X := by
  let cc : Ctx K := c.shutZ (uL ++ uR) uR ρ H fun a z => o.mut (.inr z)
  have hB : Ex c.B cc.B := SL.ex.trans o.base
  have hcB : cc.B = vis (c.sto (uL ++ uR) B) ρ H := rfl
  have le : Le c cc := ⟨fun _ h => .inl (.inl h), fun _ h => h.1.1, fun H1 H2 h h' e _ => ⟨⟨h', fun p hp => ⟨(h.1.2 p hp).1, (e p.1 (.inl (.inr (List.mem_map_of_mem hp))) (SR.out p hp).1).trans (h.1.2 p hp).2⟩⟩, fun a ha => (e a (.inr ha) fun z => (o.ob a ha).2 (.inl z)).trans (h.2 a ha)⟩, hB⟩
  have ndm := nd
  rw [List.map_append, List.nodup_append] at ndm
  obtain ⟨nL, nR, nLR⟩ := ndm
  have hR : ∀ {p : Addr × HO}, p ∈ uR → H p.1 = some p.2 := fun hp => (o.w.2 _ (List.mem_append_right _ hp)).2
  have hasR : Has cc OR := fun y hy => by
    obtain ⟨n, hn, e⟩ := List.mem_iff_getElem.mp hy
    obtain ⟨u1, u, u2, e1, h1, _, _⟩ := stok_at SR.ok (n := n) (x := y) (by rw [List.getElem?_eq_getElem hn, e])
    have m : ∀ p ∈ u, p ∈ uR := fun p hp => by rw [e1]; simp [hp]
    exact ⟨u, y.mono _ _ _ o.base h1, fun p hp => .inl (.inr (List.mem_map_of_mem (m p hp))), fun H' w p hp => (w.1.2 p (m p hp)).2⟩
  have lL : ∀ p ∈ uL, ¬ cc.L p.1 := fun p hp => by
    rintro ((z | z) | z)
    · exact (SL.out p hp).1 z
    · exact nLR p.1 (List.mem_map_of_mem hp) p.1 z rfl
    · exact own_out o z (by rw [List.map_append]; exact List.mem_append_left _ (List.mem_map_of_mem hp))
  have SC : StC cc OL uL cc.B := ⟨stok_mono o.base SL.ok, nL, fun p hp => ⟨lL p hp, hid_pos (.inl (.inr (by rw [List.map_append]; exact List.mem_append_left _ (List.mem_map_of_mem hp))))⟩, Evl.Ex.refl _⟩
  have visC : ∀ us' B' H', hid (cc.sto us' B').L H' = vis (c.sto (us' ++ uR) B') ρ H' := fun us' B' H' => hid_iff fun a => by
    unfold Hid
    show ((((c.L a ∨ a ∈ uR.map (·.1)) ∨ Owns ρ a)) ∨ a ∈ us'.map (·.1)) ↔ ((c.L a ∨ a ∈ (us' ++ uR).map (·.1)) ∨ Owns ρ a)
    rw [List.map_append, List.mem_append]
    constructor
    · rintro (((z | z) | z) | z)
      · exact .inl (.inl z)
      · exact .inl (.inr (.inr z))
      · exact .inr z
      · exact .inl (.inr (.inl z))
    · rintro ((z | z | z) | z)
      · exact .inl (.inl (.inl z))
      · exact .inr z
      · exact .inl (.inl (.inr z))
      · exact .inl (.inr z)
  have back : ∀ {O' us' B' H'}, StC cc O' us' B' → (cc.sto us' B').W H' → Ex B' (hid (cc.sto us' B').L H') →
      StC c (O' ++ OR) (us' ++ uR) (vis (c.sto (us' ++ uR) B') ρ H') ∧ OkS c (us' ++ uR) (vis (c.sto (us' ++ uR) B') ρ H') ρ σ H' ∧ StpZ c ρ (uL ++ uR) H (us' ++ uR) H' := fun {O' us' B' H'} S' w' b' => by
    rw [visC] at b'
    have ex1 : Ex (vis (c.sto (uL ++ uR) B) ρ H) (vis (c.sto (us' ++ uR) B') ρ H') := (show Ex cc.B B' from S'.ex).trans b'
    have o2 : OkS c (us' ++ uR) B ρ σ H' := o.mk' w'.1.1.1 (fun p hp => by
      rcases List.mem_append.mp hp with z | z
      · exact w'.2 p z
      · exact w'.1.1.2 p z) (fun a ha z => by
      rw [List.map_append, List.mem_append] at ha
      rcases ha with y | y
      · obtain ⟨p, hp, rfl⟩ := List.mem_map.mp y
        exact (S'.out p hp).1 (.inr z)
      · exact own_out o z (by rw [List.map_append]; exact List.mem_append_right _ y)) ex1 fun a z => w'.1.2 a z
    refine ⟨⟨stok_app (stok_mono b' S'.ok) (stok_mono (o.base.trans ex1) SR.ok), ?_, fun p hp => ?_, SL.ex.trans (o.base.trans ex1)⟩, (show OkS c (us' ++ uR) (vis (c.sto (us' ++ uR) B) ρ H') ρ σ H' from Ok.at' o2), ex1, fun a z => w'.1.2 a z⟩
    · rw [List.map_append, List.nodup_append]
      refine ⟨S'.nd, nR, fun a ha b hb z => ?_⟩
      subst z
      obtain ⟨p, hp, rfl⟩ := List.mem_map.mp ha
      exact (S'.out p hp).1 (.inl (.inr hb))
    · rcases List.mem_append.mp hp with z | z
      · exact ⟨fun y => (S'.out p z).1 (.inl (.inl y)), fresh_back hB (S'.out p z).2⟩
      · exact SR.out p z
  refine ⟨cc, OL, uL, xs, k, x, SC, ⟨⟨⟨o.w.1, fun p hp => o.w.2 p (List.mem_append_right _ hp)⟩, fun _ _ => rfl⟩, fun p hp => o.w.2 p (List.mem_append_left _ hp)⟩, ?_, d, h cc le hasR, fun v y O' us' B' H' S' w' b' dv ky => ?_, fun cls d fo O' us' B' H' S' w' b' xd kx => ?_⟩
  · rw [visC]
    exact hcB
  · obtain ⟨S2, o2, s2⟩ := back S' w' b'
    rw [visC] at dv
    exact q v y O' _ _ H' S2 o2 s2 dv ky
  · obtain ⟨S2, o2, s2⟩ := back S' w' b'
    rw [visC] at xd
    exact e cls d fo O' _ _ H' S2 o2 s2 xd kx
/-- a store in another row -/
theorem sto_perm {us us' : List (Addr × HO)} (p : us.Perm us') : Ok (c.sto us B) ρ σ H → Ok (c.sto us' B) ρ σ H := fun o => by
  have hm : ∀ a, a ∈ us'.map (·.1) ↔ a ∈ us.map (·.1) := fun a => (p.map _).mem_iff.symm
  exact OkS.mk' o o.w.1 (fun q hq => o.w.2 q (p.mem_iff.mpr hq)) (fun a ha z => own_out o z ((hm a).mp ha)) (by
    have : vis (c.sto us B) ρ H = vis (c.sto us' B) ρ H := hid_iff fun a => by
      unfold Hid
      show (c.L a ∨ _) ∨ _ ↔ (c.L a ∨ _) ∨ _
      rw [hm a]
    rw [this]; exact Evl.Ex.refl _) fun _ _ => rfl
theorem vis_perm {us us' : List (Addr × HO)} (p : us.Perm us') : vis (c.sto us B) ρ H = vis (c.sto us' B) ρ H := hid_iff fun a => by
  have hm : a ∈ us'.map (·.1) ↔ a ∈ us.map (·.1) := (p.map _).mem_iff.symm
  unfold Hid
  show (c.L a ∨ _) ∨ _ ↔ (c.L a ∨ _) ∨ _
  rw [hm]
theorem stok_perm {G : Hp} {O O' : Sto K} (p : O.Perm O') : ∀ {us}, StOk K G us O → ∃ us', us.Perm us' ∧ StOk K G us' O' := by
  induction p with
  | nil => intro us h; cases h; exact ⟨[], .nil, .nil⟩
  | cons x _ ih =>
    intro us h
    cases h with
    | cons h t =>
      obtain ⟨us', p', h'⟩ := ih t
      exact ⟨_, List.Perm.append_left _ p', .cons h h'⟩
  | swap x y l =>
    intro us h
    cases h with
    | cons h t =>
      cases t with
      | cons h2 t =>
        refine ⟨_, ?_, .cons h2 (.cons h t)⟩
        rw [← List.append_assoc, ← List.append_assoc]
        exact List.Perm.append_right _ List.perm_append_comm
  | trans _ _ ih1 ih2 =>
    intro us h
    obtain ⟨us', p', h'⟩ := ih1 h
    obtain ⟨us2, p2, h2⟩ := ih2 h'
    exact ⟨us2, p'.trans p2, h2⟩
theorem StC.perm (p : O.Perm O') (S : StC c O us B) : ∃ us', us.Perm us' ∧ StC c O' us' B := by
  obtain ⟨us', p', h'⟩ := stok_perm p S.ok
  exact ⟨us', p', h', (p'.map _).nodup_iff.mp S.nd, fun q hq => S.out q (p'.mem_iff.mpr hq), S.ex⟩
theorem zs_perm {t : TS} {E : DZ K} (p : O.Perm O') (h : Zs c O' t ρ E) : Zs c O t ρ E := fun D us B σ H e S o => by
  obtain ⟨us', p', S'⟩ := S.perm p
  exact h D us' B σ H e S' (sto_perm p' o)
variable {k : Sto K → Dv → Prop} {ta tb te ti : TE} {t u : TS} {tc : TT} {E : DZ K}
/-- what is lent comes first -/
theorem StC.split {OL OR : Sto K} (p : O.Perm (OL ++ OR)) (S : StC c O us B) : ∃ uL uR, us.Perm (uL ++ uR) ∧ StC c OL uL B ∧ StC c OR uR B ∧ ((uL ++ uR).map (·.1)).Nodup := by
  obtain ⟨us', p', S'⟩ := S.perm p
  obtain ⟨uL, uR, e, h1, h2⟩ := stok_split S'.ok
  subst e
  have nd := S'.nd
  rw [List.map_append, List.nodup_append] at nd
  exact ⟨uL, uR, p', ⟨h1, nd.1, fun q hq => S'.out q (List.mem_append_left _ hq), S'.ex⟩, ⟨h2, nd.2.1, fun q hq => S'.out q (List.mem_append_right _ hq), S'.ex⟩, S'.nd⟩
theorem ze_callZ {P : PTZ K} {X : XK} {t : TA} (h : Za c O t ρ fun O1 xs => ∃ OL OR, O1.Perm (OL ++ OR) ∧ ∀ c', Le c c' → Has c' OR → P c' OL xs (fun O' y => k (O' ++ OR) y) fun _ _ _ => False) : Ze c O (tCall (spZ K P) [] X t) ρ k := fun us B σ H Q S o q =>
  h us B σ H _ S o fun vs xs O1 us1 B1 H1 S1 o1 s1 d1 ⟨OL, OR, p, h1⟩ => by
    rw [List.append_nil]
    obtain ⟨uL, uR, p', SL, SR, nd⟩ := S1.split p
    refine callZ_core SL SR nd (sto_perm p' o1) (by rw [← vis_perm p']; exact d1) h1 (fun v y O' us' B' H' S' o' s' dv ky => ?_) fun _ _ _ _ _ _ _ _ _ _ _ z => z.elim
    exact q v y _ us' B' H' S' o' (s1.trans ⟨by have := s'.ex; rwa [← vis_perm p'] at this, s'.own⟩) dv ky
theorem ze_callZS {P : PTZ K} {W : WX} {x : Sto K → Rho → Value → Option FD → Prop} {t : TA} (hx : XOkZ c W x) (h : Za c O t ρ fun O1 xs => ∃ OL OR, O1.Perm (OL ++ OR) ∧ ∀ c', Le c c' → Has c' OR → P c' OL xs (fun O' y => k (O' ++ OR) y) fun O' => x (O' ++ OR) ρ) : Ze c O (tCallS (spZ K P) (WE W) t) ρ k := fun us B σ H Q S o q =>
  h us B σ H _ S o fun vs xs O1 us1 B1 H1 S1 o1 s1 d1 ⟨OL, OR, p, h1⟩ => by
    obtain ⟨uL, uR, p', SL, SR, nd⟩ := S1.split p
    refine callZ_core SL SR nd (sto_perm p' o1) (by rw [← vis_perm p']; exact d1) h1 (fun v y O' us' B' H' S' o' s' dv ky => ?_) fun cls d fo O' us' B' H' S' o' s' xd kx => ?_
    · exact q v y _ us' B' H' S' o' (s1.trans ⟨by have := s'.ex; rwa [← vis_perm p'] at this, s'.own⟩) dv ky
    · exact hx _ us' B' ρ σ H' cls d fo S' o' xd kx
/-- old defs, called over a store -/
theorem ze_call {P : PT0 K} {X : XK} {t : TA} (h : Za c O t ρ fun O1 xs => ∀ c', Le c c' → Has c' O1 → P c' xs (k O1) fun _ => False) : Ze c O (tCall (spD K P) [] X t) ρ k := fun us B σ H Q S o q =>
  h us B σ H _ S o fun vs xs O1 us1 B1 H1 S1 o1 s1 d1 h1 => by
    rw [List.append_nil]
    exact call_core o1 d1 (fun c' le => h1 c' ((le_sto S1).trans le) (S1.has.le le)) (fun v x H' o' s d kx => q v x O1 us1 B1 H' S1 o' (s1.trans (StpZ.of s)) d kx) fun _ _ _ _ z => z.elim
/-- a def over a store, called where none is lent -/
theorem we_callZ {P : PTZ K} {X : XK} {t : TA} {k : Dv → Prop} (h : Wa c t ρ fun xs => ∀ c', Le c c' → P c' [] xs (fun O' y => O' = [] ∧ k y) fun _ _ _ => False) : We c (tCall (spZ K P) [] X t) ρ k := fun σ H Q o q => by
  have e0 : ∀ B', c.sto [] B' = c.at B' := fun B' => by
    unfold Ctx.sto Ctx.at
    congr 1
    · funext a; simp
    · funext H; simp
  have S0 : StC c [] [] c.B := ⟨.nil, by simp, by simp, Evl.Ex.refl _⟩
  have o0 : OkS c [] c.B ρ σ H := by
    show Ok (c.sto [] c.B) ρ σ H
    rw [e0]; exact o
  refine h σ H _ o fun vs xs H1 o1 e1 d1 h1 => ?_
  rw [List.append_nil]
  have o1' : OkS c [] c.B ρ σ H1 := by
    show Ok (c.sto [] c.B) ρ σ H1
    rw [e0]; exact o1
  refine callZ_core (uL := []) (uR := []) (OL := []) (OR := []) S0 S0 (by simp) o1' (by
    show DvAll K (vis (c.sto [] c.B) ρ H1) vs xs
    rw [e0]; exact d1) (fun c' le _ => h1 c' le) (fun v y O' us' B' H' S' o' s' dv ky => ?_) fun _ _ _ _ _ _ _ _ _ _ _ z => z.elim
  obtain ⟨z, ky⟩ := ky
  subst z
  have ok' := S'.ok
  rw [List.nil_append] at ok'
  cases ok'
  have o2 : Ok c ρ σ H' := ok_le (le_at S'.ex) (by rw [← e0]; exact o')
  have s2 : Stp c ρ H1 H' := ⟨by
    have := s'.ex
    simp only [List.append_nil] at this
    rw [e0] at this
    exact this, s'.own⟩
  refine q v y H' o2 (e1.trans s2) ?_ ky
  rw [e0] at dv
  exact dv
end
end Py

set_option Elab.async false
set_option linter.all false
set_option autoImplicit false
set_option maxRecDepth 100000
set_option maxHeartbeats 4000000
/-! Dicts in the store: keys ints and texts. -/
namespace Py
open PySem hiding start
open L2
open Evl (Ex ex_rd ex_l ex_t fresh_back)
open Classical
section
variable {K : PySem.W.Frag} {c c' : Ctx K} {ρ : Rho} {B : Hp} {O O' : Sto K} {us us' us2 : List (Addr × HO)} {H H1 H2 : Hp} {σ : L2.St}
theorem KD.mono {κ : Type} {G G' : Hp} (e : Ex G G') {ws : List (κ × V)} {kvs : List (κ × PyData)} (h : KD K G ws kvs) : KD K G' ws kvs := ⟨h.k, dpa_mono e _ _ h.d⟩
/-- a dict -/
def DkO (d : Addr) (kvs : List (Key × PyData)) : OC K := ⟨fun G u => ∃ ws, u = [(d, .dK ws)] ∧ KD K G ws kvs, fun G G' u e ⟨ws, h1, h2⟩ => ⟨ws, h1, h2.mono e⟩⟩
/-- a dict that is locked -/
def DkF (d : Addr) (od : Obj) (ws : List (Key × V)) (kvs : List (Key × PyData)) : OC K := ⟨fun G u => u = [(d, .frz od (.dK ws))] ∧ KD K G ws kvs, fun G G' u e ⟨h1, h2⟩ => ⟨h1, h2.mono e⟩⟩
theorem one_dk {d : Addr} {kvs : List (Key × PyData)} : OneAt (DkO (K := K) d kvs) d := fun G u ⟨ws, h, _⟩ => ⟨_, h⟩
theorem one_dkf {d : Addr} {od : Obj} {ws : List (Key × V)} {kvs : List (Key × PyData)} : OneAt (DkF (K := K) d od ws kvs) d := fun G u ⟨h, _⟩ => ⟨_, h⟩
theorem dk_at (S : StC c O us B) (o : OkS c us B ρ σ H) {n : Nat} {d : Addr} {kvs : List (Key × PyData)} (hn : O[n]? = some (DkO d kvs)) : ∃ ws, H d = some (.dK ws) ∧ KD K (vis (c.sto us B) ρ H) ws kvs := by
  obtain ⟨u, ⟨vs, rfl, h2⟩, h3⟩ := st_at S o hn
  exact ⟨vs, (h3 _ (List.mem_singleton.mpr rfl)).2, h2⟩
theorem dkf_at (S : StC c O us B) (o : OkS c us B ρ σ H) {n : Nat} {d : Addr} {od : Obj} {ws : List (Key × V)} {kvs : List (Key × PyData)} (hn : O[n]? = some (DkF d od ws kvs)) : H d = some (.frz od (.dK ws)) ∧ KD K (vis (c.sto us B) ρ H) ws kvs := by
  obtain ⟨u, ⟨rfl, h2⟩, h3⟩ := st_at S o hn
  exact ⟨(h3 _ (List.mem_singleton.mpr rfl)).2, h2⟩
/-! reading a dict that the context knows -/
def DkAt (c : Ctx K) (d : Addr) (kvs : List (Key × PyData)) : Prop := ∃ ws, KD K c.B ws kvs ∧ ∀ H, c.W H → Rd H d (.dK ws)
theorem DkAt.of {d : Addr} {kvs : List (Key × PyData)} (h : At c (DkO d kvs)) : DkAt c d kvs := by
  obtain ⟨u, ⟨ws, rfl, h2⟩, _, h3⟩ := h
  exact ⟨ws, h2, fun H w => .inl (h3 H w _ (List.mem_singleton.mpr rfl))⟩
theorem DkAt.ofF {d : Addr} {od : Obj} {ws : List (Key × V)} {kvs : List (Key × PyData)} (h : At c (DkF d od ws kvs)) : DkAt c d kvs := by
  obtain ⟨u, ⟨rfl, h2⟩, _, h3⟩ := h
  exact ⟨ws, h2, fun H w => .inr ⟨od, h3 H w _ (List.mem_singleton.mpr rfl)⟩⟩
theorem At.dkf {d : Addr} {od : Obj} {ws : List (Key × V)} {kvs : List (Key × PyData)} (h : At c (DkF d od ws kvs)) : KD K c.B ws kvs ∧ ∀ H, c.W H → H d = some (.frz od (.dK ws)) := by
  obtain ⟨u, ⟨rfl, h2⟩, _, h3⟩ := h
  exact ⟨h2, fun H w => h3 H w _ (List.mem_singleton.mpr rfl)⟩
theorem DkAt.le {d : Addr} {kvs : List (Key × PyData)} (h : DkAt c d kvs) (le : Le c c') : DkAt c' d kvs := by
  obtain ⟨ws, h1, h2⟩ := h
  exact ⟨ws, h1.mono le.B, fun H w => h2 H (le.W H w)⟩
variable {td ty tx te tl ta tb : TE} {k0 : Dv → Prop}
theorem dgetAt {σ : L2.St} {H1 : Hp} {d : Addr} {kvs : List (Key × PyData)} (h : DkAt c d kvs) (o1 : Ok c ρ σ H1) {v : V} {ks : Key} (dv : DvOk K (vis c ρ H1) v (.d (keyD ks))) :
    (valD kvs ks = none ∧ DGet H1 d v none) ∨ ∃ w x, valD kvs ks = some x ∧ DGet H1 d v (some w) ∧ Dp K (vis c ρ H1) w x := by
  obtain ⟨ws, kd, h1⟩ := h
  obtain rfl := dp_key (k := ks) dv
  have g : DGet H1 d (kV ks) (valV ws ks) := .inl ⟨ws, ks, h1 H1 o1.w, rfl, rfl⟩
  rcases (kd.mono o1.base).val ks with ⟨a1, a2⟩ | ⟨w, x, a1, a2, a3⟩
  · rw [a2] at g; exact .inl ⟨a1, g⟩
  · rw [a2] at g; exact .inr ⟨w, x, a1, g, a3⟩
theorem we_getAt (h : We c td ρ fun x => ∃ d kvs, x = .r (.ref d) ∧ DkAt c d kvs ∧ We c ty ρ fun y => ∃ ks v, y = .d (keyD ks) ∧ valD kvs ks = some v ∧ k0 (.d v)) : We c (tDGet td ty) ρ k0 := fun σ H Q o q =>
  h σ H _ o fun w x H1 o1 e1 d1 ⟨d, kvs, hx, hd, hk⟩ => hk σ H1 _ o1 fun v y H2 o2 e2 dy ⟨ks, z, hy, hv, kx⟩ => by
    subst hx hy
    obtain rfl : w = V.ref d := d1
    rcases dgetAt hd o2 dy with ⟨a1, g⟩ | ⟨w', x, a1, g, dw⟩
    · rw [hv] at a1; cases a1
    · rw [hv] at a1; cases a1
      exact ⟨d, w', rfl, g, q w' (.d _) H2 o2 (e1.trans e2) dw kx⟩
theorem we_get2At (h : We c td ρ fun x => ∃ d kvs, x = .r (.ref d) ∧ DkAt c d kvs ∧ We c ty ρ fun y => We c tx ρ fun z => ∃ ks d0, y = .d (keyD ks) ∧ z = .d d0 ∧ k0 (.d ((valD kvs ks).getD d0))) : We c (tDGet2 td ty tx) ρ k0 := fun σ H Q o q =>
  h σ H _ o fun w x H1 o1 e1 d1 ⟨d, kvs, hx, hd, hk⟩ => by
    subst hx
    obtain rfl : w = V.ref d := d1
    obtain ⟨ws, kd, hr⟩ := hd
    refine ⟨d, rfl, .inl ⟨ws, hr H1 o1.w⟩, hk σ H1 _ o1 fun v y H2 o2 e2 dy hz => hz σ H2 _ o2 fun z zd H3 o3 e3 dz ⟨ks, d0, hy, hz', kx⟩ => ?_⟩
    subst hy hz'
    rcases dgetAt ⟨ws, kd, hr⟩ o3 (dv_mono e3.ex dy) with ⟨a1, g⟩ | ⟨w', x, a1, g, dw⟩
    · rw [a1] at kx
      exact ⟨none, g, q z (.d _) H3 o3 ((e1.trans e2).trans e3) dz kx⟩
    · rw [a1] at kx
      exact ⟨some w', g, q w' (.d _) H3 o3 ((e1.trans e2).trans e3) dw kx⟩
/-! walking a locked dict that the context knows -/
theorem key_at_ws {d : Addr} {od : Obj} {ws : List (Key × V)} {kvs : List (Key × PyData)} (kd : KD K B ws kvs) {i : Nat} {k : Key} {v : V} (h : ws[i]? = some (k, v)) : (kvs.map (·.1))[i]? = some k := by
  rw [← kd.k, List.getElem?_map, h]; rfl
theorem ws_forK {g : TG} {t : TS} {E : DE} (js : List Nat) (h : We c td ρ fun x => ∃ d od ws kvs, x = .r (.ref d) ∧ At c (DkF d od ws kvs) ∧ ∃ P : Nat → Rho → Prop, P 0 ρ ∧
    (∀ i k ρ', (kvs.map (·.1))[i]? = some k → P i ρ' → Wg c g js (.d (keyD k)) ρ' fun ρ2 => Ws c t ρ2 { E with nx := P (i + 1), ct := P (i + 1), bk := E.nx }) ∧ ∀ ρ', P kvs.length ρ' → E.nx ρ') : Ws c (tFor (iKeys td) g t) ρ E := fun D σ H e o =>
  h σ H _ o fun w x H1 o1 e1 d1 ⟨d, od, ws, kvs, hx, hd, P, p0, ps, pd⟩ => by
    subst hx
    obtain rfl : w = V.ref d := d1
    obtain ⟨kd, hW⟩ := hd.dkf
    refine ⟨d, od, rfl, .inl ⟨ws, hW H1 o1.w, for_it (walk_keys (d := d) (o := od) (kvs := ws)) (fun i σ' H' => ∃ ρ', Ok c ρ' σ' H' ∧ P i ρ') ⟨ρ, o1, p0⟩ (fun i σ' H' _ ⟨ρ', o', _⟩ => hW H' o'.w) ?_ ?_⟩⟩
    · rintro i x σ' H0 H' hi ⟨ρ', o', p'⟩ ⟨rfl, k, v, hk, rfl⟩
      refine ps i k ρ' (key_at_ws (d := d) (od := od) kd hk) p' σ' _ _ _ o' (key_dp k) fun ρ2 σ2 o2 _ _ _ _ w => ?_
      exact w { D with nx := fun σ' H' => ∃ ρ', Ok c ρ' σ' H' ∧ P (i + 1) ρ', ct := fun σ' H' => ∃ ρ', Ok c ρ' σ' H' ∧ P (i + 1) ρ', bk := D.nx } σ2 _ (e.loop fun ρ σ H o p => ⟨ρ, o, p⟩) o2
    · rintro σ' H' ⟨ρ', o', p'⟩
      rw [kd.len] at p'
      exact e.nx ρ' σ' H' o' (pd ρ' p')
theorem wf_lcK {g : TG} {tt : TT} {vs : List Nat} {k : List PyData → Prop} (js : List Nat) (hj : ∀ i ∈ js, i ∈ vs) (hw : (vs.all fun v => (ρ[v]?.map isOwn) == some false) = true) (h : We c td ρ fun x => ∃ d od ws kvs, x = .r (.ref d) ∧ At c (DkF d od ws kvs) ∧ kvs.length ≤ 100000 ∧ ∃ P : Nat → List PyData → Prop, P 0 [] ∧
    (∀ c' : Ctx K, Le c c' → ∀ i kk acc, (kvs.map (·.1))[i]? = some kk → acc.length ≤ i → P i acc → Wg c' g js (.d (keyD kk)) (wipeR ρ vs) fun ρ2 => Wt c' tt ρ2 fun b => (b = true → We c' te ρ2 fun y => ∃ d, y = .d d ∧ P (i + 1) (acc ++ [d])) ∧ (b = false → P (i + 1) acc)) ∧
    ∀ acc, acc.length ≤ kvs.length → P kvs.length acc → k acc) : Wf c (tLc (iKeys td) g tt te vs) ρ k := fun σ H Q o q =>
  h σ H _ o fun w x H1 o1 e1 d1 ⟨d0, od, ws0, kvs, hx, hd0, hz, P, p0, ps, pd⟩ => by
    subst hx
    obtain rfl : w = V.ref d0 := d1
    obtain ⟨kd, hW⟩ := hd0.dkf
    refine ⟨d0, od, rfl, .inl ⟨ws0, hW H1 o1.w, fun D hD => ?_⟩⟩
    have nD : ¬ Hid c ρ D := o1.nh hD
    have nDL : ¬ c.L D := fun z => nD (.inl z)
    -- what stood ahead of the list, for all turns
    let B1 : Hp := vis c ρ H1
    have bB : Ex c.B B1 := o1.base
    have B1D : B1 D = none := hid_none hD
    have own0 : ∀ a, Owns ρ a → B1 a = none := fun a z => hid_pos (.inr z)
    let Pv : Nat → Hp → Prop := fun i H' => ∃ (ws : List V) (acc : List PyData), H' D = some (.lst ws) ∧ Ok (c.at B1) ρ σ H' ∧ Stp c ρ H1 H' ∧ DpAll K (hid (· = D) (vis c ρ H')) ws acc ∧ acc.length ≤ i ∧ P i acc
    have hH0 : H D = none := by
      cases z : H D with
      | none => rfl
      | some ob =>
        have := e1.ex D ob (by unfold vis; rw [hid_neg nD]; exact z)
        rw [vis, hid_none hD] at this; cases this
    refine lc_it (walk_keys (d := d0) (o := od) (kvs := ws0)) Pv ?_ ?_ ?_ ?_
    · obtain ⟨o2, e2⟩ := o1.new (o := .lst []) hD
      have o2' : Ok (c.at B1) ρ σ (upd H1 D (.lst [])) := ⟨o2.w, e2.ex.trans vis_out, fun l z => ⟨own0 l z, (o2.ob l z).2⟩, o2.sl, o2.one, o2.len⟩
      exact ⟨[], [], upd_same, o2', e2, .nil, Nat.le_refl 0, p0⟩
    · rintro i H' _ ⟨ws, acc, _, o', _, _, _, _⟩
      exact hW H' o'.w
    · rintro i y H0 H' hi0 ⟨ws, acc, hD', o', s', dacc, hl, p'⟩ ⟨rfl, kk, vv, hy, rfl⟩
      have hd := key_at_ws (d := d0) (od := od) kd hy
      have dd : ∀ {G : Hp}, Dp K G (kV kk) (keyD kk) := key_dp kk
      have hi : i < 100000 := by
        have := kd.len
        omega
      -- the context of this turn
      let B2 : Hp := hid (· = D) (vis c ρ H')
      have bB2 : Ex B1 B2 := fun b ob z => by
        have nb : b ≠ D := fun q => by rw [q, B1D] at z; cases z
        exact (hid_neg (L := fun x => x = D) nb).trans (s'.ex b ob z)
      let c2 : Ctx K := c.hide D (.lst ws) B2
      have le : Le c c2 := le_hide nDL (bB.trans bB2)
      have visE : ∀ (ρ2 : Rho) (H2 : Hp), Ex (vis c2 ρ2 H2) (hid (· = D) (vis c ρ2 H2)) := fun ρ2 H2 b ob z => by
        obtain ⟨n1, z⟩ := hid_some z
        have nb : b ≠ D := fun q => n1 (.inl (.inr q))
        refine (hid_neg (L := fun x => x = D) nb).trans ((hid_neg fun q => n1 (q.imp .inl id)).trans z)
      have visE' : ∀ (ρ2 : Rho) (H2 : Hp), Ex (hid (· = D) (vis c ρ2 H2)) (vis c2 ρ2 H2) := fun ρ2 H2 b ob z => by
        obtain ⟨nb, z⟩ := hid_some z
        obtain ⟨n1, z⟩ := hid_some z
        refine (hid_neg fun q => ?_).trans z
        rcases q with (q | q) | q
        · exact n1 (.inl q)
        · exact nb q
        · exact n1 (.inr q)
      have oD : ∀ (l : Addr), Owns ρ l → l ≠ D := fun l z q => nD (.inr (q ▸ z))
      have slots : ∀ (j : Nat) (s : Slot), ρ[j]? = some s → ∃ ob, σ[j]? = some ob ∧ SlotOk K (vis c2 ρ H') H' ob s := fun j s hs' => by
        obtain ⟨u1, q1, z1⟩ := (o1.clean s' hD j s hs')
        refine ⟨u1, q1, ?_⟩
        cases s with
        | un => trivial
        | val y => obtain ⟨w, w1, w2⟩ := z1; exact ⟨w, w1, dv_mono (visE' ρ H') w2⟩
        | own l ys => obtain ⟨w, w1, w2, w3⟩ := z1; exact ⟨w, w1, w2, own_mono (visE' ρ H') _ _ w3⟩
      have o2 : Ok c2 ρ σ H' := ⟨⟨o'.w, hD'⟩, (visE' ρ H').trans vis_out, fun l z => ⟨(show hid (· = D) (vis c ρ H') l = none from hid_none' (hid_pos (Or.inr z))), fun q => q.elim (o'.ob l z).2 (oD l z)⟩, slots, o'.one, o'.len⟩
      have o3 : Ok c2 (wipeR ρ vs) (L2.wipe σ vs) H' := o2.wipe vs
      have ev : Ex (vis c2 ρ H') (vis c2 (wipeR ρ vs) H') := hid_less fun b z => z.imp id owns_wipe
      have dd2 : Dp K (vis c2 (wipeR ρ vs) H') (kV kk) (keyD kk) := key_dp kk
      refine ps c2 le i kk acc hd hl p' (L2.wipe σ vs) H' _ _ o3 dd2 fun ρ4 σ4 o4 a4 l4 b4 b4' w4 => ⟨wipe_eq hj a4 l4, ?_⟩
      refine w4 σ4 H' _ o4 fun b H5 o5 s5 z5 => ?_
      -- what is the same again once the element is told
      have back : ∀ H6, Ok c2 ρ4 σ4 H6 → Stp c2 ρ4 H' H6 → H6 D = some (.lst ws) ∧ (∀ a, Owns ρ a → H6 a = H' a) ∧ Ex (vis c2 ρ H') (vis c2 ρ H6) := fun H6 o6 s6 => by
        refine ⟨o6.w.2, fun a z => s6.own a (b4 a (owns_wipe' hw z).1), fun b ob z => ?_⟩
        · obtain ⟨n1, z⟩ := hid_some z
          have n2 : ¬ Hid c2 ρ4 b := fun q => n1 (q.imp id fun q => owns_wipe (b4' b q))
          have := s6.ex b ob (by unfold vis; rw [hid_neg n2]; exact z)
          unfold vis
          rw [hid_neg n1]
          exact (hid_some this).2
      cases b with
      | false =>
        rw [if_neg Bool.false_ne_true]
        obtain ⟨hD5, ow5, ex5⟩ := back H5 o5 s5
        have exA : Ex (vis c ρ H') (vis c ρ H5) := fun b ob z => by
          by_cases nb : b = D
          · subst nb
            unfold vis at *
            rw [hid_neg nD] at *
            rw [hD'] at z
            rw [hD5]; exact z
          · have := ex5 b ob (visE' ρ H' b ob ((hid_neg (L := fun x => x = D) nb).trans z))
            exact hid_sub b ob (visE ρ H5 b ob this)
        have stp : Stp c ρ H' H5 := ⟨exA, ow5⟩
        refine ⟨ws, acc, hD5, o'.grow o5.w.1 exA ow5, s'.trans stp, dpa_mono (fun b ob z => visE ρ H5 b ob (ex5 b ob (visE' ρ H' b ob z))) _ _ dacc, Nat.le_succ_of_le hl, z5.2 rfl⟩
      | true =>
        rw [if_pos rfl]
        refine z5.1 rfl σ4 H5 _ o5 fun v6 y6 H6 o6 s6 d6 ⟨d, hy6, p6⟩ => ?_
        subst hy6
        obtain ⟨hD6, ow6, ex6⟩ := back H6 o6 (s5.trans s6)
        refine ⟨ws, hD6, ?_, ?_⟩
        · have w1 := dpa_len dacc
          exact Evl.sz_lt (by omega)
        · -- the list has one more
          have ow7 : ∀ a, Owns ρ a → upd H6 D (.lst (ws ++ [v6])) a = H' a := fun a z => (upd_ne (oD a z)).trans (ow6 a z)
          have e67 : Ex (hid (· = D) (vis c ρ H6)) (hid (· = D) (vis c ρ (upd H6 D (.lst (ws ++ [v6]))))) := fun b ob z => by
            obtain ⟨nb, z⟩ := hid_some z
            obtain ⟨n1, z⟩ := hid_some z
            refine (hid_neg (L := fun x => x = D) nb).trans ((hid_neg n1).trans ((upd_ne nb).trans z))
          have exB : Ex (hid (· = D) (vis c ρ H')) (hid (· = D) (vis c ρ (upd H6 D (.lst (ws ++ [v6]))))) := fun b ob z => e67 b ob (visE ρ H6 b ob (ex6 b ob (visE' ρ H' b ob z)))
          have w7 : c.W (upd H6 D (.lst (ws ++ [v6]))) := c.loc _ _ (fun a z => upd_ne fun q => nDL (q ▸ z)) (tp_lst hD6) o6.w.1
          have o7 : Ok (c.at B1) ρ σ (upd H6 D (.lst (ws ++ [v6]))) := by
            refine ⟨w7, fun b ob z => ?_, o'.ob, fun j s hs' => ?_, o'.one, o'.len⟩
            · have := exB b ob (bB2 b ob z)
              exact vis_out b ob (hid_sub b ob this)
            · obtain ⟨u1, q1, z1⟩ := (o1.clean s' hD j s hs')
              refine ⟨u1, q1, ?_⟩
              cases s with
              | un => trivial
              | val y => obtain ⟨w, w1, w2⟩ := z1; exact ⟨w, w1, dv_mono (exB.trans hid_sub) w2⟩
              | own l ys =>
                obtain ⟨w, w1, w2, w3⟩ := z1
                exact ⟨w, w1, (ow7 l ⟨ys, List.mem_of_getElem? hs'⟩).trans w2, own_mono (exB.trans hid_sub) _ _ w3⟩
          refine ⟨ws ++ [v6], acc ++ [d], upd_same, o7, ⟨fun b ob z => ?_, fun a z => (ow7 a z).trans (s'.own a z)⟩, ?_, by simp; omega, p6⟩
          · have nb : b ≠ D := fun q => by subst q; rw [vis, hid_none hD] at z; cases z
            have := exB b ob ((hid_neg (L := fun x => x = D) nb).trans (s'.ex b ob z))
            exact hid_sub b ob this
          · refine dpa_app (dpa_mono exB _ _ dacc) (.cons (dp_mono (fun b ob z => ?_) _ _ d6) .nil)
            -- what the element is made of
            have z0 := visE ρ4 H6 b ob z
            obtain ⟨nb, z1⟩ := hid_some z0
            obtain ⟨n1, z2⟩ := hid_some z1
            refine e67 b ob ((hid_neg (L := fun x => x = D) nb).trans ((hid_neg fun q => ?_).trans z2))
            rcases q with q | q
            · exact n1 (.inl q)
            · exact n1 (.inr (b4 b (owns_wipe' hw q).1))
    · rintro H' ⟨ws, acc, hD', o', s', dacc, hl, p'⟩
      rw [kd.len] at *
      exact q D ws acc H' hH0 hD' (ok_at bB o') (e1.trans s') dacc (pd acc hl p')
/-! ### in the store -/
variable {k : Sto K → Dv → Prop} {tv : TE} {t u : TS} {E : DZ K}
theorem ze_dnewK (h : ∀ d, k (O ++ [DkO d []]) (.r (.ref d))) : Ze c O tDNewK ρ k := fun us B σ H Q S o q p hp => by
  obtain ⟨us', B', S', o', s'⟩ := st_new S o (x := DkO p []) hp rfl ⟨[], rfl, KD.nil⟩
  exact q _ (.r (.ref p)) _ us' B' _ S' o' s' rfl (h p)
theorem zs_dputK (h : Ze c O tv ρ fun O1 z => Ze c O1 td ρ fun O2 x => Ze c O2 ty ρ fun O3 y => ∃ (d : Addr) (n : Nat) (kvs : List (Key × PyData)) (ks : Key) (d0 : PyData), x = .r (.ref d) ∧ z = .d d0 ∧ y = .d (keyD ks) ∧ O3[n]? = some (DkO d kvs) ∧ kvs.length < 100000 ∧ E.nx (O3.set n (DkO d (putD kvs ks d0))) ρ) :
    Zs c O (sDPut td ty tv) ρ E := fun D us B σ H e S o =>
  h us B σ H _ S o fun v z O1 us1 B1 H1 S1 o1 s1 d1 h1 => h1 us1 B1 σ H1 _ S1 o1 fun w x O2 us2 B2 H2 S2 o2 s2 d2 h2 => h2 us2 B2 σ H2 _ S2 o2 fun u y O3 us3 B3 H3 S3 o3 s3 d3 ⟨d, n, kvs, ks, d0, hx, hz, hy, hn, hl, nx⟩ => by
    subst hx hy hz
    obtain rfl : w = V.ref d := d2
    obtain rfl := dp_key (k := ks) d3
    obtain ⟨ws, g1, g2⟩ := dk_at S3 o3 hn
    have kp := g2.put ks (v := v) (d := d0) (dp_mono (s2.ex.trans s3.ex) _ _ d1)
    obtain ⟨us', B', S', o', s'⟩ := st_put S3 o3 hn one_dk (x' := DkO d (putD kvs ks d0)) (ob' := .dK (putK ws ks v)) rfl ⟨_, rfl, kp⟩
    exact ⟨d, _, rfl, DPut.k g1 (Evl.sz_lt (by rw [g2.len]; exact hl)), e.nx _ us' B' ρ σ _ S' o' nx⟩
/-- dict(d) -/
def rDictK : List V → Hp → VK → Prop := fun xs H Q => ∃ (a : Addr) (kvs : List (Key × V)), xs = [.ref a] ∧ Rd H a (.dK kvs) ∧ ∀ p, H p = none → Q (.ref p) (upd H p (.dK kvs))
theorem call_dictK {X : Cx} : CallR X (.type "dict") rDictK := call_dictD
theorem ze_dictK {ts : TA} (h : Za c O ts ρ fun O1 xs => ∃ (d : Addr) (n : Nat) (kvs : List (Key × PyData)), xs = [.r (.ref d)] ∧ O1[n]? = some (DkO d kvs) ∧ ∀ p, k (O1 ++ [DkO p kvs]) (.r (.ref p))) : Ze c O (tCB rDictK ts) ρ k := fun us B σ H Q S o q =>
  h us B σ H _ S o fun vs xs O1 us1 B1 H1 S1 o1 s1 d1 ⟨d, n, kvs, hx, hn, hk⟩ => by
    subst hx
    cases d1 with
    | cons a1 a2 =>
      cases a2
      obtain rfl : _ = V.ref d := a1
      obtain ⟨ws, g1, g2⟩ := dk_at S1 o1 hn
      refine ⟨d, ws, rfl, .inl g1, fun p hp => ?_⟩
      obtain ⟨us', B', S', o', s'⟩ := st_new S1 o1 (x := DkO p kvs) hp rfl ⟨ws, rfl, g2⟩
      exact q _ (.r (.ref p)) _ us' B' _ S' o' (s1.trans s') rfl (hk p)
/-- dicts of whole numbers that are alike -/
theorem kd_ints {G : Hp} : ∀ {ws : List (Key × V)} {kvs : List (Key × PyData)}, KD K G ws kvs → (∀ p ∈ kvs, ∃ i, p.2 = .int i) → ws = kvs.map fun p => (p.1, match p.2 with | .int i => V.int i | _ => .non)
  | [], kvs, h, _ => by obtain rfl := h.nil_inv; rfl
  | u :: ws, kvs, h, hi => by
    obtain ⟨d, r, rfl, h1, h2⟩ := h.cons_inv
    obtain ⟨i, hd⟩ := hi (u.1, d) (List.mem_cons_self ..)
    have hd : d = .int i := hd
    subst hd
    rw [List.map_cons, ← kd_ints h2 fun p hp => hi p (List.mem_cons_of_mem _ hp)]
    obtain ⟨u1, u2⟩ := u
    obtain rfl := dp_int h1
    rfl
theorem rv_neDk {a b : Addr} {kvs : List (Key × PyData)} (ha : At c (DkO a kvs)) (hb : At c (DkO b kvs)) (hi : ∀ p ∈ kvs, ∃ i, p.2 = .int i) (nd : (kvs.map (·.1)).Nodup) (hk : k0 (.d (.bool false))) : Rv c rNeDA ρ (.r (.ref a)) (.r (.ref b)) k0 := fun σ H v w Q o d1 d2 q => by
  obtain ⟨_, ⟨ws, rfl, g1⟩, _, g2⟩ := ha
  obtain ⟨_, ⟨ws', rfl, g1'⟩, _, g2'⟩ := hb
  obtain rfl : v = V.ref a := d1
  obtain rfl : w = V.ref b := d2
  have e1 := kd_ints g1 hi
  have e2 := kd_ints g1' hi
  refine ⟨a, b, ws, ws', rfl, rfl, g2 H o.w _ (List.mem_singleton.mpr rfl), g2' H o.w _ (List.mem_singleton.mpr rfl), by rw [e1, e2], fun p hp => ?_, q.val o (x := .d _) (Dp.bl _) hk⟩
  have nd' : (ws'.map (·.1)).Nodup := by rw [g1'.k]; exact nd
  have hp' : p ∈ ws' := by rw [e2, ← e1]; exact hp
  refine ⟨val_nodup nd' p hp', ?_⟩
  rw [e2] at hp'
  obtain ⟨z, hz, rfl⟩ := List.mem_map.mp hp'
  obtain ⟨i, hi⟩ := hi z hz
  show flatB (match z.2 with | .int i => V.int i | _ => .non) = true
  rw [hi]; rfl
/-! locks -/
theorem oks_nil (w : (c.sto us B).W H) (b : Ex B (hid (c.sto us B).L H)) : OkS c us B [] [] H ∧ vis (c.sto us B) [] H = hid (c.sto us B).L H := by
  have ev : vis (c.sto us B) [] H = hid (c.sto us B).L H := hid_iff fun a => by
    unfold Hid
    exact ⟨fun z => z.elim id fun ⟨xs, q⟩ => by simp at q, .inl⟩
  exact ⟨⟨w, b, fun l z => by obtain ⟨xs, q⟩ := z; simp at q, fun i s h => by simp at h, fun i j l x y h => by simp at h, rfl⟩, ev⟩
theorem zs_lock {n : Nat} {d : Addr} {kvs : List (Key × PyData)} (hn : O[n]? = some (DkO d kvs))
    (h : ∀ od ws, Zs c (O.set n (DkF d od ws kvs)) t ρ ⟨fun O' ρ' => O'[n]? = some (DkF d od ws kvs) ∧ E.nx (O'.set n (DkO d kvs)) ρ', fun O' x => O'[n]? = some (DkF d od ws kvs) ∧ E.rt (O'.set n (DkO d kvs)) x, fun O' ρ' => O'[n]? = some (DkF d od ws kvs) ∧ E.bk (O'.set n (DkO d kvs)) ρ', fun O' ρ' => O'[n]? = some (DkF d od ws kvs) ∧ E.ct (O'.set n (DkO d kvs)) ρ'⟩) :
    Zs c O (tLock t) ρ E := fun D us B σ H e S o => by
  obtain ⟨ws, g1, g2⟩ := dk_at S o hn
  refine ⟨d, .dK ws, g1, trivial, fun od => ?_⟩
  obtain ⟨us1, B1, S1, o1, s1⟩ := st_put S o hn one_dk (x' := DkF d od ws kvs) (ob' := .frz od (.dK ws)) rfl ⟨rfl, g2⟩
  have un : ∀ {O' us' B' ρ' σ' H'}, StC c O' us' B' → OkS c us' B' ρ' σ' H' → O'[n]? = some (DkF d od ws kvs) → H' d = some (.frz od (.dK ws)) ∧ ∃ us2 B2, StC c (O'.set n (DkO d kvs)) us2 B2 ∧ OkS c us2 B2 ρ' σ' (upd H' d (.dK ws)) ∧ StpZ c ρ' us' H' us2 (upd H' d (.dK ws)) := fun S' o' hn' => by
    obtain ⟨z1, z2⟩ := dkf_at S' o' hn'
    exact ⟨z1, st_put S' o' hn' one_dkf (x' := DkO d kvs) (ob' := .dK ws) rfl ⟨ws, rfl, z2⟩⟩
  refine h od ws _ us1 B1 σ _ ⟨fun O' us' B' ρ' σ' H' S' o' ⟨z1, z2⟩ => ?_, fun O' us' B' v x H' S' w' b' dv ⟨z1, z2⟩ => ?_, fun O' us' B' ρ' σ' H' S' o' ⟨z1, z2⟩ => ?_, fun O' us' B' ρ' σ' H' S' o' ⟨z1, z2⟩ => ?_⟩ S1 o1
  · obtain ⟨y, us2, B2, S2, o2, _⟩ := un S' o' z1
    exact ⟨y, e.nx _ us2 B2 ρ' σ' _ S2 o2 z2⟩
  · obtain ⟨o', ev⟩ := oks_nil w' b'
    obtain ⟨y, us2, B2, S2, o2, s2⟩ := un S' o' z1
    refine ⟨y, e.rt _ us2 B2 v x _ S2 o2.w o2.b (dv_mono (vis_out (ρ := [])) ?_) z2⟩
    exact dv_mono s2.ex (by
      show DvOk K (vis (c.sto us' B') [] H') v x
      rw [ev]; exact dv)
  · obtain ⟨y, us2, B2, S2, o2, _⟩ := un S' o' z1
    exact ⟨y, e.bk _ us2 B2 ρ' σ' _ S2 o2 z2⟩
  · obtain ⟨y, us2, B2, S2, o2, _⟩ := un S' o' z1
    exact ⟨y, e.ct _ us2 B2 ρ' σ' _ S2 o2 z2⟩
theorem ze_lock {n : Nat} {d : Addr} {kvs : List (Key × PyData)} (hn : O[n]? = some (DkO d kvs))
    (h : ∀ od ws, Ze c (O.set n (DkF d od ws kvs)) te ρ fun O' x => O'[n]? = some (DkF d od ws kvs) ∧ k (O'.set n (DkO d kvs)) x) : Ze c O (tLockE te) ρ k := fun us B σ H Q S o q => by
  obtain ⟨ws, g1, g2⟩ := dk_at S o hn
  refine ⟨d, .dK ws, g1, trivial, fun od => ?_⟩
  obtain ⟨us1, B1, S1, o1, s1⟩ := st_put S o hn one_dk (x' := DkF d od ws kvs) (ob' := .frz od (.dK ws)) rfl ⟨rfl, g2⟩
  refine h od ws us1 B1 σ _ _ S1 o1 fun v x O' us' B' H' S' o' s' dv ⟨z1, z2⟩ => ?_
  obtain ⟨y1, y2⟩ := dkf_at S' o' z1
  obtain ⟨us2, B2, S2, o2, s2⟩ := st_put S' o' z1 one_dkf (x' := DkO d kvs) (ob' := .dK ws) rfl ⟨ws, rfl, y2⟩
  exact ⟨y1, q v x _ us2 B2 _ S2 o2 ((s1.trans s').trans s2) (dv_mono s2.ex dv) z2⟩
end
end Py

set_option Elab.async false
set_option linter.all false
set_option autoImplicit false
set_option maxRecDepth 100000
set_option maxHeartbeats 4000000
namespace Py
open PySem hiding start
open L2
open Evl (Ex ex_rd ex_l ex_t fresh_back)
/-! tuples put together; where a text stands in another -/
def rFind : V → List V → Hp → VK → Prop := fun x xs H Q => ∃ a b, x = .str a ∧ xs = [.str b] ∧ Q (.int (Txt.find a b)) H
theorem mt_findS {X : Cx} : MtR X "str.find" rFind := mt_find
theorem op_neDA (K : PySem.W.Frag) {X : Cx} (hu : X.A.units + 64 < cLine) (h : X.K = K := by rfl) : OpR X (compareOp .NotEq) rNeDA := op_ne_dictA (by omega)
section
variable {K : PySem.W.Frag} {c : Ctx K} {ρ : Rho} {k : Dv → Prop} {to te : TE} {t : TA}
theorem rv_addT {xs ys : List PyData} (h0 : xs ≠ []) (hl : xs.length + ys.length ≤ 100000) (h : k (.d (.tuple (xs ++ ys)))) : Rv c (rAddU K) ρ (.d (.tuple xs)) (.d (.tuple ys)) k := fun σ H v u Q o d1 d2 q => by
  change Dp _ _ _ _ at d1 d2
  have d1' := d1
  cases d1 with
  | @tup a vs _ _ hs ha =>
    cases d2 with
    | @tup b us _ _ hs2 ha2 =>
      refine .inr (.inr (.inr ⟨a, b, vs, us, rfl, rfl, ex_t hid_sub hs, ex_t hid_sub hs2, fun z => ?_, Evl.sz_of (by rw [dpa_len ha, dpa_len ha2]; exact hl), fun z => ?_, fun z p hp => ?_⟩))
      · subst z; cases ha; exact h0 rfl
      · subst z
        cases ha2
        rw [List.append_nil] at h
        exact q.val o (x := .d _) d1' h
      · obtain ⟨o4, e4⟩ := o.new (o := .tup (vs ++ us)) hp
        exact q _ (.d _) _ o4 e4 (dp_tup (vis_upd (o.nh hp)) (dpa_mono e4.ex _ _ (dpa_app ha ha2))) h
theorem we_find (h : We c to ρ fun x => ∃ a, x = .d (.str a) ∧ Wa c t ρ fun xs => ∃ b, xs = [.d (.str b)] ∧ k (.d (.int (Txt.find a b)))) : We c (tBM K "str" rFind to t) ρ k := fun σ H Q o q =>
  h σ H _ o fun v x H1 o1 e1 d1 ⟨a, hx, h1⟩ => by
    subst hx
    obtain rfl := dp_str d1
    refine ⟨rfl, h1 σ H1 _ o1 fun vs xs H2 o2 e2 d2 ⟨b, hx, hk⟩ => ?_⟩
    subst hx
    cases d2 with
    | cons a1 a2 =>
      cases a2
      obtain rfl := dp_str a1
      exact ⟨a, b, rfl, rfl, q _ (.d _) H2 o2 (e1.trans e2) (Dp.int _) hk⟩
end
end Py
namespace Py
open PySem hiding start
open L2
section
variable {K : PySem.W.Frag} {c : Ctx K} {O : Sto K} {ρ : Rho}
theorem zt_is {tt : TT} {A A' : Sto K → Prop} (b0 : Bool) (h : ∀ c', Le c c' → Has c' O → Wt c' tt ρ fun b => b = b0) (h1 : b0 = true → A O) (h2 : b0 = false → A' O) : Zt c O tt ρ fun O1 b => (b = true → A O1) ∧ (b = false → A' O1) :=
  zt_old fun c' le hs => fun σ H Q o q => h c' le hs σ H Q o fun b H' o' s e => q b H' o' s (by subst e; exact ⟨h1, h2⟩)
end
/-! dicts from names to whole numbers -/
def dk (r : List (Str × Int)) : List (Key × PyData) := r.map fun p => (.inr p.1, .int p.2)
def getR (r : List (Str × Int)) (a : Str) : Int := ((r.find? fun p => decide (p.1 = a)).map (·.2)).getD 0
theorem val_dk (r : List (Str × Int)) (a : Str) : valD (dk r) (.inr a) = (r.find? fun p => decide (p.1 = a)).map fun p => .int p.2 := by
  induction r with
  | nil => rfl
  | cons p r ih =>
    unfold valD dk at *
    rw [List.map_cons, List.find?_cons, List.find?_cons]
    by_cases h : p.1 = a
    · subst h; simp
    · have : decide ((Sum.inr p.1 : Key) = .inr a) = false := decide_eq_false fun q => h (by cases q; rfl)
      simp only [this, decide_eq_false h]
      exact ih
theorem val_dk0 (r : List (Str × Int)) (a : Str) : (valD (dk r) (.inr a)).getD (.int 0) = .int (getR r a) := by
  rw [val_dk]
  unfold getR
  cases r.find? fun p => decide (p.1 = a) <;> rfl
theorem val_dkm {r : List (Str × Int)} {p : Str × Int} (h : p ∈ r) : valD (dk r) (.inr p.1) = some (.int (getR r p.1)) := by
  rw [val_dk]
  unfold getR
  cases z : r.find? fun q => decide (q.1 = p.1) with
  | none =>
    have := List.find?_eq_none.mp z p h
    simp at this
  | some q => rfl
theorem keys_dk (r : List (Str × Int)) : (dk r).map (·.1) = r.map fun p => (.inr p.1 : Key) := by
  unfold dk
  rw [List.map_map]; rfl
theorem key_dk {r : List (Str × Int)} {i : Nat} {k : Key} (h : ((dk r).map (·.1))[i]? = some k) : ∃ p, r[i]? = some p ∧ k = .inr p.1 := by
  rw [keys_dk, List.getElem?_map] at h
  cases z : r[i]? with
  | none => rw [z] at h; cases h
  | some p => rw [z] at h; cases h; exact ⟨p, rfl, rfl⟩
theorem len_dk (r : List (Str × Int)) : (dk r).length = r.length := by unfold dk; simp
def putR (r : List (Str × Int)) (a : Str) (n : Int) : List (Str × Int) := if (r.any fun p => decide (p.1 = a)) = true then r.map (fun p => if p.1 = a then (p.1, n) else p) else r ++ [(a, n)]
theorem put_dk (r : List (Str × Int)) (a : Str) (n : Int) : putD (dk r) (.inr a) (.int n) = dk (putR r a n) := by
  unfold putD putR
  have e : ((dk r).any fun kv => decide (kv.1 = (.inr a : Key))) = r.any fun p => decide (p.1 = a) := by
    unfold dk
    rw [List.any_map]
    congr 1
    funext p
    show decide ((Sum.inr p.1 : Key) = .inr a) = _
    congr 1
    exact propext ⟨fun q => by cases q; rfl, fun q => by rw [q]⟩
  rw [e]
  split
  · unfold dk
    rw [List.map_map, List.map_map]
    refine List.map_congr_left fun p _ => ?_
    show (if (Sum.inr p.1 : Key) = .inr a then _ else _) = _
    by_cases h : p.1 = a
    · subst h; simp
    · rw [if_neg fun q => h (by cases q; rfl)]
      simp [h]
  · unfold dk
    rw [List.map_append]; rfl
theorem nod_put {r : List (Str × Int)} {a : Str} {n : Int} (h : (r.map (·.1)).Nodup) : ((putR r a n).map (·.1)).Nodup := by
  unfold putR
  split
  · have e : (r.map fun p => if p.1 = a then (p.1, n) else p).map (·.1) = r.map (·.1) := by
      rw [List.map_map]
      refine List.map_congr_left fun p _ => ?_
      show (if p.1 = a then (p.1, n) else p).1 = p.1
      split <;> rfl
    rw [e]; exact h
  · rename_i q
    rw [List.map_append, List.nodup_append]
    refine ⟨h, by simp, fun x hx y hy e => ?_⟩
    have hy : y = a := by simpa using hy
    subst hy e
    obtain ⟨p, hp, rfl⟩ := List.mem_map.mp hx
    exact q (List.any_eq_true.mpr ⟨p, hp, by simp⟩)
theorem len_put (r : List (Str × Int)) (a : Str) (n : Int) : (putR r a n).length ≤ r.length + 1 := by
  unfold putR
  split <;> simp
theorem int_dk (r : List (Str × Int)) : ∀ p ∈ dk r, ∃ i, p.2 = .int i := fun p hp => by
  obtain ⟨q, _, rfl⟩ := List.mem_map.mp hp
  exact ⟨_, rfl⟩
theorem nod_dk {r : List (Str × Int)} (h : (r.map (·.1)).Nodup) : ((dk r).map (·.1)).Nodup := by
  rw [keys_dk]
  have e : (r.map fun p => (.inr p.1 : Key)) = (r.map (·.1)).map (Sum.inr : Str → Key) := by rw [List.map_map]; rfl
  rw [e]
  generalize r.map (·.1) = l at h
  clear e
  induction l with
  | nil => simp
  | cons x l ih =>
    rw [List.nodup_cons] at h
    rw [List.map_cons, List.nodup_cons]
    refine ⟨fun q => ?_, ih h.2⟩
    obtain ⟨y, hy, e⟩ := List.mem_map.mp q
    cases e
    exact h.1 hy
/-! what a wish asks -/
def cntR (r : List (Str × Int)) : Nat := (r.filter fun p => decide (getR r p.1 ≠ 0)).length
def holdsW (r : List (Str × Int)) : Wi → Bool
  | .inn a => !decide (getR r a = 0)
  | .rnd a n => decide (getR r a = n)
  | .lst n => decide ((cntR r : Int) ≥ n)
  | .no v => !holdsW r v
  | .two b v w => if b then holdsW r v && holdsW r w else holdsW r v || holdsW r w
end Py
namespace Py
open PySem hiding start
open L2
open Evl (Ex ex_rd ex_l ex_t fresh_back)
open Classical
section
variable {K : PySem.W.Frag} {c : Ctx K} {O : Sto K} {ρ : Rho} {k : Dv → Prop}
theorem rv_inSL {a : Str} {ns : List Str} (h : k (.d (.bool (decide (a ∈ ns))))) : Rv c (rIn K false) ρ (.d (.str a)) (.d (.list (ns.map .str))) k := fun σ H v u Q o d1 d2 q => by
  obtain rfl := dp_str d1
  change Dp _ _ _ _ at d2
  cases d2 with
  | lst hs ha =>
    have e := dpa_strs' ha
    subst e
    refine ⟨_, _, rfl, .inl (ex_l hid_sub hs), rfl, flat_strs, ?_⟩
    rw [if_neg Bool.false_ne_true, inV_strs]
    exact q.val o (x := .d _) (Dp.bl _) h
theorem rv_inST {a : Str} {ns : List Str} (h : k (.d (.bool (decide (a ∈ ns))))) : Rv c (rIn K false) ρ (.d (.str a)) (.d (.tuple (ns.map .str))) k := fun σ H v u Q o d1 d2 q => by
  obtain rfl := dp_str d1
  change Dp _ _ _ _ at d2
  cases d2 with
  | tup hs ha =>
    have e := dpa_strs' ha
    subst e
    refine ⟨_, _, rfl, .inr (ex_t hid_sub hs), rfl, flat_strs, ?_⟩
    rw [if_neg Bool.false_ne_true, inV_strs]
    exact q.val o (x := .d _) (Dp.bl _) h
/-- from here on over a store -/
theorem ws_ofZ {t : TS} {E : DE} (h : Zs c [] t ρ ⟨fun _ => E.nx, fun _ => E.rt, fun _ => E.bk, fun _ => E.ct⟩) : Ws c t ρ E := fun D σ H e o => by
  have e0 : c.sto [] c.B = c := by
    unfold Ctx.sto
    congr 1
    · funext a; simp
    · funext H; simp
  refine h D [] c.B σ H ⟨fun O us B ρ σ H S o k => e.nx ρ σ H (ok_le (le_sto S) o) k, fun O us B v x H S w b d k => ?_, fun O us B ρ σ H S o k => e.bk ρ σ H (ok_le (le_sto S) o) k, fun O us B ρ σ H S o k => e.ct ρ σ H (ok_le (le_sto S) o) k⟩ ⟨.nil, by simp, by simp, Ex.refl _⟩ (by
    show Ok (c.sto [] c.B) ρ σ H
    rw [e0]; exact o)
  have hl : Ex (hid (c.sto us B).L H) (hid c.L H) := hid_less fun a z => .inl z
  exact e.rt v x H w.1 ((S.ex.trans b).trans hl) (dv_mono hl d) k
end
theorem nod_len {α : Type} [DecidableEq α] : ∀ {ys xs : List α}, ys.Nodup → (∀ y ∈ ys, y ∈ xs) → ys.length ≤ xs.length
  | [], _, _, _ => Nat.zero_le _
  | y :: ys, xs, h, hs => by
    rw [List.nodup_cons] at h
    have hy := hs y (List.mem_cons_self ..)
    have ih := nod_len (ys := ys) (xs := xs.erase y) h.2 fun z hz => (List.mem_erase_of_ne fun q => h.1 (by rw [← q]; exact hz)).mpr (hs z (List.mem_cons_of_mem _ hz))
    have := List.length_erase_of_mem hy
    have := List.length_pos_of_mem hy
    rw [List.length_cons]
    omega
/-! names by their first letter -/
def nm (m : Nat) (r : List Nat) : Str := ⟨((97 + m) :: r).toArray⟩
theorem tl_nm (m : Nat) (r : List Nat) : tlS (nm m r) = (97 + m) :: r := rfl
theorem nm_of' {a : Str} (h : isNmS a = true) : ∃ m r, m < 26 ∧ a = nm m r ∧ r.length ≤ 7 := by
  obtain ⟨h1, h2⟩ := nm_len h
  cases e : tlS a with
  | nil => rw [len_tlS, e] at h1; simp at h1
  | cons z r =>
    have hz := nm_mem h (z := z) (by rw [e]; simp)
    rw [len_tlS, e] at h2
    refine ⟨z - 97, r, by omega, ext_tlS ?_, by simp at h2; omega⟩
    rw [e, tl_nm]
    congr 1
    omega
theorem nm_nm {m : Nat} {r : List Nat} (h : isNmS (nm m r) = true) {j : Nat} (hj : j < 26) : isNmS (nm j r) = true := by
  unfold isNmS at *
  rw [len_tlS, tl_nm] at *
  have key : ∀ j < 26, decide (97 + j ∈ tlS ("abcdefghijklmnopqrstuvwxyz" : Str)) = true := by decide +kernel
  rw [List.all_cons] at h ⊢
  rw [Bool.and_eq_true, Bool.and_eq_true] at h
  obtain ⟨h1, h2⟩ := h
  rw [Bool.and_eq_true] at h2
  have h1' := Bool.and_eq_true_iff.mpr h1
  rw [key j hj, h2.2, Bool.and_true, Bool.and_true]
  exact h1'
theorem nm_free (m : Nat) (r : List Nat) (ts : List Str) (hm : m < 26) (h : ts.length ≤ 20) : ∃ i, i ≤ 25 ∧ nm ((m + i) % 26) r ∉ ts := by
  refine Classical.byContradiction fun hn => ?_
  have all : ∀ j < 26, nm j r ∈ ts := fun j hj => Classical.byContradiction fun q => hn ⟨(j + 26 - m) % 26, by omega, by rw [show (m + (j + 26 - m) % 26) % 26 = j by omega]; exact q⟩
  have nd : ((List.range 26).map fun j => nm j r).Nodup := by
    refine List.Pairwise.map (R := fun a b => a ≠ b) _ (fun a b q z => q ?_) List.nodup_range
    have z' := congrArg tlS z
    rw [tl_nm, tl_nm] at z'
    have := (List.cons.inj z').1
    omega
  have := nod_len (xs := ts) nd fun y hy => by
    obtain ⟨j, hj, rfl⟩ := List.mem_map.mp hy
    exact all j (List.mem_range.mp hj)
  simp at this
  omega
theorem find_nm : ∀ m < 26, Txt.find ("abcdefghijklmnopqrstuvwxyz" : Str) ⟨#[97 + m]⟩ = (m : Int) := by decide +kernel
theorem at_nm : ∀ m < 26, ("abcdefghijklmnopqrstuvwxyz" : Str).cps.toList[m]? = some (97 + m) := by decide +kernel
end Py
namespace Py
open PySem hiding start
open L2
open Evl (Ex ex_rd ex_l ex_t fresh_back)
open Classical
section
variable {K : PySem.W.Frag} {c : Py.Ctx K} {ρ : Rho} {te : TE}
theorem wf_listOfT {k : List PyData → Prop} (h : We c te ρ fun x => ∃ xs, x = .d (.tuple xs) ∧ k xs) : Wf c (tCB (rListOf K) (tCons te tNil)) ρ k := fun σ H Q o q => h σ H _ o fun v x H1 o1 e1 d1 ⟨xs, hx, hk⟩ => by
  subst hx
  change Py.Dp _ _ _ _ at d1
  cases d1 with
  | @tup a vs _ _ hs ha =>
    refine ⟨a, vs, rfl, .inr (Evl.ex_t hid_sub hs), fun p hp => ?_⟩
    obtain ⟨h0, o4, s4, d4⟩ := o1.fresh e1 hp ha
    exact q p _ _ _ h0 upd_same o4 s4 d4 hk
variable {tb : TE}
theorem wf_catD {k : List PyData → Prop} (h : We c te ρ fun x => ∃ xs, x = .d (.list xs) ∧ We c tb ρ fun y => ∃ ys, y = .d (.list ys) ∧ xs.length + ys.length ≤ 100000 ∧ k (xs ++ ys)) : Wf c (tOp (rAddU K) te tb) ρ k := fun σ H Q o q => h σ H _ o fun v x H1 o1 e1 d1 ⟨xs, hx, ht⟩ => by
  subst hx
  change Dp _ _ _ _ at d1
  cases d1 with
  | @lst a vs _ _ hs ha =>
  refine ht σ H1 _ o1 fun u y H2 o2 s2 d2 ⟨ys, hy, hl, hk⟩ => ?_
  subst hy
  change Dp _ _ _ _ at d2
  cases d2 with
  | @lst l2 vs2 _ _ hs3 hb =>
  have ha2 := dpa_mono s2.ex _ _ ha
  refine .inr (.inr (.inl ⟨a, l2, vs, vs2, rfl, rfl, ?_, ?_, Evl.sz_of (by rw [dpa_len ha, dpa_len hb]; exact hl), fun p hp => ?_⟩))
  · have hp : (vis c ρ H1) a = some (.lst vs) := ‹_›
    exact (hid_some (s2.ex a _ hp)).2
  · have hp : (vis c ρ H2) l2 = some (.lst vs2) := ‹_›
    exact (hid_some hp).2
  · obtain ⟨h0, o4, s4, d4⟩ := o2.fresh (e1.trans s2) hp (dpa_app ha2 hb)
    exact q p _ _ _ h0 upd_same o4 s4 d4 hk
end
end Py

set_option Elab.async false
set_option linter.all false
set_option autoImplicit false
set_option maxRecDepth 100000
set_option maxHeartbeats 4000000
set_option exponentiation.threshold 20000
open PySem hiding start
open L2 Py PySem.Spec PyProof.Rows
namespace My
def top (i : Nat) : Stmt := PySem.Challenge.pw_plymap_k71_what_is_a_wish.main.body.getD i (.Pass ⟨0, 0, 0, 0⟩)
structure Ads where
  un : Unit
  PlyError : Addr
  BadWish : Addr
  t_DEEPEST : Tok
  t_LETTERS : Tok
  t_LONGEST : Tok
structure Txt (K : PySem.W.Frag) (mg : Str → Option Value) (AA : Ads) : Prop where
  b_abs : mg "abs" = none
  b_all : mg "all" = none
  b_bool : mg "bool" = none
  b_dict : mg "dict" = none
  b_int : mg "int" = none
  b_isinstance : mg "isinstance" = none
  b_len : mg "len" = none
  b_list : mg "list" = none
  b_max : mg "max" = none
  b_range : mg "range" = none
  b_str : mg "str" = none
  b_tuple : mg "tuple" = none
  g_PlyError : mg "PlyError" = some (.ref AA.PlyError)
  g_BadWish : mg "BadWish" = some (.ref AA.BadWish)
  k_DEEPEST : mg "DEEPEST" = some (.int 6 AA.t_DEEPEST)
  k_LETTERS : mg "LETTERS" = some (.str "abcdefghijklmnopqrstuvwxyz" AA.t_LETTERS)
  k_LONGEST : mg "LONGEST" = some (.int 8 AA.t_LONGEST)
  x_BadWish : PySem.W.excIn K AA.BadWish [.type "ValueError", .type "Exception", .type "BaseException", .type "object"] "ValueError.__new__" = true
  kp_BadWish : PySem.W.keepIn K (.ref AA.BadWish) = true
  eb_BadWish : PySem.W.subIn K (.ref AA.BadWish) (.type "BaseException") = some true
  et_BadWish : PySem.W.typeIn K (.ref AA.BadWish) = some (.type "type")

end My
namespace My
open PySem hiding start
open L2 Py PySem.Spec PyProof.Rows
open Evl (Ex)
local macro_rules | `(tactic| walk_at "bnd") => `(tactic| first | assumption | (with_reducible show Int.natAbs (_ * _) < _; exact nmul (by walk_at "bnd") (by walk_at "bnd")) | (with_reducible show Int.natAbs (_ - _) < _; exact nsubm (by walk_at "bnd") (by walk_at "bnd")) | (with_reducible show Int.natAbs (_ + _) < _; exact naddm (by walk_at "bnd") (by walk_at "bnd")) | (with_reducible show Int.natAbs (-_) < _; exact nnegm (by walk_at "bnd")) | with_reducible exact nlitN _)
local macro_rules | `(tactic| walk_at "py1") => `(tactic| first
  | ((with_reducible apply we_var); exact rfl)
  | with_reducible refine we_int ?_
  | with_reducible refine we_bl ?_
  | with_reducible refine we_non ?_
  | with_reducible refine we_str ?_
  | with_reducible refine we_ty ?_
  | with_reducible refine we_ref ?_
  | ((with_reducible apply we_ixOwn); exact rfl)
  | ((with_reducible apply we_lenOwns); exact rfl)
  | with_reducible refine we_op ?_
  | with_reducible refine we_un ?_
  | with_reducible refine we_cb ?_
  | with_reducible refine we_call ?_
  | with_reducible refine we_tup ?_
  | with_reducible refine we_lst ?_
  | with_reducible refine wa_nil ?_
  | with_reducible refine wa_cons ?_
  | with_reducible refine rv_addI ?_
  | with_reducible refine rv_sub ?_
  | with_reducible refine rv_lt ?_
  | with_reducible refine rv_le ?_
  | with_reducible refine rv_gt ?_
  | with_reducible refine rv_ge ?_
  | with_reducible refine rv_eqI ?_
  | with_reducible refine rv_neI ?_
  | with_reducible refine rv_isB ?_
  | with_reducible refine rv_eqB ?_
  | with_reducible refine rv_neB ?_
  | with_reducible refine rv_isN ?_
  | with_reducible refine rv_notN ?_
  | with_reducible refine rv_inI ?_
  | with_reducible refine rv_niI ?_
  | with_reducible refine rv_notB ?_
  | ((with_reducible apply rv_ixT); exact rfl)
  | ((with_reducible apply rv_ixL); exact rfl)
  | with_reducible refine rc_abss ?_
  | with_reducible refine ru_neg ?_
  | with_reducible refine rc_intB ?_
  | with_reducible refine rc_intI ?_
  | with_reducible refine rc_listOf ?_
  | with_reducible refine rc_lenTs ?_
  | with_reducible refine rc_lenLs ?_
  | with_reducible refine rc_isInt ?_
  | with_reducible refine rc_isBool ?_
  | with_reducible refine rc_isTup ?_
  | with_reducible refine rc_isLst ?_
  | with_reducible refine rc_isStr ?_
  | with_reducible refine wt_test ?_
  | with_reducible refine ws_seq ?_
  | with_reducible refine ws_asg ?_
  | with_reducible refine ws_if ?_
  | with_reducible refine ws_ret ?_
  | with_reducible refine ws_next ?_
  | ((with_reducible apply ws_app); exact rfl)
  | ((with_reducible apply ws_aug); exact rfl)
  | with_reducible refine isI_mk ?_
  | with_reducible refine ws_drop ?_
  | with_reducible refine ws_par ?_
  | with_reducible refine wt_truthB ?_
  | with_reducible refine wt_and ?_
  | with_reducible refine wt_or ?_
  | with_reducible refine wt_not ?_
  | with_reducible refine we_andV ?_
  | with_reducible refine we_orV ?_
  | with_reducible refine we_notV ?_
  | with_reducible refine we_if ?_
  | refine Exists.intro _ (Exists.intro _ (And.intro (show ([_, _] : List Dv) = [_, _] from rfl) ?_))
  | ((with_reducible apply rv_fdiv); first | assumption | exact ⟨by decide, by decide⟩)
  | ((with_reducible apply rv_mod); first | assumption | decide | omega)
  | ((with_reducible apply rv_mulI); first | assumption | exact cmul (by walk_at "bnd") (by walk_at "bnd") (by decide) | exact cmul (n := 64) (m := 64) (by omega) (by omega) (by decide))
  | ((with_reducible apply rv_pow); exact ⟨by decide, by decide, by decide⟩)
  | ((with_reducible apply rv_powX); exact ⟨by decide, by decide⟩)
  | refine Exists.intro _ (And.intro (show allD _ = some _ from rfl) (And.intro (Nat.le_of_ble_eq_true rfl) ?_))
  | with_reducible refine ⟨_, (rfl : Dv.d (PyData.bool _) = Dv.d (PyData.bool _)), ?_⟩
  | (with_reducible refine (⟨fun hb => ?_, fun hb => ?_⟩ : (_ = true → _) ∧ (_ = false → _))) <;> try (first | exact Bool.noConfusion (show true = false from hb) | exact Bool.noConfusion (show false = true from hb))
  | (with_reducible refine (⟨fun hb => ?_, fun hb => ?_⟩ : (_ = false → _) ∧ (_ = true → _))) <;> try (first | exact Bool.noConfusion (show true = false from hb) | exact Bool.noConfusion (show false = true from hb)))
local macro_rules | `(tactic| walk_at "py1") => `(tactic| first | with_reducible refine call_draw (by assumption) (by first | omega | decide) (by first | omega | decide) (fun v h0 h1 => ?_) | with_reducible refine call_draw (by assumption) ?_ ?_ (fun v h0 h1 => ?_))
local macro_rules | `(tactic| walk_at "py") => `(tactic| repeat' walk_at "py1")
local macro_rules | `(tactic| walk_at "pys") => `(tactic| repeat' ((fail_if_success (with_reducible refine ws_seq ?_)); walk_at "py1"))
section
variable {P : Program} {w : World} {K : PySem.W.Frag} {mg : Str → Option Value} {base : Heap} {AA : Ads}
abbrev s__law_next : Stmt := top 17
theorem sc__law_next : FnScope ["_law_hand_here"] ["_law_hand_here"] (defScope s__law_next) := ⟨rfl, rfl, rfl, by decide +kernel, rfl, by decide +kernel, by decide +kernel⟩
theorem ok__law_next (T : Txt K mg AA) (R : Raw K mg "_law_next" s__law_next) : Def P w K mg base "_law_next" ["_law_hand_here"] CX0 1 (spNext K) := R.def fun f fd F => by
  refine ⟨F.binds (ps := ["_law_hand_here"]) fun _ _ _ _ _ _ us hl => match us, hl with | [_], _ => rfl, F.ok sc__law_next (fun vs H Q E h => ?_) (fun cdv A outer s H vs Q E hr h => ?_)⟩
  · obtain ⟨p, l, ns, i, pool, left, a, b, rfl, _⟩ := h
    rfl
  refine ⟨_, (pss_cons (ps_asg (pe_op op_modN (pe_op (op_muls K) (pe_ix (ix_s K) (pv 0) pe_int (fun _ _ => rfl)) pe_int) pe_int) (pg_sub (pv 0) pe_int set_list))
      (pss_cons (ps_asg (pe_op op_modN (pe_op (op_muls K) (pe_ix (ix_s K) (pv 0) pe_int (fun _ _ => rfl)) pe_int) pe_int) (pg_sub (pv 0) pe_int set_list))
      (pss_one (ps_ret (pe_op (op_adds K) (pe_ix (ix_s K) (pv 0) pe_int (fun _ _ => rfl)) (pe_ix (ix_s K) (pv 0) pe_int (fun _ _ => rfl))))))), ?_⟩
  obtain ⟨p, l, ns, i, pool, left, a, b, rfl, h, ha, hb, k⟩ := h
  refine ⟨_, rfl, .inl ⟨p, _, _, _, rfl, rfl, SqL.of h, rfl, .inl ⟨_, _, rfl, rfl, wide_mul (a := 31) (b := 20) (by omega) (by decide) (by decide) (by decide) (by decide), _, _, rfl, rfl, (by show (2147483647 : Int) ≠ 0; decide), _, rfl, p, _, _, 4, rfl, rfl, h, rfl, ?_⟩⟩⟩
  refine ⟨_, rfl, .inl ⟨p, _, _, _, rfl, rfl, SqL.of upd_same, rfl, .inl ⟨_, _, rfl, rfl, wide_mul (a := 31) (b := 20) (by omega) (by decide) (by decide) (by decide) (by decide), _, _, rfl, rfl, (by show (2147483399 : Int) ≠ 0; decide), _, rfl, p, _, _, 5, rfl, rfl, upd_same, rfl, ?_⟩⟩⟩
  refine ⟨_, rfl, .inl ⟨p, _, _, _, rfl, rfl, SqL.of upd_same, rfl, _, rfl, .inl ⟨p, _, _, _, rfl, rfl, SqL.of upd_same, rfl, .inl ⟨_, _, rfl, rfl, ?_⟩⟩⟩⟩
  have h1 : 0 ≤ (a * 48271).fmod 2147483647 ∧ (a * 48271).fmod 2147483647 < 2147483647 := ⟨Int.fmod_nonneg_of_pos _ (by decide), Int.fmod_lt_of_pos _ (by decide)⟩
  have h2 : 0 ≤ (b * 40693).fmod 2147483399 ∧ (b * 40693).fmod 2147483399 < 2147483399 := ⟨Int.fmod_nonneg_of_pos _ (by decide), Int.fmod_lt_of_pos _ (by decide)⟩
  exact k _ _ _ _ ⟨h1.1, by omega⟩ ⟨h2.1, by omega⟩ ⟨by omega, by omega⟩ upd_same fun x hx => (upd_ne hx).trans (upd_ne hx)
abbrev s__law_take : Stmt := top 18
theorem sc__law_take : FnScope ["_law_hand_here", "_law_cell"] ["_law_hand_here"] (defScope s__law_take) := ⟨rfl, rfl, rfl, by decide +kernel, rfl, by decide +kernel, by decide +kernel⟩
theorem ok__law_take (T : Txt K mg AA) (d__law_next : Def P w K mg base "_law_next" ["_law_hand_here"] CX0 1 (spNext K)) (R : Raw K mg "_law_take" s__law_take) : Def P w K mg base "_law_take" ["_law_hand_here"] CX0 2 (spTake K) := R.def fun f fd F => by
  refine ⟨F.binds (ps := ["_law_hand_here"]) fun _ _ _ _ _ _ us hl => match us, hl with | [_], _ => rfl, F.ok sc__law_take (fun vs H Q E h => ?_) (fun cdv A outer s H vs Q E hr h => ?_)⟩
  · obtain ⟨p, l, ns, i, left, a, b, rfl, _⟩ := h
    rfl
  refine ⟨_, (pss_cons (ps_set (i := 1) sc__law_take.nd rfl (Or.inl rfl) pe_int)
      (Evl.pss_cut (ps_if (pt_cmpR op_ltU (pe_ix (ix_s K) (pv 0) pe_int (fun _ _ => rfl)) (pe_callB (call_lens K) (by rfl) T.b_len (by decide +kernel) (pa_cons (pe_ix (ix_s K) (pv 0) pe_int (fun _ _ => rfl)) pa_nil)) (nomark _)) (pss_one (ps_set (i := 1) sc__law_take.nd rfl (Or.inl rfl) (pe_callB call_abss (by rfl) T.b_abs (by decide +kernel) (pa_cons (pe_ix (ix_s K) (pe_ix (ix_s K) (pv 0) pe_int (fun _ _ => rfl)) (pe_ix (ix_s K) (pv 0) pe_int (fun _ _ => rfl)) (fun _ _ => rfl)) pa_nil)))) pss_nil)
      (pss_cons (ps_augS (pv 0) pe_int (get_s K) pe_int ip_add set_list)
      (Evl.pss_cut (ps_if (pt_cmpR op_geU (pv 1) (pe_op op_pow pe_int pe_int) (nomark _)) (pss_one (ps_asg (pv 1) (pg_sub (pv 0) pe_int set_list))) (pss_one (ps_asg pe_int (pg_sub (pv 0) pe_int set_list))))
      (pss_cons (ps_asg (pe_op (op_adds K) (pe_op op_modN (pe_op (op_adds K) (pe_ix (ix_s K) (pv 0) pe_int (fun _ _ => rfl)) (pe_op op_modN (pv 1) pe_int)) pe_int) pe_int) (pg_sub (pv 0) pe_int set_list))
      (pss_cons (ps_asg (pe_op (op_adds K) (pe_op op_modN (pe_op (op_adds K) (pe_op (op_muls K) (pe_ix (ix_s K) (pv 0) pe_int (fun _ _ => rfl)) pe_int) (pe_op op_modN (pv 1) pe_int)) pe_int) pe_int) (pg_sub (pv 0) pe_int set_list))
      (pss_cons (ps_expr (pe_D0 d__law_next (by decide) hr pass0 (pa_cons (pv 0) pa_nil)))
      (pss_one (ps_expr (pe_D0 d__law_next (by decide) hr pass0 (pa_cons (pv 0) pa_nil))))))))))), ?_⟩
  obtain ⟨p, l, ns, i, left, a, b, rfl, h, hl, nlp, hi, ha, hb, k⟩ := h
  -- behind the cell
  refine ⟨fun σ' H' => H' = H ∧ ∃ cell : Int, 0 ≤ cell ∧ σ' = [some (.ref p), some (.int cell)], ?_, ?_⟩
  · have rest : ∀ cell : Int, 0 ≤ cell → H = H ∧ ∃ cell' : Int, 0 ≤ cell' ∧ ([some (.ref p), some (.int cell)] : L2.St) = [some (.ref p), some (.int cell')] := fun cell h => ⟨rfl, cell, h, rfl⟩
    refine ⟨_, rfl, .inl ⟨p, _, _, _, rfl, rfl, SqL.of h, rfl, _, rfl, .inl ⟨p, _, _, _, rfl, rfl, SqL.of h, rfl, _, ns.length, rfl, .inl ⟨_, SqL.of hl, by simp⟩, _, _, rfl, rfl, _, rfl, ?_⟩⟩⟩
    refine ite2 (fun hlt => ?_) (fun _ => rest 0 (by decide))
    have hlt : i < (ns.length : Int) := of_decide_eq_true hlt
    have hin : i.toNat < ns.length := by omega
    refine ⟨_, rfl, .inl ⟨p, _, _, _, rfl, rfl, SqL.of h, rfl, _, rfl, .inl ⟨p, _, _, _, rfl, rfl, SqL.of h, rfl, .inl ⟨l, _, _, .int ns[i.toNat], rfl, rfl, SqL.of hl, ?_, _, rfl, ?_⟩⟩⟩⟩
    · unfold atI ixN
      rw [if_pos hi, if_pos (by simpa using hlt)]
      show (ns.map V.int)[i.toNat]? = _
      rw [List.getElem?_map, List.getElem?_eq_getElem hin]
      rfl
    · exact rest (if ns[i.toNat] < 0 then -ns[i.toNat] else ns[i.toNat]) (by split <;> omega)
  rintro _ H1 ⟨eH, cell, hc, rfl⟩
  subst eH
  refine ⟨_, rfl, p, _, _, _, rfl, rfl, SqL.of h, rfl, _, _, rfl, rfl, p, _, _, 1, rfl, rfl, h, rfl, ?_⟩
  refine ⟨fun σ' H' => σ' = [some (.ref p), some (.int cell)] ∧ ∃ (pool' left' : Int), 0 ≤ pool' ∧ H' p = some (.lst (handL l (i + 1) pool' left' a b)) ∧ (∀ x, x ≠ p → H' x = H1 x), ?_, ?_⟩
  · refine ⟨_, rfl, _, _, rfl, rfl, ⟨by decide, by decide, by decide⟩, _, _, rfl, rfl, _, rfl, ?_⟩
    refine ite2 (fun _ => ?_) (fun _ => ?_)
    · exact ⟨_, rfl, _, rfl, p, _, _, 2, rfl, rfl, upd_same, rfl, rfl, cell, left, hc, upd_same, fun x hx => (upd_ne hx).trans (upd_ne hx)⟩
    · exact ⟨_, rfl, p, _, _, 3, rfl, rfl, upd_same, rfl, rfl, 0, 7, by decide, upd_same, fun x hx => (upd_ne hx).trans (upd_ne hx)⟩
  rintro _ H2 ⟨rfl, pool', left', hp', h2, k2⟩
  refine ⟨_, rfl, .inl ⟨p, _, _, _, rfl, rfl, SqL.of h2, rfl, _, rfl, _, _, rfl, rfl, (by show (2147483587 : Int) ≠ 0; decide), .inl ⟨_, _, rfl, rfl, _, _, rfl, rfl, (by show (2147483646 : Int) ≠ 0; decide), .inl ⟨_, _, rfl, rfl, _, rfl, p, _, _, 4, rfl, rfl, h2, rfl, ?_⟩⟩⟩⟩
  refine ⟨_, rfl, .inl ⟨p, _, _, _, rfl, rfl, SqL.of upd_same, rfl, .inl ⟨_, _, rfl, rfl, wide_mul (a := 31) (b := 20) (by omega) (by decide) (by decide) (by decide) (by decide), _, rfl, _, _, rfl, rfl, (by show (1000003 : Int) ≠ 0; decide), .inl ⟨_, _, rfl, rfl, _, _, rfl, rfl, (by show (2147483398 : Int) ≠ 0; decide), .inl ⟨_, _, rfl, rfl, _, rfl, p, _, _, 5, rfl, rfl, upd_same, rfl, ?_⟩⟩⟩⟩⟩
  have h1 : ∀ z : Int, 0 ≤ z.fmod 2147483646 + 1 ∧ z.fmod 2147483646 + 1 < 2 ^ 31 := fun z => by
    have := Int.fmod_nonneg_of_pos z (b := 2147483646) (by decide)
    have := Int.fmod_lt_of_pos z (b := 2147483646) (by decide)
    omega
  have h3 : ∀ z : Int, 0 ≤ z.fmod 2147483398 + 1 ∧ z.fmod 2147483398 + 1 < 2 ^ 31 := fun z => by
    have := Int.fmod_nonneg_of_pos z (b := 2147483398) (by decide)
    have := Int.fmod_lt_of_pos z (b := 2147483398) (by decide)
    omega
  refine ⟨_, rfl, p, l, ns, _, _, _, _, _, rfl, upd_same, h1 _, h3 _, fun a1 b1 v1 H3 ha1 hb1 _ e1 k3 => ?_⟩
  refine ⟨_, rfl, p, l, ns, _, _, _, _, _, rfl, e1, ha1, hb1, fun a2 b2 v2 H4 ha2 hb2 _ e2 k4 => ?_⟩
  exact k _ _ _ _ _ H4 (by omega) hp' ha2 hb2 e2 fun x hx => ((((k4 x hx).trans (k3 x hx)).trans (upd_ne hx)).trans (upd_ne hx)).trans (k2 x hx)
abbrev s__law_draw : Stmt := top 19
theorem sc__law_draw : FnScope ["_law_hand_here", "_law_many", "_law_got", "_law_value", "_law_size"] ["_law_hand_here", "_law_many"] (defScope s__law_draw) := ⟨rfl, rfl, rfl, by decide +kernel, rfl, by decide +kernel, by decide +kernel⟩
theorem ok__law_draw (T : Txt K mg AA) (d__law_next : Def P w K mg base "_law_next" ["_law_hand_here"] CX0 1 (spNext K)) (d__law_take : Def P w K mg base "_law_take" ["_law_hand_here"] CX0 2 (spTake K)) (R : Raw K mg "_law_draw" s__law_draw) : Def P w K mg base "_law_draw" ["_law_hand_here", "_law_many"] CX0 3 (spD K (p_draw K)) := R.def fun f fd F => by
  refine ⟨F.binds (ps := ["_law_hand_here", "_law_many"]) fun _ _ _ _ _ _ us hl => match us, hl with | [_, _], _ => rfl, F.ok sc__law_draw (spD_len len_draw) (fun cdv A outer s H vs Q E hr h => ?_)⟩
  refine ⟨_, (Evl.pss_cut (ps_if (PW.pt (pw_and (pt_cmpR (op_eqs K hr.units) (pe_ix (ix_s K) (pv 0) pe_int (fun _ _ => rfl)) pe_int (nomark _)) (pw_and1 (pt_cmpR (op_eqs K hr.units) (pe_ix (ix_s K) (pv 0) pe_int (fun _ _ => rfl)) pe_int (nomark _))))) (pss_one (ps_expr (pe_D0 d__law_take (by decide) hr pass0 (pa_cons (pv 0) pa_nil)))) pss_nil)
      (pss_cons (ps_if (pt_cmpR op_gtU (pe_ix (ix_s K) (pv 0) pe_int (fun _ _ => rfl)) pe_int (nomark _)) (pss_cons (ps_set (i := 2) sc__law_draw.nd rfl (Or.inl rfl) (pe_op op_modN (pe_ix (ix_s K) (pv 0) pe_int (fun _ _ => rfl)) (pv 1)))
      (pss_cons (ps_asg (pe_op op_fdivX (pe_ix (ix_s K) (pv 0) pe_int (fun _ _ => rfl)) (pv 1)) (pg_sub (pv 0) pe_int set_list))
      (pss_one (ps_ret (pv 2))))) pss_nil)
      (pss_cons (ps_augS (pv 0) pe_int (get_s K) pe_int ip_sub set_list)
      (pss_cons (ps_set (i := 3) sc__law_draw.nd rfl (Or.inl rfl) (pe_D0 d__law_next (by decide) hr pass0 (pa_cons (pv 0) pa_nil)))
      (pss_cons (ps_set (i := 4) sc__law_draw.nd rfl (Or.inl rfl) pe_int)
      (pss_cons (ps_while PassesOwn.never (pt_cmpR op_ltU (pv 4) (pv 1) (nomark _)) (pss_cons (ps_set (i := 3) sc__law_draw.nd rfl (Or.inl rfl) (pe_op (op_adds K) (pe_op (op_muls K) (pv 3) pe_int) (pe_D0 d__law_next (by decide) hr pass0 (pa_cons (pv 0) pa_nil))))
      (pss_one (ps_set (i := 4) sc__law_draw.nd rfl (Or.inl rfl) (pe_op (op_muls K) (pv 4) pe_int)))))
      (pss_one (ps_ret (pe_op op_modN (pv 3) (pv 1)))))))))), ?_⟩
  obtain ⟨c, xs, kk, x, w, bb, d, ⟨p, n, rfl, HI, hn, hn2, kv⟩, q, _⟩ := h
  cases d with
  | cons d1 d2 =>
  cases d2 with
  | cons d2 d3 =>
  cases d3
  obtain rfl : _ = V.ref p := d1
  obtain rfl := dp_int d2
  obtain ⟨l, ns, cl, hW, put⟩ := HI.ex
  obtain ⟨⟨i, pool, left, a, b, h, hi, hpool, ha, hb⟩, hsc, nlp⟩ := hW H w
  -- at the end
  have fin : ∀ (v i pool left a b : Int) (H' : Hp), 0 ≤ v → v < n → 0 ≤ i → 0 ≤ pool → (0 ≤ a ∧ a < 2 ^ 31) → (0 ≤ b ∧ b < 2 ^ 31) → H' p = some (.lst (handL l i pool left a b)) → (∀ x, x ≠ p → H' x = H x) → Q (.int v) H' := fun v i pool left a b H' h0 h1 hi hp ha hb hh hk => by
    obtain ⟨w1, b1⟩ := hand_end HI.L put w bb ⟨⟨i, pool, left, a, b, hh, hi, hp, ha, hb⟩, (hk l nlp).trans hsc, nlp⟩ hk
    exact q (.int v) (.d (.int v)) H' w1 b1 (Dp.int v) (kv v h0 h1)
  have nne : (n : Int) ≠ 0 := by omega
  have nlog : (n : Int).natAbs.log2 < 9000 := Nat.lt_of_lt_of_le (PySem.Flt.log2_lt_of (k := 2000) (by decide) (by omega)) (by decide)
  refine ⟨fun σ' H' => σ' = [some (.ref p), some (.int n), none, none, none] ∧ ∃ (i pool left a b : Int), 0 ≤ i ∧ 0 ≤ pool ∧ (0 ≤ a ∧ a < 2 ^ 31) ∧ (0 ≤ b ∧ b < 2 ^ 31) ∧ H' p = some (.lst (handL l i pool left a b)) ∧ (∀ x, x ≠ p → H' x = H x), ?_, ?_⟩
  · refine ⟨_, rfl, .inl ⟨p, _, _, _, rfl, rfl, SqL.of h, rfl, _, _, .int pool, .int 0, rfl, rfl, _, rfl, ?_⟩⟩
    refine ite2 (fun hz => ?_) (fun _ => ?_)
    · have hz : pool = 0 := by
        have z : PyData.eqv (.int pool) (.int 0) = true := hz
        simpa only [PyData.eqv, beq_iff_eq] using z
      subst hz
      refine ⟨_, rfl, .inl ⟨p, _, _, _, rfl, rfl, SqL.of h, rfl, _, _, .int left, .int 0, rfl, rfl, _, rfl, ?_⟩⟩
      refine ite2 (fun _ => ?_) (fun _ => ?_)
      · exact ⟨_, rfl, p, l, ns, i, left, a, b, rfl, h, hsc, nlp, hi, ha, hb, fun i' pool' left' a' b' H' hi' hp' ha' hb' hh' hk' => ⟨rfl, i', pool', left', a', b', hi', hp', ha', hb', hh', hk'⟩⟩
      · exact ⟨rfl, i, 0, left, a, b, hi, by decide, ha, hb, h, fun _ _ => rfl⟩
    · exact iteF ⟨rfl, i, pool, left, a, b, hi, hpool, ha, hb, h, fun _ _ => rfl⟩
  rintro _ H1 ⟨rfl, i, pool, left, a, b, hi, hpool, ha, hb, h, k1⟩
  refine ⟨_, rfl, .inl ⟨p, _, _, _, rfl, rfl, SqL.of h, rfl, _, _, rfl, rfl, _, rfl, ?_⟩⟩
  refine ite2 (fun _ => ?_) (fun _ => ?_)
  · refine ⟨_, rfl, .inl ⟨p, _, _, _, rfl, rfl, SqL.of h, rfl, _, rfl, _, _, rfl, rfl, nne, ?_⟩⟩
    refine ⟨_, rfl, .inl ⟨p, _, _, _, rfl, rfl, SqL.of h, rfl, _, rfl, _, _, rfl, rfl, ⟨nne, nlog⟩, _, rfl, p, _, _, 2, rfl, rfl, h, rfl, ?_⟩⟩
    refine ⟨_, rfl, fin _ i (pool.fdiv n) left a b _ (Int.fmod_nonneg_of_pos _ hn) (Int.fmod_lt_of_pos _ hn) hi (Int.fdiv_nonneg hpool (by omega)) ha hb upd_same fun x hx => (upd_ne hx).trans (k1 x hx)⟩
  · refine ⟨_, rfl, p, _, _, _, rfl, rfl, SqL.of h, rfl, _, _, rfl, rfl, p, _, _, 3, rfl, rfl, h, rfl, ?_⟩
    refine ⟨_, rfl, p, l, ns, _, _, _, _, _, rfl, upd_same, ha, hb, fun a1 b1 v1 H3 ha1 hb1 hv1 e1 k3 => ?_⟩
    have k3' : ∀ x, x ≠ p → H3 x = H x := fun x hx => ((k3 x hx).trans (upd_ne hx)).trans (k1 x hx)
    refine while_by (fun σ' H' => ∃ (v sz : Int) (e : Nat) (a b left : Int) (g : Option V), σ' = [some (.ref p), some (.int n), g, some (.int v), some (.int sz)] ∧ (0 ≤ v ∧ v < 2 * sz) ∧ sz = 2 ^ e ∧ e ≤ 2100 ∧ (0 ≤ a ∧ a < 2 ^ 31) ∧ (0 ≤ b ∧ b < 2 ^ 31) ∧ H' p = some (.lst (handL l i pool left a b)) ∧ ∀ x, x ≠ p → H' x = H x)
      (fun σ' _ => match (σ' : List (Option V))[4]? with | some (some (V.int sz)) => (n - sz).toNat | _ => 0) ?_ ?_ ?_
    · exact ⟨v1, 4294967296, 32, a1, b1, _, none, rfl, by omega, by decide, by decide, ha1, hb1, e1, k3'⟩
    · rintro σ' H' ⟨v, sz, e, a, b, left, g, rfl, hv, hsz, he, ha, hb, hh, hk⟩
      have szp : 0 < sz := by rw [hsz]; exact Int.pow_pos (by decide)
      have e2000 : sz < n → e < 2000 := fun z => by
        have z2 : (2 : Int) ^ e < 2 ^ 2000 := by rw [← hsz]; omega
        exact Nat.lt_of_not_le fun z3 => absurd z2 (Int.not_lt.mpr (by exact_mod_cast Nat.pow_le_pow_right (n := 2) (by decide) z3))
      have szb : sz.natAbs < 2 ^ 2101 := by
        rw [hsz, Int.natAbs_pow]
        exact Nat.pow_lt_pow_right (by decide) (by omega)
      refine ⟨_, rfl, _, rfl, _, _, rfl, rfl, _, rfl, ?_⟩
      refine ite2 (fun hlt => ?_) (fun hge => ?_)
      · have hlt : sz < n := of_decide_eq_true hlt
        have := e2000 hlt
        refine ⟨_, rfl, .inl ⟨_, _, rfl, rfl, wide_mul (a := 2102) (b := 40) (by have : 2 ^ 2102 = 2 * 2 ^ 2101 := by rw [Nat.pow_succ] <;> omega
                                                                                 omega) (by decide) (by decide) (by decide) (by decide), ?_⟩⟩
        refine ⟨_, rfl, p, l, ns, _, _, _, _, _, rfl, hh, ha, hb, fun a2 b2 v2 H4 ha2 hb2 hv2 e2 k4 => .inl ⟨_, _, rfl, rfl, ?_⟩⟩
        refine ⟨_, rfl, .inl ⟨_, _, rfl, rfl, wide_mul (a := 2101) (b := 40) szb (by decide) (by decide) (by decide) (by decide), ?_⟩⟩
        refine ⟨⟨v * 4294967296 + v2, sz * 4294967296, e + 32, a2, b2, left, g, rfl, by omega, ?_, by omega, ha2, hb2, e2, fun x hx => (k4 x hx).trans (hk x hx)⟩, ?_⟩
        · rw [Int.pow_add, ← hsz]; rfl
        · show (n - sz * 4294967296).toNat < (n - sz).toNat
          omega
      · refine ⟨_, rfl, _, rfl, _, _, rfl, rfl, nne, fin _ i pool left a b H' (Int.fmod_nonneg_of_pos _ hn) (Int.fmod_lt_of_pos _ hn) hi hpool ha hb hh hk⟩
    · rintro σ' H' Q1 Q2 hq ⟨v, e1, u, e2, i, j, q1, q2, k, q3, q4⟩
      exact ⟨v, e1, u, e2, i, j, q1, q2, k, q3, hq _ _ q4⟩
abbrev s__law_hand : Stmt := top 16
theorem sc__law_hand : FnScope ["_law_script"] ["_law_script"] (defScope s__law_hand) := ⟨rfl, rfl, rfl, by decide +kernel, rfl, by decide +kernel, by decide +kernel⟩
theorem ok__law_hand (T : Txt K mg AA) (R : Raw K mg "_law_hand" s__law_hand) : Def P w K mg base "_law_hand" ["_law_script"] CX0 1 (spHand K) := R.def fun f fd F => by
  refine ⟨F.binds (ps := ["_law_script"]) fun _ _ _ _ _ _ us hl => match us, hl with | [_], _ => rfl, F.ok sc__law_hand (fun vs H Q E h => ?_) (fun cdv A outer s H vs Q E hr h => ?_)⟩
  · obtain ⟨a, ns, rfl, _⟩ := h
    rfl
  refine ⟨_, (pss_one (ps_ret (pe_lst (pa_cons (pe_callTy (call_lists K) (by rfl) T.b_list (by decide +kernel) (pa_cons (pe_slice (sl_s K) (pv 0) po_none (po_some pe_int)) pa_nil)) (pa_cons pe_int (pa_cons pe_int (pa_cons pe_int (pa_cons pe_int (pa_cons pe_int pa_nil))))))))), ?_⟩
  obtain ⟨a, ns, rfl, hS, k⟩ := h
  have e : cutV (ns.map V.int) none (some 63) = (ns.take 63).map V.int := cut63 ns
  refine ⟨_, rfl, 63, rfl, a, _, rfl, hS, fun q hq => ⟨q, _, rfl, .inl (SqL.of upd_same), fun l hl => ⟨Nat.le_of_ble_eq_true rfl, fun p hp => ?_⟩⟩⟩
  have npl : p ≠ l := fun z => by subst z; rw [upd_same] at hp; cases hp
  have hp' := hp
  rw [upd_ne npl] at hp'
  have nlq : l ≠ q := fun z => by subst z; rw [upd_same] at hl; cases hl
  have npq : p ≠ q := fun z => by subst z; rw [upd_same] at hp'; cases hp'
  rw [upd_ne nlq] at hl
  rw [upd_ne npq] at hp'
  refine k p l _ hp' hl npl.symm upd_same (by rw [upd_ne npl.symm, upd_same, e]) ?_
  exact ((Evl.Ex.new hq).trans (Evl.Ex.new (by rw [upd_ne nlq]; exact hl))).trans (Evl.Ex.new hp)
local macro_rules | `(tactic| walk_at "py1") => `(tactic| first | with_reducible refine rv_eqF ?_ | with_reducible refine rv_neF ?_ | with_reducible refine rc_strI ?_ ?_ | with_reducible refine rc_strS ?_ | with_reducible refine rc_lenS ?_ ?_ | with_reducible refine rv_inS ?_ | with_reducible refine we_chain ?_)
mutual
/-- texts have bounds -/
def okS : PyData → Bool
  | .str s => decide (s.length ≤ 1000)
  | .list ds => okSs ds
  | .tuple ds => okSs ds
  | _ => true
def okSs : List PyData → Bool
  | [] => true
  | d :: ds => okS d && okSs ds
end
theorem okS_tup {ds : List PyData} (h : okS (.tuple ds) = true) : ∀ d ∈ ds, okS d = true := by
  have h : okSs ds = true := h
  induction ds with
  | nil => intro d hd; cases hd
  | cons e ds ih =>
    have h : (okS e && okSs ds) = true := h
    rw [Bool.and_eq_true] at h
    intro d hd
    rcases List.mem_cons.mp hd with rfl | hd
    · exact h.1
    · exact ih h.2 h.2 d hd
theorem okS_ds {ds : List PyData} (h : ∀ d ∈ ds, okS d = true) : okS (.tuple ds) = true ∧ okS (.list ds) = true := by
  have : okSs ds = true := by
    induction ds with
    | nil => rfl
    | cons e ds ih =>
      show (okS e && okSs ds) = true
      rw [h e (List.mem_cons_self ..), ih fun d hd => h d (List.mem_cons_of_mem _ hd)]; rfl
  exact ⟨this, this⟩
theorem okS_wD {w : Wi} (h : WiOk w) : okS (wD w) = true := by
  induction w with
  | inn a =>
    refine (okS_ds fun d hd => ?_).1
    have : d = .str "in" ∨ d = .str a := by simpa using hd
    rcases this with rfl | rfl
    · decide +kernel
    · exact decide_eq_true (Nat.le_trans (nm_len h).2 (by decide))
  | rnd a n =>
    refine (okS_ds fun d hd => ?_).1
    have : d = .str "round" ∨ d = .str a ∨ d = .int n := by simpa using hd
    rcases this with rfl | rfl | rfl
    · decide +kernel
    · exact decide_eq_true (Nat.le_trans (nm_len h.1).2 (by decide))
    · rfl
  | lst n => rfl
  | no v ih =>
    refine (okS_ds fun d hd => ?_).1
    have : d = .str "no" ∨ d = wD v := by simpa using hd
    rcases this with rfl | rfl
    · decide +kernel
    · exact ih h
  | two b v w ih1 ih2 =>
    refine (okS_ds fun d hd => ?_).1
    have : d = .str (bW b) ∨ d = wD v ∨ d = wD w := by simpa using hd
    rcases this with rfl | rfl | rfl
    · cases b <;> decide +kernel
    · exact ih1 h.1
    · exact ih2 h.2
def p_is_name (K : PySem.W.Frag) : PT0 K := fun c xs k _ => ∃ d : PyData, xs = [.d d] ∧ okS d = true ∧ k (.d (.bool (isNm d)))
theorem len_is_name {K : PySem.W.Frag} : ∀ (c : Py.Ctx K) xs k x, p_is_name K c xs k x → xs.length = 1 := by
  rintro c xs k x ⟨d, rfl, _⟩
  rfl
abbrev s_is_name : Stmt := top 6
theorem sc_is_name : FnScope ["thing", "sign"] ["thing"] (defScope s_is_name) := ⟨rfl, rfl, rfl, by decide +kernel, rfl, by decide +kernel, by decide +kernel⟩
theorem ok_is_name (T : Txt K mg AA) (R : Raw K mg "is_name" s_is_name) : Def P w K mg base "is_name" ["thing"] CX0 1 (spD K (p_is_name K)) := R.def fun f fd F => by
  refine ⟨F.binds (ps := ["thing"]) fun _ _ _ _ _ _ us hl => match us, hl with | [_], _ => rfl, F.ok sc_is_name (spD_len len_is_name) (fun cdv A outer s H vs Q E hr h => ?_)⟩
  refine ⟨_, (pss_cons (ps_if (PW.pt (pw_or (pt_not (pt_tru K (pe_callB (call_isis K) (by rfl) T.b_isinstance (by decide +kernel) (pa_cons (pv 0) (pa_cons (pe_bltn (v := .ty "str") (by rfl) T.b_str (by decide +kernel) rfl) pa_nil))) (by intro _; rfl))) (pw_or1 (pt_not (pt_chain op_leU op_leU pe_int (pe_callB (call_lens K) (by rfl) T.b_len (by decide +kernel) (pa_cons (pv 0) pa_nil)) (pe_glob (v := .int 8) rfl T.k_LONGEST ⟨_, rfl⟩)))))) (pss_one (ps_ret pe_bl)) pss_nil)
      (pss_one (ps_ret (pe_callB (cr_alls K rfl) (by rfl) T.b_all (by decide +kernel) (pa_cons (pe_lc (own := [("sign", 1)]) (g := gName 1) (tt := tYes) rfl sc_is_name.nd (pi_str (pv 0)) (blkOk_by (own := [("sign", 1)]) (N := ["thing", "sign"]) (sc := defScope s_is_name) (by decide +kernel)) (fun _ _ _ _ _ => (pg_name (i := 1) sc_is_name.nd rfl (Or.inl rfl))) (fun _ _ _ _ _ => pts_nil) (fun _ _ _ _ _ => (pe_cmpR op_inS (pv 1) (pe_glob (v := .str "abcdefghijklmnopqrstuvwxyz") rfl T.k_LETTERS ⟨_, rfl⟩) (by with_unfolding_all rfl)))) pa_nil))))), ?_⟩
  refine run_spD h (fun c xs k x p => ?_)
  obtain ⟨d, rfl, hs, hk⟩ := p
  refine ⟨Nat.le_of_ble_eq_true rfl, fun hx => ?_⟩
  show Ws c _ [.val (.d d), .un] _
  cases d with
  | str a =>
    have la : a.length ≤ 1000 := of_decide_eq_true hs
    have hk : k (.d (.bool (isNmS a))) := hk
    walk_at "py"
    · omega
    · rename_i h1 h2
      have e : isNmS a = false := by
        unfold isNmS
        rw [decide_eq_false (show ¬ a.length ≤ 8 by have := of_decide_eq_false (by simpa using h2 : decide ((a.length : Int) ≤ 8) = false); omega)]
        simp
      rw [e] at hk; exact hk
    · rename_i h1 h2
      have l1 : 1 ≤ a.length := by have := of_decide_eq_true h1; omega
      have l2 : a.length ≤ 8 := by have := of_decide_eq_true (by simpa using h2 : decide ((a.length : Int) ≤ 8) = true); omega
      refine we_fresh (wf_lcSm (fun z => .bool (decide (z ∈ ("abcdefghijklmnopqrstuvwxyz" : Str).cps.toList))) (by decide) rfl rfl ?_)
      refine we_var rfl ⟨a, rfl, by omega, fun c' le z hz => ?_, ?_⟩
      · walk_at "py"
        rfl
      have e2 : (a.cps.toList.map fun z => PyData.bool (decide (z ∈ ("abcdefghijklmnopqrstuvwxyz" : Str).cps.toList))) = (a.cps.toList.map fun z => decide (z ∈ ("abcdefghijklmnopqrstuvwxyz" : Str).cps.toList)).map PyData.bool := by simp
      rw [e2]
      refine wa_nil (rc_all ?_)
      have e : isNmS a = (a.cps.toList.map fun z => decide (z ∈ ("abcdefghijklmnopqrstuvwxyz" : Str).cps.toList)).all id := by
        unfold isNmS
        rw [decide_eq_true l1, decide_eq_true l2, List.all_map]
        rfl
      rw [← e]; exact hk
    · rename_i h1 _
      have e : isNmS a = false := by
        unfold isNmS
        rw [decide_eq_false (show ¬ 1 ≤ a.length by have := of_decide_eq_false h1; omega)]
        rfl
      rw [e] at hk; exact hk
  | none => walk_at "py"; exact hk
  | bool b => walk_at "py"; exact hk
  | int b => walk_at "py"; exact hk
  | list b => walk_at "py"; exact hk
  | tuple b => walk_at "py"; exact hk
  | dict b => walk_at "py"; exact hk

theorem call_is_name {K : PySem.W.Frag} {c : Py.Ctx K} {k : Dv → Prop} {x : Value → Prop} {d : PyData} (hs : okS d = true) (h : k (.d (.bool (isNm d)))) : ∀ c', Le c c' → p_is_name K c' [.d d] k x := fun c' le => ⟨d, rfl, hs, h⟩
local macro_rules | `(tactic| walk_at "py1") => `(tactic| with_reducible refine call_is_name ?_ ?_)
def p_is_whole (K : PySem.W.Frag) : PT0 K := fun c xs k _ => ∃ d, xs = [.d d] ∧ k (.d (.bool (isInt d && !isBool d)))
theorem len_is_whole {K : PySem.W.Frag} : ∀ (c : Py.Ctx K) xs k x, p_is_whole K c xs k x → xs.length = 1 := by
  rintro c xs k x ⟨d, rfl, _⟩
  rfl
abbrev s_is_whole : Stmt := top 8
theorem sc_is_whole : FnScope ["thing"] ["thing"] (defScope s_is_whole) := ⟨rfl, rfl, rfl, by decide +kernel, rfl, by decide +kernel, by decide +kernel⟩
theorem ok_is_whole (T : Txt K mg AA) (R : Raw K mg "is_whole" s_is_whole) : Def P w K mg base "is_whole" ["thing"] CX0 1 (spD K (p_is_whole K)) := R.def fun f fd F => by
  refine ⟨F.binds (ps := ["thing"]) fun _ _ _ _ _ _ us hl => match us, hl with | [_], _ => rfl, F.ok sc_is_whole (spD_len len_is_whole) (fun cdv A outer s H vs Q E hr h => ?_)⟩
  refine ⟨_, (pss_one (ps_ret (pe_and (pe_callB (call_isis K) (by rfl) T.b_isinstance (by decide +kernel) (pa_cons (pv 0) (pa_cons (pe_bltn (v := .ty "int") (by rfl) T.b_int (by decide +kernel) rfl) pa_nil))) (pe_one (pe_not (pe_callB (call_isis K) (by rfl) T.b_isinstance (by decide +kernel) (pa_cons (pv 0) (pa_cons (pe_bltn (v := .ty "bool") (by rfl) T.b_bool (by decide +kernel) rfl) pa_nil)))))))), ?_⟩
  refine run_spD h (fun c xs k x p => ?_)
  obtain ⟨d, rfl, hk⟩ := p
  refine ⟨Nat.le_of_ble_eq_true rfl, fun hx => ?_⟩
  show Ws c _ [.val (.d d)] _
  walk_at "py"
  · rename_i hb
    rw [hb, Bool.true_and] at hk
    exact hk
  · rename_i hb
    rw [hb, Bool.false_and] at hk
    exact hk

theorem call_is_whole {K : PySem.W.Frag} {c : Py.Ctx K} {k : Dv → Prop} {x : Value → Prop} {d : PyData} (h : k (.d (.bool (isInt d && !isBool d)))) : ∀ c', Le c c' → p_is_whole K c' [.d d] k x := fun c' le => ⟨d, rfl, h⟩
local macro_rules | `(tactic| walk_at "py1") => `(tactic| with_reducible refine call_is_whole ?_)
def p_is_wish_within (n : Nat) (K : PySem.W.Frag) : PT0 K := fun c xs k _ => ∃ (d : PyData) (m : Int), xs = [.d d, .d (.int m)] ∧ m.toNat < n ∧ m ≤ 100 ∧ okS d = true ∧ k (.d (.bool (isW m.toNat d)))
theorem len_is_wish_within {n : Nat} {K : PySem.W.Frag} : ∀ (c : Py.Ctx K) xs k x, p_is_wish_within n K c xs k x → xs.length = 2 := by
  rintro c xs k x ⟨d, m, rfl, _⟩
  rfl
theorem zero_is_wish_within {K : PySem.W.Frag} {c : Py.Ctx K} {xs : List Dv} {k : Dv → Prop} {x : Value → Prop} : ¬ p_is_wish_within 0 K c xs k x := by
  rintro ⟨d, m, _, h, _⟩
  exact absurd h (Nat.not_lt_zero _)
theorem wh_eq (d : PyData) : isWh d = (isInt d && !isBool d) := by cases d <;> rfl
theorem call_is_wish_within {n : Nat} {K : PySem.W.Frag} {c : Py.Ctx K} {k : Dv → Prop} {x : Value → Prop} {d : PyData} {m : Int} (hm : m.toNat < n) (hm2 : m ≤ 100) (hs : okS d = true) (h : k (.d (.bool (isW m.toNat d)))) : ∀ c', Le c c' → p_is_wish_within n K c' [.d d, .d (.int m)] k x := fun c' le => ⟨d, m, rfl, hm, hm2, hs, h⟩
abbrev s_is_wish_within : Stmt := top 11
theorem sc_is_wish_within : FnScope ["thing", "deep", "word"] ["thing", "deep"] (defScope s_is_wish_within) := ⟨rfl, rfl, rfl, by decide +kernel, rfl, by decide +kernel, by decide +kernel⟩
theorem okZ_is_wish_within (T : Txt K mg AA) (d_is_name : Def P w K mg base "is_name" ["thing"] CX0 1 (spD K (p_is_name K))) (d_is_whole : Def P w K mg base "is_whole" ["thing"] CX0 1 (spD K (p_is_whole K))) (R : Raw K mg "is_wish_within" s_is_wish_within) : Def P w K mg base "is_wish_within" ["thing", "deep"] CX0 (1) (spD K (p_is_wish_within 0 K)) := R.def fun f fd F => by
  refine ⟨F.binds (ps := ["thing", "deep"]) fun _ _ _ _ _ _ us hl => match us, hl with | [_, _], _ => rfl, F.ok sc_is_wish_within (spD_len len_is_wish_within) (fun cdv A outer s H vs Q E hr h => ?_)⟩
  obtain ⟨c, xs, k, x, _, _, _, p, _⟩ := h
  exact absurd p zero_is_wish_within
theorem okS_is_wish_within (n : Nat) (T : Txt K mg AA) (d_is_name : Def P w K mg base "is_name" ["thing"] CX0 1 (spD K (p_is_name K))) (d_is_whole : Def P w K mg base "is_whole" ["thing"] CX0 1 (spD K (p_is_whole K))) (d_is_wish_within : Def P w K mg base "is_wish_within" ["thing", "deep"] CX0 (1 + n) (spD K (p_is_wish_within n K))) (R : Raw K mg "is_wish_within" s_is_wish_within) : Def P w K mg base "is_wish_within" ["thing", "deep"] CX0 (1 + n + 1) (spD K (p_is_wish_within (n + 1) K)) := R.def fun f fd F => by
  refine ⟨F.binds (ps := ["thing", "deep"]) fun _ _ _ _ _ _ us hl => match us, hl with | [_, _], _ => rfl, F.ok sc_is_wish_within (spD_len len_is_wish_within) (fun cdv A outer s H vs Q E hr h => ?_)⟩
  refine ⟨_, (pss_cons (ps_if (PW.pt (pw_or (pt_cmpR op_ltU (pv 1) pe_int (nomark _)) (pw_or (pt_not (pt_tru K (pe_callB (call_isis K) (by rfl) T.b_isinstance (by decide +kernel) (pa_cons (pv 0) (pa_cons (pe_bltn (v := .ty "tuple") (by rfl) T.b_tuple (by decide +kernel) rfl) pa_nil))) (by intro _; rfl))) (pw_or1 (pt_cmpR (op_niq K) (pe_callB (call_lens K) (by rfl) T.b_len (by decide +kernel) (pa_cons (pv 0) pa_nil)) (pe_tup (pa_cons pe_int (pa_cons pe_int pa_nil))) (by with_unfolding_all rfl)))))) (pss_one (ps_ret pe_bl)) pss_nil)
      (pss_cons (ps_set (i := 2) sc_is_wish_within.nd rfl (Or.inl rfl) (pe_ix (ix_s K) (pv 0) pe_int (fun _ _ => rfl)))
      (pss_cons (ps_if (pt_not (pt_tru K (pe_callB (call_isis K) (by rfl) T.b_isinstance (by decide +kernel) (pa_cons (pv 2) (pa_cons (pe_bltn (v := .ty "str") (by rfl) T.b_str (by decide +kernel) rfl) pa_nil))) (by intro _; rfl))) (pss_one (ps_ret pe_bl)) pss_nil)
      (pss_cons (ps_if (pt_cmpR (op_eqs K hr.units) (pe_callB (call_lens K) (by rfl) T.b_len (by decide +kernel) (pa_cons (pv 0) pa_nil)) pe_int (nomark _)) (pss_cons (ps_if (pt_cmpR op_eq (pv 2) pe_str (nomark _)) (pss_one (ps_ret (pe_D0 d_is_name (by omega) hr pass0 (pa_cons (pe_ix (ix_s K) (pv 0) pe_int (fun _ _ => rfl)) pa_nil)))) pss_nil)
      (pss_cons (ps_if (pt_cmpR op_eq (pv 2) pe_str (nomark _)) (pss_one (ps_ret (pe_D0 d_is_whole (by omega) hr pass0 (pa_cons (pe_ix (ix_s K) (pv 0) pe_int (fun _ _ => rfl)) pa_nil)))) pss_nil)
      (pss_one (ps_ret (pe_and (pe_cmpR op_eq (pv 2) pe_str (nomark _)) (pe_one (pe_D0 d_is_wish_within (by omega) hr pass0 (pa_cons (pe_ix (ix_s K) (pv 0) pe_int (fun _ _ => rfl)) (pa_cons (pe_op op_sub (pv 1) pe_int) pa_nil))))))))) pss_nil)
      (pss_cons (ps_if (pt_cmpR op_eq (pv 2) pe_str (nomark _)) (pss_one (ps_ret (pe_and (pe_D0 d_is_name (by omega) hr pass0 (pa_cons (pe_ix (ix_s K) (pv 0) pe_int (fun _ _ => rfl)) pa_nil)) (pe_one (pe_D0 d_is_whole (by omega) hr pass0 (pa_cons (pe_ix (ix_s K) (pv 0) pe_int (fun _ _ => rfl)) pa_nil)))))) pss_nil)
      (pss_cons (ps_if (pt_cmpR (op_niq K) (pv 2) (pe_tup (pa_cons pe_str (pa_cons pe_str pa_nil))) (by with_unfolding_all rfl)) (pss_one (ps_ret pe_bl)) pss_nil)
      (pss_one (ps_ret (pe_and (pe_D0 d_is_wish_within (by omega) hr pass0 (pa_cons (pe_ix (ix_s K) (pv 0) pe_int (fun _ _ => rfl)) (pa_cons (pe_op op_sub (pv 1) pe_int) pa_nil))) (pe_one (pe_D0 d_is_wish_within (by omega) hr pass0 (pa_cons (pe_ix (ix_s K) (pv 0) pe_int (fun _ _ => rfl)) (pa_cons (pe_op op_sub (pv 1) pe_int) pa_nil))))))))))))), ?_⟩
  refine run_spD h (fun c xs k x p => ?_)
  obtain ⟨d, m, rfl, hm, hm2, hs, hk⟩ := p
  refine ⟨Nat.le_of_ble_eq_true rfl, fun hx => ?_⟩
  show Ws c _ [.val (.d d), .val (.d (.int m)), .un] _
  by_cases h0 : m < 1
  · have e : m.toNat = 0 := by omega
    rw [e] at hk
    have hk : k (.d (.bool false)) := hk
    refine ws_seq (ws_if ?_)
    refine wt_or (wt_test ?_)
    walk_at "py"
    all_goals first | exact absurd h0 (of_decide_eq_false (p := m < 1) (by assumption)) | exact hk
  obtain ⟨j, hj⟩ : ∃ j, m.toNat = j + 1 := ⟨m.toNat - 1, by omega⟩
  have hj2 : (m - 1).toNat = j := by omega
  rw [hj] at hk
  have so := fun ds => okS_tup (ds := ds)
  cases d with
  | none => (walk_at "py"; all_goals first | exact hk)
  | bool b => (walk_at "py"; all_goals first | exact hk)
  | int b => (walk_at "py"; all_goals first | exact hk)
  | str b => (walk_at "py"; all_goals first | exact hk)
  | list b => (walk_at "py"; all_goals first | exact hk)
  | dict b => (walk_at "py"; all_goals first | exact hk)
  | tuple ds =>
    have bad : (¬ (ds.length = 2 ∨ ds.length = 3)) → k (.d (.bool false)) := fun hl => by
      rw [isW_other (fun w a e => hl (by cases e; exact .inl rfl)) (fun w a b e => hl (by cases e; exact .inr rfl))] at hk
      exact hk
    by_cases hl : ds.length = 2 ∨ ds.length = 3
    · clear bad
      refine ws_seq (ws_if (wt_split false ?_ (fun h => by cases h) (fun _ => ws_next ?_)))
      · walk_at "py"
        · refine rv_niIT (ns := [2, 3]) ?_
          refine ⟨_, rfl, ?_⟩
          simp; omega
        · exact absurd (of_decide_eq_true (p := m < 1) (by assumption)) h0
      have ho := so ds hs
      match ds, hl, ho with
      | [a, b], _, ho =>
        have hb := ho b (by simp)
        refine ws_cut (fun ρ' => ρ' = [.val (.d (.tuple [a, b])), .val (.d (.int m)), .val (.d a)]) (by walk_at "py"; rfl) ?_
        rintro _ rfl
        cases a with
        | str w =>
          have hk : k (.d (.bool (if w = "in" then isNm b else if w = "least" then isWh b else decide (w = "no") && isW j b))) := hk
          walk_at "py"
          · exact hb
          · rename_i h1
            rw [if_pos (of_decide_eq_true h1)] at hk; exact hk
          · rename_i h1 h2
            rw [if_neg (of_decide_eq_false h1), if_pos (of_decide_eq_true h2), wh_eq] at hk; exact hk
          · rename_i h1 h2 h3
            refine call_is_wish_within (by omega) (by omega) hb ?_
            rw [if_neg (of_decide_eq_false h1), if_neg (of_decide_eq_false h2), h3] at hk
            rw [hj2]; exact hk
          · rename_i h1 h2 h3
            rw [if_neg (of_decide_eq_false h1), if_neg (of_decide_eq_false h2), h3] at hk
            exact hk
        | none => (walk_at "py"; all_goals first | exact hk)
        | bool b => (walk_at "py"; all_goals first | exact hk)
        | int b => (walk_at "py"; all_goals first | exact hk)
        | list b => (walk_at "py"; all_goals first | exact hk)
        | tuple b => (walk_at "py"; all_goals first | exact hk)
        | dict b => (walk_at "py"; all_goals first | exact hk)
      | [a, b, e], _, ho =>
        have hb := ho b (by simp)
        have he := ho e (by simp)
        refine ws_cut (fun ρ' => ρ' = [.val (.d (.tuple [a, b, e])), .val (.d (.int m)), .val (.d a)]) (by walk_at "py"; rfl) ?_
        rintro _ rfl
        cases a with
        | str w =>
          have hk : k (.d (.bool (if w = "round" then isNm b && isWh e else if w ∈ (["both", "any"] : List Str) then isW j b && isW j e else false))) := hk
          walk_at "py"
          · exact hb
          · rename_i h1 h2
            rw [if_pos (of_decide_eq_true h1), h2, wh_eq] at hk; exact hk
          · rename_i h1 h2
            rw [if_pos (of_decide_eq_true h1), h2] at hk; exact hk
          rename_i h1
          rw [if_neg (of_decide_eq_false h1)] at hk
          refine rv_niST (ns := ["both", "any"]) ?_
          walk_at "py"
          · rename_i h2
            rw [if_neg (of_decide_eq_false (nb0 h2))] at hk; exact hk
          · rename_i h2
            rw [if_pos (of_decide_eq_true (nb1 h2))] at hk
            refine call_is_wish_within (by omega) (by omega) hb ?_
            rw [hj2]
            walk_at "py"
            · rename_i h3
              refine call_is_wish_within (by omega) (by omega) he ?_
              rw [hj2]
              rw [h3] at hk; exact hk
            · rename_i h3
              rw [h3] at hk; exact hk
        | none => (walk_at "py"; all_goals first | exact hk)
        | bool b => (walk_at "py"; all_goals first | exact hk)
        | int b => (walk_at "py"; all_goals first | exact hk)
        | list b => (walk_at "py"; all_goals first | exact hk)
        | tuple b => (walk_at "py"; all_goals first | exact hk)
        | dict b => (walk_at "py"; all_goals first | exact hk)
    · have hk := bad hl
      clear bad
      walk_at "py"
      · refine rv_niIT (ns := [2, 3]) ?_
        walk_at "py"
        · exact hk
        · rename_i h1; simp at h1; omega
      · exact hk

theorem okR_is_wish_within (T : Txt K mg AA) (d_is_name : Def P w K mg base "is_name" ["thing"] CX0 1 (spD K (p_is_name K))) (d_is_whole : Def P w K mg base "is_whole" ["thing"] CX0 1 (spD K (p_is_whole K))) (R : Raw K mg "is_wish_within" s_is_wish_within) : ∀ n : Nat, Def P w K mg base "is_wish_within" ["thing", "deep"] CX0 (1 + n) (spD K (p_is_wish_within n K))
  | 0 => okZ_is_wish_within T d_is_name d_is_whole R
  | n + 1 => okS_is_wish_within n T d_is_name d_is_whole (okR_is_wish_within T d_is_name d_is_whole R n) R
theorem ok_is_wish_within (T : Txt K mg AA) (d_is_name : Def P w K mg base "is_name" ["thing"] CX0 1 (spD K (p_is_name K))) (d_is_whole : Def P w K mg base "is_whole" ["thing"] CX0 1 (spD K (p_is_whole K))) (R : Raw K mg "is_wish_within" s_is_wish_within) : Def P w K mg base "is_wish_within" ["thing", "deep"] CX0 (8) (spD K (p_is_wish_within 7 K)) := okR_is_wish_within T d_is_name d_is_whole R 7
def p_is_wish (K : PySem.W.Frag) : PT0 K := fun c xs k _ => ∃ (d : PyData), xs = [.d d] ∧ okS d = true ∧ k (.d (.bool (isW 6 d)))
theorem len_is_wish {K : PySem.W.Frag} : ∀ (c : Py.Ctx K) xs k x, p_is_wish K c xs k x → xs.length = 1 := by
  rintro c xs k x ⟨d, rfl, _⟩
  rfl
abbrev s_is_wish : Stmt := top 12
theorem sc_is_wish : FnScope ["thing"] ["thing"] (defScope s_is_wish) := ⟨rfl, rfl, rfl, by decide +kernel, rfl, by decide +kernel, by decide +kernel⟩
theorem ok_is_wish (T : Txt K mg AA) (d_is_wish_within : Def P w K mg base "is_wish_within" ["thing", "deep"] CX0 8 (spD K (p_is_wish_within 7 K))) (R : Raw K mg "is_wish" s_is_wish) : Def P w K mg base "is_wish" ["thing"] CX0 9 (spD K (p_is_wish K)) := R.def fun f fd F => by
  refine ⟨F.binds (ps := ["thing"]) fun _ _ _ _ _ _ us hl => match us, hl with | [_], _ => rfl, F.ok sc_is_wish (spD_len len_is_wish) (fun cdv A outer s H vs Q E hr h => ?_)⟩
  refine ⟨_, (pss_one (ps_ret (pe_D0 d_is_wish_within (by decide) hr pass0 (pa_cons (pv 0) (pa_cons (pe_glob (v := .int 6) rfl T.k_DEEPEST ⟨_, rfl⟩) pa_nil))))), ?_⟩
  refine run_spD h (fun c xs k x p => ?_)
  obtain ⟨d, rfl, hs, hk⟩ := p
  refine ⟨Nat.le_of_ble_eq_true rfl, fun hx => ?_⟩
  show Ws c _ [.val (.d d)] _
  walk_at "py"
  refine call_is_wish_within (by decide) (by decide) hs ?_
  exact hk

theorem call_is_wish {K : PySem.W.Frag} {c : Py.Ctx K} {k : Dv → Prop} {x : Value → Prop} {d : PyData} (hs : okS d = true) (h : k (.d (.bool (isW 6 d)))) : ∀ c', Le c c' → p_is_wish K c' [.d d] k x := fun c' le => ⟨d, rfl, hs, h⟩
local macro_rules | `(tactic| walk_at "py1") => `(tactic| with_reducible refine call_is_wish ?_ ?_)
def p_holds_for (n : Nat) (K : PySem.W.Frag) : PTZ K := fun c O xs k x => ∃ (d : Addr) (r : List (Str × Int)) (w : Wi), O = [DkO d (dk r)] ∧ xs = [.d (wD w), .r (.ref d)] ∧ wdep w < n ∧ r.length ≤ 100 ∧ k O (.d (.bool (holdsW r w)))
theorem len_holds_for {n : Nat} {K : PySem.W.Frag} : ∀ (c : Py.Ctx K) O xs k x, p_holds_for n K c O xs k x → xs.length = 2 := by
  rintro c O xs k x ⟨d, r, w, rfl, rfl, _⟩
  rfl
theorem zero_holds_for {K : PySem.W.Frag} {c : Py.Ctx K} {O : Sto K} {xs : List Dv} {k : Sto K → Dv → Prop} {x : Sto K → Value → Option FD → Prop} : ¬ p_holds_for 0 K c O xs k x := by
  rintro ⟨d, r, w, _, _, h, _⟩
  exact absurd h (Nat.not_lt_zero _)
theorem call_holds_for {n : Nat} {K : PySem.W.Frag} {c : Py.Ctx K} {k : Sto K → Dv → Prop} {x : Sto K → Value → Option FD → Prop} {d : Addr} {r : List (Str × Int)} {w : Wi} (hn : wdep w < n) (hl : r.length ≤ 100) (h : k [DkO d (dk r)] (.d (.bool (holdsW r w)))) : p_holds_for n K c [DkO d (dk r)] [.d (wD w), .r (.ref d)] k x := ⟨d, r, w, rfl, rfl, hn, hl, h⟩
abbrev s_holds_for : Stmt := top 13
theorem sc_holds_for : FnScope ["wish", "rounds", "word", "name"] ["wish", "rounds"] (defScope s_holds_for) := ⟨rfl, rfl, rfl, by decide +kernel, rfl, by decide +kernel, by decide +kernel⟩
theorem okZ_holds_for (T : Txt K mg AA) (R : Raw K mg "holds_for" s_holds_for) : Def P w K mg base "holds_for" ["wish", "rounds"] CX0 (1) (spZ K (p_holds_for 0 K)) := R.def fun f fd F => by
  refine ⟨F.binds (ps := ["wish", "rounds"]) fun _ _ _ _ _ _ us hl => match us, hl with | [_, _], _ => rfl, F.ok sc_holds_for (spZ_len len_holds_for) (fun cdv A outer s H vs Q E hr h => ?_)⟩
  obtain ⟨c, O, us, xs, k, x, _, _, _, _, p, _⟩ := h
  exact absurd p zero_holds_for
theorem okS_holds_for (n : Nat) (T : Txt K mg AA) (d_holds_for : Def P w K mg base "holds_for" ["wish", "rounds"] CX0 (1 + n) (spZ K (p_holds_for n K))) (R : Raw K mg "holds_for" s_holds_for) : Def P w K mg base "holds_for" ["wish", "rounds"] CX0 (1 + n + 1) (spZ K (p_holds_for (n + 1) K)) := R.def fun f fd F => by
  refine ⟨F.binds (ps := ["wish", "rounds"]) fun _ _ _ _ _ _ us hl => match us, hl with | [_, _], _ => rfl, F.ok sc_holds_for (spZ_len len_holds_for) (fun cdv A outer s H vs Q E hr h => ?_)⟩
  refine ⟨_, (pss_cons (ps_set (i := 2) sc_holds_for.nd rfl (Or.inl rfl) (pe_ix (ix_s K) (pv 0) pe_int (fun _ _ => rfl)))
      (pss_cons (ps_if (pt_cmpR op_eq (pv 2) pe_str (nomark _)) (pss_one (ps_ret (pe_cmpR (op_nes K hr.units) (pe_dget2 (hu_of hr) (pv 1) (pe_ix (ix_s K) (pv 0) pe_int (fun _ _ => rfl)) pe_int ⟨rfl, rfl, rfl, rfl⟩) pe_int (nomark _)))) pss_nil)
      (pss_cons (ps_if (pt_cmpR op_eq (pv 2) pe_str (nomark _)) (pss_one (ps_ret (pe_cmpR (op_eqs K hr.units) (pe_dget2 (hu_of hr) (pv 1) (pe_ix (ix_s K) (pv 0) pe_int (fun _ _ => rfl)) pe_int ⟨rfl, rfl, rfl, rfl⟩) (pe_ix (ix_s K) (pv 0) pe_int (fun _ _ => rfl)) (nomark _)))) pss_nil)
      (pss_cons (ps_if (pt_cmpR op_eq (pv 2) pe_str (nomark _)) (pss_one (ps_ret (pe_cmpR op_geU (pe_callB (call_lens K) (by rfl) T.b_len (by decide +kernel) (pa_cons (pe_lock (pe_lc (own := [("name", 3)]) (g := gName 3) rfl sc_holds_for.nd (pi_keys (pv 1)) (blkOk_by (own := [("name", 3)]) (N := ["wish", "rounds", "word", "name"]) (sc := defScope s_holds_for) (by decide +kernel)) (fun _ _ _ _ _ => (pg_name (i := 3) sc_holds_for.nd rfl (Or.inl rfl))) (fun _ _ _ _ _ => pts_one (pt_cmpR (op_nes K hr.units) (pe_dget (hu_of hr) (pv 1) (pv 3) (fun _ _ => rfl)) pe_int (nomark _))) (fun _ _ _ _ _ => (pv 3)))) pa_nil)) (pe_ix (ix_s K) (pv 0) pe_int (fun _ _ => rfl)) (nomark _)))) pss_nil)
      (pss_cons (ps_if (pt_cmpR op_eq (pv 2) pe_str (nomark _)) (pss_one (ps_ret (pe_not (pe_D0 d_holds_for (by omega) hr pass0 (pa_cons (pe_ix (ix_s K) (pv 0) pe_int (fun _ _ => rfl)) (pa_cons (pv 1) pa_nil)))))) pss_nil)
      (pss_cons (ps_if (pt_cmpR op_eq (pv 2) pe_str (nomark _)) (pss_one (ps_ret (pe_and (pe_D0 d_holds_for (by omega) hr pass0 (pa_cons (pe_ix (ix_s K) (pv 0) pe_int (fun _ _ => rfl)) (pa_cons (pv 1) pa_nil))) (pe_one (pe_D0 d_holds_for (by omega) hr pass0 (pa_cons (pe_ix (ix_s K) (pv 0) pe_int (fun _ _ => rfl)) (pa_cons (pv 1) pa_nil))))))) pss_nil)
      (pss_one (ps_ret (pe_or (pe_D0 d_holds_for (by omega) hr pass0 (pa_cons (pe_ix (ix_s K) (pv 0) pe_int (fun _ _ => rfl)) (pa_cons (pv 1) pa_nil))) (pe_one (pe_D0 d_holds_for (by omega) hr pass0 (pa_cons (pe_ix (ix_s K) (pv 0) pe_int (fun _ _ => rfl)) (pa_cons (pv 1) pa_nil))))))))))))), ?_⟩
  refine run_spZ h (fun c O xs k x p => ?_)
  obtain ⟨d, r, w, rfl, rfl, hn, hl, hk⟩ := p
  refine ⟨Nat.le_of_ble_eq_true rfl, fun hx => ?_⟩
  cases w with
  | inn a =>
    show Zs c _ _ [.val (.d (.tuple [.str "in", .str a])), .val (.r (.ref d)), .un, .un] _
    refine zs_cut (fun O' ρ' => O' = [DkO d (dk r)] ∧ ρ' = [.val (.d (.tuple [.str "in", .str a])), .val (.r (.ref d)), .val (.d (.str "in")), .un]) ?_ ?_
    · refine zs_asg (ze_old fun c' le hs => ?_)
      walk_at "py"
      exact ⟨rfl, rfl⟩
    rintro _ _ ⟨rfl, rfl⟩
    refine zs_old fun c' le hs => ?_
    refine ws_seq (ws_if (wt_split true ?_ (fun _ => ?_) (fun h => by cases h)))
    · walk_at "py"
      first | rfl | decide +kernel
    refine ws_ret (we_op (we_get2At (we_var rfl ⟨d, dk r, rfl, DkAt.of (hs.get (n := 0) rfl), ?_⟩)))
    walk_at "py"
    refine ⟨.inr a, .int 0, rfl, rfl, ?_⟩
    rw [val_dk0]
    walk_at "py"
    exact hk
  | rnd a n0 =>
    show Zs c _ _ [.val (.d (.tuple [.str "round", .str a, .int n0])), .val (.r (.ref d)), .un, .un] _
    refine zs_cut (fun O' ρ' => O' = [DkO d (dk r)] ∧ ρ' = [.val (.d (.tuple [.str "round", .str a, .int n0])), .val (.r (.ref d)), .val (.d (.str "round")), .un]) ?_ ?_
    · refine zs_asg (ze_old fun c' le hs => ?_)
      walk_at "py"
      exact ⟨rfl, rfl⟩
    rintro _ _ ⟨rfl, rfl⟩
    refine zs_old fun c' le hs => ?_
    refine ws_seq (ws_if (wt_split false ?_ (fun h => by cases h) (fun _ => ws_next ?_)))
    · walk_at "py"
      first | rfl | decide +kernel
    refine ws_seq (ws_if (wt_split true ?_ (fun _ => ?_) (fun h => by cases h)))
    · walk_at "py"
      first | rfl | decide +kernel
    refine ws_ret (we_op (we_get2At (we_var rfl ⟨d, dk r, rfl, DkAt.of (hs.get (n := 0) rfl), ?_⟩)))
    walk_at "py"
    refine ⟨.inr a, .int 0, rfl, rfl, ?_⟩
    rw [val_dk0]
    walk_at "py"
    exact hk
  | lst n0 =>
    show Zs c _ _ [.val (.d (.tuple [.str "least", .int n0])), .val (.r (.ref d)), .un, .un] _
    refine zs_cut (fun O' ρ' => O' = [DkO d (dk r)] ∧ ρ' = [.val (.d (.tuple [.str "least", .int n0])), .val (.r (.ref d)), .val (.d (.str "least")), .un]) ?_ ?_
    · refine zs_asg (ze_old fun c' le hs => ?_)
      walk_at "py"
      exact ⟨rfl, rfl⟩
    rintro _ _ ⟨rfl, rfl⟩
    refine zs_seq (zs_if (zt_is false (fun c' le hs => ?_) (fun h => by cases h) (fun _ => zs_next ?_)))
    · walk_at "py"
      first | rfl | decide +kernel
    refine zs_seq (zs_if (zt_is false (fun c' le hs => ?_) (fun h => by cases h) (fun _ => zs_next ?_)))
    · walk_at "py"
      first | rfl | decide +kernel
    refine zs_seq (zs_if (zt_is true (fun c' le hs => ?_) (fun _ => ?_) (fun h => by cases h)))
    · walk_at "py"
      first | rfl | decide +kernel
    refine zs_ret (ze_op (ze_cb (za_cons (ze_lock (n := 0) rfl fun od ws => ze_old fun c' le hs => we_fresh (wf_lcK [3] (by decide) rfl (we_var rfl ⟨d, od, ws, dk r, rfl, hs.get (n := 0) rfl, by rw [len_dk]; omega, fun i acc => acc = ((r.take i).filter fun p => decide (getR r p.1 ≠ 0)).map fun p => .str p.1, rfl, ?_, ?_⟩))))))
    · intro c2 le2 i kk acc hkk _ hp
      obtain ⟨p, hp', rfl⟩ := key_dk hkk
      have hm := List.mem_of_getElem? hp'
      have et : r.take (i + 1) = r.take i ++ [p] := by rw [List.take_add_one, hp']; rfl
      refine wg_name rfl (wt_test (we_op (we_getAt (we_var rfl ⟨d, dk r, rfl, DkAt.ofF ((hs.get (n := 0) rfl).le le2), we_var rfl ⟨.inr p.1, _, rfl, val_dkm hm, ?_⟩⟩))))
      walk_at "py"
      · rename_i h
        refine ⟨_, rfl, ?_⟩
        show acc ++ [PyData.str p.1] = List.map _ (List.filter _ (List.take (i + 1) r))
        rw [et, List.filter_append, List.map_append, hp]
        have : ([p].filter fun p => decide (getR r p.1 ≠ 0)) = [p] := by simpa using h
        rw [this]; rfl
      · rename_i h
        show acc = List.map _ (List.filter _ (List.take (i + 1) r))
        rw [et, List.filter_append, List.map_append, hp]
        have : ([p].filter fun p => decide (getR r p.1 ≠ 0)) = [] := by simpa using h
        rw [this]; simp
    intro acc _ hp
    rw [len_dk, List.take_length] at hp
    refine ⟨rfl, za_nil fun c2 le2 hs2 => ?_⟩
    rw [hp]
    walk_at "py"
    refine ze_old fun c3 le3 hs3 => ?_
    walk_at "py"
    intro c4 le4 hs4
    walk_at "py"
    rw [List.length_map]
    exact hk
  | no v =>
    show Zs c _ _ [.val (.d (.tuple [.str "no", wD v])), .val (.r (.ref d)), .un, .un] _
    refine zs_cut (fun O' ρ' => O' = [DkO d (dk r)] ∧ ρ' = [.val (.d (.tuple [.str "no", wD v])), .val (.r (.ref d)), .val (.d (.str "no")), .un]) ?_ ?_
    · refine zs_asg (ze_old fun c' le hs => ?_)
      walk_at "py"
      exact ⟨rfl, rfl⟩
    rintro _ _ ⟨rfl, rfl⟩
    refine zs_seq (zs_if (zt_is false (fun c' le hs => ?_) (fun h => by cases h) (fun _ => zs_next ?_)))
    · walk_at "py"
      first | rfl | decide +kernel
    refine zs_seq (zs_if (zt_is false (fun c' le hs => ?_) (fun h => by cases h) (fun _ => zs_next ?_)))
    · walk_at "py"
      first | rfl | decide +kernel
    refine zs_seq (zs_if (zt_is false (fun c' le hs => ?_) (fun h => by cases h) (fun _ => zs_next ?_)))
    · walk_at "py"
      first | rfl | decide +kernel
    refine zs_seq (zs_if (zt_is true (fun c' le hs => ?_) (fun _ => ?_) (fun h => by cases h)))
    · walk_at "py"
      first | rfl | decide +kernel
    refine zs_ret (ze_notV (ze_callZ (za_cons (ze_old fun c' le hs => ?_))))
    walk_at "py"
    refine za_cons (ze_var rfl (za_nil ⟨_, [], .refl _, fun c' le _ => call_holds_for (by have : wdep v + 1 < n + 1 := hn; omega) hl ⟨_, rfl, ?_⟩⟩))
    exact hk
  | two b v u =>
    show Zs c _ _ [.val (.d (.tuple [.str (bW b), wD v, wD u])), .val (.r (.ref d)), .un, .un] _
    refine zs_cut (fun O' ρ' => O' = [DkO d (dk r)] ∧ ρ' = [.val (.d (.tuple [.str (bW b), wD v, wD u])), .val (.r (.ref d)), .val (.d (.str (bW b))), .un]) ?_ ?_
    · refine zs_asg (ze_old fun c' le hs => ?_)
      walk_at "py"
      exact ⟨rfl, rfl⟩
    rintro _ _ ⟨rfl, rfl⟩
    have h1 : wdep v < n := by have : max (wdep v) (wdep u) + 1 < n + 1 := hn; omega
    have h2 : wdep u < n := by have : max (wdep v) (wdep u) + 1 < n + 1 := hn; omega
    cases b with
    | true =>
      refine zs_seq (zs_if (zt_is false (fun c' le hs => ?_) (fun h => by cases h) (fun _ => zs_next ?_)))
      · walk_at "py"
        first | rfl | decide +kernel
      refine zs_seq (zs_if (zt_is false (fun c' le hs => ?_) (fun h => by cases h) (fun _ => zs_next ?_)))
      · walk_at "py"
        first | rfl | decide +kernel
      refine zs_seq (zs_if (zt_is false (fun c' le hs => ?_) (fun h => by cases h) (fun _ => zs_next ?_)))
      · walk_at "py"
        first | rfl | decide +kernel
      refine zs_seq (zs_if (zt_is false (fun c' le hs => ?_) (fun h => by cases h) (fun _ => zs_next ?_)))
      · walk_at "py"
        first | rfl | decide +kernel
      refine zs_seq (zs_if (zt_is true (fun c' le hs => ?_) (fun _ => ?_) (fun h => by cases h)))
      · walk_at "py"
        first | rfl | decide +kernel
      refine zs_ret (ze_andV (ze_callZ (za_cons (ze_old fun c' le hs => ?_))))
      walk_at "py"
      refine za_cons (ze_var rfl (za_nil ⟨_, [], .refl _, fun c' le _ => call_holds_for h1 hl ⟨_, rfl, fun e => ?_, fun e => ?_⟩⟩))
      · refine ze_callZ (za_cons (ze_old fun c' le hs => ?_))
        walk_at "py"
        refine za_cons (ze_var rfl (za_nil ⟨_, [], .refl _, fun c' le _ => call_holds_for h2 hl ?_⟩))
        have hk : k _ (.d (.bool (holdsW r v && holdsW r u))) := hk
        rw [e] at hk
        exact hk
      · have hk : k _ (.d (.bool (holdsW r v && holdsW r u))) := hk
        rw [e] at hk
        exact hk
    | false =>
      refine zs_seq (zs_if (zt_is false (fun c' le hs => ?_) (fun h => by cases h) (fun _ => zs_next ?_)))
      · walk_at "py"
        first | rfl | decide +kernel
      refine zs_seq (zs_if (zt_is false (fun c' le hs => ?_) (fun h => by cases h) (fun _ => zs_next ?_)))
      · walk_at "py"
        first | rfl | decide +kernel
      refine zs_seq (zs_if (zt_is false (fun c' le hs => ?_) (fun h => by cases h) (fun _ => zs_next ?_)))
      · walk_at "py"
        first | rfl | decide +kernel
      refine zs_seq (zs_if (zt_is false (fun c' le hs => ?_) (fun h => by cases h) (fun _ => zs_next ?_)))
      · walk_at "py"
        first | rfl | decide +kernel
      refine zs_seq (zs_if (zt_is false (fun c' le hs => ?_) (fun h => by cases h) (fun _ => zs_next ?_)))
      · walk_at "py"
        first | rfl | decide +kernel
      refine zs_ret (ze_orV (ze_callZ (za_cons (ze_old fun c' le hs => ?_))))
      walk_at "py"
      refine za_cons (ze_var rfl (za_nil ⟨_, [], .refl _, fun c' le _ => call_holds_for h1 hl ⟨_, rfl, fun e => ?_, fun e => ?_⟩⟩))
      · refine ze_callZ (za_cons (ze_old fun c' le hs => ?_))
        walk_at "py"
        refine za_cons (ze_var rfl (za_nil ⟨_, [], .refl _, fun c' le _ => call_holds_for h2 hl ?_⟩))
        have hk : k _ (.d (.bool (holdsW r v || holdsW r u))) := hk
        rw [e] at hk
        exact hk
      · have hk : k _ (.d (.bool (holdsW r v || holdsW r u))) := hk
        rw [e] at hk
        exact hk

theorem okR_holds_for (T : Txt K mg AA) (R : Raw K mg "holds_for" s_holds_for) : ∀ n : Nat, Def P w K mg base "holds_for" ["wish", "rounds"] CX0 (1 + n) (spZ K (p_holds_for n K))
  | 0 => okZ_holds_for T  R
  | n + 1 => okS_holds_for n T  (okR_holds_for T  R n) R
theorem ok_holds_for (T : Txt K mg AA) (R : Raw K mg "holds_for" s_holds_for) : Def P w K mg base "holds_for" ["wish", "rounds"] CX0 (8) (spZ K (p_holds_for 7 K)) := okR_holds_for T  R 7
def p__law_holds (n : Nat) (K : PySem.W.Frag) : PTZ K := fun c O xs k x => ∃ (d : Addr) (r : List (Str × Int)) (w : Wi), O = [DkO d (dk r)] ∧ xs = [.d (wD w), .r (.ref d)] ∧ wdep w < n ∧ r.length ≤ 100 ∧ k O (.d (.bool (holdsW r w)))
theorem len__law_holds {n : Nat} {K : PySem.W.Frag} : ∀ (c : Py.Ctx K) O xs k x, p__law_holds n K c O xs k x → xs.length = 2 := by
  rintro c O xs k x ⟨d, r, w, rfl, rfl, _⟩
  rfl
theorem zero__law_holds {K : PySem.W.Frag} {c : Py.Ctx K} {O : Sto K} {xs : List Dv} {k : Sto K → Dv → Prop} {x : Sto K → Value → Option FD → Prop} : ¬ p__law_holds 0 K c O xs k x := by
  rintro ⟨d, r, w, _, _, h, _⟩
  exact absurd h (Nat.not_lt_zero _)
theorem call__law_holds {n : Nat} {K : PySem.W.Frag} {c : Py.Ctx K} {k : Sto K → Dv → Prop} {x : Sto K → Value → Option FD → Prop} {d : Addr} {r : List (Str × Int)} {w : Wi} (hn : wdep w < n) (hl : r.length ≤ 100) (h : k [DkO d (dk r)] (.d (.bool (holdsW r w)))) : p__law_holds n K c [DkO d (dk r)] [.d (wD w), .r (.ref d)] k x := ⟨d, r, w, rfl, rfl, hn, hl, h⟩
abbrev s__law_holds : Stmt := top 24
theorem sc__law_holds : FnScope ["_law_wish_here", "_law_rounds", "_law_many", "_law_name_here", "_law_one"] ["_law_wish_here", "_law_rounds"] (defScope s__law_holds) := ⟨rfl, rfl, rfl, by decide +kernel, rfl, by decide +kernel, by decide +kernel⟩
theorem okZ__law_holds (T : Txt K mg AA) (R : Raw K mg "_law_holds" s__law_holds) : Def P w K mg base "_law_holds" ["_law_wish_here", "_law_rounds"] CX0 (1) (spZ K (p__law_holds 0 K)) := R.def fun f fd F => by
  refine ⟨F.binds (ps := ["_law_wish_here", "_law_rounds"]) fun _ _ _ _ _ _ us hl => match us, hl with | [_, _], _ => rfl, F.ok sc__law_holds (spZ_len len__law_holds) (fun cdv A outer s H vs Q E hr h => ?_)⟩
  obtain ⟨c, O, us, xs, k, x, _, _, _, _, p, _⟩ := h
  exact absurd p zero__law_holds
theorem okS__law_holds (n : Nat) (T : Txt K mg AA) (d__law_holds : Def P w K mg base "_law_holds" ["_law_wish_here", "_law_rounds"] CX0 (1 + n) (spZ K (p__law_holds n K))) (R : Raw K mg "_law_holds" s__law_holds) : Def P w K mg base "_law_holds" ["_law_wish_here", "_law_rounds"] CX0 (1 + n + 1) (spZ K (p__law_holds (n + 1) K)) := R.def fun f fd F => by
  refine ⟨F.binds (ps := ["_law_wish_here", "_law_rounds"]) fun _ _ _ _ _ _ us hl => match us, hl with | [_, _], _ => rfl, F.ok sc__law_holds (spZ_len len__law_holds) (fun cdv A outer s H vs Q E hr h => ?_)⟩
  refine ⟨_, (pss_cons (ps_if (pt_cmpR op_eq (pe_ix (ix_s K) (pv 0) pe_int (fun _ _ => rfl)) pe_str (nomark _)) (pss_one (ps_ret (pe_cmpR (op_nes K hr.units) (pe_dget2 (hu_of hr) (pv 1) (pe_ix (ix_s K) (pv 0) pe_int (fun _ _ => rfl)) pe_int ⟨rfl, rfl, rfl, rfl⟩) pe_int (nomark _)))) pss_nil)
      (pss_cons (ps_if (pt_cmpR op_eq (pe_ix (ix_s K) (pv 0) pe_int (fun _ _ => rfl)) pe_str (nomark _)) (pss_one (ps_ret (pe_cmpR (op_eqs K hr.units) (pe_dget2 (hu_of hr) (pv 1) (pe_ix (ix_s K) (pv 0) pe_int (fun _ _ => rfl)) pe_int ⟨rfl, rfl, rfl, rfl⟩) (pe_ix (ix_s K) (pv 0) pe_int (fun _ _ => rfl)) (nomark _)))) pss_nil)
      (pss_cons (ps_if (pt_cmpR op_eq (pe_ix (ix_s K) (pv 0) pe_int (fun _ _ => rfl)) pe_str (nomark _)) (pss_cons (ps_set (i := 2) sc__law_holds.nd rfl (Or.inl rfl) pe_int)
      (pss_cons (ps_lock (ps_for PassesOwn.never rfl (pi_keys (pv 1)) (pg_name (i := 3) sc__law_holds.nd rfl (Or.inl rfl)) (pss_one (ps_aug (i := 2) sc__law_holds.nd rfl (Or.inl rfl) (pe_callTy call_int1s (by rfl) T.b_int (by decide +kernel) (pa_cons (pe_cmpR (op_nes K hr.units) (pe_dget (hu_of hr) (pv 1) (pv 3) (fun _ _ => rfl)) pe_int (nomark _)) pa_nil)) ip_add))))
      (pss_one (ps_ret (pe_cmpR op_geU (pv 2) (pe_ix (ix_s K) (pv 0) pe_int (fun _ _ => rfl)) (nomark _)))))) pss_nil)
      (pss_cons (ps_set (i := 4) sc__law_holds.nd rfl (Or.inl rfl) (pe_D0 d__law_holds (by omega) hr pass0 (pa_cons (pe_ix (ix_s K) (pv 0) pe_int (fun _ _ => rfl)) (pa_cons (pv 1) pa_nil))))
      (pss_cons (ps_if (pt_cmpR op_eq (pe_ix (ix_s K) (pv 0) pe_int (fun _ _ => rfl)) pe_str (nomark _)) (pss_one (ps_ret (pe_not (pv 4)))) pss_nil)
      (pss_cons (ps_if (pt_cmpR op_eq (pe_ix (ix_s K) (pv 0) pe_int (fun _ _ => rfl)) pe_str (nomark _)) (pss_one (ps_ret (pe_and (pv 4) (pe_one (pe_D0 d__law_holds (by omega) hr pass0 (pa_cons (pe_ix (ix_s K) (pv 0) pe_int (fun _ _ => rfl)) (pa_cons (pv 1) pa_nil))))))) pss_nil)
      (pss_one (ps_ret (pe_or (pv 4) (pe_one (pe_D0 d__law_holds (by omega) hr pass0 (pa_cons (pe_ix (ix_s K) (pv 0) pe_int (fun _ _ => rfl)) (pa_cons (pv 1) pa_nil))))))))))))), ?_⟩
  refine run_spZ h (fun c O xs k x p => ?_)
  obtain ⟨d, r, w, rfl, rfl, hn, hl, hk⟩ := p
  refine ⟨Nat.le_of_ble_eq_true rfl, fun hx => ?_⟩
  cases w with
  | inn a =>
    show Zs c _ _ [.val (.d (.tuple [.str "in", .str a])), .val (.r (.ref d)), .un, .un, .un] _
    refine zs_old fun c' le hs => ?_
    refine ws_seq (ws_if (wt_split true ?_ (fun _ => ?_) (fun h => by cases h)))
    · walk_at "py"
      first | rfl | decide +kernel
    refine ws_ret (we_op (we_get2At (we_var rfl ⟨d, dk r, rfl, DkAt.of (hs.get (n := 0) rfl), ?_⟩)))
    walk_at "py"
    refine ⟨.inr a, .int 0, rfl, rfl, ?_⟩
    rw [val_dk0]
    walk_at "py"
    exact hk
  | rnd a n0 =>
    show Zs c _ _ [.val (.d (.tuple [.str "round", .str a, .int n0])), .val (.r (.ref d)), .un, .un, .un] _
    refine zs_old fun c' le hs => ?_
    refine ws_seq (ws_if (wt_split false ?_ (fun h => by cases h) (fun _ => ws_next ?_)))
    · walk_at "py"
      first | rfl | decide +kernel
    refine ws_seq (ws_if (wt_split true ?_ (fun _ => ?_) (fun h => by cases h)))
    · walk_at "py"
      first | rfl | decide +kernel
    refine ws_ret (we_op (we_get2At (we_var rfl ⟨d, dk r, rfl, DkAt.of (hs.get (n := 0) rfl), ?_⟩)))
    walk_at "py"
    refine ⟨.inr a, .int 0, rfl, rfl, ?_⟩
    rw [val_dk0]
    walk_at "py"
    exact hk
  | lst n0 =>
    show Zs c _ _ [.val (.d (.tuple [.str "least", .int n0])), .val (.r (.ref d)), .un, .un, .un] _
    refine zs_seq (zs_if (zt_is false (fun c' le hs => ?_) (fun h => by cases h) (fun _ => zs_next ?_)))
    · walk_at "py"
      first | rfl | decide +kernel
    refine zs_seq (zs_if (zt_is false (fun c' le hs => ?_) (fun h => by cases h) (fun _ => zs_next ?_)))
    · walk_at "py"
      first | rfl | decide +kernel
    refine zs_seq (zs_if (zt_is true (fun c' le hs => ?_) (fun _ => ?_) (fun h => by cases h)))
    · walk_at "py"
      first | rfl | decide +kernel
    refine zs_cut (fun O' ρ' => O' = [DkO d (dk r)] ∧ ρ' = [.val (.d (.tuple [.str "least", .int n0])), .val (.r (.ref d)), .val (.d (.int 0)), .un, .un]) ?_ ?_
    · refine zs_old fun c' le hs => ?_
      walk_at "py"
      exact ⟨rfl, rfl⟩
    rintro _ _ ⟨rfl, rfl⟩
    refine zs_cut (fun O' ρ' => O' = [DkO d (dk r)] ∧ ∃ s3, ρ' = [.val (.d (.tuple [.str "least", .int n0])), .val (.r (.ref d)), .val (.d (.int (cntR r : Int))), s3, .un]) ?_ ?_
    · refine zs_lock (n := 0) rfl fun od ws => zs_old fun c' le hs => ?_
      refine ws_forK [3] (we_var rfl ⟨d, od, ws, dk r, rfl, hs.get (n := 0) rfl, fun i ρ' => ∃ s3, isOwn s3 = false ∧ ρ' = [.val (.d (.tuple [.str "least", .int n0])), .val (.r (.ref d)), .val (.d (.int (((r.take i).filter fun p => decide (getR r p.1 ≠ 0)).length : Int))), s3, .un], ⟨_, rfl, rfl⟩, ?_, ?_⟩)
      · rintro i kk ρ' hkk ⟨s3, h3, rfl⟩
        obtain ⟨p, hp', rfl⟩ := key_dk hkk
        have hm := List.mem_of_getElem? hp'
        have et : r.take (i + 1) = r.take i ++ [p] := by rw [List.take_add_one, hp']; rfl
        refine wg_name (by show some (isOwn s3) = _; rw [h3]) ?_
        refine ws_aug (i := 2) rfl (we_cb (wa_cons (we_op (we_getAt (we_var rfl ⟨d, dk r, rfl, DkAt.ofF (hs.get (n := 0) rfl), we_var rfl ⟨.inr p.1, _, rfl, val_dkm hm, ?_⟩⟩)))))
        walk_at "py"
        have e : (((r.take (i + 1)).filter fun p => decide (getR r p.1 ≠ 0)).length : Int) = ((r.take i).filter fun p => decide (getR r p.1 ≠ 0)).length + (if (!decide (getR r p.1 = 0)) = true then 1 else 0) := by
          rw [et, List.filter_append, List.length_append]
          by_cases z : getR r p.1 = 0 <;> simp [z]
        exact ⟨_, rfl, by rw [e]; rfl⟩
      · rintro ρ' ⟨s3, _, rfl⟩
        rw [len_dk, List.take_length]
        exact ⟨rfl, rfl, _, rfl⟩
    rintro _ _ ⟨rfl, s3, rfl⟩
    refine zs_old fun c' le hs => ?_
    walk_at "py"
    exact hk
  | no v =>
    show Zs c _ _ [.val (.d (.tuple [.str "no", wD v])), .val (.r (.ref d)), .un, .un, .un] _
    refine zs_seq (zs_if (zt_is false (fun c' le hs => ?_) (fun h => by cases h) (fun _ => zs_next ?_)))
    · walk_at "py"
      first | rfl | decide +kernel
    refine zs_seq (zs_if (zt_is false (fun c' le hs => ?_) (fun h => by cases h) (fun _ => zs_next ?_)))
    · walk_at "py"
      first | rfl | decide +kernel
    refine zs_seq (zs_if (zt_is false (fun c' le hs => ?_) (fun h => by cases h) (fun _ => zs_next ?_)))
    · walk_at "py"
      first | rfl | decide +kernel
    refine zs_cut (fun O' ρ' => O' = [DkO d (dk r)] ∧ ρ' = [.val (.d (.tuple [.str "no", wD v])), .val (.r (.ref d)), .un, .un, .val (.d (.bool (holdsW r v)))]) ?_ ?_
    · refine zs_asg (ze_callZ (za_cons (ze_old fun c' le hs => ?_)))
      walk_at "py"
      exact za_cons (ze_var rfl (za_nil ⟨_, [], .refl _, fun c' le _ => call__law_holds (by have : wdep v + 1 < n + 1 := hn; omega) hl ⟨rfl, rfl⟩⟩))
    rintro _ _ ⟨rfl, rfl⟩
    refine zs_old fun c' le hs => ?_
    refine ws_seq (ws_if (wt_split true ?_ (fun _ => ?_) (fun h => by cases h)))
    · walk_at "py"
      first | rfl | decide +kernel
    walk_at "py"
    exact hk
  | two b v u =>
    show Zs c _ _ [.val (.d (.tuple [.str (bW b), wD v, wD u])), .val (.r (.ref d)), .un, .un, .un] _
    have h1 : wdep v < n := by have : max (wdep v) (wdep u) + 1 < n + 1 := hn; omega
    have h2 : wdep u < n := by have : max (wdep v) (wdep u) + 1 < n + 1 := hn; omega
    have hb : ∀ z : Str, z = "in" ∨ z = "round" ∨ z = "least" ∨ z = "no" → decide ((bW b) = z) = false := by
      rintro z (rfl | rfl | rfl | rfl) <;> cases b <;> decide +kernel
    refine zs_seq (zs_if (zt_is false (fun c' le hs => ?_) (fun h => by cases h) (fun _ => zs_next ?_)))
    · walk_at "py"
      exact hb _ (by simp)
    refine zs_seq (zs_if (zt_is false (fun c' le hs => ?_) (fun h => by cases h) (fun _ => zs_next ?_)))
    · walk_at "py"
      exact hb _ (by simp)
    refine zs_seq (zs_if (zt_is false (fun c' le hs => ?_) (fun h => by cases h) (fun _ => zs_next ?_)))
    · walk_at "py"
      exact hb _ (by simp)
    refine zs_cut (fun O' ρ' => O' = [DkO d (dk r)] ∧ ρ' = [.val (.d (.tuple [.str (bW b), wD v, wD u])), .val (.r (.ref d)), .un, .un, .val (.d (.bool (holdsW r v)))]) ?_ ?_
    · refine zs_asg (ze_callZ (za_cons (ze_old fun c' le hs => ?_)))
      walk_at "py"
      exact za_cons (ze_var rfl (za_nil ⟨_, [], .refl _, fun c' le _ => call__law_holds h1 hl ⟨rfl, rfl⟩⟩))
    rintro _ _ ⟨rfl, rfl⟩
    refine zs_seq (zs_if (zt_is false (fun c' le hs => ?_) (fun h => by cases h) (fun _ => zs_next ?_)))
    · walk_at "py"
      exact hb _ (by simp)
    cases b with
    | true =>
      refine zs_seq (zs_if (zt_is true (fun c' le hs => ?_) (fun _ => ?_) (fun h => by cases h)))
      · walk_at "py"
        first | rfl | decide +kernel
      refine zs_ret (ze_andV (ze_var rfl ⟨_, rfl, fun e => ?_, fun e => ?_⟩))
      · refine ze_callZ (za_cons (ze_old fun c' le hs => ?_))
        walk_at "py"
        refine za_cons (ze_var rfl (za_nil ⟨_, [], .refl _, fun c' le _ => call__law_holds h2 hl ?_⟩))
        have hk : k _ (.d (.bool (holdsW r v && holdsW r u))) := hk
        rw [e] at hk
        exact hk
      · have hk : k _ (.d (.bool (holdsW r v && holdsW r u))) := hk
        rw [e] at hk
        exact hk
    | false =>
      refine zs_seq (zs_if (zt_is false (fun c' le hs => ?_) (fun h => by cases h) (fun _ => zs_next ?_)))
      · walk_at "py"
        first | rfl | decide +kernel
      refine zs_ret (ze_orV (ze_var rfl ⟨_, rfl, fun e => ?_, fun e => ?_⟩))
      · refine ze_callZ (za_cons (ze_old fun c' le hs => ?_))
        walk_at "py"
        refine za_cons (ze_var rfl (za_nil ⟨_, [], .refl _, fun c' le _ => call__law_holds h2 hl ?_⟩))
        have hk : k _ (.d (.bool (holdsW r v || holdsW r u))) := hk
        rw [e] at hk
        exact hk
      · have hk : k _ (.d (.bool (holdsW r v || holdsW r u))) := hk
        rw [e] at hk
        exact hk

theorem okR__law_holds (T : Txt K mg AA) (R : Raw K mg "_law_holds" s__law_holds) : ∀ n : Nat, Def P w K mg base "_law_holds" ["_law_wish_here", "_law_rounds"] CX0 (1 + n) (spZ K (p__law_holds n K))
  | 0 => okZ__law_holds T  R
  | n + 1 => okS__law_holds n T  (okR__law_holds T  R n) R
theorem ok__law_holds (T : Txt K mg AA) (R : Raw K mg "_law_holds" s__law_holds) : Def P w K mg base "_law_holds" ["_law_wish_here", "_law_rounds"] CX0 (8) (spZ K (p__law_holds 7 K)) := okR__law_holds T  R 7
def p_holds (K : PySem.W.Frag) : PTZ K := fun c O xs k x => ∃ (d : Addr) (r : List (Str × Int)) (w : Wi), O = [DkO d (dk r)] ∧ xs = [.d (wD w), .r (.ref d)] ∧ wdep w ≤ 6 ∧ WiOk w ∧ r.length ≤ 100 ∧ k O (.d (.bool (holdsW r w)))
theorem len_holds {K : PySem.W.Frag} : ∀ (c : Py.Ctx K) O xs k x, p_holds K c O xs k x → xs.length = 2 := by
  rintro c O xs k x ⟨d, r, w, rfl, rfl, _⟩
  rfl
theorem call_holds {K : PySem.W.Frag} {c : Py.Ctx K} {k : Sto K → Dv → Prop} {x : Sto K → Value → Option FD → Prop} {d : Addr} {r : List (Str × Int)} {w : Wi} (hn : wdep w ≤ 6) (hw : WiOk w) (hl : r.length ≤ 100) (h : k [DkO d (dk r)] (.d (.bool (holdsW r w)))) : p_holds K c [DkO d (dk r)] [.d (wD w), .r (.ref d)] k x := ⟨d, r, w, rfl, rfl, hn, hw, hl, h⟩
abbrev s_holds : Stmt := top 14
theorem sc_holds : FnScope ["wish", "rounds"] ["wish", "rounds"] (defScope s_holds) := ⟨rfl, rfl, rfl, by decide +kernel, rfl, by decide +kernel, by decide +kernel⟩
theorem ok_holds (T : Txt K mg AA) (d_holds_for : Def P w K mg base "holds_for" ["wish", "rounds"] CX0 8 (spZ K (p_holds_for 7 K))) (d_is_wish : Def P w K mg base "is_wish" ["thing"] CX0 9 (spD K (p_is_wish K))) (R : Raw K mg "holds" s_holds) : Def P w K mg base "holds" ["wish", "rounds"] (L2.CX P w) 10 (spZ K (p_holds K)) := R.def fun f fd F => by
  refine ⟨F.binds (ps := ["wish", "rounds"]) fun _ _ _ _ _ _ us hl => match us, hl with | [_, _], _ => rfl, F.okX sc_holds (spZ_len len_holds) (fun cdv A outer s H vs Q E hr h => ?_)⟩
  refine ⟨_, (pss_cons (ps_if (pt_not (pt_tru K (pe_D0 d_is_wish (by decide) hr pass0 (pa_cons (pv 0) pa_nil)) (by intro _; rfl))) (pss_one (ps_rs rfl (takes_of rfl rfl rfl rfl) (pmk_own PySem.F.excBase_ValueError T.x_BadWish T.g_BadWish T.kp_BadWish (raises_own T.eb_BadWish T.et_BadWish) rfl))) pss_nil)
      (pss_one (ps_ret (pe_D0 d_holds_for (by decide) hr pass0 (pa_cons (pv 0) (pa_cons (pv 1) pa_nil)))))), ?_⟩
  refine run_spZ h (fun c O xs k x p => ?_)
  obtain ⟨d, r, w, rfl, rfl, hn, hw, hl, hk⟩ := p
  refine ⟨Nat.le_of_ble_eq_true rfl, fun hx => ?_⟩
  show Zs c _ _ [.val (.d (wD w)), .val (.r (.ref d))] _
  refine zs_seq (zs_if (zt_is false (fun c' le hs => ?_) (fun h => by cases h) (fun _ => zs_next ?_)))
  · walk_at "py"
    · exact okS_wD hw
    · rw [isW_wD w 6 hw, decide_eq_true hn]; rfl
  refine zs_ret (ze_callZ (za_cons (ze_var rfl (za_cons (ze_var rfl (za_nil ⟨_, [], .refl _, fun c' le _ => call_holds_for (by omega) hl ?_⟩))))))
  exact hk

def p__law_deep (n : Nat) (K : PySem.W.Frag) : PT0 K := fun c xs k _ => ∃ (w : Wi), xs = [.d (wD w)] ∧ wdep w < n ∧ k (.d (.int (wdep w : Int)))
theorem len__law_deep {n : Nat} {K : PySem.W.Frag} : ∀ (c : Py.Ctx K) xs k x, p__law_deep n K c xs k x → xs.length = 1 := by
  rintro c xs k x ⟨w, rfl, _⟩
  rfl
theorem zero__law_deep {K : PySem.W.Frag} {c : Py.Ctx K} {xs : List Dv} {k : Dv → Prop} {x : Value → Prop} : ¬ p__law_deep 0 K c xs k x := by
  rintro ⟨w, _, h, _⟩
  exact absurd h (Nat.not_lt_zero _)
theorem call__law_deep {n : Nat} {K : PySem.W.Frag} {c : Py.Ctx K} {k : Dv → Prop} {x : Value → Prop} {w : Wi} (hn : wdep w < n) (h : k (.d (.int (wdep w : Int)))) :
  ∀ c', Le c c' → p__law_deep n K c' [.d (wD w)] k x := fun c' le => ⟨w, rfl, hn, h⟩
abbrev s__law_deep : Stmt := top 25
theorem sc__law_deep : FnScope ["_law_wish_here"] ["_law_wish_here"] (defScope s__law_deep) := ⟨rfl, rfl, rfl, by decide +kernel, rfl, by decide +kernel, by decide +kernel⟩
theorem okZ__law_deep (T : Txt K mg AA) (R : Raw K mg "_law_deep" s__law_deep) : Def P w K mg base "_law_deep" ["_law_wish_here"] CX0 (1) (spD K (p__law_deep 0 K)) := R.def fun f fd F => by
  refine ⟨F.binds (ps := ["_law_wish_here"]) fun _ _ _ _ _ _ us hl => match us, hl with | [_], _ => rfl, F.ok sc__law_deep (spD_len len__law_deep) (fun cdv A outer s H vs Q E hr h => ?_)⟩
  obtain ⟨c, xs, k, x, _, _, _, p, _⟩ := h
  exact absurd p zero__law_deep
theorem okS__law_deep (n : Nat) (T : Txt K mg AA) (d__law_deep : Def P w K mg base "_law_deep" ["_law_wish_here"] CX0 (1 + n) (spD K (p__law_deep n K))) (R : Raw K mg "_law_deep" s__law_deep) : Def P w K mg base "_law_deep" ["_law_wish_here"] CX0 (1 + n + 1) (spD K (p__law_deep (n + 1) K)) := R.def fun f fd F => by
  refine ⟨F.binds (ps := ["_law_wish_here"]) fun _ _ _ _ _ _ us hl => match us, hl with | [_], _ => rfl, F.ok sc__law_deep (spD_len len__law_deep) (fun cdv A outer s H vs Q E hr h => ?_)⟩
  refine ⟨_, (pss_cons (ps_if (pt_cmpR op_eq (pe_ix (ix_s K) (pv 0) pe_int (fun _ _ => rfl)) pe_str (nomark _)) (pss_one (ps_ret (pe_op (op_adds K) pe_int (pe_D0 d__law_deep (by omega) hr pass0 (pa_cons (pe_ix (ix_s K) (pv 0) pe_int (fun _ _ => rfl)) pa_nil))))) pss_nil)
      (pss_cons (ps_if (PW.pt (pw_or (pt_cmpR op_eq (pe_ix (ix_s K) (pv 0) pe_int (fun _ _ => rfl)) pe_str (nomark _)) (pw_or1 (pt_cmpR op_eq (pe_ix (ix_s K) (pv 0) pe_int (fun _ _ => rfl)) pe_str (nomark _))))) (pss_one (ps_ret (pe_op (op_adds K) pe_int (pe_callB (call_maxI rfl) (by rfl) T.b_max (by decide +kernel) (pa_cons (pe_D0 d__law_deep (by omega) hr pass0 (pa_cons (pe_ix (ix_s K) (pv 0) pe_int (fun _ _ => rfl)) pa_nil)) (pa_cons (pe_D0 d__law_deep (by omega) hr pass0 (pa_cons (pe_ix (ix_s K) (pv 0) pe_int (fun _ _ => rfl)) pa_nil)) pa_nil)))))) pss_nil)
      (pss_one (ps_ret pe_int)))), ?_⟩
  refine run_spD h (fun c xs k x p => ?_)
  obtain ⟨w, rfl, hn, hk⟩ := p
  refine ⟨Nat.le_of_ble_eq_true rfl, fun hx => ?_⟩
  cases w with
  | inn a =>
    show Ws c _ [.val (.d (.tuple [.str "in", .str a]))] _
    refine ws_seq (ws_if (wt_split false ?_ (fun h => by cases h) (fun _ => ws_next ?_)))
    · walk_at "py"
      first | rfl | decide +kernel
    refine ws_seq (ws_if (wt_split false ?_ (fun h => by cases h) (fun _ => ws_next ?_)))
    · walk_at "py"
      all_goals first | rfl | decide +kernel | (rename_i h; exact absurd h (by decide +kernel))
    walk_at "py"
    exact hk
  | rnd a n0 =>
    show Ws c _ [.val (.d (.tuple [.str "round", .str a, .int n0]))] _
    refine ws_seq (ws_if (wt_split false ?_ (fun h => by cases h) (fun _ => ws_next ?_)))
    · walk_at "py"
      first | rfl | decide +kernel
    refine ws_seq (ws_if (wt_split false ?_ (fun h => by cases h) (fun _ => ws_next ?_)))
    · walk_at "py"
      all_goals first | rfl | decide +kernel | (rename_i h; exact absurd h (by decide +kernel))
    walk_at "py"
    exact hk
  | lst n0 =>
    show Ws c _ [.val (.d (.tuple [.str "least", .int n0]))] _
    refine ws_seq (ws_if (wt_split false ?_ (fun h => by cases h) (fun _ => ws_next ?_)))
    · walk_at "py"
      first | rfl | decide +kernel
    refine ws_seq (ws_if (wt_split false ?_ (fun h => by cases h) (fun _ => ws_next ?_)))
    · walk_at "py"
      all_goals first | rfl | decide +kernel | (rename_i h; exact absurd h (by decide +kernel))
    walk_at "py"
    exact hk
  | no v =>
    show Ws c _ [.val (.d (.tuple [.str "no", wD v]))] _
    refine ws_seq (ws_if (wt_split true ?_ (fun _ => ?_) (fun h => by cases h)))
    · walk_at "py"
      first | rfl | decide +kernel
    walk_at "py"
    refine call__law_deep (by have : wdep v + 1 < n + 1 := hn; omega) ?_
    walk_at "py"
    have e : ((wdep (.no v) : Nat) : Int) = 1 + (wdep v : Int) := by show ((wdep v + 1 : Nat) : Int) = _; omega
    rw [e] at hk
    exact hk
  | two b v u =>
    show Ws c _ [.val (.d (.tuple [.str (bW b), wD v, wD u]))] _
    have h1 : wdep v < n := by have : max (wdep v) (wdep u) + 1 < n + 1 := hn; omega
    have h2 : wdep u < n := by have : max (wdep v) (wdep u) + 1 < n + 1 := hn; omega
    refine ws_seq (ws_if (wt_split false ?_ (fun h => by cases h) (fun _ => ws_next ?_)))
    · walk_at "py"
      cases b <;> decide +kernel
    refine ws_seq (ws_if (wt_split true ?_ (fun _ => ?_) (fun h => by cases h)))
    · walk_at "py"
      all_goals cases b
      all_goals first | rfl | decide +kernel | (rename_i h; exact absurd h (by decide +kernel))
    walk_at "py"
    refine call__law_deep h1 ?_
    walk_at "py"
    refine call__law_deep h2 ?_
    walk_at "py"
    refine rc_maxI ?_
    walk_at "py"
    have e : ((wdep (.two b v u) : Nat) : Int) = 1 + (if (wdep u : Int) > (wdep v : Int) then (wdep u : Int) else (wdep v : Int)) := by
      show ((max (wdep v) (wdep u) + 1 : Nat) : Int) = _
      split <;> omega
    rw [e] at hk
    exact hk

theorem okR__law_deep (T : Txt K mg AA) (R : Raw K mg "_law_deep" s__law_deep) : ∀ n : Nat, Def P w K mg base "_law_deep" ["_law_wish_here"] CX0 (1 + n) (spD K (p__law_deep n K))
  | 0 => okZ__law_deep T  R
  | n + 1 => okS__law_deep n T  (okR__law_deep T  R n) R
theorem ok__law_deep (T : Txt K mg AA) (R : Raw K mg "_law_deep" s__law_deep) : Def P w K mg base "_law_deep" ["_law_wish_here"] CX0 (9) (spD K (p__law_deep 8 K)) := okR__law_deep T  R 8
def p__law_number (K : PySem.W.Frag) : PT0 K := fun c xs k _ => ∃ p, xs = [.r (.ref p)] ∧ HandIn c p ∧ ∀ v : Int, v.natAbs < 10 ^ 61 → k (.d (.int v))
theorem len__law_number {K : PySem.W.Frag} : ∀ (c : Py.Ctx K) xs k x, p__law_number K c xs k x → xs.length = 1 := by
  rintro c xs k x ⟨p, rfl, _⟩
  rfl
abbrev s__law_number : Stmt := top 22
theorem sc__law_number : FnScope ["_law_hand_here"] ["_law_hand_here"] (defScope s__law_number) := ⟨rfl, rfl, rfl, by decide +kernel, rfl, by decide +kernel, by decide +kernel⟩
theorem ok__law_number (T : Txt K mg AA) (d__law_draw : Def P w K mg base "_law_draw" ["_law_hand_here", "_law_many"] CX0 3 (spD K (p_draw K))) (R : Raw K mg "_law_number" s__law_number) : Def P w K mg base "_law_number" ["_law_hand_here"] CX0 4 (spD K (p__law_number K)) := R.def fun f fd F => by
  refine ⟨F.binds (ps := ["_law_hand_here"]) fun _ _ _ _ _ _ us hl => match us, hl with | [_], _ => rfl, F.ok sc__law_number (spD_len len__law_number) (fun cdv A outer s H vs Q E hr h => ?_)⟩
  refine ⟨_, (pss_cons (ps_if (pt_cmpR (op_eqs K hr.units) (pe_D0 d__law_draw (by decide) hr pass0 (pa_cons (pv 0) (pa_cons pe_int pa_nil))) pe_int (nomark _)) (pss_one (ps_ret (pe_op op_sub (pe_D0 d__law_draw (by decide) hr pass0 (pa_cons (pv 0) (pa_cons (pe_op op_powX pe_int pe_int) pa_nil))) (pe_op (op_muls K) pe_int (pe_op op_powX pe_int pe_int))))) pss_nil)
      (pss_one (ps_ret (pe_op op_sub (pe_D0 d__law_draw (by decide) hr pass0 (pa_cons (pv 0) (pa_cons pe_int pa_nil))) pe_int)))), ?_⟩
  refine run_spD h (fun c xs k x p => ?_)
  obtain ⟨p, rfl, HI, hk⟩ := p
  refine ⟨Nat.le_of_ble_eq_true rfl, fun hx => ?_⟩
  show Ws c _ [.val (.r (.ref p))] _
  walk_at "py"
  · rename_i v v0 v1
    refine rv_mulI (cmul (n := 3) (m := 100) (by decide) (by decide) (by decide)) (rv_sub ?_)
    exact hk _ (by have : v < 10 ^ 30 := v1; show (v - 5 * 10 ^ 29).natAbs < _; omega)
  · rename_i v v0 v1
    exact hk _ (by omega)

theorem call__law_number {K : PySem.W.Frag} {c : Py.Ctx K} {k : Dv → Prop} {x : Value → Prop} {p : Addr} (HI : HandIn c p) (h : ∀ v : Int, v.natAbs < 10 ^ 61 → k (.d (.int v))) : ∀ c', Le c c' → p__law_number K c' [.r (.ref p)] k x := fun c' le => ⟨p, rfl, HI.le le, h⟩
local macro_rules | `(tactic| walk_at "py1") => `(tactic| with_reducible refine call__law_number ?_ ?_)
def p__law_name (K : PySem.W.Frag) : PT0 K := fun c xs k _ => ∃ (p : Addr) (ts : List Str), xs = [.r (.ref p), .d (.list (ts.map .str))] ∧ HandIn c p ∧ ts.length ≤ 20 ∧ ∀ a : Str, isNmS a = true → k (.d (.str a))
theorem len__law_name {K : PySem.W.Frag} : ∀ (c : Py.Ctx K) xs k x, p__law_name K c xs k x → xs.length = 2 := by
  rintro c xs k x ⟨p, ts, rfl, _⟩
  rfl
theorem nm_of {zs : List Nat} (h1 : 1 ≤ zs.length) (h2 : zs.length ≤ 8) (h : ∀ z ∈ zs, z ∈ tlS ("abcdefghijklmnopqrstuvwxyz" : Str)) : isNmS (Txt.join "" (zs.map fun z => (⟨#[z]⟩ : Str))) = true := by
  have e : tlS (Txt.join "" (zs.map fun z => (⟨#[z]⟩ : Str))) = zs := by
    rw [join0, List.map_map]
    have : zs.map (tlS ∘ fun z => (⟨#[z]⟩ : Str)) = zs.map fun z => [z] := rfl
    rw [this]
    clear h h1 h2 this
    induction zs with
    | nil => rfl
    | cons z zs ih => rw [List.map_cons, List.flatten_cons, ih]; rfl
  unfold isNmS
  rw [len_tlS, e, decide_eq_true h1, decide_eq_true h2]
  show zs.all _ = true
  rw [List.all_eq_true]
  exact fun z hz => decide_eq_true (h z hz)
theorem sum_ones (zs : List Nat) : ((zs.map fun z => (⟨#[z]⟩ : Str)).map (·.length)).sum = zs.length := by
  rw [List.map_map]
  have : (Str.length ∘ fun z => (⟨#[z]⟩ : Str)) = fun z : Nat => 1 := rfl
  rw [this]
  induction zs with
  | nil => rfl
  | cons z zs ih => rw [List.map_cons, List.sum_cons, ih, List.length_cons]; omega
theorem get_nat {zs : List Nat} {i : Int} (h0 : 0 ≤ i) (h : i < zs.length) : ∃ z ∈ zs, atI zs i = some z := by
  refine ⟨zs[i.toNat]'(by omega), List.getElem_mem _, ?_⟩
  unfold atI ixN
  rw [if_pos h0, if_pos h]
  show zs[i.toNat]? = _
  rw [List.getElem?_eq_getElem]
abbrev s__law_name : Stmt := top 20
theorem sc__law_name : FnScope ["_law_hand_here", "_law_taken", "_law_letters", "_law_words", "_law_name_here", "_law_k"] ["_law_hand_here", "_law_taken"] (defScope s__law_name) := ⟨rfl, rfl, rfl, by decide +kernel, rfl, by decide +kernel, by decide +kernel⟩
theorem ok__law_name (T : Txt K mg AA) (d__law_draw : Def P w K mg base "_law_draw" ["_law_hand_here", "_law_many"] CX0 3 (spD K (p_draw K))) (R : Raw K mg "_law_name" s__law_name) : Def P w K mg base "_law_name" ["_law_hand_here", "_law_taken"] CX0 4 (spD K (p__law_name K)) := R.def fun f fd F => by
  refine ⟨F.binds (ps := ["_law_hand_here", "_law_taken"]) fun _ _ _ _ _ _ us hl => match us, hl with | [_, _], _ => rfl, F.ok sc__law_name (spD_len len__law_name) (fun cdv A outer s H vs Q E hr h => ?_)⟩
  refine ⟨_, (pss_cons (ps_set (i := 2) sc__law_name.nd rfl (Or.inr rfl) pe_str)
      (pss_cons (ps_set (i := 3) sc__law_name.nd rfl (Or.inl rfl) (pe_lst (pa_cons pe_str (pa_cons pe_str (pa_cons pe_str (pa_cons pe_str (pa_cons pe_str (pa_cons pe_str (pa_cons pe_str (pa_cons pe_str (pa_cons pe_str (pa_cons pe_str (pa_cons pe_str (pa_cons pe_str (pa_cons pe_str (pa_cons pe_str pa_nil))))))))))))))))
      (pss_cons (ps_set (i := 4) sc__law_name.nd rfl (Or.inl rfl) (pe_ix (ix_s K) (pv 3) (pe_D0 d__law_draw (by decide) hr pass0 (pa_cons (pv 0) (pa_cons pe_int pa_nil))) (fun _ _ => rfl)))
      (pss_cons (ps_if (pt_cmpR (op_eqs K hr.units) (pe_D0 d__law_draw (by decide) hr pass0 (pa_cons (pv 0) (pa_cons pe_int pa_nil))) pe_int (nomark _)) (pss_one (ps_set (i := 4) sc__law_name.nd rfl (Or.inl rfl) (pe_joins K pe_str (pe_lc (own := [("_law_k", 5)]) (g := gName 5) (tt := tYes) rfl sc__law_name.nd (pi_range1 (by rfl) T.b_range (pa_cons (pe_op (op_adds K) pe_int (pe_D0 d__law_draw (by decide) hr pass0 (pa_cons (pv 0) (pa_cons pe_int pa_nil)))) pa_nil)) (blkOk_by (own := [("_law_k", 5)]) (N := ["_law_hand_here", "_law_taken", "_law_letters", "_law_words", "_law_name_here", "_law_k"]) (sc := defScope s__law_name) (by decide +kernel)) (fun _ _ _ _ _ => (pg_name (i := 5) sc__law_name.nd rfl (Or.inl rfl))) (fun _ _ _ _ _ => pts_nil) (fun _ _ _ _ _ => (pe_ix (ix_s K) (pv 2) (pe_D0 d__law_draw (by decide) hr pass0 (pa_cons (pv 0) (pa_cons pe_int pa_nil))) (fun _ _ => rfl))))))) pss_nil)
      (pss_cons (ps_while PassesOwn.never (pt_cmpR (op_inq K) (pv 4) (pv 1) (by with_unfolding_all rfl)) (pss_one (ps_set (i := 4) sc__law_name.nd rfl (Or.inl rfl) (pe_op (op_adds K) (pe_ix (ix_s K) (pv 2) (pe_op op_modN (pe_op (op_adds K) (pe_toK K rfl (pe_bm PySem.F.plainAttrs_str PySem.F.slot_str_find PySem.F.type_str_find mt_findS (pv 2) (pa_cons (pe_ix (ix_s K) (pv 4) pe_int (fun _ _ => rfl)) pa_nil))) pe_int) pe_int) (fun _ _ => rfl)) (pe_slice sl_strs (pv 4) (po_some pe_int) po_none)))))
      (pss_one (ps_ret (pv 4)))))))), ?_⟩
  refine run_spD h (fun c xs k x p => ?_)
  obtain ⟨p, ts, rfl, HI, hl, hk⟩ := p
  refine ⟨Nat.le_of_ble_eq_true rfl, fun hx => ?_⟩
  show Ws c _ [.val (.r (.ref p)), .val (.d (.list (ts.map .str))), .un, .un, .un, .un] _
  have ln : (("abcdefghijklmnopqrstuvwxyz" : Str).cps.toList).length = 26 := by decide +kernel
  have ln2 : ("abcdefghijklmnopqrstuvwxyz" : Str).length ≤ 100000 := by decide +kernel
  generalize hlt : ("abcdefghijklmnopqrstuvwxyz" : Str) = lt at ln ln2 ⊢
  refine ws_cut (fun ρ' => ρ' = [.val (.r (.ref p)), .val (.d (.list (ts.map .str))), .val (.d (.str lt)), .un, .un, .un]) (by walk_at "py"; rfl) ?_
  rintro _ rfl
  refine ws_cut (fun ρ' => ρ' = [.val (.r (.ref p)), .val (.d (.list (ts.map .str))), .val (.d (.str lt)), .val (.d (.list [.str "in", .str "no", .str "any", .str "both", .str "least", .str "round", .str "a", .str "b", .str "ab", .str "aa", .str "put", .str "out", .str "same", .str "z"])), .un, .un]) (by walk_at "py"; rfl) ?_
  rintro _ rfl
  refine ws_cut (fun ρ' => ∃ a s3, isNmS a = true ∧ ρ' = [.val (.r (.ref p)), .val (.d (.list (ts.map .str))), .val (.d (.str lt)), s3, .val (.d (.str a)), .un]) ?_ ?_
  · walk_at "py"
    rename_i v v0 v1
    have hs : ∃ s : Str, atI ([.str "in", .str "no", .str "any", .str "both", .str "least", .str "round", .str "a", .str "b", .str "ab", .str "aa", .str "put", .str "out", .str "same", .str "z"] : List PyData) v = some (.str s) ∧ isNmS s = true := by
      have : v = 0 ∨ v = 1 ∨ v = 2 ∨ v = 3 ∨ v = 4 ∨ v = 5 ∨ v = 6 ∨ v = 7 ∨ v = 8 ∨ v = 9 ∨ v = 10 ∨ v = 11 ∨ v = 12 ∨ v = 13 := by omega
      rcases this with rfl | rfl | rfl | rfl | rfl | rfl | rfl | rfl | rfl | rfl | rfl | rfl | rfl | rfl
      all_goals exact ⟨_, rfl, by decide +kernel⟩
    obtain ⟨s, e, hs⟩ := hs
    refine rv_ixL e ?_
    exact ⟨s, _, hs, rfl⟩
  rintro _ ⟨a0, s3, ha0, rfl⟩
  refine ws_cut (fun ρ' => ∃ a, isNmS a = true ∧ ρ' = [.val (.r (.ref p)), .val (.d (.list (ts.map .str))), .val (.d (.str lt)), s3, .val (.d (.str a)), .un]) ?_ ?_
  · refine ws_if (wt_any ?_ ?_ (ws_next ⟨_, ha0, rfl⟩))
    · walk_at "py"
      all_goals trivial
    · refine ws_asg (we_joins ?_)
      walk_at "py"
      refine ⟨_, rfl, we_fresh (wf_lcR [5] (by decide) rfl ?_)⟩
      walk_at "py"
      rename_i w w0 w1
      refine ⟨_, rfl, by omega, by omega, fun i acc => ∃ zs : List Nat, acc = (zs.map fun z => (⟨#[z]⟩ : Str)).map PyData.str ∧ zs.length = i ∧ ∀ z ∈ zs, z ∈ tlS lt, ⟨[], rfl, rfl, fun z h => (by cases h)⟩, ?_, ?_⟩
      · rintro c' le i acc hi hl ⟨zs, rfl, hzl, hzs⟩
        have HI' := HI.le le
        refine wg_name rfl (wt_yes ⟨fun _ => ?_, fun q => Bool.noConfusion q⟩)
        walk_at "py"
        rename_i u u0 u1
        obtain ⟨z, hz, e⟩ := get_nat (zs := lt.cps.toList) u0 (by omega)
        refine rv_ixS ln2 e ?_
        refine ⟨_, rfl, zs ++ [z], by simp, by simp [hzl], fun y hy => ?_⟩
        rcases List.mem_append.mp hy with hy | hy
        · exact hzs y hy
        · rw [List.mem_singleton.mp hy]; exact hz
      · rintro acc _ ⟨zs, rfl, hzl, hzs⟩
        have hzl : zs.length = (1 + w).toNat := hzl
        refine ⟨_, rfl, ?_, _, ?_, rfl⟩
        · have := sum_ones zs
          rw [this]
          have e0 : ("" : Str).length = 0 := by decide +kernel
          rw [e0]
          omega
        · refine nm_of (by omega) (by omega) fun z hz => ?_
          rw [hlt]; exact hzs z hz
  rintro _ ⟨a, ha, rfl⟩
  obtain ⟨m, r, hm, rfl, hr⟩ := nm_of' ha
  obtain ⟨i0, hi0, hf⟩ := nm_free m r ts hm hl
  refine ws_cut (fun ρ' => ∃ a, isNmS a = true ∧ ρ' = [.val (.r (.ref p)), .val (.d (.list (ts.map .str))), .val (.d (.str lt)), s3, .val (.d (.str a)), .un]) ?_ ?_
  · refine ws_while (m0 := 25) (fun M ρ' => ∃ m', m' < 26 ∧ (∃ i, i ≤ M ∧ nm ((m' + i) % 26) r ∉ ts) ∧ ρ' = [.val (.r (.ref p)), .val (.d (.list (ts.map .str))), .val (.d (.str lt)), s3, .val (.d (.str (nm m' r))), .un]) ⟨m, hm, ⟨i0, hi0, hf⟩, rfl⟩ ?_
    rintro M ρ' ⟨m', hm', ⟨i, hi, hn⟩, rfl⟩
    refine wt_test (we_op (we_var rfl (we_var rfl (rv_inSL ?_))))
    refine ⟨_, rfl, fun hin => ?_, fun _ => ⟨_, nm_nm ha hm', rfl⟩⟩
    have hin := of_decide_eq_true hin
    have hi1 : 1 ≤ i := by
      refine Classical.byContradiction fun q => ?_
      have : i = 0 := by omega
      subst this
      rw [Nat.add_zero, Nat.mod_eq_of_lt hm'] at hn
      exact hn hin
    have la : (nm m' r).length ≤ 8 := by rw [len_tlS, tl_nm]; simp; omega
    have e0 : atI (nm m' r).cps.toList 0 = some (97 + m') := by
      unfold atI ixN
      rw [if_pos (by decide), if_pos (by show (0 : Int) < (((97 + m') :: r).length : Nat); rw [List.length_cons]; omega)]; rfl
    have hm2 : (m' + 1) % 26 < 26 := Nat.mod_lt _ (by decide)
    have ef : ((m' : Int) + 1).fmod 26 = (((m' + 1) % 26 : Nat) : Int) := by
      rw [Int.fmod_eq_emod_of_nonneg _ (by decide)]; omega
    have eg : atI lt.cps.toList (((m' + 1) % 26 : Nat) : Int) = some (97 + (m' + 1) % 26) := by
      subst hlt
      unfold atI ixN
      rw [if_pos (by omega), if_pos (by rw [ln]; omega)]
      exact at_nm _ hm2
    refine ws_asg (we_op (we_op (we_var rfl (we_op (we_op (we_find ?_)))))) 
    refine we_var rfl ⟨lt, rfl, wa_cons (we_op (we_var rfl (we_int (rv_ixS (by omega) e0 (wa_nil ⟨_, rfl, ?_⟩)))))⟩
    rw [show Txt.find lt ⟨#[97 + m']⟩ = (m' : Int) by rw [← hlt]; exact find_nm m' hm']
    walk_at "py"
    rw [ef]
    refine rv_ixS ln2 eg ?_
    refine we_slS (we_var rfl (wo_some (we_int ⟨1, rfl, wo_none ⟨_, rfl, by omega, ?_⟩⟩)))
    have es : (⟨#[97 + (m' + 1) % 26]⟩ : Str) ++ cutS (nm m' r) (some 1) none = nm ((m' + 1) % 26) r := by
      refine ext_tlS ?_
      rw [tlS_app, cut1, tl_nm, tl_nm]; rfl
    have lc := cutS_length (nm m' r) (some 1) none
    refine rv_addS (by show 1 + _ ≤ _; omega) ?_
    rw [es]
    refine ⟨M - 1, by omega, (m' + 1) % 26, hm2, ⟨i - 1, by omega, ?_⟩, rfl⟩
    rw [show ((m' + 1) % 26 + (i - 1)) % 26 = (m' + i) % 26 by omega]
    exact hn
  rintro _ ⟨a, ha, rfl⟩
  walk_at "py"
  exact hk a ha

theorem call__law_name {K : PySem.W.Frag} {c : Py.Ctx K} {k : Dv → Prop} {x : Value → Prop} {p : Addr} {ts : List Str} (HI : HandIn c p) (hl : ts.length ≤ 20) (h : ∀ a : Str, isNmS a = true → k (.d (.str a))) : ∀ c', Le c c' → p__law_name K c' [.r (.ref p), .d (.list (ts.map .str))] k x := fun c' le => ⟨p, ts, rfl, HI.le le, hl, h⟩
local macro_rules | `(tactic| walk_at "py1") => `(tactic| with_reducible refine call__law_name ?_ ?_ ?_)
def p__law_names (K : PySem.W.Frag) : PT0 K := fun c xs k _ => ∃ (p : Addr), xs = [.r (.ref p), .d (.int 4)] ∧ HandIn c p ∧ ∀ as : List Str, as.length = 4 → (∀ a ∈ as, isNmS a = true) → k (.d (.list (as.map .str)))
theorem len__law_names {K : PySem.W.Frag} : ∀ (c : Py.Ctx K) xs k x, p__law_names K c xs k x → xs.length = 2 := by
  rintro c xs k x ⟨p, rfl, _⟩
  rfl
abbrev s__law_names : Stmt := top 21
theorem sc__law_names : FnScope ["_law_hand_here", "_law_many", "_law_names_here", "_law_k"] ["_law_hand_here", "_law_many"] (defScope s__law_names) := ⟨rfl, rfl, rfl, by decide +kernel, rfl, by decide +kernel, by decide +kernel⟩
theorem ok__law_names (T : Txt K mg AA) (d__law_name : Def P w K mg base "_law_name" ["_law_hand_here", "_law_taken"] CX0 4 (spD K (p__law_name K))) (R : Raw K mg "_law_names" s__law_names) : Def P w K mg base "_law_names" ["_law_hand_here", "_law_many"] CX0 5 (spD K (p__law_names K)) := R.def fun f fd F => by
  refine ⟨F.binds (ps := ["_law_hand_here", "_law_many"]) fun _ _ _ _ _ _ us hl => match us, hl with | [_, _], _ => rfl, F.ok sc__law_names (spD_len len__law_names) (fun cdv A outer s H vs Q E hr h => ?_)⟩
  refine ⟨_, (pss_cons (ps_set (i := 2) sc__law_names.nd rfl (Or.inl rfl) (pe_lst pa_nil))
      (pss_cons (ps_for PassesOwn.never rfl (pi_range1 (by rfl) T.b_range (pa_cons (pv 1) pa_nil)) (pg_name (i := 3) sc__law_names.nd rfl (Or.inl rfl)) (pss_one (ps_expr (pe_toK K rfl (pe_bm PySem.F.plainAttrs_list PySem.F.slot_list_append PySem.F.type_list_append mt_append (pv 2) (pa_cons (pe_D0 d__law_name (by decide) hr pass0 (pa_cons (pv 0) (pa_cons (pv 2) pa_nil))) pa_nil))))))
      (pss_one (ps_ret (pv 2))))), ?_⟩
  refine run_spD h (fun c xs k x p => ?_)
  obtain ⟨p, rfl, HI, hk⟩ := p
  refine ⟨Nat.le_of_ble_eq_true rfl, fun hx => ?_⟩
  show Ws c _ [.val (.r (.ref p)), .val (.d (.int 4)), .un, .un] _
  refine ws_cut (fun ρ' => ∃ l, ρ' = [.val (.r (.ref p)), .val (.d (.int 4)), .own l ([] : List PyData), .un]) ?_ ?_
  · refine ws_own (wf_lst ?_)
    walk_at "py"
    exact fun l => ⟨l, rfl⟩
  rintro _ ⟨l, rfl⟩
  refine ws_cut (fun ρ' => ∃ (as : List Str) (s3 : Slot), as.length = 4 ∧ (∀ a ∈ as, isNmS a = true) ∧ ρ' = [.val (.r (.ref p)), .val (.d (.int 4)), .own l (as.map PyData.str), s3]) ?_ ?_
  · refine ws_forR1 [3] ?_
    walk_at "py"
    refine ⟨_, rfl, by decide, by decide, fun i ρ' => ∃ (as : List Str) (s3 : Slot), isOwn s3 = false ∧ as.length = i ∧ (∀ a ∈ as, isNmS a = true) ∧ ρ' = [.val (.r (.ref p)), .val (.d (.int 4)), .own l (as.map PyData.str), s3], ⟨[], _, rfl, rfl, by simp, rfl⟩, ?_, ?_⟩
    · rintro i ρ' hi ⟨as, s3, h3, la, na, rfl⟩
      have hi : i < 4 := hi
      refine wg_name (by show some (isOwn s3) = _; rw [h3]) ?_
      refine ws_app rfl (by simp; omega) ?_
      refine we_share (i := 2) rfl ?_
      walk_at "py"
      · exact HI
      · omega
      intro a ha
      refine ⟨_, rfl, rfl, _, rfl, as ++ [a], _, rfl, by simp [la], fun b hb => ?_, by rw [List.map_append]; rfl⟩
      rcases List.mem_append.mp hb with hb | hb
      · exact na b hb
      · rw [List.mem_singleton.mp hb]; exact ha
    · rintro ρ' ⟨as, s3, _, la, na, rfl⟩
      exact ⟨as, s3, la, na, rfl⟩
  rintro _ ⟨as, s3, la, na, rfl⟩
  refine ws_freeze (i := 2) rfl ?_
  walk_at "py"
  exact hk as la na

theorem call__law_names {K : PySem.W.Frag} {c : Py.Ctx K} {k : Dv → Prop} {x : Value → Prop} {p : Addr} (HI : HandIn c p) (h : ∀ as : List Str, as.length = 4 → (∀ a ∈ as, isNmS a = true) → k (.d (.list (as.map .str)))) : ∀ c', Le c c' → p__law_names K c' [.r (.ref p), .d (.int 4)] k x := fun c' le => ⟨p, rfl, HI.le le, h⟩
local macro_rules | `(tactic| walk_at "py1") => `(tactic| with_reducible refine call__law_names ?_ ?_)
def p__law_wish (n : Nat) (K : PySem.W.Frag) : PT0 K := fun c xs k _ => ∃ (p : Addr) (m : Int) (ns : List Str), xs = [.r (.ref p), .d (.list (ns.map .str)), .d (.int m)] ∧ m.toNat < n ∧ 1 ≤ m ∧ m ≤ 100 ∧ HandIn c p ∧ ns.length = 4 ∧ (∀ a ∈ ns, isNmS a = true) ∧ ∀ w : Wi, WiOk w → wdep w ≤ m.toNat → k (.d (wD w))
theorem len__law_wish {n : Nat} {K : PySem.W.Frag} : ∀ (c : Py.Ctx K) xs k x, p__law_wish n K c xs k x → xs.length = 3 := by
  rintro c xs k x ⟨p, m, ns, rfl, _⟩
  rfl
theorem zero__law_wish {K : PySem.W.Frag} {c : Py.Ctx K} {xs : List Dv} {k : Dv → Prop} {x : Value → Prop} : ¬ p__law_wish 0 K c xs k x := by
  rintro ⟨p, m, ns, _, h, _⟩
  exact absurd h (Nat.not_lt_zero _)
theorem call__law_wish {n : Nat} {K : PySem.W.Frag} {c : Py.Ctx K} {k : Dv → Prop} {x : Value → Prop} {p : Addr} {m : Int} {ns : List Str} (hn : m.toNat < n) (h1 : 1 ≤ m) (h2 : m ≤ 100) (HI : HandIn c p) (hl : ns.length = 4) (hns : ∀ a ∈ ns, isNmS a = true) (h : ∀ w : Wi, WiOk w → wdep w ≤ m.toNat → k (.d (wD w))) :
  ∀ c', Le c c' → p__law_wish n K c' [.r (.ref p), .d (.list (ns.map .str)), .d (.int m)] k x := fun c' le => ⟨p, m, ns, rfl, hn, h1, h2, HI.le le, hl, hns, h⟩
theorem at_strs {ns : List Str} {v : Int} (h0 : 0 ≤ v) (h1 : v < ns.length) : ∃ a ∈ ns, atI (ns.map PyData.str) v = some (.str a) := by
  obtain ⟨n, rfl⟩ := Int.eq_ofNat_of_zero_le h0
  have hn : n < ns.length := by omega
  refine ⟨ns[n], List.getElem_mem hn, ?_⟩
  unfold atI ixN
  rw [if_pos (by omega), if_pos (by rw [List.length_map]; omega)]
  show (ns.map PyData.str)[n]? = _
  rw [List.getElem?_map, List.getElem?_eq_getElem hn]; rfl
abbrev s__law_wish : Stmt := top 23
theorem sc__law_wish : FnScope ["_law_hand_here", "_law_names_here", "_law_deep_here", "_law_way", "_law_name_here", "_law_one"] ["_law_hand_here", "_law_names_here", "_law_deep_here"] (defScope s__law_wish) := ⟨rfl, rfl, rfl, by decide +kernel, rfl, by decide +kernel, by decide +kernel⟩
theorem okZ__law_wish (T : Txt K mg AA) (d__law_draw : Def P w K mg base "_law_draw" ["_law_hand_here", "_law_many"] CX0 3 (spD K (p_draw K))) (d__law_number : Def P w K mg base "_law_number" ["_law_hand_here"] CX0 4 (spD K (p__law_number K))) (R : Raw K mg "_law_wish" s__law_wish) : Def P w K mg base "_law_wish" ["_law_hand_here", "_law_names_here", "_law_deep_here"] CX0 (4) (spD K (p__law_wish 0 K)) := R.def fun f fd F => by
  refine ⟨F.binds (ps := ["_law_hand_here", "_law_names_here", "_law_deep_here"]) fun _ _ _ _ _ _ us hl => match us, hl with | [_, _, _], _ => rfl, F.ok sc__law_wish (spD_len len__law_wish) (fun cdv A outer s H vs Q E hr h => ?_)⟩
  obtain ⟨c, xs, k, x, _, _, _, p, _⟩ := h
  exact absurd p zero__law_wish
theorem okS__law_wish (n : Nat) (T : Txt K mg AA) (d__law_draw : Def P w K mg base "_law_draw" ["_law_hand_here", "_law_many"] CX0 3 (spD K (p_draw K))) (d__law_number : Def P w K mg base "_law_number" ["_law_hand_here"] CX0 4 (spD K (p__law_number K))) (d__law_wish : Def P w K mg base "_law_wish" ["_law_hand_here", "_law_names_here", "_law_deep_here"] CX0 (4 + n) (spD K (p__law_wish n K))) (R : Raw K mg "_law_wish" s__law_wish) : Def P w K mg base "_law_wish" ["_law_hand_here", "_law_names_here", "_law_deep_here"] CX0 (4 + n + 1) (spD K (p__law_wish (n + 1) K)) := R.def fun f fd F => by
  refine ⟨F.binds (ps := ["_law_hand_here", "_law_names_here", "_law_deep_here"]) fun _ _ _ _ _ _ us hl => match us, hl with | [_, _, _], _ => rfl, F.ok sc__law_wish (spD_len len__law_wish) (fun cdv A outer s H vs Q E hr h => ?_)⟩
  refine ⟨_, (pss_cons (ps_set (i := 3) sc__law_wish.nd rfl (Or.inl rfl) (pe_D0 d__law_draw (by omega) hr pass0 (pa_cons (pv 0) (pa_cons pe_int pa_nil))))
      (pss_cons (ps_if (PW.pt (pw_or (pt_cmpR op_ltU (pv 2) pe_int (nomark _)) (pw_or1 (pt_cmpR op_ltU (pv 3) pe_int (nomark _))))) (pss_cons (ps_if (pt_cmpR (op_eqs K hr.units) (pe_op op_modN (pv 3) pe_int) pe_int (nomark _)) (pss_one (ps_ret (pe_tup (pa_cons pe_str (pa_cons (pe_ix (ix_s K) (pv 1) (pe_D0 d__law_draw (by omega) hr pass0 (pa_cons (pv 0) (pa_cons (pe_callB (call_lens K) (by rfl) T.b_len (by decide +kernel) (pa_cons (pv 1) pa_nil)) pa_nil))) (fun _ _ => rfl)) pa_nil))))) pss_nil)
      (pss_cons (ps_if (pt_cmpR (op_eqs K hr.units) (pe_op op_modN (pv 3) pe_int) pe_int (nomark _)) (pss_cons (ps_set (i := 4) sc__law_wish.nd rfl (Or.inl rfl) (pe_ix (ix_s K) (pv 1) (pe_D0 d__law_draw (by omega) hr pass0 (pa_cons (pv 0) (pa_cons (pe_callB (call_lens K) (by rfl) T.b_len (by decide +kernel) (pa_cons (pv 1) pa_nil)) pa_nil))) (fun _ _ => rfl)))
      (pss_one (ps_ret (pe_tup (pa_cons pe_str (pa_cons (pv 4) (pa_cons (pe_D0 d__law_number (by omega) hr pass0 (pa_cons (pv 0) pa_nil)) pa_nil))))))) pss_nil)
      (pss_one (ps_ret (pe_tup (pa_cons pe_str (pa_cons (pe_D0 d__law_number (by omega) hr pass0 (pa_cons (pv 0) pa_nil)) pa_nil))))))) pss_nil)
      (pss_cons (ps_set (i := 5) sc__law_wish.nd rfl (Or.inl rfl) (pe_D0 d__law_wish (by omega) hr pass0 (pa_cons (pv 0) (pa_cons (pv 1) (pa_cons (pe_op op_sub (pv 2) pe_int) pa_nil)))))
      (pss_cons (ps_if (pt_cmpR (op_eqs K hr.units) (pv 3) pe_int (nomark _)) (pss_one (ps_ret (pe_tup (pa_cons pe_str (pa_cons (pv 5) pa_nil))))) pss_nil)
      (pss_one (ps_ret (pe_tup (pa_cons (pe_ix (ix_s K) (pe_lst (pa_cons pe_str (pa_cons pe_str pa_nil))) (pe_op op_sub (pv 3) pe_int) (fun _ _ => rfl)) (pa_cons (pv 5) (pa_cons (pe_D0 d__law_wish (by omega) hr pass0 (pa_cons (pv 0) (pa_cons (pv 1) (pa_cons (pe_op op_sub (pv 2) pe_int) pa_nil)))) pa_nil)))))))))), ?_⟩
  refine run_spD h (fun c xs k x p => ?_)
  obtain ⟨p, m, ns, rfl, hn, h1, h2, HI, hl, hns, hk⟩ := p
  refine ⟨Nat.le_of_ble_eq_true rfl, fun hx => ?_⟩
  show Ws c _ [.val (.r (.ref p)), .val (.d (.list (ns.map .str))), .val (.d (.int m)), .un, .un, .un] _
  have hml : ((ns.map PyData.str).length : Int) = 4 := by simp [hl]
  refine ws_seq ?_
  walk_at "pys"
  rename_i v v0 v1
  have hv : v = 0 ∨ v = 1 ∨ v = 2 ∨ v = 3 ∨ v = 4 ∨ v = 5 := by omega
  have na : ∀ u : Int, 0 ≤ u → u < ((ns.map PyData.str).length : Int) → ∃ a ∈ ns, atI (ns.map PyData.str) u = some (.str a) := fun u u0 u1 => at_strs u0 (by simp at u1; exact u1)
  refine ws_cut (fun ρ' => (3 ≤ v ∧ 2 ≤ m) ∧ ρ' = [.val (.r (.ref p)), .val (.d (.list (ns.map .str))), .val (.d (.int m)), .val (.d (.int v)), .un, .un]) ?_ ?_
  · by_cases hc : m < 2 ∨ v < 3
    · refine ws_if (wt_split true ?_ (fun _ => ?_) (fun h => by cases h))
      · walk_at "py"
        all_goals first | rfl | (rename_i h; have := of_decide_eq_false h; exact decide_eq_true (by omega))
      walk_at "py"
      · rename_i u u0 u1
        obtain ⟨a, ha, e⟩ := na u u0 u1
        refine rv_ixL e ?_
        walk_at "py"
        exact hk (.inn a) (hns a ha) (by show 1 ≤ _; omega)
      · rename_i u u0 u1
        obtain ⟨a, ha, e⟩ := na u u0 u1
        refine rv_ixL e ?_
        walk_at "py"
        · exact HI
        · intro z hz
          walk_at "py"
          exact hk (.rnd a z) ⟨hns a ha, hz⟩ (by show 1 ≤ _; omega)
      · exact HI
      · intro z hz
        walk_at "py"
        exact hk (.lst z) hz (by show 1 ≤ _; omega)
    · refine ws_if (wt_split false ?_ (fun h => by cases h) (fun _ => ws_next ⟨by omega, rfl⟩))
      walk_at "py"
      all_goals first | (rename_i h; have := of_decide_eq_true h; omega) | exact decide_eq_false (by omega)
  rintro _ ⟨⟨v3, m2⟩, rfl⟩
  refine ws_cut (fun ρ' => ∃ w : Wi, (WiOk w ∧ wdep w + 1 ≤ m.toNat) ∧ ρ' = [.val (.r (.ref p)), .val (.d (.list (ns.map .str))), .val (.d (.int m)), .val (.d (.int v)), .un, .val (.d (wD w))]) ?_ ?_
  · walk_at "py"
    exact call__law_wish (by omega) (by omega) (by omega) HI hl hns fun w a b => ⟨w, ⟨a, by omega⟩, rfl⟩
  rintro _ ⟨w, ⟨wo, wd⟩, rfl⟩
  refine ws_cut (fun ρ' => v ≠ 3 ∧ ρ' = [.val (.r (.ref p)), .val (.d (.list (ns.map .str))), .val (.d (.int m)), .val (.d (.int v)), .un, .val (.d (wD w))]) ?_ ?_
  · walk_at "py"
    · exact hk (.no w) wo (by show wdep w + 1 ≤ _; omega)
    · rename_i h
      exact ⟨of_decide_eq_false h, rfl⟩
  rintro _ ⟨e3, rfl⟩
  have hs : ∃ b : Bool, atI [PyData.str "both", .str "any"] (v - 4) = some (.str (bW b)) := by
    have : v = 4 ∨ v = 5 := by omega
    rcases this with rfl | rfl
    · exact ⟨true, rfl⟩
    · exact ⟨false, rfl⟩
  obtain ⟨b, hb⟩ := hs
  walk_at "py"
  refine rv_ixL hb ?_
  walk_at "py"
  refine call__law_wish (by omega) (by omega) (by omega) HI hl hns fun w2 a2 d2 => ?_
  walk_at "py"
  exact hk (.two b w w2) ⟨wo, a2⟩ (by show max _ _ + 1 ≤ _; omega)

theorem okR__law_wish (T : Txt K mg AA) (d__law_draw : Def P w K mg base "_law_draw" ["_law_hand_here", "_law_many"] CX0 3 (spD K (p_draw K))) (d__law_number : Def P w K mg base "_law_number" ["_law_hand_here"] CX0 4 (spD K (p__law_number K))) (R : Raw K mg "_law_wish" s__law_wish) : ∀ n : Nat, Def P w K mg base "_law_wish" ["_law_hand_here", "_law_names_here", "_law_deep_here"] CX0 (4 + n) (spD K (p__law_wish n K))
  | 0 => okZ__law_wish T d__law_draw d__law_number R
  | n + 1 => okS__law_wish n T d__law_draw d__law_number (okR__law_wish T d__law_draw d__law_number R n) R
theorem ok__law_wish (T : Txt K mg AA) (d__law_draw : Def P w K mg base "_law_draw" ["_law_hand_here", "_law_many"] CX0 3 (spD K (p_draw K))) (d__law_number : Def P w K mg base "_law_number" ["_law_hand_here"] CX0 4 (spD K (p__law_number K))) (R : Raw K mg "_law_wish" s__law_wish) : Def P w K mg base "_law_wish" ["_law_hand_here", "_law_names_here", "_law_deep_here"] CX0 (11) (spD K (p__law_wish 7 K)) := okR__law_wish T d__law_draw d__law_number R 7
def p__law_wrapped (K : PySem.W.Frag) : PT0 K := fun c xs k _ => ∃ (p : Addr) (w : Wi), xs = [.r (.ref p), .d (wD w), .d (.int 6)] ∧ HandIn c p ∧ WiOk w ∧ wdep w ≤ 6 ∧ ∀ w : Wi, WiOk w → wdep w = 6 → k (.d (wD w))
theorem len__law_wrapped {K : PySem.W.Frag} : ∀ (c : Py.Ctx K) xs k x, p__law_wrapped K c xs k x → xs.length = 3 := by
  rintro c xs k x ⟨p, w, rfl, _⟩
  rfl
theorem dep_pos (w : Wi) : 1 ≤ wdep w := by
  cases w with
  | inn a => exact Nat.le_refl 1
  | rnd a n => exact Nat.le_refl 1
  | lst n => exact Nat.le_refl 1
  | no v => show 1 ≤ wdep v + 1; omega
  | two b v w => show 1 ≤ max _ _ + 1; omega
abbrev s__law_wrapped : Stmt := top 26
theorem sc__law_wrapped : FnScope ["_law_hand_here", "_law_wish_here", "_law_deep_here", "_law_k", "_law_way"] ["_law_hand_here", "_law_wish_here", "_law_deep_here"] (defScope s__law_wrapped) := ⟨rfl, rfl, rfl, by decide +kernel, rfl, by decide +kernel, by decide +kernel⟩
theorem ok__law_wrapped (T : Txt K mg AA) (d__law_draw : Def P w K mg base "_law_draw" ["_law_hand_here", "_law_many"] CX0 3 (spD K (p_draw K))) (d__law_deep : Def P w K mg base "_law_deep" ["_law_wish_here"] CX0 9 (spD K (p__law_deep 8 K))) (R : Raw K mg "_law_wrapped" s__law_wrapped) : Def P w K mg base "_law_wrapped" ["_law_hand_here", "_law_wish_here", "_law_deep_here"] CX0 10 (spD K (p__law_wrapped K)) := R.def fun f fd F => by
  refine ⟨F.binds (ps := ["_law_hand_here", "_law_wish_here", "_law_deep_here"]) fun _ _ _ _ _ _ us hl => match us, hl with | [_, _, _], _ => rfl, F.ok sc__law_wrapped (spD_len len__law_wrapped) (fun cdv A outer s H vs Q E hr h => ?_)⟩
  refine ⟨_, (pss_cons (ps_for PassesOwn.never rfl (pi_range1 (by rfl) T.b_range (pa_cons (pe_op op_sub (pv 2) (pe_D0 d__law_deep (by decide) hr pass0 (pa_cons (pv 1) pa_nil))) pa_nil)) (pg_name (i := 3) sc__law_wrapped.nd rfl (Or.inl rfl)) (pss_cons (ps_set (i := 4) sc__law_wrapped.nd rfl (Or.inl rfl) (pe_D0 d__law_draw (by decide) hr pass0 (pa_cons (pv 0) (pa_cons pe_int pa_nil))))
      (pss_one (ps_if (pt_cmpR (op_eqs K hr.units) (pv 4) pe_int (nomark _)) (pss_one (ps_set (i := 1) sc__law_wrapped.nd rfl (Or.inl rfl) (pe_tup (pa_cons pe_str (pa_cons (pv 1) pa_nil))))) (pss_one (ps_if (pt_cmpR op_ltU (pv 4) pe_int (nomark _)) (pss_one (ps_set (i := 1) sc__law_wrapped.nd rfl (Or.inl rfl) (pe_tup (pa_cons (pe_ix (ix_s K) (pe_lst (pa_cons pe_str (pa_cons pe_str pa_nil))) (pe_op op_sub (pv 4) pe_int) (fun _ _ => rfl)) (pa_cons (pv 1) (pa_cons (pe_tup (pa_cons pe_str (pa_cons (pe_D0 d__law_draw (by decide) hr pass0 (pa_cons (pv 0) (pa_cons pe_int pa_nil))) pa_nil))) pa_nil)))))) (pss_one (ps_set (i := 1) sc__law_wrapped.nd rfl (Or.inl rfl) (pe_tup (pa_cons (pe_ix (ix_s K) (pe_lst (pa_cons pe_str (pa_cons pe_str pa_nil))) (pe_op op_sub (pv 4) pe_int) (fun _ _ => rfl)) (pa_cons (pe_tup (pa_cons pe_str (pa_cons (pe_D0 d__law_draw (by decide) hr pass0 (pa_cons (pv 0) (pa_cons pe_int pa_nil))) pa_nil))) (pa_cons (pv 1) pa_nil))))))))))))
      (pss_one (ps_ret (pv 1)))), ?_⟩
  refine run_spD h (fun c xs k x p => ?_)
  obtain ⟨p, w, rfl, HI, wo, wd, hk⟩ := p
  refine ⟨Nat.le_of_ble_eq_true rfl, fun hx => ?_⟩
  show Ws c _ [.val (.r (.ref p)), .val (.d (wD w)), .val (.d (.int 6)), .un, .un] _
  refine ws_cut (fun ρ' => ∃ (w : Wi) (s3 s4 : Slot), (WiOk w ∧ wdep w = 6) ∧ ρ' = [.val (.r (.ref p)), .val (.d (wD w)), .val (.d (.int 6)), s3, s4]) ?_ ?_
  · refine ws_forR1 [3] ?_
    walk_at "py"
    refine call__law_deep (w := w) (by omega) ?_
    walk_at "py"
    have hN : ((6 : Int) - (wdep w : Int)).toNat = 6 - wdep w := by omega
    refine ⟨_, rfl, by omega, by omega, fun i ρ' => ∃ (w' : Wi) (s3 s4 : Slot), (WiOk w' ∧ wdep w' = wdep w + i) ∧ (isOwn s3 = false ∧ isOwn s4 = false) ∧ ρ' = [.val (.r (.ref p)), .val (.d (wD w')), .val (.d (.int 6)), s3, s4], ⟨w, _, _, ⟨wo, rfl⟩, ⟨rfl, rfl⟩, rfl⟩, ?_, ?_⟩
    · rintro i ρ' hi ⟨w', s3, s4, ⟨wo', wd'⟩, ⟨h3, h4⟩, rfl⟩
      have fin : ∀ w2 : Wi, WiOk w2 → wdep w2 = wdep w' + 1 → ∀ s4 : Slot, isOwn s4 = false → ∃ (w' : Wi) (s3 s4' : Slot), (WiOk w' ∧ wdep w' = wdep w + (i + 1)) ∧ (isOwn s3 = false ∧ isOwn s4' = false) ∧ [Slot.val (.r (.ref p)), .val (.d (wD w2)), .val (.d (.int 6)), .val (.d (.int i)), s4] = [.val (.r (.ref p)), .val (.d (wD w')), .val (.d (.int 6)), s3, s4'] := fun w2 a b s4 h => ⟨w2, _, _, ⟨a, by omega⟩, ⟨rfl, h⟩, rfl⟩
      have pos := dep_pos w'
      refine wg_name (by show some (isOwn s3) = _; rw [h3]) ?_
      refine ws_cut (fun ρ' => ∃ v : Int, (0 ≤ v ∧ v < 5) ∧ ρ' = [.val (.r (.ref p)), .val (.d (wD w')), .val (.d (.int 6)), .val (.d (.int i)), .val (.d (.int v))]) ?_ ?_
      · refine ws_asg ?_
        walk_at "py"
        rename_i v v0 v1
        exact ⟨v, ⟨v0, v1⟩, rfl⟩
      rintro _ ⟨v, ⟨v0, v1⟩, rfl⟩
      have hv : v = 0 ∨ v = 1 ∨ v = 2 ∨ v = 3 ∨ v = 4 := by omega
      rcases hv with rfl | rfl | rfl | rfl | rfl
      · walk_at "py"
        exact fin (.no w') wo' rfl _ rfl
      all_goals
        walk_at "py"
        rename_i u u0 u1
        have u2 : u.natAbs < 10 ^ 61 := by omega
      · exact fin (.two true w' (.lst u)) ⟨wo', u2⟩ (by show max _ 1 + 1 = _; omega) _ rfl
      · exact fin (.two false w' (.lst u)) ⟨wo', u2⟩ (by show max _ 1 + 1 = _; omega) _ rfl
      · exact fin (.two true (.lst u) w') ⟨u2, wo'⟩ (by show max 1 _ + 1 = _; omega) _ rfl
      · exact fin (.two false (.lst u) w') ⟨u2, wo'⟩ (by show max 1 _ + 1 = _; omega) _ rfl
    · rintro ρ' ⟨w', s3, s4, ⟨wo', wd'⟩, _, rfl⟩
      exact ⟨w', s3, s4, ⟨wo', by omega⟩, rfl⟩
  rintro _ ⟨w', s3, s4, ⟨wo', wd'⟩, rfl⟩
  walk_at "py"
  exact hk w' wo' wd'

theorem call__law_wrapped {K : PySem.W.Frag} {c : Py.Ctx K} {k : Dv → Prop} {x : Value → Prop} {p : Addr} {w : Wi} (HI : HandIn c p) (hw : WiOk w) (hd : wdep w ≤ 6) (h : ∀ w : Wi, WiOk w → wdep w = 6 → k (.d (wD w))) : ∀ c', Le c c' → p__law_wrapped K c' [.r (.ref p), .d (wD w), .d (.int 6)] k x := fun c' le => ⟨p, w, rfl, HI.le le, hw, hd, h⟩
local macro_rules | `(tactic| walk_at "py1") => `(tactic| with_reducible refine call__law_wrapped ?_ ?_ ?_ ?_)
def p__law_spoilt (n : Nat) (K : PySem.W.Frag) : PT0 K := fun c xs k _ => ∃ (p : Addr) (w : Wi), xs = [.r (.ref p), .d (wD w)] ∧ wdep w < n ∧ HandIn c p ∧ WiOk w ∧ ∀ d, okS d = true → (∀ m, isW m d = false) → k (.d d)
theorem len__law_spoilt {n : Nat} {K : PySem.W.Frag} : ∀ (c : Py.Ctx K) xs k x, p__law_spoilt n K c xs k x → xs.length = 2 := by
  rintro c xs k x ⟨p, w, rfl, _⟩
  rfl
theorem zero__law_spoilt {K : PySem.W.Frag} {c : Py.Ctx K} {xs : List Dv} {k : Dv → Prop} {x : Value → Prop} : ¬ p__law_spoilt 0 K c xs k x := by
  rintro ⟨p, w, _, h, _⟩
  exact absurd h (Nat.not_lt_zero _)
theorem call__law_spoilt {n : Nat} {K : PySem.W.Frag} {c : Py.Ctx K} {k : Dv → Prop} {x : Value → Prop} {p : Addr} {w : Wi} (hn : wdep w < n) (HI : HandIn c p) (hw : WiOk w) (h : ∀ d, okS d = true → (∀ m, isW m d = false) → k (.d d)) :
  ∀ c', Le c c' → p__law_spoilt n K c' [.r (.ref p), .d (wD w)] k x := fun c' le => ⟨p, w, rfl, hn, HI.le le, hw, h⟩
theorem bad_in {d : PyData} (h : isNm d = false) : ∀ m, isW m (.tuple [.str "in", d]) = false := fun m => by
  cases m with
  | zero => rfl
  | succ m => exact h
theorem bad_least {d : PyData} (h : isWh d = false) : ∀ m, isW m (.tuple [.str "least", d]) = false := fun m => by
  cases m with
  | zero => rfl
  | succ m => exact h
theorem bad_no {d : PyData} (h : ∀ m, isW m d = false) : ∀ m, isW m (.tuple [.str "no", d]) = false := fun m => by
  cases m with
  | zero => rfl
  | succ m => exact h m
theorem bad_rnd1 {d e : PyData} (h : isNm d = false) : ∀ m, isW m (.tuple [.str "round", d, e]) = false := fun m => by
  cases m with
  | zero => rfl
  | succ m => show (isNm d && isWh e) = false; rw [h]; rfl
theorem bad_rnd2 {d e : PyData} (h : isWh e = false) : ∀ m, isW m (.tuple [.str "round", d, e]) = false := fun m => by
  cases m with
  | zero => rfl
  | succ m => show (isNm d && isWh e) = false; rw [h, Bool.and_false]
theorem bad_two1 {b : Bool} {d e : PyData} (h : ∀ m, isW m d = false) : ∀ m, isW m (.tuple [.str (bW b), d, e]) = false := fun m => by
  cases m with
  | zero => rfl
  | succ m =>
    have e : isW (m + 1) (.tuple [.str (bW b), d, e]) = (isW m d && isW m e) := by cases b <;> rfl
    rw [e, h]; rfl
theorem bad_two2 {b : Bool} {d e : PyData} (h : ∀ m, isW m e = false) : ∀ m, isW m (.tuple [.str (bW b), d, e]) = false := fun m => by
  cases m with
  | zero => rfl
  | succ m =>
    have e : isW (m + 1) (.tuple [.str (bW b), d, e]) = (isW m d && isW m e) := by cases b <;> rfl
    rw [e, h, Bool.and_false]
theorem bad_len {ds : List PyData} (h2 : ds.length ≠ 2) (h3 : ds.length ≠ 3) : ∀ m, isW m (.tuple ds) = false := fun m =>
  isW_other (fun w a e => by cases e; exact h2 rfl) (fun w a b e => by cases e; exact h3 rfl)
theorem bad3 {w : Str} {d e : PyData} (h1 : w ≠ "round") (h2 : w ∉ (["both", "any"] : List Str)) : ∀ m, isW m (.tuple [.str w, d, e]) = false := fun m => by
  cases m with
  | zero => rfl
  | succ m =>
    show (if w = "round" then isNm d && isWh e else if w ∈ (["both", "any"] : List Str) then isW m d && isW m e else false) = false
    rw [if_neg h1, if_neg h2]
theorem bad_word {e : PyData} {r : List PyData} (h : ∀ s ∈ (["in", "least", "no", "round", "both", "any"] : List Str), e ≠ .str s) : ∀ m, isW m (.tuple (e :: r)) = false := fun m => by
  cases e with
  | str w =>
    have hw : ∀ s ∈ (["in", "least", "no", "round", "both", "any"] : List Str), w ≠ s := fun s hs q => h s hs (by rw [q])
    match m, r with
    | 0, _ => rfl
    | m + 1, [] => exact bad_len (by simp) (by simp) _
    | m + 1, [a] =>
      show (if w = "in" then isNm a else if w = "least" then isWh a else decide (w = "no") && isW m a) = false
      rw [if_neg (hw _ (by simp)), if_neg (hw _ (by simp)), decide_eq_false (hw _ (by simp))]; rfl
    | m + 1, [a, b] =>
      refine bad3 (hw _ (by simp)) (fun q => ?_) _
      rcases List.mem_cons.mp q with q | q
      · exact hw "both" (by simp) q
      · exact hw "any" (by simp) (List.mem_singleton.mp q)
    | m + 1, a :: b :: z :: r => exact bad_len (by simp) (by simp) _
  | _ => exact isW_other (fun w a q => by cases q) (fun w a b q => by cases q)
theorem at9 {v : Int} (h0 : 0 ≤ v) (h1 : v < 9) : ∃ e : PyData, atI ([.str "", .str "In", .str "not", .str "or", .str "least ", .str "inn", .list [.str "in"], .dict [], .tuple [.str "in"]] : List PyData) v = some e ∧ okS e = true ∧ ∀ s ∈ (["in", "least", "no", "round", "both", "any"] : List Str), e ≠ .str s := by
  have : v = 0 ∨ v = 1 ∨ v = 2 ∨ v = 3 ∨ v = 4 ∨ v = 5 ∨ v = 6 ∨ v = 7 ∨ v = 8 := by omega
  have ns : ∀ t ∈ (["", "In", "not", "or", "least ", "inn"] : List Str), ∀ s ∈ (["in", "least", "no", "round", "both", "any"] : List Str), t ≠ s := by decide +kernel
  rcases this with rfl | rfl | rfl | rfl | rfl | rfl | rfl | rfl | rfl
  all_goals refine ⟨_, rfl, by decide +kernel, fun s hs q => ?_⟩
  all_goals first
    | (injection q with q; exact ns _ (by simp) s hs q)
    | cases q
theorem at6 {v : Int} (h0 : 0 ≤ v) (h1 : v < 6) : ∃ e : Str, atI ([.str "", .str "A", .str "a1", .str "abcdefghi", .str "a b", .str "_"] : List PyData) v = some (.str e) ∧ okS (.str e) = true ∧ isNmS e = false := by
  have : v = 0 ∨ v = 1 ∨ v = 2 ∨ v = 3 ∨ v = 4 ∨ v = 5 := by omega
  rcases this with rfl | rfl | rfl | rfl | rfl | rfl
  all_goals exact ⟨_, rfl, by decide +kernel, by decide +kernel⟩
abbrev s__law_spoilt : Stmt := top 27
theorem sc__law_spoilt : FnScope ["_law_hand_here", "_law_wish_here", "_law_at", "_law_way"] ["_law_hand_here", "_law_wish_here"] (defScope s__law_spoilt) := ⟨rfl, rfl, rfl, by decide +kernel, rfl, by decide +kernel, by decide +kernel⟩
theorem okZ__law_spoilt (T : Txt K mg AA) (d__law_draw : Def P w K mg base "_law_draw" ["_law_hand_here", "_law_many"] CX0 3 (spD K (p_draw K))) (R : Raw K mg "_law_spoilt" s__law_spoilt) : Def P w K mg base "_law_spoilt" ["_law_hand_here", "_law_wish_here"] CX0 (3) (spD K (p__law_spoilt 0 K)) := R.def fun f fd F => by
  refine ⟨F.binds (ps := ["_law_hand_here", "_law_wish_here"]) fun _ _ _ _ _ _ us hl => match us, hl with | [_, _], _ => rfl, F.ok sc__law_spoilt (spD_len len__law_spoilt) (fun cdv A outer s H vs Q E hr h => ?_)⟩
  obtain ⟨c, xs, k, x, _, _, _, p, _⟩ := h
  exact absurd p zero__law_spoilt
theorem okS__law_spoilt (n : Nat) (T : Txt K mg AA) (d__law_draw : Def P w K mg base "_law_draw" ["_law_hand_here", "_law_many"] CX0 3 (spD K (p_draw K))) (d__law_spoilt : Def P w K mg base "_law_spoilt" ["_law_hand_here", "_law_wish_here"] CX0 (3 + n) (spD K (p__law_spoilt n K))) (R : Raw K mg "_law_spoilt" s__law_spoilt) : Def P w K mg base "_law_spoilt" ["_law_hand_here", "_law_wish_here"] CX0 (3 + n + 1) (spD K (p__law_spoilt (n + 1) K)) := R.def fun f fd F => by
  refine ⟨F.binds (ps := ["_law_hand_here", "_law_wish_here"]) fun _ _ _ _ _ _ us hl => match us, hl with | [_, _], _ => rfl, F.ok sc__law_spoilt (spD_len len__law_spoilt) (fun cdv A outer s H vs Q E hr h => ?_)⟩
  refine ⟨_, (pss_cons (ps_if (PW.pt (pw_and (pt_cmpR (op_inq K) (pe_ix (ix_s K) (pv 1) pe_int (fun _ _ => rfl)) (pe_tup (pa_cons pe_str (pa_cons pe_str (pa_cons pe_str pa_nil)))) (by with_unfolding_all rfl)) (pw_and1 (pt_cmpR op_gtU (pe_D0 d__law_draw (by omega) hr pass0 (pa_cons (pv 0) (pa_cons pe_int pa_nil))) pe_int (nomark _))))) (pss_cons (ps_set (i := 2) sc__law_spoilt.nd rfl (Or.inl rfl) (pe_op (op_adds K) pe_int (pe_D0 d__law_draw (by omega) hr pass0 (pa_cons (pv 0) (pa_cons (pe_op op_sub (pe_callB (call_lens K) (by rfl) T.b_len (by decide +kernel) (pa_cons (pv 1) pa_nil)) pe_int) pa_nil)))))
      (pss_one (ps_ret (pe_op (op_adds K) (pe_op (op_adds K) (pe_slice (sl_tups K) (pv 1) po_none (po_some (pv 2))) (pe_tup (pa_cons (pe_D0 d__law_spoilt (by omega) hr pass0 (pa_cons (pv 0) (pa_cons (pe_ix (ix_s K) (pv 1) (pv 2) (fun _ _ => rfl)) pa_nil))) pa_nil))) (pe_slice (sl_tups K) (pv 1) (po_some (pe_op (op_adds K) (pv 2) pe_int)) po_none))))) pss_nil)
      (pss_cons (ps_set (i := 3) sc__law_spoilt.nd rfl (Or.inl rfl) (pe_D0 d__law_draw (by omega) hr pass0 (pa_cons (pv 0) (pa_cons pe_int pa_nil))))
      (pss_cons (ps_if (pt_cmpR (op_eqs K hr.units) (pv 3) pe_int (nomark _)) (pss_one (ps_ret (pe_op (op_adds K) (pv 1) (pe_tup (pa_cons (pe_ix (ix_s K) (pv 1) pe_int (fun _ _ => rfl)) pa_nil))))) pss_nil)
      (pss_cons (ps_if (pt_cmpR (op_eqs K hr.units) (pv 3) pe_int (nomark _)) (pss_one (ps_ret (pe_slice (sl_tups K) (pv 1) po_none (po_some pe_int)))) pss_nil)
      (pss_cons (ps_if (pt_cmpR (op_eqs K hr.units) (pv 3) pe_int (nomark _)) (pss_one (ps_ret (pe_callTy (call_lists K) (by rfl) T.b_list (by decide +kernel) (pa_cons (pv 1) pa_nil)))) pss_nil)
      (pss_cons (ps_if (pt_cmpR (op_eqs K hr.units) (pv 3) pe_int (nomark _)) (pss_one (ps_ret (pe_op (op_adds K) (pe_tup (pa_cons (pe_ix (ix_s K) (pe_lst (pa_cons pe_str (pa_cons pe_str (pa_cons pe_str (pa_cons pe_str (pa_cons pe_str (pa_cons pe_str (pa_cons (pe_lst (pa_cons pe_str pa_nil)) (pa_cons pe_dnewK (pa_cons (pe_tup (pa_cons pe_str pa_nil)) pa_nil)))))))))) (pe_D0 d__law_draw (by omega) hr pass0 (pa_cons (pv 0) (pa_cons pe_int pa_nil))) (fun _ _ => rfl)) pa_nil)) (pe_slice (sl_tups K) (pv 1) (po_some pe_int) po_none)))) pss_nil)
      (pss_cons (ps_if (pt_cmpR (op_eqs K hr.units) (pv 3) pe_int (nomark _)) (pss_one (ps_ret pe_non)) pss_nil)
      (pss_cons (ps_if (pt_cmpR (op_eqs K hr.units) (pv 3) pe_int (nomark _)) (pss_one (ps_ret (pe_op (op_adds K) (pe_tup (pa_cons (pe_ix (ix_s K) (pv 1) pe_int (fun _ _ => rfl)) (pa_cons pe_bl pa_nil))) (pe_slice (sl_tups K) (pv 1) (po_some pe_int) po_none)))) pss_nil)
      (pss_cons (ps_if (pt_cmpR (op_eqs K hr.units) (pv 3) pe_int (nomark _)) (pss_one (ps_ret (pe_op (op_adds K) (pe_slice (sl_tups K) (pv 1) po_none (po_some (pe_un un_neg pe_int))) (pe_tup (pa_cons (pe_ix (ix_s K) (pe_lst (pa_cons pe_str (pa_cons pe_str (pa_cons pe_str (pa_cons pe_str (pa_cons pe_str (pa_cons pe_str pa_nil))))))) (pe_D0 d__law_draw (by omega) hr pass0 (pa_cons (pv 0) (pa_cons pe_int pa_nil))) (fun _ _ => rfl)) pa_nil))))) pss_nil)
      (pss_one (ps_ret (pe_ix (ix_s K) (pv 1) pe_int (fun _ _ => rfl))))))))))))), ?_⟩
  refine run_spD h (fun c xs k x p => ?_)
  obtain ⟨p, w, rfl, hn, HI, wo, hk⟩ := p
  refine ⟨Nat.le_of_ble_eq_true rfl, fun hx => ?_⟩
  cases w with
  | inn a =>
    show Ws c _ [.val (.r (.ref p)), .val (.d (.tuple [.str "in", .str a])), .un, .un] _
    have okx : ∀ d ∈ ([.str "in", .str a] : List PyData), okS d = true := okS_tup (okS_wD wo)
    have ok : ∀ d : PyData, (∃ ds, d = .tuple ds ∧ ∀ e ∈ ds, e ∈ ([.str "in", .str a] : List PyData) ∨ okS e = true) → okS d = true := by
      rintro _ ⟨ds, rfl, h⟩
      exact (okS_ds fun e he => (h e he).elim (okx e) id).1
    refine ws_cut (fun ρ' => ρ' = [.val (.r (.ref p)), .val (.d (.tuple [.str "in", .str a])), .un, .un]) ?_ ?_
    · refine ws_if (wt_split false ?_ (fun h => by cases h) (fun _ => ws_next rfl))
      walk_at "py"
      refine rv_inST (ns := ["no", "both", "any"]) ?_
      walk_at "py"
      all_goals first | rfl | (rename_i h; exact absurd h (by decide +kernel))
    rintro _ rfl
    refine ws_cut (fun ρ' => ∃ y : Int, (0 ≤ y ∧ y < 8) ∧ ρ' = [.val (.r (.ref p)), .val (.d (.tuple [.str "in", .str a])), .un, .val (.d (.int y))]) ?_ ?_
    · walk_at "py"
      rename_i y y0 y1
      exact ⟨y, ⟨y0, y1⟩, rfl⟩
    rintro _ ⟨y, ⟨y0, y1⟩, rfl⟩
    have hy : y = 0 ∨ y = 1 ∨ y = 2 ∨ y = 3 ∨ y = 4 ∨ y = 5 ∨ y = 6 ∨ y = 7 := by omega
    rcases hy with rfl | rfl | rfl | rfl | rfl | rfl | rfl | rfl
    · walk_at "py"
      refine rv_addT (by intro z; cases z) (Nat.le_of_ble_eq_true rfl) ?_
      refine hk (.tuple [.str "in", .str a, .str a]) (ok _ ⟨_, rfl, fun e he => ?_⟩) (bad3 (by decide +kernel) (by decide +kernel))
      have he : e = .str "in" ∨ e = .str a ∨ e = .str a := by simpa using he
      rcases he with rfl | rfl | rfl
      all_goals first | exact .inr rfl | (refine .inl ?_; simp; done)
    · refine ws_seq (ws_if (wt_split false ?_ (fun h => by cases h) (fun _ => ws_next ?_)))
      · walk_at "py"
        first | rfl | decide +kernel
      refine ws_seq (ws_if (wt_split true ?_ (fun _ => ?_) (fun h => by cases h)))
      · walk_at "py"
        first | rfl | decide +kernel
      refine ws_ret (we_slT (we_var rfl (wo_none (wo_some (we_int ⟨1, rfl, _, rfl, (by show ¬ (HT.sIx 2 0 (none) = 0 ∧ HT.sIx 2 2 (some 1) = 2); decide), ?_⟩)))))
      refine hk (.tuple [.str "in"]) (ok _ ⟨_, rfl, fun e he => ?_⟩) (bad_len (by simp) (by simp))
      have he : e = .str "in" := by simpa using he
      rcases he with rfl
      all_goals first | exact .inr rfl | (refine .inl ?_; simp; done)
    · refine ws_seq (ws_if (wt_split false ?_ (fun h => by cases h) (fun _ => ws_next ?_)))
      · walk_at "py"
        first | rfl | decide +kernel
      refine ws_seq (ws_if (wt_split false ?_ (fun h => by cases h) (fun _ => ws_next ?_)))
      · walk_at "py"
        first | rfl | decide +kernel
      refine ws_seq (ws_if (wt_split true ?_ (fun _ => ?_) (fun h => by cases h)))
      · walk_at "py"
        first | rfl | decide +kernel
      refine ws_ret (we_fresh (wf_listOfT (we_var rfl ⟨_, rfl, ?_⟩)))
      exact hk _ (okS_ds okx).2 fun m => by cases m <;> rfl
    · refine ws_seq (ws_if (wt_split false ?_ (fun h => by cases h) (fun _ => ws_next ?_)))
      · walk_at "py"
        first | rfl | decide +kernel
      refine ws_seq (ws_if (wt_split false ?_ (fun h => by cases h) (fun _ => ws_next ?_)))
      · walk_at "py"
        first | rfl | decide +kernel
      refine ws_seq (ws_if (wt_split false ?_ (fun h => by cases h) (fun _ => ws_next ?_)))
      · walk_at "py"
        first | rfl | decide +kernel
      refine ws_seq (ws_if (wt_split true ?_ (fun _ => ?_) (fun h => by cases h)))
      · walk_at "py"
        first | rfl | decide +kernel
      walk_at "py"
      refine we_dicN ?_
      walk_at "py"
      rename_i z z0 z1
      obtain ⟨e0, ez, oe, be⟩ := at9 z0 z1
      refine rv_ixL ez ?_
      walk_at "py"
      refine we_slT (we_var rfl (wo_some (we_int ⟨1, rfl, wo_none ⟨_, rfl, (by show ¬ (HT.sIx 2 0 (some 1) = 0 ∧ HT.sIx 2 2 (none) = 2); decide), ?_⟩⟩)))
      refine rv_addT (by intro z; cases z) (Nat.le_of_ble_eq_true rfl) ?_
      refine hk (.tuple [e0, .str a]) (ok _ ⟨_, rfl, fun e he => ?_⟩) (bad_word be)
      have he : e = e0 ∨ e = .str a := by simpa using he
      rcases he with rfl | rfl
      all_goals first | exact .inr oe | exact .inr rfl | (refine .inl ?_; simp; done)
    · refine ws_seq (ws_if (wt_split false ?_ (fun h => by cases h) (fun _ => ws_next ?_)))
      · walk_at "py"
        first | rfl | decide +kernel
      refine ws_seq (ws_if (wt_split false ?_ (fun h => by cases h) (fun _ => ws_next ?_)))
      · walk_at "py"
        first | rfl | decide +kernel
      refine ws_seq (ws_if (wt_split false ?_ (fun h => by cases h) (fun _ => ws_next ?_)))
      · walk_at "py"
        first | rfl | decide +kernel
      refine ws_seq (ws_if (wt_split false ?_ (fun h => by cases h) (fun _ => ws_next ?_)))
      · walk_at "py"
        first | rfl | decide +kernel
      refine ws_seq (ws_if (wt_split true ?_ (fun _ => ?_) (fun h => by cases h)))
      · walk_at "py"
        first | rfl | decide +kernel
      walk_at "py"
      exact hk _ rfl fun m => by cases m <;> rfl
    · refine ws_seq (ws_if (wt_split false ?_ (fun h => by cases h) (fun _ => ws_next ?_)))
      · walk_at "py"
        first | rfl | decide +kernel
      refine ws_seq (ws_if (wt_split false ?_ (fun h => by cases h) (fun _ => ws_next ?_)))
      · walk_at "py"
        first | rfl | decide +kernel
      refine ws_seq (ws_if (wt_split false ?_ (fun h => by cases h) (fun _ => ws_next ?_)))
      · walk_at "py"
        first | rfl | decide +kernel
      refine ws_seq (ws_if (wt_split false ?_ (fun h => by cases h) (fun _ => ws_next ?_)))
      · walk_at "py"
        first | rfl | decide +kernel
      refine ws_seq (ws_if (wt_split false ?_ (fun h => by cases h) (fun _ => ws_next ?_)))
      · walk_at "py"
        first | rfl | decide +kernel
      refine ws_seq (ws_if (wt_split true ?_ (fun _ => ?_) (fun h => by cases h)))
      · walk_at "py"
        first | rfl | decide +kernel
      walk_at "py"
      refine we_slT (we_var rfl (wo_some (we_int ⟨2, rfl, wo_none ⟨_, rfl, (by show ¬ (HT.sIx 2 0 (some 2) = 0 ∧ HT.sIx 2 2 (none) = 2); decide), ?_⟩⟩)))
      refine rv_addT (by intro z; cases z) (Nat.le_of_ble_eq_true rfl) ?_
      refine hk (.tuple [.str "in", .bool true]) (ok _ ⟨_, rfl, fun e he => ?_⟩) (bad_in rfl)
      have he : e = .str "in" ∨ e = .bool true := by simpa using he
      rcases he with rfl | rfl
      all_goals first | exact .inr rfl | (refine .inl ?_; simp; done)
    · refine ws_seq (ws_if (wt_split false ?_ (fun h => by cases h) (fun _ => ws_next ?_)))
      · walk_at "py"
        first | rfl | decide +kernel
      refine ws_seq (ws_if (wt_split false ?_ (fun h => by cases h) (fun _ => ws_next ?_)))
      · walk_at "py"
        first | rfl | decide +kernel
      refine ws_seq (ws_if (wt_split false ?_ (fun h => by cases h) (fun _ => ws_next ?_)))
      · walk_at "py"
        first | rfl | decide +kernel
      refine ws_seq (ws_if (wt_split false ?_ (fun h => by cases h) (fun _ => ws_next ?_)))
      · walk_at "py"
        first | rfl | decide +kernel
      refine ws_seq (ws_if (wt_split false ?_ (fun h => by cases h) (fun _ => ws_next ?_)))
      · walk_at "py"
        first | rfl | decide +kernel
      refine ws_seq (ws_if (wt_split false ?_ (fun h => by cases h) (fun _ => ws_next ?_)))
      · walk_at "py"
        first | rfl | decide +kernel
      refine ws_seq (ws_if (wt_split true ?_ (fun _ => ?_) (fun h => by cases h)))
      · walk_at "py"
        first | rfl | decide +kernel
      refine ws_ret (we_op (we_slT (we_var rfl (wo_none (wo_some ?_)))))
      walk_at "py"
      refine ⟨_, rfl, _, rfl, (by show ¬ (HT.sIx 2 0 (none) = 0 ∧ HT.sIx 2 2 (some (-1)) = 2); decide), ?_⟩
      walk_at "py"
      rename_i z z0 z1
      obtain ⟨e0, ez, oe, hbad⟩ := at6 z0 z1
      refine rv_ixL ez ?_
      walk_at "py"
      refine rv_addT (by intro z; cases z) (Nat.le_of_ble_eq_true rfl) ?_
      refine hk (.tuple [.str "in", .str e0]) (ok _ ⟨_, rfl, fun e he => ?_⟩) (bad_in hbad)
      have he : e = .str "in" ∨ e = .str e0 := by simpa using he
      rcases he with rfl | rfl
      all_goals first | exact .inr oe | exact .inr rfl | (refine .inl ?_; simp; done)
    · refine ws_seq (ws_if (wt_split false ?_ (fun h => by cases h) (fun _ => ws_next ?_)))
      · walk_at "py"
        first | rfl | decide +kernel
      refine ws_seq (ws_if (wt_split false ?_ (fun h => by cases h) (fun _ => ws_next ?_)))
      · walk_at "py"
        first | rfl | decide +kernel
      refine ws_seq (ws_if (wt_split false ?_ (fun h => by cases h) (fun _ => ws_next ?_)))
      · walk_at "py"
        first | rfl | decide +kernel
      refine ws_seq (ws_if (wt_split false ?_ (fun h => by cases h) (fun _ => ws_next ?_)))
      · walk_at "py"
        first | rfl | decide +kernel
      refine ws_seq (ws_if (wt_split false ?_ (fun h => by cases h) (fun _ => ws_next ?_)))
      · walk_at "py"
        first | rfl | decide +kernel
      refine ws_seq (ws_if (wt_split false ?_ (fun h => by cases h) (fun _ => ws_next ?_)))
      · walk_at "py"
        first | rfl | decide +kernel
      refine ws_seq (ws_if (wt_split false ?_ (fun h => by cases h) (fun _ => ws_next ?_)))
      · walk_at "py"
        first | rfl | decide +kernel
      walk_at "py"
      exact hk _ (okx _ (by simp)) fun m => by cases m <;> rfl
  | rnd a n0 =>
    show Ws c _ [.val (.r (.ref p)), .val (.d (.tuple [.str "round", .str a, .int n0])), .un, .un] _
    have okx : ∀ d ∈ ([.str "round", .str a, .int n0] : List PyData), okS d = true := okS_tup (okS_wD wo)
    have ok : ∀ d : PyData, (∃ ds, d = .tuple ds ∧ ∀ e ∈ ds, e ∈ ([.str "round", .str a, .int n0] : List PyData) ∨ okS e = true) → okS d = true := by
      rintro _ ⟨ds, rfl, h⟩
      exact (okS_ds fun e he => (h e he).elim (okx e) id).1
    refine ws_cut (fun ρ' => ρ' = [.val (.r (.ref p)), .val (.d (.tuple [.str "round", .str a, .int n0])), .un, .un]) ?_ ?_
    · refine ws_if (wt_split false ?_ (fun h => by cases h) (fun _ => ws_next rfl))
      walk_at "py"
      refine rv_inST (ns := ["no", "both", "any"]) ?_
      walk_at "py"
      all_goals first | rfl | (rename_i h; exact absurd h (by decide +kernel))
    rintro _ rfl
    refine ws_cut (fun ρ' => ∃ y : Int, (0 ≤ y ∧ y < 8) ∧ ρ' = [.val (.r (.ref p)), .val (.d (.tuple [.str "round", .str a, .int n0])), .un, .val (.d (.int y))]) ?_ ?_
    · walk_at "py"
      rename_i y y0 y1
      exact ⟨y, ⟨y0, y1⟩, rfl⟩
    rintro _ ⟨y, ⟨y0, y1⟩, rfl⟩
    have hy : y = 0 ∨ y = 1 ∨ y = 2 ∨ y = 3 ∨ y = 4 ∨ y = 5 ∨ y = 6 ∨ y = 7 := by omega
    rcases hy with rfl | rfl | rfl | rfl | rfl | rfl | rfl | rfl
    · walk_at "py"
      refine rv_addT (by intro z; cases z) (Nat.le_of_ble_eq_true rfl) ?_
      refine hk (.tuple [.str "round", .str a, .int n0, .str a]) (ok _ ⟨_, rfl, fun e he => ?_⟩) (bad_len (by simp) (by simp))
      have he : e = .str "round" ∨ e = .str a ∨ e = .int n0 ∨ e = .str a := by simpa using he
      rcases he with rfl | rfl | rfl | rfl
      all_goals first | exact .inr rfl | (refine .inl ?_; simp; done)
    · refine ws_seq (ws_if (wt_split false ?_ (fun h => by cases h) (fun _ => ws_next ?_)))
      · walk_at "py"
        first | rfl | decide +kernel
      refine ws_seq (ws_if (wt_split true ?_ (fun _ => ?_) (fun h => by cases h)))
      · walk_at "py"
        first | rfl | decide +kernel
      refine ws_ret (we_slT (we_var rfl (wo_none (wo_some (we_int ⟨1, rfl, _, rfl, (by show ¬ (HT.sIx 3 0 (none) = 0 ∧ HT.sIx 3 3 (some 1) = 3); decide), ?_⟩)))))
      refine hk (.tuple [.str "round"]) (ok _ ⟨_, rfl, fun e he => ?_⟩) (bad_len (by simp) (by simp))
      have he : e = .str "round" := by simpa using he
      rcases he with rfl
      all_goals first | exact .inr rfl | (refine .inl ?_; simp; done)
    · refine ws_seq (ws_if (wt_split false ?_ (fun h => by cases h) (fun _ => ws_next ?_)))
      · walk_at "py"
        first | rfl | decide +kernel
      refine ws_seq (ws_if (wt_split false ?_ (fun h => by cases h) (fun _ => ws_next ?_)))
      · walk_at "py"
        first | rfl | decide +kernel
      refine ws_seq (ws_if (wt_split true ?_ (fun _ => ?_) (fun h => by cases h)))
      · walk_at "py"
        first | rfl | decide +kernel
      refine ws_ret (we_fresh (wf_listOfT (we_var rfl ⟨_, rfl, ?_⟩)))
      exact hk _ (okS_ds okx).2 fun m => by cases m <;> rfl
    · refine ws_seq (ws_if (wt_split false ?_ (fun h => by cases h) (fun _ => ws_next ?_)))
      · walk_at "py"
        first | rfl | decide +kernel
      refine ws_seq (ws_if (wt_split false ?_ (fun h => by cases h) (fun _ => ws_next ?_)))
      · walk_at "py"
        first | rfl | decide +kernel
      refine ws_seq (ws_if (wt_split false ?_ (fun h => by cases h) (fun _ => ws_next ?_)))
      · walk_at "py"
        first | rfl | decide +kernel
      refine ws_seq (ws_if (wt_split true ?_ (fun _ => ?_) (fun h => by cases h)))
      · walk_at "py"
        first | rfl | decide +kernel
      walk_at "py"
      refine we_dicN ?_
      walk_at "py"
      rename_i z z0 z1
      obtain ⟨e0, ez, oe, be⟩ := at9 z0 z1
      refine rv_ixL ez ?_
      walk_at "py"
      refine we_slT (we_var rfl (wo_some (we_int ⟨1, rfl, wo_none ⟨_, rfl, (by show ¬ (HT.sIx 3 0 (some 1) = 0 ∧ HT.sIx 3 3 (none) = 3); decide), ?_⟩⟩)))
      refine rv_addT (by intro z; cases z) (Nat.le_of_ble_eq_true rfl) ?_
      refine hk (.tuple [e0, .str a, .int n0]) (ok _ ⟨_, rfl, fun e he => ?_⟩) (bad_word be)
      have he : e = e0 ∨ e = .str a ∨ e = .int n0 := by simpa using he
      rcases he with rfl | rfl | rfl
      all_goals first | exact .inr oe | exact .inr rfl | (refine .inl ?_; simp; done)
    · refine ws_seq (ws_if (wt_split false ?_ (fun h => by cases h) (fun _ => ws_next ?_)))
      · walk_at "py"
        first | rfl | decide +kernel
      refine ws_seq (ws_if (wt_split false ?_ (fun h => by cases h) (fun _ => ws_next ?_)))
      · walk_at "py"
        first | rfl | decide +kernel
      refine ws_seq (ws_if (wt_split false ?_ (fun h => by cases h) (fun _ => ws_next ?_)))
      · walk_at "py"
        first | rfl | decide +kernel
      refine ws_seq (ws_if (wt_split false ?_ (fun h => by cases h) (fun _ => ws_next ?_)))
      · walk_at "py"
        first | rfl | decide +kernel
      refine ws_seq (ws_if (wt_split true ?_ (fun _ => ?_) (fun h => by cases h)))
      · walk_at "py"
        first | rfl | decide +kernel
      walk_at "py"
      exact hk _ rfl fun m => by cases m <;> rfl
    · refine ws_seq (ws_if (wt_split false ?_ (fun h => by cases h) (fun _ => ws_next ?_)))
      · walk_at "py"
        first | rfl | decide +kernel
      refine ws_seq (ws_if (wt_split false ?_ (fun h => by cases h) (fun _ => ws_next ?_)))
      · walk_at "py"
        first | rfl | decide +kernel
      refine ws_seq (ws_if (wt_split false ?_ (fun h => by cases h) (fun _ => ws_next ?_)))
      · walk_at "py"
        first | rfl | decide +kernel
      refine ws_seq (ws_if (wt_split false ?_ (fun h => by cases h) (fun _ => ws_next ?_)))
      · walk_at "py"
        first | rfl | decide +kernel
      refine ws_seq (ws_if (wt_split false ?_ (fun h => by cases h) (fun _ => ws_next ?_)))
      · walk_at "py"
        first | rfl | decide +kernel
      refine ws_seq (ws_if (wt_split true ?_ (fun _ => ?_) (fun h => by cases h)))
      · walk_at "py"
        first | rfl | decide +kernel
      walk_at "py"
      refine we_slT (we_var rfl (wo_some (we_int ⟨2, rfl, wo_none ⟨_, rfl, (by show ¬ (HT.sIx 3 0 (some 2) = 0 ∧ HT.sIx 3 3 (none) = 3); decide), ?_⟩⟩)))
      refine rv_addT (by intro z; cases z) (Nat.le_of_ble_eq_true rfl) ?_
      refine hk (.tuple [.str "round", .bool true, .int n0]) (ok _ ⟨_, rfl, fun e he => ?_⟩) (bad_rnd1 rfl)
      have he : e = .str "round" ∨ e = .bool true ∨ e = .int n0 := by simpa using he
      rcases he with rfl | rfl | rfl
      all_goals first | exact .inr rfl | (refine .inl ?_; simp; done)
    · refine ws_seq (ws_if (wt_split false ?_ (fun h => by cases h) (fun _ => ws_next ?_)))
      · walk_at "py"
        first | rfl | decide +kernel
      refine ws_seq (ws_if (wt_split false ?_ (fun h => by cases h) (fun _ => ws_next ?_)))
      · walk_at "py"
        first | rfl | decide +kernel
      refine ws_seq (ws_if (wt_split false ?_ (fun h => by cases h) (fun _ => ws_next ?_)))
      · walk_at "py"
        first | rfl | decide +kernel
      refine ws_seq (ws_if (wt_split false ?_ (fun h => by cases h) (fun _ => ws_next ?_)))
      · walk_at "py"
        first | rfl | decide +kernel
      refine ws_seq (ws_if (wt_split false ?_ (fun h => by cases h) (fun _ => ws_next ?_)))
      · walk_at "py"
        first | rfl | decide +kernel
      refine ws_seq (ws_if (wt_split false ?_ (fun h => by cases h) (fun _ => ws_next ?_)))
      · walk_at "py"
        first | rfl | decide +kernel
      refine ws_seq (ws_if (wt_split true ?_ (fun _ => ?_) (fun h => by cases h)))
      · walk_at "py"
        first | rfl | decide +kernel
      refine ws_ret (we_op (we_slT (we_var rfl (wo_none (wo_some ?_)))))
      walk_at "py"
      refine ⟨_, rfl, _, rfl, (by show ¬ (HT.sIx 3 0 (none) = 0 ∧ HT.sIx 3 3 (some (-1)) = 3); decide), ?_⟩
      walk_at "py"
      rename_i z z0 z1
      obtain ⟨e0, ez, oe, hbad⟩ := at6 z0 z1
      refine rv_ixL ez ?_
      walk_at "py"
      refine rv_addT (by intro z; cases z) (Nat.le_of_ble_eq_true rfl) ?_
      refine hk (.tuple [.str "round", .str a, .str e0]) (ok _ ⟨_, rfl, fun e he => ?_⟩) (bad_rnd2 rfl)
      have he : e = .str "round" ∨ e = .str a ∨ e = .str e0 := by simpa using he
      rcases he with rfl | rfl | rfl
      all_goals first | exact .inr oe | exact .inr rfl | (refine .inl ?_; simp; done)
    · refine ws_seq (ws_if (wt_split false ?_ (fun h => by cases h) (fun _ => ws_next ?_)))
      · walk_at "py"
        first | rfl | decide +kernel
      refine ws_seq (ws_if (wt_split false ?_ (fun h => by cases h) (fun _ => ws_next ?_)))
      · walk_at "py"
        first | rfl | decide +kernel
      refine ws_seq (ws_if (wt_split false ?_ (fun h => by cases h) (fun _ => ws_next ?_)))
      · walk_at "py"
        first | rfl | decide +kernel
      refine ws_seq (ws_if (wt_split false ?_ (fun h => by cases h) (fun _ => ws_next ?_)))
      · walk_at "py"
        first | rfl | decide +kernel
      refine ws_seq (ws_if (wt_split false ?_ (fun h => by cases h) (fun _ => ws_next ?_)))
      · walk_at "py"
        first | rfl | decide +kernel
      refine ws_seq (ws_if (wt_split false ?_ (fun h => by cases h) (fun _ => ws_next ?_)))
      · walk_at "py"
        first | rfl | decide +kernel
      refine ws_seq (ws_if (wt_split false ?_ (fun h => by cases h) (fun _ => ws_next ?_)))
      · walk_at "py"
        first | rfl | decide +kernel
      walk_at "py"
      exact hk _ (okx _ (by simp)) fun m => by cases m <;> rfl
  | lst n0 =>
    show Ws c _ [.val (.r (.ref p)), .val (.d (.tuple [.str "least", .int n0])), .un, .un] _
    have okx : ∀ d ∈ ([.str "least", .int n0] : List PyData), okS d = true := okS_tup (okS_wD wo)
    have ok : ∀ d : PyData, (∃ ds, d = .tuple ds ∧ ∀ e ∈ ds, e ∈ ([.str "least", .int n0] : List PyData) ∨ okS e = true) → okS d = true := by
      rintro _ ⟨ds, rfl, h⟩
      exact (okS_ds fun e he => (h e he).elim (okx e) id).1
    refine ws_cut (fun ρ' => ρ' = [.val (.r (.ref p)), .val (.d (.tuple [.str "least", .int n0])), .un, .un]) ?_ ?_
    · refine ws_if (wt_split false ?_ (fun h => by cases h) (fun _ => ws_next rfl))
      walk_at "py"
      refine rv_inST (ns := ["no", "both", "any"]) ?_
      walk_at "py"
      all_goals first | rfl | (rename_i h; exact absurd h (by decide +kernel))
    rintro _ rfl
    refine ws_cut (fun ρ' => ∃ y : Int, (0 ≤ y ∧ y < 8) ∧ ρ' = [.val (.r (.ref p)), .val (.d (.tuple [.str "least", .int n0])), .un, .val (.d (.int y))]) ?_ ?_
    · walk_at "py"
      rename_i y y0 y1
      exact ⟨y, ⟨y0, y1⟩, rfl⟩
    rintro _ ⟨y, ⟨y0, y1⟩, rfl⟩
    have hy : y = 0 ∨ y = 1 ∨ y = 2 ∨ y = 3 ∨ y = 4 ∨ y = 5 ∨ y = 6 ∨ y = 7 := by omega
    rcases hy with rfl | rfl | rfl | rfl | rfl | rfl | rfl | rfl
    · walk_at "py"
      refine rv_addT (by intro z; cases z) (Nat.le_of_ble_eq_true rfl) ?_
      refine hk (.tuple [.str "least", .int n0, .int n0]) (ok _ ⟨_, rfl, fun e he => ?_⟩) (bad3 (by decide +kernel) (by decide +kernel))
      have he : e = .str "least" ∨ e = .int n0 ∨ e = .int n0 := by simpa using he
      rcases he with rfl | rfl | rfl
      all_goals first | exact .inr rfl | (refine .inl ?_; simp; done)
    · refine ws_seq (ws_if (wt_split false ?_ (fun h => by cases h) (fun _ => ws_next ?_)))
      · walk_at "py"
        first | rfl | decide +kernel
      refine ws_seq (ws_if (wt_split true ?_ (fun _ => ?_) (fun h => by cases h)))
      · walk_at "py"
        first | rfl | decide +kernel
      refine ws_ret (we_slT (we_var rfl (wo_none (wo_some (we_int ⟨1, rfl, _, rfl, (by show ¬ (HT.sIx 2 0 (none) = 0 ∧ HT.sIx 2 2 (some 1) = 2); decide), ?_⟩)))))
      refine hk (.tuple [.str "least"]) (ok _ ⟨_, rfl, fun e he => ?_⟩) (bad_len (by simp) (by simp))
      have he : e = .str "least" := by simpa using he
      rcases he with rfl
      all_goals first | exact .inr rfl | (refine .inl ?_; simp; done)
    · refine ws_seq (ws_if (wt_split false ?_ (fun h => by cases h) (fun _ => ws_next ?_)))
      · walk_at "py"
        first | rfl | decide +kernel
      refine ws_seq (ws_if (wt_split false ?_ (fun h => by cases h) (fun _ => ws_next ?_)))
      · walk_at "py"
        first | rfl | decide +kernel
      refine ws_seq (ws_if (wt_split true ?_ (fun _ => ?_) (fun h => by cases h)))
      · walk_at "py"
        first | rfl | decide +kernel
      refine ws_ret (we_fresh (wf_listOfT (we_var rfl ⟨_, rfl, ?_⟩)))
      exact hk _ (okS_ds okx).2 fun m => by cases m <;> rfl
    · refine ws_seq (ws_if (wt_split false ?_ (fun h => by cases h) (fun _ => ws_next ?_)))
      · walk_at "py"
        first | rfl | decide +kernel
      refine ws_seq (ws_if (wt_split false ?_ (fun h => by cases h) (fun _ => ws_next ?_)))
      · walk_at "py"
        first | rfl | decide +kernel
      refine ws_seq (ws_if (wt_split false ?_ (fun h => by cases h) (fun _ => ws_next ?_)))
      · walk_at "py"
        first | rfl | decide +kernel
      refine ws_seq (ws_if (wt_split true ?_ (fun _ => ?_) (fun h => by cases h)))
      · walk_at "py"
        first | rfl | decide +kernel
      walk_at "py"
      refine we_dicN ?_
      walk_at "py"
      rename_i z z0 z1
      obtain ⟨e0, ez, oe, be⟩ := at9 z0 z1
      refine rv_ixL ez ?_
      walk_at "py"
      refine we_slT (we_var rfl (wo_some (we_int ⟨1, rfl, wo_none ⟨_, rfl, (by show ¬ (HT.sIx 2 0 (some 1) = 0 ∧ HT.sIx 2 2 (none) = 2); decide), ?_⟩⟩)))
      refine rv_addT (by intro z; cases z) (Nat.le_of_ble_eq_true rfl) ?_
      refine hk (.tuple [e0, .int n0]) (ok _ ⟨_, rfl, fun e he => ?_⟩) (bad_word be)
      have he : e = e0 ∨ e = .int n0 := by simpa using he
      rcases he with rfl | rfl
      all_goals first | exact .inr oe | exact .inr rfl | (refine .inl ?_; simp; done)
    · refine ws_seq (ws_if (wt_split false ?_ (fun h => by cases h) (fun _ => ws_next ?_)))
      · walk_at "py"
        first | rfl | decide +kernel
      refine ws_seq (ws_if (wt_split false ?_ (fun h => by cases h) (fun _ => ws_next ?_)))
      · walk_at "py"
        first | rfl | decide +kernel
      refine ws_seq (ws_if (wt_split false ?_ (fun h => by cases h) (fun _ => ws_next ?_)))
      · walk_at "py"
        first | rfl | decide +kernel
      refine ws_seq (ws_if (wt_split false ?_ (fun h => by cases h) (fun _ => ws_next ?_)))
      · walk_at "py"
        first | rfl | decide +kernel
      refine ws_seq (ws_if (wt_split true ?_ (fun _ => ?_) (fun h => by cases h)))
      · walk_at "py"
        first | rfl | decide +kernel
      walk_at "py"
      exact hk _ rfl fun m => by cases m <;> rfl
    · refine ws_seq (ws_if (wt_split false ?_ (fun h => by cases h) (fun _ => ws_next ?_)))
      · walk_at "py"
        first | rfl | decide +kernel
      refine ws_seq (ws_if (wt_split false ?_ (fun h => by cases h) (fun _ => ws_next ?_)))
      · walk_at "py"
        first | rfl | decide +kernel
      refine ws_seq (ws_if (wt_split false ?_ (fun h => by cases h) (fun _ => ws_next ?_)))
      · walk_at "py"
        first | rfl | decide +kernel
      refine ws_seq (ws_if (wt_split false ?_ (fun h => by cases h) (fun _ => ws_next ?_)))
      · walk_at "py"
        first | rfl | decide +kernel
      refine ws_seq (ws_if (wt_split false ?_ (fun h => by cases h) (fun _ => ws_next ?_)))
      · walk_at "py"
        first | rfl | decide +kernel
      refine ws_seq (ws_if (wt_split true ?_ (fun _ => ?_) (fun h => by cases h)))
      · walk_at "py"
        first | rfl | decide +kernel
      walk_at "py"
      refine we_slT (we_var rfl (wo_some (we_int ⟨2, rfl, wo_none ⟨_, rfl, (by show ¬ (HT.sIx 2 0 (some 2) = 0 ∧ HT.sIx 2 2 (none) = 2); decide), ?_⟩⟩)))
      refine rv_addT (by intro z; cases z) (Nat.le_of_ble_eq_true rfl) ?_
      refine hk (.tuple [.str "least", .bool true]) (ok _ ⟨_, rfl, fun e he => ?_⟩) (bad_least rfl)
      have he : e = .str "least" ∨ e = .bool true := by simpa using he
      rcases he with rfl | rfl
      all_goals first | exact .inr rfl | (refine .inl ?_; simp; done)
    · refine ws_seq (ws_if (wt_split false ?_ (fun h => by cases h) (fun _ => ws_next ?_)))
      · walk_at "py"
        first | rfl | decide +kernel
      refine ws_seq (ws_if (wt_split false ?_ (fun h => by cases h) (fun _ => ws_next ?_)))
      · walk_at "py"
        first | rfl | decide +kernel
      refine ws_seq (ws_if (wt_split false ?_ (fun h => by cases h) (fun _ => ws_next ?_)))
      · walk_at "py"
        first | rfl | decide +kernel
      refine ws_seq (ws_if (wt_split false ?_ (fun h => by cases h) (fun _ => ws_next ?_)))
      · walk_at "py"
        first | rfl | decide +kernel
      refine ws_seq (ws_if (wt_split false ?_ (fun h => by cases h) (fun _ => ws_next ?_)))
      · walk_at "py"
        first | rfl | decide +kernel
      refine ws_seq (ws_if (wt_split false ?_ (fun h => by cases h) (fun _ => ws_next ?_)))
      · walk_at "py"
        first | rfl | decide +kernel
      refine ws_seq (ws_if (wt_split true ?_ (fun _ => ?_) (fun h => by cases h)))
      · walk_at "py"
        first | rfl | decide +kernel
      refine ws_ret (we_op (we_slT (we_var rfl (wo_none (wo_some ?_)))))
      walk_at "py"
      refine ⟨_, rfl, _, rfl, (by show ¬ (HT.sIx 2 0 (none) = 0 ∧ HT.sIx 2 2 (some (-1)) = 2); decide), ?_⟩
      walk_at "py"
      rename_i z z0 z1
      obtain ⟨e0, ez, oe, hbad⟩ := at6 z0 z1
      refine rv_ixL ez ?_
      walk_at "py"
      refine rv_addT (by intro z; cases z) (Nat.le_of_ble_eq_true rfl) ?_
      refine hk (.tuple [.str "least", .str e0]) (ok _ ⟨_, rfl, fun e he => ?_⟩) (bad_least rfl)
      have he : e = .str "least" ∨ e = .str e0 := by simpa using he
      rcases he with rfl | rfl
      all_goals first | exact .inr oe | exact .inr rfl | (refine .inl ?_; simp; done)
    · refine ws_seq (ws_if (wt_split false ?_ (fun h => by cases h) (fun _ => ws_next ?_)))
      · walk_at "py"
        first | rfl | decide +kernel
      refine ws_seq (ws_if (wt_split false ?_ (fun h => by cases h) (fun _ => ws_next ?_)))
      · walk_at "py"
        first | rfl | decide +kernel
      refine ws_seq (ws_if (wt_split false ?_ (fun h => by cases h) (fun _ => ws_next ?_)))
      · walk_at "py"
        first | rfl | decide +kernel
      refine ws_seq (ws_if (wt_split false ?_ (fun h => by cases h) (fun _ => ws_next ?_)))
      · walk_at "py"
        first | rfl | decide +kernel
      refine ws_seq (ws_if (wt_split false ?_ (fun h => by cases h) (fun _ => ws_next ?_)))
      · walk_at "py"
        first | rfl | decide +kernel
      refine ws_seq (ws_if (wt_split false ?_ (fun h => by cases h) (fun _ => ws_next ?_)))
      · walk_at "py"
        first | rfl | decide +kernel
      refine ws_seq (ws_if (wt_split false ?_ (fun h => by cases h) (fun _ => ws_next ?_)))
      · walk_at "py"
        first | rfl | decide +kernel
      walk_at "py"
      exact hk _ (okx _ (by simp)) fun m => by cases m <;> rfl
  | no v =>
    show Ws c _ [.val (.r (.ref p)), .val (.d (.tuple [.str "no", wD v])), .un, .un] _
    have okx : ∀ d ∈ ([.str "no", wD v] : List PyData), okS d = true := okS_tup (okS_wD wo)
    have ok : ∀ d : PyData, (∃ ds, d = .tuple ds ∧ ∀ e ∈ ds, e ∈ ([.str "no", wD v] : List PyData) ∨ okS e = true) → okS d = true := by
      rintro _ ⟨ds, rfl, h⟩
      exact (okS_ds fun e he => (h e he).elim (okx e) id).1
    refine ws_cut (fun ρ' => ρ' = [.val (.r (.ref p)), .val (.d (.tuple [.str "no", wD v])), .un, .un]) ?_ ?_
    · refine ws_if (wt_any ?_ ?_ (ws_next rfl))
      · walk_at "py"
        refine rv_inST (ns := ["no", "both", "any"]) ?_
        walk_at "py"
        all_goals trivial
      refine ws_cut (fun ρ' => ∃ q : Int, (1 ≤ q ∧ q ≤ 1) ∧ ρ' = [.val (.r (.ref p)), .val (.d (.tuple [.str "no", wD v])), .val (.d (.int q)), .un]) ?_ ?_
      · walk_at "py"
        · show 0 < ((2 : Nat) : Int) - 1
          decide
        · show ((2 : Nat) : Int) - 1 < 2 ^ 2000
          decide
        rename_i q q0 q1
        have q1 : q < ((2 : Nat) : Int) - 1 := q1
        exact ⟨1 + q, ⟨by omega, by omega⟩, rfl⟩
      rintro _ ⟨q, ⟨q0, q1⟩, rfl⟩
      have wd1 : wdep v < n := by have : wdep v + 1 < n + 1 := hn; omega
      obtain rfl : q = 1 := by omega
      refine ws_ret (we_op (we_op (we_slT (we_var rfl (wo_none (wo_some (we_var rfl ⟨_, rfl, _, rfl, (by show ¬ (HT.sIx 2 0 (none) = 0 ∧ HT.sIx 2 2 (some 1) = 2); decide), ?_⟩)))))))
      walk_at "py"
      refine call__law_spoilt wd1 HI (wo) fun d hod hbd => ?_
      walk_at "py"
      refine rv_addT (by intro z; cases z) (Nat.le_of_ble_eq_true rfl) ?_
      refine we_slT (we_var rfl (wo_some ?_))
      walk_at "py"
      refine ⟨_, rfl, wo_none ⟨_, rfl, (by show ¬ (HT.sIx 2 0 (some (1 + 1)) = 0 ∧ HT.sIx 2 2 (none) = 2); decide), ?_⟩⟩
      refine rv_addT (by intro z; cases z) (Nat.le_of_ble_eq_true rfl) ?_
      refine hk (.tuple [.str "no", d]) (ok _ ⟨_, rfl, fun e he => ?_⟩) (bad_no hbd)
      have he : e = .str "no" ∨ e = d := by simpa using he
      rcases he with rfl | rfl
      all_goals first | exact .inr hod | (refine .inl ?_; simp; done)
    rintro _ rfl
    refine ws_cut (fun ρ' => ∃ y : Int, (0 ≤ y ∧ y < 8) ∧ ρ' = [.val (.r (.ref p)), .val (.d (.tuple [.str "no", wD v])), .un, .val (.d (.int y))]) ?_ ?_
    · walk_at "py"
      rename_i y y0 y1
      exact ⟨y, ⟨y0, y1⟩, rfl⟩
    rintro _ ⟨y, ⟨y0, y1⟩, rfl⟩
    have hy : y = 0 ∨ y = 1 ∨ y = 2 ∨ y = 3 ∨ y = 4 ∨ y = 5 ∨ y = 6 ∨ y = 7 := by omega
    rcases hy with rfl | rfl | rfl | rfl | rfl | rfl | rfl | rfl
    · walk_at "py"
      refine rv_addT (by intro z; cases z) (Nat.le_of_ble_eq_true rfl) ?_
      refine hk (.tuple [.str "no", wD v, wD v]) (ok _ ⟨_, rfl, fun e he => ?_⟩) (bad3 (by decide +kernel) (by decide +kernel))
      have he : e = .str "no" ∨ e = wD v ∨ e = wD v := by simpa using he
      rcases he with rfl | rfl | rfl
      all_goals first | exact .inr rfl | (refine .inl ?_; simp; done)
    · refine ws_seq (ws_if (wt_split false ?_ (fun h => by cases h) (fun _ => ws_next ?_)))
      · walk_at "py"
        first | rfl | decide +kernel
      refine ws_seq (ws_if (wt_split true ?_ (fun _ => ?_) (fun h => by cases h)))
      · walk_at "py"
        first | rfl | decide +kernel
      refine ws_ret (we_slT (we_var rfl (wo_none (wo_some (we_int ⟨1, rfl, _, rfl, (by show ¬ (HT.sIx 2 0 (none) = 0 ∧ HT.sIx 2 2 (some 1) = 2); decide), ?_⟩)))))
      refine hk (.tuple [.str "no"]) (ok _ ⟨_, rfl, fun e he => ?_⟩) (bad_len (by simp) (by simp))
      have he : e = .str "no" := by simpa using he
      rcases he with rfl
      all_goals first | exact .inr rfl | (refine .inl ?_; simp; done)
    · refine ws_seq (ws_if (wt_split false ?_ (fun h => by cases h) (fun _ => ws_next ?_)))
      · walk_at "py"
        first | rfl | decide +kernel
      refine ws_seq (ws_if (wt_split false ?_ (fun h => by cases h) (fun _ => ws_next ?_)))
      · walk_at "py"
        first | rfl | decide +kernel
      refine ws_seq (ws_if (wt_split true ?_ (fun _ => ?_) (fun h => by cases h)))
      · walk_at "py"
        first | rfl | decide +kernel
      refine ws_ret (we_fresh (wf_listOfT (we_var rfl ⟨_, rfl, ?_⟩)))
      exact hk _ (okS_ds okx).2 fun m => by cases m <;> rfl
    · refine ws_seq (ws_if (wt_split false ?_ (fun h => by cases h) (fun _ => ws_next ?_)))
      · walk_at "py"
        first | rfl | decide +kernel
      refine ws_seq (ws_if (wt_split false ?_ (fun h => by cases h) (fun _ => ws_next ?_)))
      · walk_at "py"
        first | rfl | decide +kernel
      refine ws_seq (ws_if (wt_split false ?_ (fun h => by cases h) (fun _ => ws_next ?_)))
      · walk_at "py"
        first | rfl | decide +kernel
      refine ws_seq (ws_if (wt_split true ?_ (fun _ => ?_) (fun h => by cases h)))
      · walk_at "py"
        first | rfl | decide +kernel
      walk_at "py"
      refine we_dicN ?_
      walk_at "py"
      rename_i z z0 z1
      obtain ⟨e0, ez, oe, be⟩ := at9 z0 z1
      refine rv_ixL ez ?_
      walk_at "py"
      refine we_slT (we_var rfl (wo_some (we_int ⟨1, rfl, wo_none ⟨_, rfl, (by show ¬ (HT.sIx 2 0 (some 1) = 0 ∧ HT.sIx 2 2 (none) = 2); decide), ?_⟩⟩)))
      refine rv_addT (by intro z; cases z) (Nat.le_of_ble_eq_true rfl) ?_
      refine hk (.tuple [e0, wD v]) (ok _ ⟨_, rfl, fun e he => ?_⟩) (bad_word be)
      have he : e = e0 ∨ e = wD v := by simpa using he
      rcases he with rfl | rfl
      all_goals first | exact .inr oe | exact .inr rfl | (refine .inl ?_; simp; done)
    · refine ws_seq (ws_if (wt_split false ?_ (fun h => by cases h) (fun _ => ws_next ?_)))
      · walk_at "py"
        first | rfl | decide +kernel
      refine ws_seq (ws_if (wt_split false ?_ (fun h => by cases h) (fun _ => ws_next ?_)))
      · walk_at "py"
        first | rfl | decide +kernel
      refine ws_seq (ws_if (wt_split false ?_ (fun h => by cases h) (fun _ => ws_next ?_)))
      · walk_at "py"
        first | rfl | decide +kernel
      refine ws_seq (ws_if (wt_split false ?_ (fun h => by cases h) (fun _ => ws_next ?_)))
      · walk_at "py"
        first | rfl | decide +kernel
      refine ws_seq (ws_if (wt_split true ?_ (fun _ => ?_) (fun h => by cases h)))
      · walk_at "py"
        first | rfl | decide +kernel
      walk_at "py"
      exact hk _ rfl fun m => by cases m <;> rfl
    · refine ws_seq (ws_if (wt_split false ?_ (fun h => by cases h) (fun _ => ws_next ?_)))
      · walk_at "py"
        first | rfl | decide +kernel
      refine ws_seq (ws_if (wt_split false ?_ (fun h => by cases h) (fun _ => ws_next ?_)))
      · walk_at "py"
        first | rfl | decide +kernel
      refine ws_seq (ws_if (wt_split false ?_ (fun h => by cases h) (fun _ => ws_next ?_)))
      · walk_at "py"
        first | rfl | decide +kernel
      refine ws_seq (ws_if (wt_split false ?_ (fun h => by cases h) (fun _ => ws_next ?_)))
      · walk_at "py"
        first | rfl | decide +kernel
      refine ws_seq (ws_if (wt_split false ?_ (fun h => by cases h) (fun _ => ws_next ?_)))
      · walk_at "py"
        first | rfl | decide +kernel
      refine ws_seq (ws_if (wt_split true ?_ (fun _ => ?_) (fun h => by cases h)))
      · walk_at "py"
        first | rfl | decide +kernel
      walk_at "py"
      refine we_slT (we_var rfl (wo_some (we_int ⟨2, rfl, wo_none ⟨_, rfl, (by show ¬ (HT.sIx 2 0 (some 2) = 0 ∧ HT.sIx 2 2 (none) = 2); decide), ?_⟩⟩)))
      refine rv_addT (by intro z; cases z) (Nat.le_of_ble_eq_true rfl) ?_
      refine hk (.tuple [.str "no", .bool true]) (ok _ ⟨_, rfl, fun e he => ?_⟩) (bad_no fun m => by cases m <;> rfl)
      have he : e = .str "no" ∨ e = .bool true := by simpa using he
      rcases he with rfl | rfl
      all_goals first | exact .inr rfl | (refine .inl ?_; simp; done)
    · refine ws_seq (ws_if (wt_split false ?_ (fun h => by cases h) (fun _ => ws_next ?_)))
      · walk_at "py"
        first | rfl | decide +kernel
      refine ws_seq (ws_if (wt_split false ?_ (fun h => by cases h) (fun _ => ws_next ?_)))
      · walk_at "py"
        first | rfl | decide +kernel
      refine ws_seq (ws_if (wt_split false ?_ (fun h => by cases h) (fun _ => ws_next ?_)))
      · walk_at "py"
        first | rfl | decide +kernel
      refine ws_seq (ws_if (wt_split false ?_ (fun h => by cases h) (fun _ => ws_next ?_)))
      · walk_at "py"
        first | rfl | decide +kernel
      refine ws_seq (ws_if (wt_split false ?_ (fun h => by cases h) (fun _ => ws_next ?_)))
      · walk_at "py"
        first | rfl | decide +kernel
      refine ws_seq (ws_if (wt_split false ?_ (fun h => by cases h) (fun _ => ws_next ?_)))
      · walk_at "py"
        first | rfl | decide +kernel
      refine ws_seq (ws_if (wt_split true ?_ (fun _ => ?_) (fun h => by cases h)))
      · walk_at "py"
        first | rfl | decide +kernel
      refine ws_ret (we_op (we_slT (we_var rfl (wo_none (wo_some ?_)))))
      walk_at "py"
      refine ⟨_, rfl, _, rfl, (by show ¬ (HT.sIx 2 0 (none) = 0 ∧ HT.sIx 2 2 (some (-1)) = 2); decide), ?_⟩
      walk_at "py"
      rename_i z z0 z1
      obtain ⟨e0, ez, oe, hbad⟩ := at6 z0 z1
      refine rv_ixL ez ?_
      walk_at "py"
      refine rv_addT (by intro z; cases z) (Nat.le_of_ble_eq_true rfl) ?_
      refine hk (.tuple [.str "no", .str e0]) (ok _ ⟨_, rfl, fun e he => ?_⟩) (bad_no fun m => by cases m <;> rfl)
      have he : e = .str "no" ∨ e = .str e0 := by simpa using he
      rcases he with rfl | rfl
      all_goals first | exact .inr oe | exact .inr rfl | (refine .inl ?_; simp; done)
    · refine ws_seq (ws_if (wt_split false ?_ (fun h => by cases h) (fun _ => ws_next ?_)))
      · walk_at "py"
        first | rfl | decide +kernel
      refine ws_seq (ws_if (wt_split false ?_ (fun h => by cases h) (fun _ => ws_next ?_)))
      · walk_at "py"
        first | rfl | decide +kernel
      refine ws_seq (ws_if (wt_split false ?_ (fun h => by cases h) (fun _ => ws_next ?_)))
      · walk_at "py"
        first | rfl | decide +kernel
      refine ws_seq (ws_if (wt_split false ?_ (fun h => by cases h) (fun _ => ws_next ?_)))
      · walk_at "py"
        first | rfl | decide +kernel
      refine ws_seq (ws_if (wt_split false ?_ (fun h => by cases h) (fun _ => ws_next ?_)))
      · walk_at "py"
        first | rfl | decide +kernel
      refine ws_seq (ws_if (wt_split false ?_ (fun h => by cases h) (fun _ => ws_next ?_)))
      · walk_at "py"
        first | rfl | decide +kernel
      refine ws_seq (ws_if (wt_split false ?_ (fun h => by cases h) (fun _ => ws_next ?_)))
      · walk_at "py"
        first | rfl | decide +kernel
      walk_at "py"
      exact hk _ (okx _ (by simp)) fun m => by cases m <;> rfl
  | two b v u =>
    show Ws c _ [.val (.r (.ref p)), .val (.d (.tuple [.str (bW b), wD v, wD u])), .un, .un] _
    have okx : ∀ d ∈ ([.str (bW b), wD v, wD u] : List PyData), okS d = true := okS_tup (okS_wD wo)
    have ok : ∀ d : PyData, (∃ ds, d = .tuple ds ∧ ∀ e ∈ ds, e ∈ ([.str (bW b), wD v, wD u] : List PyData) ∨ okS e = true) → okS d = true := by
      rintro _ ⟨ds, rfl, h⟩
      exact (okS_ds fun e he => (h e he).elim (okx e) id).1
    refine ws_cut (fun ρ' => ρ' = [.val (.r (.ref p)), .val (.d (.tuple [.str (bW b), wD v, wD u])), .un, .un]) ?_ ?_
    · refine ws_if (wt_any ?_ ?_ (ws_next rfl))
      · walk_at "py"
        refine rv_inST (ns := ["no", "both", "any"]) ?_
        walk_at "py"
        all_goals trivial
      refine ws_cut (fun ρ' => ∃ q : Int, (1 ≤ q ∧ q ≤ 2) ∧ ρ' = [.val (.r (.ref p)), .val (.d (.tuple [.str (bW b), wD v, wD u])), .val (.d (.int q)), .un]) ?_ ?_
      · walk_at "py"
        · show 0 < ((3 : Nat) : Int) - 1
          decide
        · show ((3 : Nat) : Int) - 1 < 2 ^ 2000
          decide
        rename_i q q0 q1
        have q1 : q < ((3 : Nat) : Int) - 1 := q1
        exact ⟨1 + q, ⟨by omega, by omega⟩, rfl⟩
      rintro _ ⟨q, ⟨q0, q1⟩, rfl⟩
      have wd1 : wdep v < n := by have : max (wdep v) (wdep u) + 1 < n + 1 := hn; omega
      have wd2 : wdep u < n := by have : max (wdep v) (wdep u) + 1 < n + 1 := hn; omega
      have hq : q = 1 ∨ q = 2 := by omega
      rcases hq with rfl | rfl
      · refine ws_ret (we_op (we_op (we_slT (we_var rfl (wo_none (wo_some (we_var rfl ⟨_, rfl, _, rfl, (by show ¬ (HT.sIx 3 0 (none) = 0 ∧ HT.sIx 3 3 (some 1) = 3); decide), ?_⟩)))))))
        walk_at "py"
        refine call__law_spoilt wd1 HI (wo.1) fun d hod hbd => ?_
        walk_at "py"
        refine rv_addT (by intro z; cases z) (Nat.le_of_ble_eq_true rfl) ?_
        refine we_slT (we_var rfl (wo_some ?_))
        walk_at "py"
        refine ⟨_, rfl, wo_none ⟨_, rfl, (by show ¬ (HT.sIx 3 0 (some (1 + 1)) = 0 ∧ HT.sIx 3 3 (none) = 3); decide), ?_⟩⟩
        refine rv_addT (by intro z; cases z) (Nat.le_of_ble_eq_true rfl) ?_
        refine hk (.tuple [.str (bW b), d, wD u]) (ok _ ⟨_, rfl, fun e he => ?_⟩) (bad_two1 hbd)
        have he : e = .str (bW b) ∨ e = d ∨ e = wD u := by simpa using he
        rcases he with rfl | rfl | rfl
        all_goals first | exact .inr hod | (refine .inl ?_; simp; done)
      · refine ws_ret (we_op (we_op (we_slT (we_var rfl (wo_none (wo_some (we_var rfl ⟨_, rfl, _, rfl, (by show ¬ (HT.sIx 3 0 (none) = 0 ∧ HT.sIx 3 3 (some 2) = 3); decide), ?_⟩)))))))
        walk_at "py"
        refine call__law_spoilt wd2 HI (wo.2) fun d hod hbd => ?_
        walk_at "py"
        refine rv_addT (by intro z; cases z) (Nat.le_of_ble_eq_true rfl) ?_
        refine we_slT (we_var rfl (wo_some ?_))
        walk_at "py"
        refine ⟨_, rfl, wo_none ⟨_, rfl, (by show ¬ (HT.sIx 3 0 (some (2 + 1)) = 0 ∧ HT.sIx 3 3 (none) = 3); decide), ?_⟩⟩
        refine rv_addT (by intro z; cases z) (Nat.le_of_ble_eq_true rfl) ?_
        refine hk (.tuple [.str (bW b), wD v, d]) (ok _ ⟨_, rfl, fun e he => ?_⟩) (bad_two2 hbd)
        have he : e = .str (bW b) ∨ e = wD v ∨ e = d := by simpa using he
        rcases he with rfl | rfl | rfl
        all_goals first | exact .inr hod | (refine .inl ?_; simp; done)
    rintro _ rfl
    refine ws_cut (fun ρ' => ∃ y : Int, (0 ≤ y ∧ y < 8) ∧ ρ' = [.val (.r (.ref p)), .val (.d (.tuple [.str (bW b), wD v, wD u])), .un, .val (.d (.int y))]) ?_ ?_
    · walk_at "py"
      rename_i y y0 y1
      exact ⟨y, ⟨y0, y1⟩, rfl⟩
    rintro _ ⟨y, ⟨y0, y1⟩, rfl⟩
    have hy : y = 0 ∨ y = 1 ∨ y = 2 ∨ y = 3 ∨ y = 4 ∨ y = 5 ∨ y = 6 ∨ y = 7 := by omega
    rcases hy with rfl | rfl | rfl | rfl | rfl | rfl | rfl | rfl
    · walk_at "py"
      refine rv_addT (by intro z; cases z) (Nat.le_of_ble_eq_true rfl) ?_
      refine hk (.tuple [.str (bW b), wD v, wD u, wD v]) (ok _ ⟨_, rfl, fun e he => ?_⟩) (bad_len (by simp) (by simp))
      have he : e = .str (bW b) ∨ e = wD v ∨ e = wD u ∨ e = wD v := by simpa using he
      rcases he with rfl | rfl | rfl | rfl
      all_goals first | exact .inr rfl | (refine .inl ?_; simp; done)
    · refine ws_seq (ws_if (wt_split false ?_ (fun h => by cases h) (fun _ => ws_next ?_)))
      · walk_at "py"
        first | rfl | decide +kernel
      refine ws_seq (ws_if (wt_split true ?_ (fun _ => ?_) (fun h => by cases h)))
      · walk_at "py"
        first | rfl | decide +kernel
      refine ws_ret (we_slT (we_var rfl (wo_none (wo_some (we_int ⟨1, rfl, _, rfl, (by show ¬ (HT.sIx 3 0 (none) = 0 ∧ HT.sIx 3 3 (some 1) = 3); decide), ?_⟩)))))
      refine hk (.tuple [.str (bW b)]) (ok _ ⟨_, rfl, fun e he => ?_⟩) (bad_len (by simp) (by simp))
      have he : e = .str (bW b) := by simpa using he
      rcases he with rfl
      all_goals first | exact .inr rfl | (refine .inl ?_; simp; done)
    · refine ws_seq (ws_if (wt_split false ?_ (fun h => by cases h) (fun _ => ws_next ?_)))
      · walk_at "py"
        first | rfl | decide +kernel
      refine ws_seq (ws_if (wt_split false ?_ (fun h => by cases h) (fun _ => ws_next ?_)))
      · walk_at "py"
        first | rfl | decide +kernel
      refine ws_seq (ws_if (wt_split true ?_ (fun _ => ?_) (fun h => by cases h)))
      · walk_at "py"
        first | rfl | decide +kernel
      refine ws_ret (we_fresh (wf_listOfT (we_var rfl ⟨_, rfl, ?_⟩)))
      exact hk _ (okS_ds okx).2 fun m => by cases m <;> rfl
    · refine ws_seq (ws_if (wt_split false ?_ (fun h => by cases h) (fun _ => ws_next ?_)))
      · walk_at "py"
        first | rfl | decide +kernel
      refine ws_seq (ws_if (wt_split false ?_ (fun h => by cases h) (fun _ => ws_next ?_)))
      · walk_at "py"
        first | rfl | decide +kernel
      refine ws_seq (ws_if (wt_split false ?_ (fun h => by cases h) (fun _ => ws_next ?_)))
      · walk_at "py"
        first | rfl | decide +kernel
      refine ws_seq (ws_if (wt_split true ?_ (fun _ => ?_) (fun h => by cases h)))
      · walk_at "py"
        first | rfl | decide +kernel
      walk_at "py"
      refine we_dicN ?_
      walk_at "py"
      rename_i z z0 z1
      obtain ⟨e0, ez, oe, be⟩ := at9 z0 z1
      refine rv_ixL ez ?_
      walk_at "py"
      refine we_slT (we_var rfl (wo_some (we_int ⟨1, rfl, wo_none ⟨_, rfl, (by show ¬ (HT.sIx 3 0 (some 1) = 0 ∧ HT.sIx 3 3 (none) = 3); decide), ?_⟩⟩)))
      refine rv_addT (by intro z; cases z) (Nat.le_of_ble_eq_true rfl) ?_
      refine hk (.tuple [e0, wD v, wD u]) (ok _ ⟨_, rfl, fun e he => ?_⟩) (bad_word be)
      have he : e = e0 ∨ e = wD v ∨ e = wD u := by simpa using he
      rcases he with rfl | rfl | rfl
      all_goals first | exact .inr oe | exact .inr rfl | (refine .inl ?_; simp; done)
    · refine ws_seq (ws_if (wt_split false ?_ (fun h => by cases h) (fun _ => ws_next ?_)))
      · walk_at "py"
        first | rfl | decide +kernel
      refine ws_seq (ws_if (wt_split false ?_ (fun h => by cases h) (fun _ => ws_next ?_)))
      · walk_at "py"
        first | rfl | decide +kernel
      refine ws_seq (ws_if (wt_split false ?_ (fun h => by cases h) (fun _ => ws_next ?_)))
      · walk_at "py"
        first | rfl | decide +kernel
      refine ws_seq (ws_if (wt_split false ?_ (fun h => by cases h) (fun _ => ws_next ?_)))
      · walk_at "py"
        first | rfl | decide +kernel
      refine ws_seq (ws_if (wt_split true ?_ (fun _ => ?_) (fun h => by cases h)))
      · walk_at "py"
        first | rfl | decide +kernel
      walk_at "py"
      exact hk _ rfl fun m => by cases m <;> rfl
    · refine ws_seq (ws_if (wt_split false ?_ (fun h => by cases h) (fun _ => ws_next ?_)))
      · walk_at "py"
        first | rfl | decide +kernel
      refine ws_seq (ws_if (wt_split false ?_ (fun h => by cases h) (fun _ => ws_next ?_)))
      · walk_at "py"
        first | rfl | decide +kernel
      refine ws_seq (ws_if (wt_split false ?_ (fun h => by cases h) (fun _ => ws_next ?_)))
      · walk_at "py"
        first | rfl | decide +kernel
      refine ws_seq (ws_if (wt_split false ?_ (fun h => by cases h) (fun _ => ws_next ?_)))
      · walk_at "py"
        first | rfl | decide +kernel
      refine ws_seq (ws_if (wt_split false ?_ (fun h => by cases h) (fun _ => ws_next ?_)))
      · walk_at "py"
        first | rfl | decide +kernel
      refine ws_seq (ws_if (wt_split true ?_ (fun _ => ?_) (fun h => by cases h)))
      · walk_at "py"
        first | rfl | decide +kernel
      walk_at "py"
      refine we_slT (we_var rfl (wo_some (we_int ⟨2, rfl, wo_none ⟨_, rfl, (by show ¬ (HT.sIx 3 0 (some 2) = 0 ∧ HT.sIx 3 3 (none) = 3); decide), ?_⟩⟩)))
      refine rv_addT (by intro z; cases z) (Nat.le_of_ble_eq_true rfl) ?_
      refine hk (.tuple [.str (bW b), .bool true, wD u]) (ok _ ⟨_, rfl, fun e he => ?_⟩) (bad_two1 fun m => by cases m <;> rfl)
      have he : e = .str (bW b) ∨ e = .bool true ∨ e = wD u := by simpa using he
      rcases he with rfl | rfl | rfl
      all_goals first | exact .inr rfl | (refine .inl ?_; simp; done)
    · refine ws_seq (ws_if (wt_split false ?_ (fun h => by cases h) (fun _ => ws_next ?_)))
      · walk_at "py"
        first | rfl | decide +kernel
      refine ws_seq (ws_if (wt_split false ?_ (fun h => by cases h) (fun _ => ws_next ?_)))
      · walk_at "py"
        first | rfl | decide +kernel
      refine ws_seq (ws_if (wt_split false ?_ (fun h => by cases h) (fun _ => ws_next ?_)))
      · walk_at "py"
        first | rfl | decide +kernel
      refine ws_seq (ws_if (wt_split false ?_ (fun h => by cases h) (fun _ => ws_next ?_)))
      · walk_at "py"
        first | rfl | decide +kernel
      refine ws_seq (ws_if (wt_split false ?_ (fun h => by cases h) (fun _ => ws_next ?_)))
      · walk_at "py"
        first | rfl | decide +kernel
      refine ws_seq (ws_if (wt_split false ?_ (fun h => by cases h) (fun _ => ws_next ?_)))
      · walk_at "py"
        first | rfl | decide +kernel
      refine ws_seq (ws_if (wt_split true ?_ (fun _ => ?_) (fun h => by cases h)))
      · walk_at "py"
        first | rfl | decide +kernel
      refine ws_ret (we_op (we_slT (we_var rfl (wo_none (wo_some ?_)))))
      walk_at "py"
      refine ⟨_, rfl, _, rfl, (by show ¬ (HT.sIx 3 0 (none) = 0 ∧ HT.sIx 3 3 (some (-1)) = 3); decide), ?_⟩
      walk_at "py"
      rename_i z z0 z1
      obtain ⟨e0, ez, oe, hbad⟩ := at6 z0 z1
      refine rv_ixL ez ?_
      walk_at "py"
      refine rv_addT (by intro z; cases z) (Nat.le_of_ble_eq_true rfl) ?_
      refine hk (.tuple [.str (bW b), wD v, .str e0]) (ok _ ⟨_, rfl, fun e he => ?_⟩) (bad_two2 fun m => by cases m <;> rfl)
      have he : e = .str (bW b) ∨ e = wD v ∨ e = .str e0 := by simpa using he
      rcases he with rfl | rfl | rfl
      all_goals first | exact .inr oe | exact .inr rfl | (refine .inl ?_; simp; done)
    · refine ws_seq (ws_if (wt_split false ?_ (fun h => by cases h) (fun _ => ws_next ?_)))
      · walk_at "py"
        first | rfl | decide +kernel
      refine ws_seq (ws_if (wt_split false ?_ (fun h => by cases h) (fun _ => ws_next ?_)))
      · walk_at "py"
        first | rfl | decide +kernel
      refine ws_seq (ws_if (wt_split false ?_ (fun h => by cases h) (fun _ => ws_next ?_)))
      · walk_at "py"
        first | rfl | decide +kernel
      refine ws_seq (ws_if (wt_split false ?_ (fun h => by cases h) (fun _ => ws_next ?_)))
      · walk_at "py"
        first | rfl | decide +kernel
      refine ws_seq (ws_if (wt_split false ?_ (fun h => by cases h) (fun _ => ws_next ?_)))
      · walk_at "py"
        first | rfl | decide +kernel
      refine ws_seq (ws_if (wt_split false ?_ (fun h => by cases h) (fun _ => ws_next ?_)))
      · walk_at "py"
        first | rfl | decide +kernel
      refine ws_seq (ws_if (wt_split false ?_ (fun h => by cases h) (fun _ => ws_next ?_)))
      · walk_at "py"
        first | rfl | decide +kernel
      walk_at "py"
      exact hk _ (okx _ (by simp)) fun m => by cases m <;> rfl

theorem okR__law_spoilt (T : Txt K mg AA) (d__law_draw : Def P w K mg base "_law_draw" ["_law_hand_here", "_law_many"] CX0 3 (spD K (p_draw K))) (R : Raw K mg "_law_spoilt" s__law_spoilt) : ∀ n : Nat, Def P w K mg base "_law_spoilt" ["_law_hand_here", "_law_wish_here"] CX0 (3 + n) (spD K (p__law_spoilt n K))
  | 0 => okZ__law_spoilt T d__law_draw R
  | n + 1 => okS__law_spoilt n T d__law_draw (okR__law_spoilt T d__law_draw R n) R
theorem ok__law_spoilt (T : Txt K mg AA) (d__law_draw : Def P w K mg base "_law_draw" ["_law_hand_here", "_law_many"] CX0 3 (spD K (p_draw K))) (R : Raw K mg "_law_spoilt" s__law_spoilt) : Def P w K mg base "_law_spoilt" ["_law_hand_here", "_law_wish_here"] CX0 (11) (spD K (p__law_spoilt 8 K)) := okR__law_spoilt T d__law_draw R 8
def p__law_numbers_in (n : Nat) (K : PySem.W.Frag) : PT0 K := fun c xs k _ => ∃ (w : Wi), xs = [.d (wD w)] ∧ wdep w < n ∧ wdep w ≤ 10 ∧ WiOk w ∧ ∀ ns : List Int, ns.length ≤ 2 ^ wdep w → (∀ z ∈ ns, z.natAbs < 10 ^ 61) → k (.d (.list (ns.map .int)))
theorem len__law_numbers_in {n : Nat} {K : PySem.W.Frag} : ∀ (c : Py.Ctx K) xs k x, p__law_numbers_in n K c xs k x → xs.length = 1 := by
  rintro c xs k x ⟨w, rfl, _⟩
  rfl
theorem zero__law_numbers_in {K : PySem.W.Frag} {c : Py.Ctx K} {xs : List Dv} {k : Dv → Prop} {x : Value → Prop} : ¬ p__law_numbers_in 0 K c xs k x := by
  rintro ⟨w, _, h, _⟩
  exact absurd h (Nat.not_lt_zero _)
theorem call__law_numbers_in {n : Nat} {K : PySem.W.Frag} {c : Py.Ctx K} {k : Dv → Prop} {x : Value → Prop} {w : Wi} (hn : wdep w < n) (h10 : wdep w ≤ 10) (hw : WiOk w) (h : ∀ ns : List Int, ns.length ≤ 2 ^ wdep w → (∀ z ∈ ns, z.natAbs < 10 ^ 61) → k (.d (.list (ns.map .int)))) :
  ∀ c', Le c c' → p__law_numbers_in n K c' [.d (wD w)] k x := fun c' le => ⟨w, rfl, hn, h10, hw, h⟩
theorem ps_cut (w : Wi) : Py.cutD (.str w.hd :: w.ps.map Part.d) (some 1) none = w.ps.map Part.d := by
  unfold Py.cutD
  have e : (some (1 : Int)) = some ((1 : Nat) : Int) := rfl
  rw [e, HT.sIx_nat, HT.sIx_none]
  have : min 1 (PyData.str w.hd :: w.ps.map Part.d).length = 1 := by simp
  rw [this]
  simp
  exact List.take_of_length_le (by simp)
theorem ps_cutn (w : Wi) : ¬ (HT.sIx (PyData.str w.hd :: w.ps.map Part.d).length 0 (some 1) = 0 ∧ HT.sIx (PyData.str w.hd :: w.ps.map Part.d).length (PyData.str w.hd :: w.ps.map Part.d).length none = (PyData.str w.hd :: w.ps.map Part.d).length) := by
  rintro ⟨h, _⟩
  have e : (some (1 : Int)) = some ((1 : Nat) : Int) := rfl
  rw [e, HT.sIx_nat] at h
  simp at h
theorem part_tup (p : Part) : isTup p.d = match p with | .w _ => true | _ => false := by
  cases p with
  | w v => cases v <;> rfl
  | s a => rfl
  | n i => rfl
theorem at_nat0 {α : Type} {x : α} {l : List α} : atI (x :: l) 0 = some x := by
  unfold atI ixN
  rw [if_pos (by decide), if_pos (by rw [List.length_cons]; omega)]; rfl
abbrev s__law_numbers_in : Stmt := top 28
theorem sc__law_numbers_in : FnScope ["_law_wish_here", "_law_numbers", "_law_part"] ["_law_wish_here"] (defScope s__law_numbers_in) := ⟨rfl, rfl, rfl, by decide +kernel, rfl, by decide +kernel, by decide +kernel⟩
theorem okZ__law_numbers_in (T : Txt K mg AA) (R : Raw K mg "_law_numbers_in" s__law_numbers_in) : Def P w K mg base "_law_numbers_in" ["_law_wish_here"] CX0 (1) (spD K (p__law_numbers_in 0 K)) := R.def fun f fd F => by
  refine ⟨F.binds (ps := ["_law_wish_here"]) fun _ _ _ _ _ _ us hl => match us, hl with | [_], _ => rfl, F.ok sc__law_numbers_in (spD_len len__law_numbers_in) (fun cdv A outer s H vs Q E hr h => ?_)⟩
  obtain ⟨c, xs, k, x, _, _, _, p, _⟩ := h
  exact absurd p zero__law_numbers_in
theorem okS__law_numbers_in (n : Nat) (T : Txt K mg AA) (d__law_numbers_in : Def P w K mg base "_law_numbers_in" ["_law_wish_here"] CX0 (1 + n) (spD K (p__law_numbers_in n K))) (R : Raw K mg "_law_numbers_in" s__law_numbers_in) : Def P w K mg base "_law_numbers_in" ["_law_wish_here"] CX0 (1 + n + 1) (spD K (p__law_numbers_in (n + 1) K)) := R.def fun f fd F => by
  refine ⟨F.binds (ps := ["_law_wish_here"]) fun _ _ _ _ _ _ us hl => match us, hl with | [_], _ => rfl, F.ok sc__law_numbers_in (spD_len len__law_numbers_in) (fun cdv A outer s H vs Q E hr h => ?_)⟩
  refine ⟨_, (pss_cons (ps_if (pt_cmpR op_eq (pe_ix (ix_s K) (pv 0) pe_int (fun _ _ => rfl)) pe_str (nomark _)) (pss_one (ps_ret (pe_lst (pa_cons (pe_ix (ix_s K) (pv 0) pe_int (fun _ _ => rfl)) pa_nil)))) pss_nil)
      (pss_cons (ps_set (i := 1) sc__law_numbers_in.nd rfl (Or.inl rfl) (pe_lst pa_nil))
      (pss_cons (ps_for PassesOwn.never rfl (pi_q K (pe_slice (sl_tups K) (pv 0) (po_some pe_int) po_none)) (pg_name (i := 2) sc__law_numbers_in.nd rfl (Or.inl rfl)) (pss_one (ps_if (pt_tru K (pe_callB (call_isis K) (by rfl) T.b_isinstance (by decide +kernel) (pa_cons (pv 2) (pa_cons (pe_bltn (v := .ty "tuple") (by rfl) T.b_tuple (by decide +kernel) rfl) pa_nil))) (by intro _; rfl)) (pss_one (ps_set (i := 1) sc__law_numbers_in.nd rfl (Or.inl rfl) (pe_op (op_adds K) (pv 1) (pe_D0 d__law_numbers_in (by omega) hr pass0 (pa_cons (pv 2) pa_nil))))) pss_nil)))
      (pss_one (ps_ret (pv 1)))))), ?_⟩
  refine run_spD h (fun c xs k x p => ?_)
  obtain ⟨w, rfl, hn, h10, wo, hk⟩ := p
  refine ⟨Nat.le_of_ble_eq_true rfl, fun hx => ?_⟩
  have hw : (∃ a n0, w = .rnd a n0) ∨ w.hd ≠ "round" := by
    cases w with
    | rnd a n0 => exact .inl ⟨a, n0, rfl⟩
    | inn a => right; show ("in" : Str) ≠ "round"; decide +kernel
    | lst a => right; show ("least" : Str) ≠ "round"; decide +kernel
    | no a => right; show ("no" : Str) ≠ "round"; decide +kernel
    | two b v u =>
      right
      cases b
      · show ("any" : Str) ≠ "round"; decide +kernel
      · show ("both" : Str) ≠ "round"; decide +kernel
  rcases hw with ⟨a, n0, rfl⟩ | hw
  · show Ws c _ [.val (.d (.tuple [.str "round", .str a, .int n0])), .un, .un] _
    refine ws_seq (ws_if (wt_split true ?_ (fun _ => ?_) (fun h => by cases h)))
    · walk_at "py"
      first | rfl | decide +kernel
    walk_at "py"
    exact hk [n0] (by show 1 ≤ 2 ^ 1; decide) fun z hz => by rw [List.mem_singleton.mp hz]; exact wo.2
  rw [wD_eq]
  show Ws c _ [.val (.d (.tuple (.str w.hd :: w.ps.map Part.d))), .un, .un] _
  have pl : w.ps.length ≤ 2 := by cases w <;> (simp [Wi.ps])
  have dp : 1 ≤ wdep w := dep_pos w
  have p2 : 2 ^ wdep w = 2 * 2 ^ (wdep w - 1) := by
    obtain ⟨e, he⟩ : ∃ e, wdep w = e + 1 := ⟨wdep w - 1, by omega⟩
    rw [he, Nat.pow_succ, Nat.add_sub_cancel]; omega
  have p3 : 2 ^ (wdep w - 1) ≤ 2 ^ 9 := Nat.pow_le_pow_right (by decide) (by omega)
  refine ws_seq (ws_if (wt_split false ?_ (fun h => by cases h) (fun _ => ws_next ?_)))
  · refine wt_test (we_op (we_op (we_var rfl (we_int (rv_ixT at_nat0 ?_)))))
    walk_at "py"
    exact decide_eq_false hw
  refine ws_cut (fun ρ' => ρ' = [.val (.d (.tuple (.str w.hd :: w.ps.map Part.d))), .val (.d (.list (([] : List Int).map .int))), .un]) ?_ ?_
  · walk_at "py"
    rfl
  rintro _ rfl
  refine ws_cut (fun ρ' => ∃ (ns : List Int) (s2 : Slot), (ns.length ≤ 2 ^ wdep w ∧ ∀ z ∈ ns, z.natAbs < 10 ^ 61) ∧ ρ' = [.val (.d (.tuple (.str w.hd :: w.ps.map Part.d))), .val (.d (.list (ns.map .int))), s2]) ?_ ?_
  · refine ws_forQ2 (ws_forT [2] ?_)
    refine we_slT ?_
    walk_at "py"
    refine wo_some ?_
    walk_at "py"
    refine ⟨_, rfl, wo_none ⟨_, rfl, ps_cutn w, ?_⟩⟩
    rw [ps_cut]
    refine ⟨_, rfl, fun i ρ' => ∃ (ns : List Int) (s2 : Slot), isOwn s2 = false ∧ (ns.length ≤ i * 2 ^ (wdep w - 1) ∧ ∀ z ∈ ns, z.natAbs < 10 ^ 61) ∧ ρ' = [.val (.d (.tuple (.str w.hd :: w.ps.map Part.d))), .val (.d (.list (ns.map .int))), s2], ⟨[], _, rfl, ⟨by simp, by simp⟩, rfl⟩, ?_, ?_⟩
    · rintro c' le i z ρ' hz ⟨ns, s2, g2, ⟨hl, hns⟩, rfl⟩
      rw [List.getElem?_map] at hz
      obtain ⟨p, hp, rfl⟩ := Option.map_eq_some_iff.mp hz
      have hi : i < 2 := by have := (List.getElem?_eq_some_iff.mp hp).1; omega
      have hm := List.mem_of_getElem? hp
      have pdep := ps_dep p hm
      have pok := wo.ps p hm
      have il : i * 2 ^ (wdep w - 1) ≤ 1 * 2 ^ (wdep w - 1) := Nat.mul_le_mul_right _ (by omega)
      have i1 : (i + 1) * 2 ^ (wdep w - 1) = i * 2 ^ (wdep w - 1) + 2 ^ (wdep w - 1) := Nat.succ_mul _ _
      refine wg_name (by show some (isOwn s2) = _; rw [g2]) ?_
      cases p with
      | w v =>
        have pdep : wdep v < wdep w := pdep
        refine ws_if (wt_split true ?_ (fun _ => ?_) (fun h => by cases h))
        · walk_at "py"
          rw [part_tup]
        refine ws_asg (we_fresh (wf_catD (we_var rfl ⟨_, rfl, we_call (wa_cons (we_var rfl (wa_nil ?_)))⟩)))
        refine call__law_numbers_in (w := v) (by omega) (by omega) pok fun ms m1 m2 => ?_
        have m3 : 2 ^ wdep v ≤ 2 ^ (wdep w - 1) := Nat.pow_le_pow_right (by decide) (by omega)
        refine ⟨_, rfl, by rw [List.length_map, List.length_map]; omega, ns ++ ms, _, rfl, ⟨by rw [List.length_append]; omega, fun z hz => ?_⟩, by rw [List.map_append]; rfl⟩
        rcases List.mem_append.mp hz with hz | hz
        · exact hns z hz
        · exact m2 z hz
      | s a =>
        refine ws_if (wt_split false ?_ (fun h => by cases h) (fun _ => ?_))
        · walk_at "py"
          rfl
        exact ws_next ⟨ns, _, rfl, ⟨by omega, hns⟩, rfl⟩
      | n a =>
        refine ws_if (wt_split false ?_ (fun h => by cases h) (fun _ => ?_))
        · walk_at "py"
          rfl
        exact ws_next ⟨ns, _, rfl, ⟨by omega, hns⟩, rfl⟩
    · rintro ρ' ⟨ns, s2, _, ⟨hl, hns⟩, rfl⟩
      rw [List.length_map] at hl
      have : w.ps.length * 2 ^ (wdep w - 1) ≤ 2 * 2 ^ (wdep w - 1) := Nat.mul_le_mul_right _ pl
      exact ⟨ns, s2, ⟨by omega, hns⟩, rfl⟩
  rintro _ ⟨ns, s2, ⟨hl, hns⟩, rfl⟩
  walk_at "py"
  exact hk ns hl hns

theorem okR__law_numbers_in (T : Txt K mg AA) (R : Raw K mg "_law_numbers_in" s__law_numbers_in) : ∀ n : Nat, Def P w K mg base "_law_numbers_in" ["_law_wish_here"] CX0 (1 + n) (spD K (p__law_numbers_in n K))
  | 0 => okZ__law_numbers_in T  R
  | n + 1 => okS__law_numbers_in n T  (okR__law_numbers_in T  R n) R
theorem ok__law_numbers_in (T : Txt K mg AA) (R : Raw K mg "_law_numbers_in" s__law_numbers_in) : Def P w K mg base "_law_numbers_in" ["_law_wish_here"] CX0 (9) (spD K (p__law_numbers_in 8 K)) := okR__law_numbers_in T  R 8
def p__law_rounds_for (K : PySem.W.Frag) : PTZ K := fun c O xs k x => ∃ (p : Addr) (as : List Str) (ns : List Int), O = [] ∧ xs = [.r (.ref p), .d (.list (as.map .str)), .d (.list (ns.map .int))] ∧ HandIn c p ∧ as.length ≤ 5 ∧ ns.length ≤ 5000 ∧ (∀ a ∈ as, isNmS a = true) ∧ (∀ z ∈ ns, z.natAbs < 10 ^ 61) ∧ ∀ (d : Addr) (r : List (Str × Int)), r.length ≤ 10 → (r.map (·.1)).Nodup → k [DkO d (dk r)] (.r (.ref d))
theorem len__law_rounds_for {K : PySem.W.Frag} : ∀ (c : Py.Ctx K) O xs k x, p__law_rounds_for K c O xs k x → xs.length = 3 := by
  rintro c O xs k x ⟨p, as, ns, rfl, rfl, _⟩
  rfl
theorem call__law_rounds_for {K : PySem.W.Frag} {c : Py.Ctx K} {k : Sto K → Dv → Prop} {x : Sto K → Value → Option FD → Prop} {p : Addr} {as : List Str} {ns : List Int} (HI : HandIn c p) (h1 : as.length ≤ 5) (h2 : ns.length ≤ 5000) (h3 : ∀ a ∈ as, isNmS a = true) (h4 : ∀ z ∈ ns, z.natAbs < 10 ^ 61) (h : ∀ (d : Addr) (r : List (Str × Int)), r.length ≤ 10 → (r.map (·.1)).Nodup → k [DkO d (dk r)] (.r (.ref d))) :
  p__law_rounds_for K c [] [.r (.ref p), .d (.list (as.map .str)), .d (.list (ns.map .int))] k x := ⟨p, as, ns, rfl, rfl, HI, h1, h2, h3, h4, h⟩
abbrev s__law_rounds_for : Stmt := top 29
theorem sc__law_rounds_for : FnScope ["_law_hand_here", "_law_names_here", "_law_some", "_law_rounds", "_law_name_here"] ["_law_hand_here", "_law_names_here", "_law_some"] (defScope s__law_rounds_for) := ⟨rfl, rfl, rfl, by decide +kernel, rfl, by decide +kernel, by decide +kernel⟩
theorem ok__law_rounds_for (T : Txt K mg AA) (d__law_draw : Def P w K mg base "_law_draw" ["_law_hand_here", "_law_many"] CX0 3 (spD K (p_draw K))) (d__law_number : Def P w K mg base "_law_number" ["_law_hand_here"] CX0 4 (spD K (p__law_number K))) (R : Raw K mg "_law_rounds_for" s__law_rounds_for) : Def P w K mg base "_law_rounds_for" ["_law_hand_here", "_law_names_here", "_law_some"] CX0 5 (spZ K (p__law_rounds_for K)) := R.def fun f fd F => by
  refine ⟨F.binds (ps := ["_law_hand_here", "_law_names_here", "_law_some"]) fun _ _ _ _ _ _ us hl => match us, hl with | [_, _, _], _ => rfl, F.ok sc__law_rounds_for (spZ_len len__law_rounds_for) (fun cdv A outer s H vs Q E hr h => ?_)⟩
  refine ⟨_, (pss_cons (ps_set (i := 3) sc__law_rounds_for.nd rfl (Or.inl rfl) pe_dnewK)
      (pss_cons (ps_for PassesOwn.never rfl (pi_q K (pv 1)) (pg_name (i := 4) sc__law_rounds_for.nd rfl (Or.inl rfl)) (pss_one (ps_if (pt_cmpR op_gtU (pe_D0 d__law_draw (by decide) hr pass0 (pa_cons (pv 0) (pa_cons pe_int pa_nil))) pe_int (nomark _)) (pss_cons (ps_dput (hu_of hr) (pv 3) (pv 4) (pe_D0 d__law_number (by decide) hr pass0 (pa_cons (pv 0) pa_nil)) rfl)
      (pss_one (ps_if (PW.pt (pw_and (pt_cmpR op_gtU (pe_callB (call_lens K) (by rfl) T.b_len (by decide +kernel) (pa_cons (pv 2) pa_nil)) pe_int (nomark _)) (pw_and1 (pt_cmpR (op_eqs K hr.units) (pe_D0 d__law_draw (by decide) hr pass0 (pa_cons (pv 0) (pa_cons pe_int pa_nil))) pe_int (nomark _))))) (pss_one (ps_dput (hu_of hr) (pv 3) (pv 4) (pe_ix (ix_s K) (pv 2) (pe_D0 d__law_draw (by decide) hr pass0 (pa_cons (pv 0) (pa_cons (pe_callB (call_lens K) (by rfl) T.b_len (by decide +kernel) (pa_cons (pv 2) pa_nil)) pa_nil))) (fun _ _ => rfl)) rfl)) pss_nil))) pss_nil)))
      (pss_one (ps_ret (pv 3))))), ?_⟩
  refine run_spZ h (fun c O xs k x p => ?_)
  obtain ⟨p, as, ns, rfl, rfl, HI, h1, h2, h3, h4, hk⟩ := p
  refine ⟨Nat.le_of_ble_eq_true rfl, fun hx => ?_⟩
  show Zs c _ _ [.val (.r (.ref p)), .val (.d (.list (as.map .str))), .val (.d (.list (ns.map .int))), .un, .un] _
  have hml : ((ns.map PyData.int).length : Int) = ns.length := by simp
  refine zs_seq (zs_asg (ze_dnewK fun d => ?_))
  show Zs c [DkO d (dk [])] _ [.val (.r (.ref p)), .val (.d (.list (as.map .str))), .val (.d (.list (ns.map .int))), .val (.r (.ref d)), .un] _
  refine zs_cut (fun O' ρ' => ∃ (r : List (Str × Int)) (s4 : Slot), (r.length ≤ 10 ∧ (r.map (·.1)).Nodup) ∧ O' = [DkO d (dk r)] ∧ ρ' = [.val (.r (.ref p)), .val (.d (.list (as.map .str))), .val (.d (.list (ns.map .int))), .val (.r (.ref d)), s4]) ?_ ?_
  · refine zs_forQ1 (zs_for [4] (ze_var rfl ⟨_, rfl, fun i O' ρ' => ∃ (r : List (Str × Int)) (s4 : Slot), isOwn s4 = false ∧ (r.length ≤ 2 * i ∧ (r.map (·.1)).Nodup) ∧ O' = [DkO d (dk r)] ∧ ρ' = [.val (.r (.ref p)), .val (.d (.list (as.map .str))), .val (.d (.list (ns.map .int))), .val (.r (.ref d)), s4], ⟨[], _, rfl, ⟨Nat.le_refl 0, by simp⟩, rfl, rfl⟩, ?_, ?_⟩))
    · rintro c1 le1 i x O' ρ' hx ⟨r, s4, h4', ⟨hr, nd⟩, rfl, rfl⟩ c2 le2
      rw [List.getElem?_map] at hx
      obtain ⟨a, ha, rfl⟩ := Option.map_eq_some_iff.mp hx
      have hi : i < 5 := by have := (List.getElem?_eq_some_iff.mp ha).1; omega
      have HI1 := HI.le le1
      refine wg_name (by show some (isOwn s4) = _; rw [h4']) ?_
      show Zs c1 [DkO d (dk r)] _ [.val (.r (.ref p)), .val (.d (.list (as.map .str))), .val (.d (.list (ns.map .int))), .val (.r (.ref d)), .val (.d (.str a))] _
      have fin : ∀ r' : List (Str × Int), r'.length ≤ 2 * (i + 1) → (r'.map (·.1)).Nodup → ∃ (r : List (Str × Int)) (s4 : Slot), isOwn s4 = false ∧ (r.length ≤ 2 * (i + 1) ∧ (r.map (·.1)).Nodup) ∧ ([DkO d (dk r')] : Sto K) = [DkO d (dk r)] ∧ [Slot.val (.r (.ref p)), .val (.d (.list (as.map .str))), .val (.d (.list (ns.map .int))), .val (.r (.ref d)), .val (.d (.str a))] = [.val (.r (.ref p)), .val (.d (.list (as.map .str))), .val (.d (.list (ns.map .int))), .val (.r (.ref d)), s4] := fun r' a b => ⟨r', _, rfl, ⟨a, b⟩, rfl, rfl⟩
      refine zs_if (zt_old fun c3 le3 hs3 => ?_)
      have HI3 := HI1.le le3
      walk_at "py"
      · refine zs_seq (zs_dputK (ze_old fun c4 le4 hs4 => ?_))
        have HI4 := HI1.le le4
        walk_at "py"
        · exact HI4
        intro v hv
        refine ze_var rfl (ze_var rfl ⟨d, 0, dk r, .inr a, .int v, rfl, rfl, rfl, rfl, by rw [len_dk]; omega, ?_⟩)
        rw [put_dk]
        have lp := len_put r a v
        have nd2 : ((putR r a v).map (·.1)).Nodup := nod_put nd
        generalize putR r a v = r2 at lp nd2
        show Zs c1 [DkO d (dk r2)] _ [.val (.r (.ref p)), .val (.d (.list (as.map .str))), .val (.d (.list (ns.map .int))), .val (.r (.ref d)), .val (.d (.str a))] _
        refine zs_if (zt_old fun c5 le5 hs5 => ?_)
        have HI5 := HI1.le le5
        walk_at "py"
        · rename_i hb _ _ _ _
          refine zs_dputK (ze_old fun c6 le6 hs6 => ?_)
          have HI6 := HI1.le le6
          have hb' : (0 : Int) < ns.length := by
            have := of_decide_eq_true hb
            simpa using this
          walk_at "py"
          rename_i u u0 u1
          have u1 : u < (ns.length : Int) := by simpa using u1
          obtain ⟨j, rfl⟩ := Int.eq_ofNat_of_zero_le u0
          have hj : j < ns.length := by omega
          have e : atI (ns.map PyData.int) (j : Int) = some (.int ns[j]) := by
            unfold atI ixN
            rw [if_pos (by omega), if_pos (by rw [List.length_map]; omega)]
            show (ns.map PyData.int)[j]? = _
            rw [List.getElem?_map, List.getElem?_eq_getElem hj]; rfl
          refine rv_ixL e ?_
          refine ze_var rfl (ze_var rfl ⟨d, 0, dk r2, .inr a, .int ns[j], rfl, rfl, rfl, rfl, by rw [len_dk]; omega, ?_⟩)
          rw [put_dk]
          have lp2 := len_put r2 a ns[j]
          exact fin _ (by omega) (nod_put nd2)
        all_goals exact zs_next (fin r2 (by omega) nd2)
      · exact zs_next (fin r (by omega) nd)
    · rintro O' ρ' ⟨r, s4, _, ⟨hr, nd⟩, rfl, rfl⟩
      have : r.length ≤ 2 * as.length := by simpa using hr
      exact ⟨r, s4, ⟨by omega, nd⟩, rfl, rfl⟩
  rintro _ _ ⟨r, s4, ⟨hr, nd⟩, rfl, rfl⟩
  exact zs_ret (ze_var rfl (hk d r hr nd))

abbrev s_law : Stmt := top 30
theorem sc_law : FnScope ["_law_script", "_law_hand_here", "_law_names_here", "_law_wish_here", "_law_six", "_law_seven", "_law_good", "_law_far", "_law_k", "_law_bad", "_law_some", "_law_dicts", "_law_rounds", "_law_asked", "_law_kept", "_law_told"] ["_law_script"] (defScope s_law) := ⟨rfl, rfl, rfl, by decide +kernel, rfl, by decide +kernel, by decide +kernel⟩
theorem ok_law (T : Txt K mg AA) (d__law_hand : Def P w K mg base "_law_hand" ["_law_script"] CX0 1 (spHand K)) (d__law_names : Def P w K mg base "_law_names" ["_law_hand_here", "_law_many"] CX0 5 (spD K (p__law_names K))) (d__law_wish : Def P w K mg base "_law_wish" ["_law_hand_here", "_law_names_here", "_law_deep_here"] CX0 11 (spD K (p__law_wish 7 K))) (d__law_wrapped : Def P w K mg base "_law_wrapped" ["_law_hand_here", "_law_wish_here", "_law_deep_here"] CX0 10 (spD K (p__law_wrapped K))) (d__law_numbers_in : Def P w K mg base "_law_numbers_in" ["_law_wish_here"] CX0 9 (spD K (p__law_numbers_in 8 K))) (d__law_draw : Def P w K mg base "_law_draw" ["_law_hand_here", "_law_many"] CX0 3 (spD K (p_draw K))) (d__law_spoilt : Def P w K mg base "_law_spoilt" ["_law_hand_here", "_law_wish_here"] CX0 11 (spD K (p__law_spoilt 8 K))) (d__law_rounds_for : Def P w K mg base "_law_rounds_for" ["_law_hand_here", "_law_names_here", "_law_some"] CX0 5 (spZ K (p__law_rounds_for K))) (d_holds : Def P w K mg base "holds" ["wish", "rounds"] (L2.CX P w) 10 (spZ K (p_holds K))) (d_is_wish : Def P w K mg base "is_wish" ["thing"] CX0 9 (spD K (p_is_wish K))) (d__law_holds : Def P w K mg base "_law_holds" ["_law_wish_here", "_law_rounds"] CX0 8 (spZ K (p__law_holds 7 K))) (f : Addr) (fd : FuncData) (F : Fun K "law" "law" s_law f fd) : FnOk P w K mg base CX0 12 f fd ["_law_script"] (spLaw K) := by
  refine F.ok sc_law (fun vs H Q E h => ?_) (fun cdv A outer s H vs Q E hr h => ?_)
  · obtain ⟨a, ns, rfl, _⟩ := h
    rfl
  refine ⟨_, (pss_cons (ps_set (i := 1) sc_law.nd rfl (Or.inl rfl) (pe_D0 d__law_hand (by decide) hr pass0 (pa_cons (pv 0) pa_nil)))
      (pss_cons (ps_set (i := 2) sc_law.nd rfl (Or.inl rfl) (pe_D0 d__law_names (by decide) hr pass0 (pa_cons (pv 1) (pa_cons pe_int pa_nil))))
      (pss_cons (ps_set (i := 3) sc_law.nd rfl (Or.inl rfl) (pe_D0 d__law_wish (by decide) hr pass0 (pa_cons (pv 1) (pa_cons (pv 2) (pa_cons (pe_op (op_adds K) pe_int (pe_D0 d__law_draw (by decide) hr pass0 (pa_cons (pv 1) (pa_cons pe_int pa_nil)))) pa_nil)))))
      (pss_cons (ps_set (i := 4) sc_law.nd rfl (Or.inl rfl) (pe_D0 d__law_wrapped (by decide) hr pass0 (pa_cons (pv 1) (pa_cons (pv 3) (pa_cons pe_int pa_nil)))))
      (pss_cons (ps_set (i := 5) sc_law.nd rfl (Or.inl rfl) (pe_tup (pa_cons pe_str (pa_cons (pv 4) pa_nil))))
      (pss_cons (ps_if (pt_cmpR (op_eqs K hr.units) (pe_D0 d__law_draw (by decide) hr pass0 (pa_cons (pv 1) (pa_cons pe_int pa_nil))) pe_int (nomark _)) (pss_one (ps_set (i := 5) sc_law.nd rfl (Or.inl rfl) (pe_tup (pa_cons pe_str (pa_cons (pe_tup (pa_cons pe_str (pa_cons (pe_ix (ix_s K) (pv 2) pe_int (fun _ _ => rfl)) pa_nil))) (pa_cons (pv 4) pa_nil)))))) pss_nil)
      (pss_cons (ps_for PassesOwn.never rfl (pi_tup (pe_tup (pa_cons (pv 3) (pa_cons (pv 4) pa_nil)))) (pg_name (i := 6) sc_law.nd rfl (Or.inl rfl)) (pss_one (ps_if (pt_cmpR op_notBl (pe_D0 d_is_wish (by decide) hr pass0 (pa_cons (pv 6) pa_nil)) pe_bl (nomark _)) (pss_one (ps_ret pe_bl)) pss_nil)))
      (pss_cons (ps_set (i := 7) sc_law.nd rfl (Or.inl rfl) (pv 3))
      (pss_cons (ps_for PassesOwn.never rfl (pi_range1 (by rfl) T.b_range (pa_cons pe_int pa_nil)) (pg_name (i := 8) sc_law.nd rfl (Or.inl rfl)) (pss_one (ps_set (i := 7) sc_law.nd rfl (Or.inl rfl) (pe_tup (pa_cons pe_str (pa_cons (pv 7) pa_nil))))))
      (pss_cons (ps_for PassesOwn.never rfl (pi_tup (pe_tup (pa_cons (pv 5) (pa_cons (pe_D0 d__law_spoilt (by decide) hr pass0 (pa_cons (pv 1) (pa_cons (pv 3) pa_nil))) (pa_cons (pe_D0 d__law_spoilt (by decide) hr pass0 (pa_cons (pv 1) (pa_cons (pv 4) pa_nil))) (pa_cons (pe_tup pa_nil) (pa_cons pe_dnewK (pa_cons (pe_lst pa_nil) (pa_cons (pv 7) pa_nil))))))))) (pg_name (i := 9) sc_law.nd rfl (Or.inl rfl)) (pss_one (ps_if (pt_cmpR op_notBl (pe_D0 d_is_wish (by decide) hr pass0 (pa_cons (pv 9) pa_nil)) pe_bl (nomark _)) (pss_one (ps_ret pe_bl)) pss_nil)))
      (pss_cons (ps_set (i := 10) sc_law.nd rfl (Or.inl rfl) (pe_D0 d__law_numbers_in (by decide) hr pass0 (pa_cons (pv 3) pa_nil)))
      (pss_cons (ps_set (i := 11) sc_law.nd rfl (Or.inl rfl) (pe_lst (pa_cons (pe_D0 d__law_rounds_for (by decide) hr pass0 (pa_cons (pv 1) (pa_cons (pe_slice (sl_s K) (pv 2) (po_some pe_int) po_none) (pa_cons (pv 10) pa_nil)))) (pa_cons (pe_D0 d__law_rounds_for (by decide) hr pass0 (pa_cons (pv 1) (pa_cons (pv 2) (pa_cons (pv 10) pa_nil)))) pa_nil))))
      (pss_cons (ps_for PassesOwn.never rfl (pi_range1 (by rfl) T.b_range (pa_cons pe_int pa_nil)) (pg_name (i := 8) sc_law.nd rfl (Or.inl rfl)) (pss_cons (ps_set (i := 12) sc_law.nd rfl (Or.inl rfl) (pe_ix (ix_s K) (pv 11) (pe_op op_modN (pv 8) pe_int) (fun _ _ => rfl)))
      (pss_cons (ps_set (i := 13) sc_law.nd rfl (Or.inl rfl) (pe_ix (ix_s K) (pe_lst (pa_cons (pv 3) (pa_cons (pv 4) pa_nil))) (pe_op op_modN (pe_op op_fdivX (pv 8) pe_int) pe_int) (fun _ _ => rfl)))
      (pss_cons (ps_set (i := 14) sc_law.nd rfl (Or.inl rfl) (pe_callTy call_dictK (by rfl) T.b_dict (by decide +kernel) (pa_cons (pv 12) pa_nil)))
      (pss_cons (ps_set (i := 15) sc_law.nd rfl (Or.inl rfl) (pe_D0 d_holds (by decide) hr passL (pa_cons (pv 13) (pa_cons (pv 12) pa_nil))))
      (pss_cons (ps_if (PW.pt (pw_or (pt_not (pt_tru K (pe_callB (call_isis K) (by rfl) T.b_isinstance (by decide +kernel) (pa_cons (pv 15) (pa_cons (pe_bltn (v := .ty "bool") (by rfl) T.b_bool (by decide +kernel) rfl) pa_nil))) (by intro _; rfl))) (pw_or (pt_cmpR (op_nes K hr.units) (pv 15) (pe_D0 d__law_holds (by decide) hr pass0 (pa_cons (pv 13) (pa_cons (pv 14) pa_nil))) (nomark _)) (pw_or1 (pt_cmpR (op_neDA K hr.units) (pv 12) (pv 14) (nomark _)))))) (pss_one (ps_ret pe_bl)) pss_nil)
      (pss_one (ps_dput (hu_of hr) (pv 12) (pe_ix (ix_s K) (pv 2) (pe_D0 d__law_draw (by decide) hr pass0 (pa_cons (pv 1) (pa_cons pe_int pa_nil))) (fun _ _ => rfl)) (pe_op op_sub (pe_D0 d__law_draw (by decide) hr pass0 (pa_cons (pv 1) (pa_cons pe_int pa_nil))) pe_int) rfl))))))))
      (pss_one (ps_ret pe_bl))))))))))))))), ?_⟩
  obtain ⟨a, ns, rfl, hS, hlen, k⟩ := h
  refine law_start (K := K) (a := a) (n := 14) hS k fun c p HI => ?_
  have wn : ∀ w : Wi, WiOk w → wdep w ≤ 6 → isW 6 (wD w) = true := fun w a b => by rw [isW_wD w 6 a, decide_eq_true b]
  have wb : ∀ w : Wi, WiOk w → 7 ≤ wdep w → isW 6 (wD w) = false := fun w a b => by rw [isW_wD w 6 a, decide_eq_false (by omega)]
  refine ws_cut (fun ρ' => ∃ as : List Str, (as.length = 4 ∧ ∀ a ∈ as, isNmS a = true) ∧ ρ' = [.un, .val (.r (.ref p)), .val (.d (.list (as.map .str))), .un, .un, .un, .un, .un, .un, .un, .un, .un, .un, .un, .un, .un]) ?_ ?_
  · walk_at "py"
    · exact HI
    exact fun as la na => ⟨as, ⟨la, na⟩, rfl⟩
  rintro _ ⟨as, ⟨la, na⟩, rfl⟩
  refine ws_cut (fun ρ' => ∃ w : Wi, (WiOk w ∧ wdep w ≤ 6) ∧ ρ' = [.un, .val (.r (.ref p)), .val (.d (.list (as.map .str))), .val (.d (wD w)), .un, .un, .un, .un, .un, .un, .un, .un, .un, .un, .un, .un]) ?_ ?_
  · walk_at "py"
    rename_i v v0 v1
    exact call__law_wish (n := 7) (m := 1 + v) (by omega) (by omega) (by omega) HI la na fun w a b => ⟨w, ⟨a, by omega⟩, rfl⟩
  rintro _ ⟨w, ⟨wo, wd⟩, rfl⟩
  refine ws_cut (fun ρ' => ∃ x6 : Wi, (WiOk x6 ∧ wdep x6 = 6) ∧ ρ' = [.un, .val (.r (.ref p)), .val (.d (.list (as.map .str))), .val (.d (wD w)), .val (.d (wD x6)), .un, .un, .un, .un, .un, .un, .un, .un, .un, .un, .un]) ?_ ?_
  · refine ws_asg (we_call (wa_cons (we_var rfl (wa_cons (we_var rfl (wa_cons (we_int (wa_nil ?_))))))))
    exact call__law_wrapped HI wo wd fun x a b => ⟨x, ⟨a, b⟩, rfl⟩
  rintro _ ⟨x6, ⟨xo, xd⟩, rfl⟩
  refine ws_cut (fun ρ' => ρ' = [.un, .val (.r (.ref p)), .val (.d (.list (as.map .str))), .val (.d (wD w)), .val (.d (wD x6)), .val (.d (wD (.no x6))), .un, .un, .un, .un, .un, .un, .un, .un, .un, .un]) ?_ ?_
  · walk_at "py"
    rfl
  rintro _ rfl
  refine ws_cut (fun ρ' => ∃ x7 : Wi, (WiOk x7 ∧ 7 ≤ wdep x7) ∧ ρ' = [.un, .val (.r (.ref p)), .val (.d (.list (as.map .str))), .val (.d (wD w)), .val (.d (wD x6)), .val (.d (wD x7)), .un, .un, .un, .un, .un, .un, .un, .un, .un, .un]) ?_ ?_
  · refine ws_if (wt_any ?_ ?_ (ws_next ⟨.no x6, ⟨xo, by show 7 ≤ wdep x6 + 1; omega⟩, rfl⟩))
    · walk_at "py"
      all_goals trivial
    obtain ⟨a0, ha0, e0⟩ := at_strs (ns := as) (v := 0) (by decide) (by omega)
    walk_at "py"
    refine rv_ixL e0 ?_
    walk_at "py"
    exact ⟨.two false (.inn a0) x6, ⟨⟨na a0 ha0, xo⟩, by show 7 ≤ max 1 (wdep x6) + 1; omega⟩, rfl⟩
  rintro _ ⟨x7, ⟨o7, d7⟩, rfl⟩
  refine ws_cut (fun ρ' => ∃ s6, ρ' = [.un, .val (.r (.ref p)), .val (.d (.list (as.map .str))), .val (.d (wD w)), .val (.d (wD x6)), .val (.d (wD x7)), s6, .un, .un, .un, .un, .un, .un, .un, .un, .un]) ?_ ?_
  · refine ws_forT [6] ?_
    walk_at "py"
    refine ⟨_, rfl, fun i ρ' => ∃ s6, isOwn s6 = false ∧ ρ' = [.un, .val (.r (.ref p)), .val (.d (.list (as.map .str))), .val (.d (wD w)), .val (.d (wD x6)), .val (.d (wD x7)), s6, .un, .un, .un, .un, .un, .un, .un, .un, .un], ⟨_, rfl, rfl⟩, ?_, ?_⟩
    · rintro c' le i z ρ' hz ⟨s6, h6, rfl⟩
      refine wg_name (by show some (isOwn s6) = _; rw [h6]) ?_
      have hz' : okS z = true ∧ isW 6 z = true := by
        have := List.mem_of_getElem? hz
        have : z = wD w ∨ z = wD x6 := by simpa using this
        rcases this with rfl | rfl
        · exact ⟨okS_wD wo, wn _ wo wd⟩
        · exact ⟨okS_wD xo, wn _ xo (by omega)⟩
      refine ws_if (wt_split false ?_ (fun h => by cases h) (fun _ => ws_next ⟨_, rfl, rfl⟩))
      walk_at "py"
      · exact hz'.1
      rw [hz'.2]
      rfl
    · rintro ρ' ⟨s6, _, rfl⟩
      exact ⟨s6, rfl⟩
  rintro _ ⟨s6, rfl⟩
  refine ws_cut (fun ρ' => ρ' = [.un, .val (.r (.ref p)), .val (.d (.list (as.map .str))), .val (.d (wD w)), .val (.d (wD x6)), .val (.d (wD x7)), s6, .val (.d (wD w)), .un, .un, .un, .un, .un, .un, .un, .un]) (by walk_at "py"; rfl) ?_
  rintro _ rfl
  refine ws_cut (fun ρ' => ∃ (xf : Wi) (s8 : Slot), (WiOk xf ∧ 7 ≤ wdep xf ∧ isOwn s8 = false) ∧ ρ' = [.un, .val (.r (.ref p)), .val (.d (.list (as.map .str))), .val (.d (wD w)), .val (.d (wD x6)), .val (.d (wD x7)), s6, .val (.d (wD xf)), s8, .un, .un, .un, .un, .un, .un, .un]) ?_ ?_
  · refine ws_forR1 [8] ?_
    walk_at "py"
    refine ⟨_, rfl, by decide, by decide, fun i ρ' => ∃ (xf : Wi) (s8 : Slot), isOwn s8 = false ∧ (WiOk xf ∧ i ≤ wdep xf) ∧ ρ' = [.un, .val (.r (.ref p)), .val (.d (.list (as.map .str))), .val (.d (wD w)), .val (.d (wD x6)), .val (.d (wD x7)), s6, .val (.d (wD xf)), s8, .un, .un, .un, .un, .un, .un, .un], ⟨w, _, rfl, ⟨wo, Nat.zero_le _⟩, rfl⟩, ?_, ?_⟩
    · rintro i ρ' hi ⟨xf, s8, h8, ⟨fo, fd⟩, rfl⟩
      refine wg_name (by show some (isOwn s8) = _; rw [h8]) ?_
      walk_at "py"
      exact ⟨.no xf, _, rfl, ⟨fo, by show i + 1 ≤ wdep xf + 1; omega⟩, rfl⟩
    · rintro ρ' ⟨xf, s8, h8, ⟨fo, fd⟩, rfl⟩
      have fd : 2000 ≤ wdep xf := fd
      exact ⟨xf, s8, ⟨fo, by omega, h8⟩, rfl⟩
  rintro _ ⟨xf, s8, ⟨fo, fd, h8⟩, rfl⟩
  refine ws_cut (fun ρ' => ∃ s9, ρ' = [.un, .val (.r (.ref p)), .val (.d (.list (as.map .str))), .val (.d (wD w)), .val (.d (wD x6)), .val (.d (wD x7)), s6, .val (.d (wD xf)), s8, s9, .un, .un, .un, .un, .un, .un]) ?_ ?_
  · refine ws_forT [9] ?_
    walk_at "py"
    refine call__law_spoilt (n := 8) (by omega) HI wo fun b1 ok1 bad1 => ?_
    walk_at "py"
    refine call__law_spoilt (n := 8) (by omega) HI xo fun b2 ok2 bad2 => ?_
    walk_at "py"
    refine we_dicN ?_
    walk_at "py"
    refine ⟨_, rfl, fun i ρ' => ∃ s9, isOwn s9 = false ∧ ρ' = [.un, .val (.r (.ref p)), .val (.d (.list (as.map .str))), .val (.d (wD w)), .val (.d (wD x6)), .val (.d (wD x7)), s6, .val (.d (wD xf)), s8, s9, .un, .un, .un, .un, .un, .un], ⟨_, rfl, rfl⟩, ?_, ?_⟩
    · rintro c' le i z ρ' hz ⟨s9, h9, rfl⟩
      refine wg_name (by show some (isOwn s9) = _; rw [h9]) ?_
      have hz' : okS z = true ∧ isW 6 z = false := by
        have := List.mem_of_getElem? hz
        have : z = wD x7 ∨ z = b1 ∨ z = b2 ∨ z = .tuple [] ∨ z = .dict [] ∨ z = .list [] ∨ z = wD xf := by simpa using this
        rcases this with rfl | rfl | rfl | rfl | rfl | rfl | rfl
        · exact ⟨okS_wD o7, wb _ o7 d7⟩
        · exact ⟨ok1, bad1 6⟩
        · exact ⟨ok2, bad2 6⟩
        · exact ⟨rfl, rfl⟩
        · exact ⟨rfl, rfl⟩
        · exact ⟨rfl, rfl⟩
        · exact ⟨okS_wD fo, wb _ fo fd⟩
      refine ws_if (wt_split false ?_ (fun h => by cases h) (fun _ => ws_next ⟨_, rfl, rfl⟩))
      walk_at "py"
      · exact hz'.1
      rw [hz'.2]
      rfl
    · rintro ρ' ⟨s9, _, rfl⟩
      exact ⟨s9, rfl⟩
  rintro _ ⟨s9, rfl⟩
  refine ws_cut (fun ρ' => ∃ ms : List Int, (ms.length ≤ 64 ∧ ∀ z ∈ ms, z.natAbs < 10 ^ 61) ∧ ρ' = [.un, .val (.r (.ref p)), .val (.d (.list (as.map .str))), .val (.d (wD w)), .val (.d (wD x6)), .val (.d (wD x7)), s6, .val (.d (wD xf)), s8, s9, .val (.d (.list (ms.map .int))), .un, .un, .un, .un, .un]) ?_ ?_
  · walk_at "py"
    refine call__law_numbers_in (n := 8) (w := w) (by omega) (by omega) wo fun ms m1 m2 => ?_
    have : 2 ^ wdep w ≤ 2 ^ 6 := Nat.pow_le_pow_right (by decide) wd
    exact ⟨ms, ⟨by omega, m2⟩, rfl⟩
  rintro _ ⟨ms, ⟨lm, nm1⟩, rfl⟩
  refine ws_ofZ ?_
  have h32 : ((as.map PyData.str).length : Int) = 4 := by simp [la]
  refine zs_cut (fun O' ρ' => ∃ (d d' l : Addr) (r r' : List (Str × Int)) (vals : List Dv) (G : Sto K), (vals = [.r (.ref d), .r (.ref d')] ∨ vals = [.r (.ref d'), .r (.ref d)]) ∧ ((r.length ≤ 10 ∧ (r.map (·.1)).Nodup) ∧ (r'.length ≤ 10 ∧ (r'.map (·.1)).Nodup)) ∧ O' = DkO d (dk r) :: DkO d' (dk r') :: LsvO l vals :: G ∧ ρ' = [.un, .val (.r (.ref p)), .val (.d (.list (as.map .str))), .val (.d (wD w)), .val (.d (wD x6)), .val (.d (wD x7)), s6, .val (.d (wD xf)), s8, s9, .val (.d (.list (ms.map .int))), .val (.r (.ref l)), .un, .un, .un, .un]) ?_ ?_
  · refine zs_asg (ze_lstV (za_cons (ze_callZ (za_cons (ze_var rfl (za_cons (ze_old fun c1 le1 hs1 => ?_)))))))
    refine we_fresh (wf_slice (we_var rfl (wo_some (we_int ⟨1, rfl, wo_none ⟨_, rfl, ?_⟩⟩))))
    have ec : Py.cutD (as.map PyData.str) (some 1) none = (as.drop 1).map PyData.str := by
      unfold Py.cutD
      rw [show (some (1 : Int)) = some ((1 : Nat) : Int) from rfl, HT.sIx_nat, HT.sIx_none, List.length_map, la, List.map_drop]
      exact List.take_of_length_le (by simp [la])
    rw [ec]
    refine za_cons (ze_var rfl (za_nil ⟨[], [], .refl _, fun c2 le2 _ => call__law_rounds_for (HI.le le2) (by simp [la]) (by omega) (fun a ha => na a (List.mem_of_mem_drop ha)) nm1 fun d r hr nd => ?_⟩))
    refine za_cons (ze_callZ (za_cons (ze_var rfl (za_cons (ze_var rfl (za_cons (ze_var rfl (za_nil ⟨[], [DkO d (dk r)], .refl _, fun c3 le3 _ => call__law_rounds_for (HI.le le3) (by omega) (by omega) na nm1 fun d' r' hr' nd' => ?_⟩))))))))
    refine za_nil ⟨by show 2 ≤ _; decide, fun l => ?_⟩
    exact ⟨d', d, l, r', r, _, [], .inr rfl, ⟨⟨hr', nd'⟩, hr, nd⟩, rfl, rfl⟩
  rintro _ _ ⟨d, d', l, r, r', vals, G, hv, ⟨⟨hr, nd⟩, hr', nd'⟩, rfl, rfl⟩
  refine zs_cut (fun _ _ => True) ?_ ?_
  · refine zs_forR1 [8] (za_cons (ze_old fun c1 le1 hs1 => ?_))
    walk_at "py"
    refine za_nil ⟨6, rfl, by decide, by decide, fun i O' ρ' => ∃ (d d' : Addr) (r r' : List (Str × Int)) (vals : List Dv) (G : Sto K) (s8 s12 s13 s14 s15 : Slot), (vals = [.r (.ref d), .r (.ref d')] ∨ vals = [.r (.ref d'), .r (.ref d)]) ∧ ((r.length ≤ 10 + i ∧ (r.map (·.1)).Nodup) ∧ (r'.length ≤ 10 + i ∧ (r'.map (·.1)).Nodup)) ∧ (isOwn s8 = false ∧ isOwn s12 = false ∧ isOwn s13 = false ∧ isOwn s14 = false ∧ isOwn s15 = false) ∧ O' = DkO d (dk r) :: DkO d' (dk r') :: LsvO l vals :: G ∧ ρ' = [.un, .val (.r (.ref p)), .val (.d (.list (as.map .str))), .val (.d (wD w)), .val (.d (wD x6)), .val (.d (wD x7)), s6, .val (.d (wD xf)), s8, s9, .val (.d (.list (ms.map .int))), .val (.r (.ref l)), s12, s13, s14, s15], ⟨d, d', r, r', vals, G, s8, _, _, _, _, hv, ⟨⟨by omega, nd⟩, by omega, nd'⟩, ⟨h8, rfl, rfl, rfl, rfl⟩, rfl, rfl⟩, ?_, ?_⟩
    · clear hv hr nd hr' nd'
      rintro i O' ρ' hi ⟨d, d', r, r', vals, G, t8, s12, s13, s14, s15, hv, ⟨⟨hr, nd⟩, hr', nd'⟩, ⟨g8, g12, g13, g14, g15⟩, rfl, rfl⟩ c2 le2
      have hi : i < 6 := hi
      refine wg_name (by show some (isOwn t8) = _; rw [g8]) ?_
      refine zs_cut (fun O' ρ' => ∃ (d d' : Addr) (r r' : List (Str × Int)) (vals : List Dv), (vals = [.r (.ref d), .r (.ref d')] ∨ vals = [.r (.ref d'), .r (.ref d)]) ∧ ((r.length ≤ 10 + i ∧ (r.map (·.1)).Nodup) ∧ (r'.length ≤ 10 + i ∧ (r'.map (·.1)).Nodup)) ∧ O'.Perm (DkO d (dk r) :: DkO d' (dk r') :: LsvO l vals :: G) ∧ ρ' = [.un, .val (.r (.ref p)), .val (.d (.list (as.map .str))), .val (.d (wD w)), .val (.d (wD x6)), .val (.d (wD x7)), s6, .val (.d (wD xf)), .val (.d (.int i)), s9, .val (.d (.list (ms.map .int))), .val (.r (.ref l)), .val (.r (.ref d)), s13, s14, s15]) ?_ ?_
      · refine zs_asg (ze_old fun c3 le3 hs3 => ?_)
        have hl := hs3.get (n := 2) rfl
        walk_at "py"
        have hm : (i : Int).fmod 2 = 0 ∨ (i : Int).fmod 2 = 1 := by
          rw [Int.fmod_eq_emod_of_nonneg _ (by decide)]; omega
        rcases hm with e | e
        · rw [e]
          rcases hv with rfl | rfl
          · exact rv_ixAtV hl rfl ⟨d, d', r, r', _, .inl rfl, ⟨⟨hr, nd⟩, hr', nd'⟩, .refl _, rfl⟩
          · exact rv_ixAtV hl rfl ⟨d', d, r', r, _, .inl rfl, ⟨⟨hr', nd'⟩, hr, nd⟩, .swap _ _ _, rfl⟩
        · rw [e]
          rcases hv with rfl | rfl
          · exact rv_ixAtV hl rfl ⟨d', d, r', r, _, .inr rfl, ⟨⟨hr', nd'⟩, hr, nd⟩, .swap _ _ _, rfl⟩
          · exact rv_ixAtV hl rfl ⟨d, d', r, r', _, .inr rfl, ⟨⟨hr, nd⟩, hr', nd'⟩, .refl _, rfl⟩
      clear hv hr nd hr' nd'
      rintro _ _ ⟨d, d', r, r', vals, hv, ⟨⟨hr, nd⟩, hr', nd'⟩, pm, rfl⟩
      refine zs_perm pm ?_
      refine zs_cut (fun O' ρ' => ∃ y : Wi, (WiOk y ∧ wdep y ≤ 6) ∧ O' = DkO d (dk r) :: DkO d' (dk r') :: LsvO l vals :: G ∧ ρ' = [.un, .val (.r (.ref p)), .val (.d (.list (as.map .str))), .val (.d (wD w)), .val (.d (wD x6)), .val (.d (wD x7)), s6, .val (.d (wD xf)), .val (.d (.int i)), s9, .val (.d (.list (ms.map .int))), .val (.r (.ref l)), .val (.r (.ref d)), .val (.d (wD y)), s14, s15]) ?_ ?_
      · refine zs_asg (ze_old fun c3 le3 hs3 => ?_)
        walk_at "py"
        have hm : ((i : Int).fdiv 2).fmod 2 = 0 ∨ ((i : Int).fdiv 2).fmod 2 = 1 := by
          rw [Int.fmod_eq_emod_of_nonneg _ (by decide)]; omega
        rcases hm with e | e
        · rw [e]
          exact rv_ixL rfl ⟨w, ⟨wo, wd⟩, rfl, rfl⟩
        · rw [e]
          exact rv_ixL rfl ⟨x6, ⟨xo, by omega⟩, rfl, rfl⟩
      rintro _ _ ⟨y, ⟨yo, yd⟩, rfl, rfl⟩
      refine zs_seq (zs_asg (ze_dictK (za_cons (ze_var rfl (za_nil ⟨d, 0, dk r, rfl, rfl, fun p2 => ?_⟩)))))
      refine zs_seq (zs_asg (ze_callZ (za_cons (ze_var rfl (za_cons (ze_var rfl (za_nil ⟨[DkO d (dk r)], DkO d' (dk r') :: LsvO l vals :: (G ++ [DkO p2 (dk r)]), .refl _, fun c' le _ => call_holds yd yo (by omega) ?_⟩)))))))
      show Zs c (DkO d (dk r) :: DkO d' (dk r') :: LsvO l vals :: (G ++ [DkO p2 (dk r)])) _ [.un, .val (.r (.ref p)), .val (.d (.list (as.map .str))), .val (.d (wD w)), .val (.d (wD x6)), .val (.d (wD x7)), s6, .val (.d (wD xf)), .val (.d (.int i)), s9, .val (.d (.list (ms.map .int))), .val (.r (.ref l)), .val (.r (.ref d)), .val (.d (wD y)), .val (.r (.ref p2)), .val (.d (.bool (holdsW r y)))] _
      refine zs_seq (zs_if (zt_or (zt_old fun c3 le3 hs3 => ?_)))
      walk_at "py"
      refine zt_or (zt_test (ze_op (ze_var rfl (ze_callZ (za_cons (ze_var rfl (za_cons (ze_var rfl (za_nil ⟨[DkO p2 (dk r)], DkO d (dk r) :: DkO d' (dk r') :: LsvO l vals :: G, List.perm_append_comm (l₁ := DkO d (dk r) :: DkO d' (dk r') :: LsvO l vals :: G), fun c' le _ => call__law_holds (n := 7) (by omega) (by omega) fun c4 le4 hs4 => ?_⟩)))))))))
      refine rv_neB ⟨_, rfl, fun _ => ?_, fun h => ?_⟩
      · refine zt_test (ze_op (ze_var rfl (ze_var rfl fun c4 le4 hs4 => rv_neDk (hs4.get (n := 1) rfl) (hs4.get (n := 0) rfl) (int_dk r) (nod_dk nd) ⟨false, rfl, ⟨fun h => Bool.noConfusion h, fun _ => zs_next ?_⟩⟩)))
        refine zs_perm (O' := DkO d (dk r) :: DkO d' (dk r') :: LsvO l vals :: DkO p2 (dk r) :: G) (.trans (.swap _ _ _) (.cons _ (.trans (.swap _ _ _) (.cons _ (.swap _ _ _))))) ?_
        refine zs_dputK (ze_old fun c4 le4 hs4 => ?_)
        have HI4 := HI.le le4
        walk_at "py"
        rename_i v v0 v1
        refine ze_var rfl (ze_old fun c5 le5 hs5 => ?_)
        have HI5 := HI.le le5
        walk_at "py"
        rename_i u u0 u1
        obtain ⟨a, ha, e⟩ := at_strs (ns := as) u0 (by omega)
        refine rv_ixL e ?_
        refine ⟨d, 0, dk r, .inr a, .int (v - 2), rfl, rfl, rfl, rfl, by rw [len_dk]; omega, ?_⟩
        rw [put_dk]
        have lp := len_put r a (v - 2)
        exact ⟨d, d', _, r', vals, _, _, _, _, _, _, hv, ⟨⟨by omega, nod_put nd⟩, by omega, nd'⟩, ⟨rfl, rfl, rfl, rfl, rfl⟩, rfl, rfl⟩
      · simp at h
    · rintro O' ρ' _
      trivial
  rintro O' ρ' _
  refine zs_ret (ze_old fun c1 le1 hs1 => ?_)
  walk_at "py"
  rfl

end
end My
namespace My
open PySem hiding start
open L2 Py PySem.Spec PyProof.Rows
open Evl (Ex)
theorem all_mk {l : PySem.W.OpenLaw} {w : World} {K : PySem.W.Frag} {h : Heap} {mg : Str → Option Value} {fa : Addr} {C_PlyError C_BadWish : Addr} {t_DEEPEST t_LETTERS t_LONGEST : Tok} (X : K.In h) (G : h.Ns mainGlobals mg) (hfa : mg "law" = some (.ref fa))
    (F_is_name : FnFacts K "is_name" s_is_name)
    (F_is_whole : FnFacts K "is_whole" s_is_whole)
    (F_is_wish_within : FnFacts K "is_wish_within" s_is_wish_within)
    (F_is_wish : FnFacts K "is_wish" s_is_wish)
    (F_holds_for : FnFacts K "holds_for" s_holds_for)
    (F_holds : FnFacts K "holds" s_holds)
    (F__law_hand : FnFacts K "_law_hand" s__law_hand)
    (F__law_next : FnFacts K "_law_next" s__law_next)
    (F__law_take : FnFacts K "_law_take" s__law_take)
    (F__law_draw : FnFacts K "_law_draw" s__law_draw)
    (F__law_name : FnFacts K "_law_name" s__law_name)
    (F__law_names : FnFacts K "_law_names" s__law_names)
    (F__law_number : FnFacts K "_law_number" s__law_number)
    (F__law_wish : FnFacts K "_law_wish" s__law_wish)
    (F__law_holds : FnFacts K "_law_holds" s__law_holds)
    (F__law_deep : FnFacts K "_law_deep" s__law_deep)
    (F__law_wrapped : FnFacts K "_law_wrapped" s__law_wrapped)
    (F__law_spoilt : FnFacts K "_law_spoilt" s__law_spoilt)
    (F__law_numbers_in : FnFacts K "_law_numbers_in" s__law_numbers_in)
    (F__law_rounds_for : FnFacts K "_law_rounds_for" s__law_rounds_for)
    (F_law : FnFacts K "law" s_law)
    (g_PlyError : PySem.W.nsIn K mainGlobals "PlyError" = some (some (.ref C_PlyError)))
    (g_BadWish : PySem.W.nsIn K mainGlobals "BadWish" = some (some (.ref C_BadWish)))
    (k_DEEPEST : PySem.W.nsIn K mainGlobals "DEEPEST" = some (some (.int 6 t_DEEPEST)))
    (k_LETTERS : PySem.W.nsIn K mainGlobals "LETTERS" = some (some (.str "abcdefghijklmnopqrstuvwxyz" t_LETTERS)))
    (k_LONGEST : PySem.W.nsIn K mainGlobals "LONGEST" = some (some (.int 8 t_LONGEST)))
    (b_abs : PySem.W.nsIn K mainGlobals "abs" = some none)
    (b_all : PySem.W.nsIn K mainGlobals "all" = some none)
    (b_bool : PySem.W.nsIn K mainGlobals "bool" = some none)
    (b_dict : PySem.W.nsIn K mainGlobals "dict" = some none)
    (b_int : PySem.W.nsIn K mainGlobals "int" = some none)
    (b_isinstance : PySem.W.nsIn K mainGlobals "isinstance" = some none)
    (b_len : PySem.W.nsIn K mainGlobals "len" = some none)
    (b_list : PySem.W.nsIn K mainGlobals "list" = some none)
    (b_max : PySem.W.nsIn K mainGlobals "max" = some none)
    (b_range : PySem.W.nsIn K mainGlobals "range" = some none)
    (b_str : PySem.W.nsIn K mainGlobals "str" = some none)
    (b_tuple : PySem.W.nsIn K mainGlobals "tuple" = some none)
    (x_BadWish : PySem.W.excIn K C_BadWish [.type "ValueError", .type "Exception", .type "BaseException", .type "object"] "ValueError.__new__" = true)
    (kp_BadWish : PySem.W.keepIn K (.ref C_BadWish) = true)
    (eb_BadWish : PySem.W.subIn K (.ref C_BadWish) (.type "BaseException") = some true)
    (et_BadWish : PySem.W.typeIn K (.ref C_BadWish) = some (.type "type"))
    : ∃ fd : FuncData, (∀ (s : Shared) (v : Value), BindsTo s fd ⟨[v], []⟩ [("_law_script", v)]) ∧ ∀ base : Heap, K.In base → base.Ns mainGlobals mg → FnOk l.prog w K mg base CX0 12 fa fd ["_law_script"] (spLaw K) := by
  have T : Txt K mg ⟨(), C_PlyError, C_BadWish, t_DEEPEST, t_LETTERS, t_LONGEST⟩ := { g_PlyError := PySem.W.mg_of X G g_PlyError, g_BadWish := PySem.W.mg_of X G g_BadWish, k_DEEPEST := PySem.W.mg_of X G k_DEEPEST, k_LETTERS := PySem.W.mg_of X G k_LETTERS, k_LONGEST := PySem.W.mg_of X G k_LONGEST, b_abs := PySem.W.mg_none_of X G b_abs, b_all := PySem.W.mg_none_of X G b_all, b_bool := PySem.W.mg_none_of X G b_bool, b_dict := PySem.W.mg_none_of X G b_dict, b_int := PySem.W.mg_none_of X G b_int, b_isinstance := PySem.W.mg_none_of X G b_isinstance, b_len := PySem.W.mg_none_of X G b_len, b_list := PySem.W.mg_none_of X G b_list, b_max := PySem.W.mg_none_of X G b_max, b_range := PySem.W.mg_none_of X G b_range, b_str := PySem.W.mg_none_of X G b_str, b_tuple := PySem.W.mg_none_of X G b_tuple, x_BadWish := x_BadWish, kp_BadWish := kp_BadWish, eb_BadWish := eb_BadWish, et_BadWish := et_BadWish }
  obtain ⟨f, oc, od, sl, kV, dc, pm, an, cd, ct, a, l0, c, k⟩ := F_law
  have e := hfa.symm.trans (PySem.W.mg_of X G a)
  cases e
  refine ⟨PySem.W.fnOf "law" "law" (defArgs s_law) (defBody s_law) (defScope s_law) .none kV dc pm an cd ct, fun s v => .of_eq rfl, fun base _ _ => ?_⟩
  have d__law_hand := ok__law_hand (P := l.prog) (w := w) (base := base) T  (F__law_hand.raw X G)
  have d__law_next := ok__law_next (P := l.prog) (w := w) (base := base) T  (F__law_next.raw X G)
  have d__law_take := ok__law_take (P := l.prog) (w := w) (base := base) T d__law_next (F__law_take.raw X G)
  have d__law_draw := ok__law_draw (P := l.prog) (w := w) (base := base) T d__law_next d__law_take (F__law_draw.raw X G)
  have d__law_name := ok__law_name (P := l.prog) (w := w) (base := base) T d__law_draw (F__law_name.raw X G)
  have d__law_names := ok__law_names (P := l.prog) (w := w) (base := base) T d__law_name (F__law_names.raw X G)
  have d__law_number := ok__law_number (P := l.prog) (w := w) (base := base) T d__law_draw (F__law_number.raw X G)
  have d__law_wish := ok__law_wish (P := l.prog) (w := w) (base := base) T d__law_draw d__law_number (F__law_wish.raw X G)
  have d__law_deep := ok__law_deep (P := l.prog) (w := w) (base := base) T  (F__law_deep.raw X G)
  have d__law_wrapped := ok__law_wrapped (P := l.prog) (w := w) (base := base) T d__law_draw d__law_deep (F__law_wrapped.raw X G)
  have d__law_numbers_in := ok__law_numbers_in (P := l.prog) (w := w) (base := base) T  (F__law_numbers_in.raw X G)
  have d__law_spoilt := ok__law_spoilt (P := l.prog) (w := w) (base := base) T d__law_draw (F__law_spoilt.raw X G)
  have d__law_rounds_for := ok__law_rounds_for (P := l.prog) (w := w) (base := base) T d__law_draw d__law_number (F__law_rounds_for.raw X G)
  have d_holds_for := ok_holds_for (P := l.prog) (w := w) (base := base) T  (F_holds_for.raw X G)
  have d_is_name := ok_is_name (P := l.prog) (w := w) (base := base) T  (F_is_name.raw X G)
  have d_is_whole := ok_is_whole (P := l.prog) (w := w) (base := base) T  (F_is_whole.raw X G)
  have d_is_wish_within := ok_is_wish_within (P := l.prog) (w := w) (base := base) T d_is_name d_is_whole (F_is_wish_within.raw X G)
  have d_is_wish := ok_is_wish (P := l.prog) (w := w) (base := base) T d_is_wish_within (F_is_wish.raw X G)
  have d_holds := ok_holds (P := l.prog) (w := w) (base := base) T d_holds_for d_is_wish (F_holds.raw X G)
  have d__law_holds := ok__law_holds (P := l.prog) (w := w) (base := base) T  (F__law_holds.raw X G)
  exact ok_law T d__law_hand d__law_names d__law_wish d__law_wrapped d__law_numbers_in d__law_draw d__law_spoilt d__law_rounds_for d_holds d_is_wish d__law_holds _ _ (fun_mk (st := s_law) l0 c k)
theorem walk {l : PySem.W.OpenLaw} {q : Program} {loose : List Str} {XP : (Str → Option Value) → Heap → Prop} {YP : World → Heap → Prop} {d : DefRec} {K : Params → PySem.W.Frag} (hn : l.most = some 63) (hdf : d.params.defaults = [])
    (hY : ∀ (w : World) (h : Heap), YP w h → (K w.params).In h)
    (F : ∀ (w : World) (mg : Str → Option Value) (fa : Addr) (h : Heap), (K w.params).In h → h.Ns mainGlobals mg → mg d.name = some (.ref fa) →
      ∃ fd : FuncData, (∀ (s : Shared) (u : Value), BindsTo s fd ⟨[u], []⟩ [("_law_script", u)]) ∧ ∀ base : Heap, (K w.params).In base → base.Ns mainGlobals mg → FnOk l.prog w (K w.params) mg base CX0 12 fa fd ["_law_script"] (spLaw (K w.params))) :
    PySem.W.WalkO q loose XP YP l.row.toRowW d [] (fun f vs => PySem.call f vs) :=
  L2.walk_of (n := 63) (k := 12) (x := "_law_script") (CX := fun _ => CX0) (sp := fun w => spLaw (K w.params)) hn (by decide) hdf ⟨rfl, by decide, by decide⟩ hY F (fun _ _ a ns hl _ hS => ⟨a, ns, rfl, hS, hl, fun _ => rfl⟩) fun _ _ _ _ _ z => z
end My
open PySem PySem.W PyProof.Rows
set_option maxRecDepth 100000 in
set_option maxHeartbeats 0 in
theorem PySem.Challenge.cw_plymap_k71_what_is_a_wish_holds : PySem.Challenge.rw_plymap_k71_what_is_a_wish.Holds := by
  w_on; o_law; k_head; (case hw => w_witness2)
  k_fill
  refine My.walk (l := PySem.Challenge.rw_plymap_k71_what_is_a_wish) rfl rfl (fun w h Y => PySem.W.kIn_of Y) ?F
  case F =>
    intro w mg fa h KX G hmg
    refine' My.all_mk KX G hmg ?F_is_name ?F_is_whole ?F_is_wish_within ?F_is_wish ?F_holds_for ?F_holds ?F__law_hand ?F__law_next ?F__law_take ?F__law_draw ?F__law_name ?F__law_names ?F__law_number ?F__law_wish ?F__law_holds ?F__law_deep ?F__law_wrapped ?F__law_spoilt ?F__law_numbers_in ?F__law_rounds_for ?F_law ?g_PlyError ?g_BadWish ?k_DEEPEST ?k_LETTERS ?k_LONGEST ?b_abs ?b_all ?b_bool ?b_dict ?b_int ?b_isinstance ?b_len ?b_list ?b_max ?b_range ?b_str ?b_tuple ?x_BadWish ?kp_BadWish ?eb_BadWish ?et_BadWish
    (case g_PlyError => k_is)
    (case g_BadWish => k_is)
    (case k_DEEPEST => k_is)
    (case k_LETTERS => k_is)
    (case k_LONGEST => k_is)
    (case F_is_name => (refine' Py.fnf_mk ?a ?l ?c ?k; (case a => k_is); (case l => k_is); (case c => k_is); (case k => k_is)))
    (case F_is_whole => (refine' Py.fnf_mk ?a ?l ?c ?k; (case a => k_is); (case l => k_is); (case c => k_is); (case k => k_is)))
    (case F_is_wish_within => (refine' Py.fnf_mk ?a ?l ?c ?k; (case a => k_is); (case l => k_is); (case c => k_is); (case k => k_is)))
    (case F_is_wish => (refine' Py.fnf_mk ?a ?l ?c ?k; (case a => k_is); (case l => k_is); (case c => k_is); (case k => k_is)))
    (case F_holds_for => (refine' Py.fnf_mk ?a ?l ?c ?k; (case a => k_is); (case l => k_is); (case c => k_is); (case k => k_is)))
    (case F_holds => (refine' Py.fnf_mk ?a ?l ?c ?k; (case a => k_is); (case l => k_is); (case c => k_is); (case k => k_is)))
    (case F__law_hand => (refine' Py.fnf_mk ?a ?l ?c ?k; (case a => k_is); (case l => k_is); (case c => k_is); (case k => k_is)))
    (case F__law_next => (refine' Py.fnf_mk ?a ?l ?c ?k; (case a => k_is); (case l => k_is); (case c => k_is); (case k => k_is)))
    (case F__law_take => (refine' Py.fnf_mk ?a ?l ?c ?k; (case a => k_is); (case l => k_is); (case c => k_is); (case k => k_is)))
    (case F__law_draw => (refine' Py.fnf_mk ?a ?l ?c ?k; (case a => k_is); (case l => k_is); (case c => k_is); (case k => k_is)))
    (case F__law_name => (refine' Py.fnf_mk ?a ?l ?c ?k; (case a => k_is); (case l => k_is); (case c => k_is); (case k => k_is)))
    (case F__law_names => (refine' Py.fnf_mk ?a ?l ?c ?k; (case a => k_is); (case l => k_is); (case c => k_is); (case k => k_is)))
    (case F__law_number => (refine' Py.fnf_mk ?a ?l ?c ?k; (case a => k_is); (case l => k_is); (case c => k_is); (case k => k_is)))
    (case F__law_wish => (refine' Py.fnf_mk ?a ?l ?c ?k; (case a => k_is); (case l => k_is); (case c => k_is); (case k => k_is)))
    (case F__law_holds => (refine' Py.fnf_mk ?a ?l ?c ?k; (case a => k_is); (case l => k_is); (case c => k_is); (case k => k_is)))
    (case F__law_deep => (refine' Py.fnf_mk ?a ?l ?c ?k; (case a => k_is); (case l => k_is); (case c => k_is); (case k => k_is)))
    (case F__law_wrapped => (refine' Py.fnf_mk ?a ?l ?c ?k; (case a => k_is); (case l => k_is); (case c => k_is); (case k => k_is)))
    (case F__law_spoilt => (refine' Py.fnf_mk ?a ?l ?c ?k; (case a => k_is); (case l => k_is); (case c => k_is); (case k => k_is)))
    (case F__law_numbers_in => (refine' Py.fnf_mk ?a ?l ?c ?k; (case a => k_is); (case l => k_is); (case c => k_is); (case k => k_is)))
    (case F__law_rounds_for => (refine' Py.fnf_mk ?a ?l ?c ?k; (case a => k_is); (case l => k_is); (case c => k_is); (case k => k_is)))
    (case F_law => (refine' Py.fnf_mk ?a ?l ?c ?k; (case a => k_is); (case l => k_is); (case c => k_is); (case k => k_is)))
    (case b_abs => first | k_is | k_exc | rfl)
    (case b_all => first | k_is | k_exc | rfl)
    (case b_bool => first | k_is | k_exc | rfl)
    (case b_dict => first | k_is | k_exc | rfl)
    (case b_int => first | k_is | k_exc | rfl)
    (case b_isinstance => first | k_is | k_exc | rfl)
    (case b_len => first | k_is | k_exc | rfl)
    (case b_list => first | k_is | k_exc | rfl)
    (case b_max => first | k_is | k_exc | rfl)
    (case b_range => first | k_is | k_exc | rfl)
    (case b_str => first | k_is | k_exc | rfl)
    (case b_tuple => first | k_is | k_exc | rfl)
    (case x_BadWish => first | k_is | k_exc | rfl)
    (case kp_BadWish => first | k_is | k_exc | rfl)
    (case eb_BadWish => first | k_is | k_exc | rfl)
    (case et_BadWish => first | k_is | k_exc | rfl)
