import PyProof.Rows.All
import Wide.All
import OpenK.AllK
import Wide.FinOn
import HandS.ForMost
import HandS.Walk
import HandS.Flow
import HandS.IsInst
import HandS.Conv
import HandS.Zip
import HandS.Rev
import HandS.TupAny
import HandS.SortInts
import HandS.SetFor
import HandS.Style
import HandS.Wide
import HandS.Defaults
import HandS.Head0
import HandS.Head1
import HandS.Head2
import HandS.HeadEnd
import HandS.HeadHook1
import HandS.HeadHook2
import HandS.TupLe
import HandS.RevTup
import HandS.TupMul
import HandS.Dict
import HandS.More
import HandS.TryOnly
import KE.GoesNew
import KE.DataMinMax
import KE.SortData
import PyProof.Claim2Refuses
import HandS.Text
import HandS.List
import PyProof.Rows.SortStr
import PyProof.Rows.SortShellK
import PySem.Challenge.RW_stationdues_k07_faults_of_rules
set_option Elab.async false
set_option linter.all false
set_option maxRecDepth 100000
set_option maxHeartbeats 4000000
/-! Zd1: the data layer, its core: frozen data, a table of owned objects, the relations. -/
namespace Zd
open PySem L2

abbrev D := PyData
/- frozen data: what stands for d (lists tracked; tuples tracked or written) -/
mutual
inductive Rp (K : PySem.W.Frag) (H : Hp) : V → D → Prop
  | non : Rp K H .non .none
  | bl (b : Bool) : Rp K H (.bl b) (.bool b)
  | int (i : Int) : Rp K H (.int i) (.int i)
  | str (x : Str) : Rp K H (.str x) (.str x)
  | lst {a : Addr} {xs : List V} {ds : List D} : H a = some (.lst xs) → RpAll K H xs ds → Rp K H (.ref a) (.list ds)
  | tup {a : Addr} {xs : List V} {ds : List D} : SqT K H a xs → RpAll K H xs ds → Rp K H (.ref a) (.tuple ds)
inductive RpAll (K : PySem.W.Frag) (H : Hp) : List V → List D → Prop
  | nil : RpAll K H [] []
  | cons {v : V} {vs : List V} {d : D} {ds : List D} : Rp K H v d → RpAll K H vs ds → RpAll K H (v :: vs) (d :: ds)
end
mutual
theorem Rp.dp {K : PySem.W.Frag} {H : Hp} : ∀ (d : D) (v : V), Rp K H v d → Dp K H v d
  | .none, _, h => by cases h; exact .non
  | .bool b, _, h => by cases h; exact .bl b
  | .int i, _, h => by cases h; exact .int i
  | .str x, _, h => by cases h; exact .str x
  | .list ds, _, h => by cases h with | lst hs ha => exact .lst (SqL.of hs) (RpAll.dp ds _ ha)
  | .tuple ds, _, h => by cases h with | tup hs ha => exact .tup hs (RpAll.dp ds _ ha)
  | .dict _, _, h => by cases h
theorem RpAll.dp {K : PySem.W.Frag} {H : Hp} : ∀ (ds : List D) (vs : List V), RpAll K H vs ds → DpAll K H vs ds
  | [], _, h => by cases h; exact .nil
  | d :: ds, _, h => by cases h with | cons h1 h2 => exact .cons (Rp.dp d _ h1) (RpAll.dp ds _ h2)
end
/-- a cell: frozen data, or the place of an owned object in the table -/
inductive C where
  | fr (d : D) | hd (i : Nat) | sc (ns : List Int) | fn (x : Str)
/-- an owned object: a list of cells, frozen data, an instance -/
inductive MO where
  | lst (cs : List C)
  | frz (d : D)
  | ins (cl : Str) (fs : List (Str × C))
  | dk (kvs : List (Key × C))
abbrev Ts := List MO
abbrev Sl := List (Option C)

def C.refs : C → List Nat
  | .fr _ => []
  | .hd i => [i]
  | .sc _ => []
  | .fn _ => []
def MO.refs : MO → List Nat
  | .lst cs => cs.flatMap C.refs
  | .frz _ => []
  | .ins _ fs => fs.flatMap fun p => p.2.refs
  | .dk kvs => kvs.flatMap fun p => p.2.refs
/-- the table's references stay within it -/
def Cl (own : Ts) : Prop := ∀ m ∈ own, ∀ j ∈ m.refs, j < own.length

section
variable (K : PySem.W.Frag)
def Cr (θ : List Addr) (F : Hp) (v : V) : C → Prop
  | .fr d => Rp K F v d
  | .hd i => ∃ a, θ[i]? = some a ∧ v = .ref a
  | .sc ns => ∃ a, v = .ref a ∧ SqL K F a (ns.map V.int)
  | .fn x => v = .ref (He.ga K x)
def Mo (θ : List Addr) (F H : Hp) (a : Addr) : MO → Prop
  | .lst cs => F a = none ∧ ∃ vs, H a = some (.lst vs) ∧ Paired (Cr K θ F) vs cs
  | .frz d => (∃ o, F a = some o) ∧ Rp K F (.ref a) d
  | .ins c fs => F a = none ∧ ∃ dx vs, H a = some (.ins (He.ga K c) dx vs) ∧ Paired (fun (p : Str × V) (q : Str × C) => p.1 = q.1 ∧ Cr K θ F p.2 q.2) vs fs
  | .dk kvs => F a = none ∧ ∃ vs, H a = some (.dK vs) ∧ Paired (fun (p : Key × V) (q : Key × C) => p.1 = q.1 ∧ Cr K θ F p.2 q.2) vs kvs
/-- the table own stands at θ in H, beside the frozen F; B is another's -/
structure Ga (B : Addr → Prop) (θ : List Addr) (own : Ts) (F H : Hp) : Prop where
  len : θ.length = own.length
  nd : θ.Nodup
  ex : Same F H
  out : ∀ b, B b → F b = none ∧ H b ≠ none ∧ b ∉ θ
  mo : ∀ (i : Nat) a m, θ[i]? = some a → own[i]? = some m → Mo K θ F H a m
  cl : Cl own
def SlR (θ : List Addr) (F : Hp) (σ : St) (ss : Sl) : Prop :=
  σ.length = ss.length ∧ ∀ (i : Nat) c, ss[i]? = some (some c) → ∃ v, σ[i]? = some (some v) ∧ Cr K θ F v c
end
/-- from one state to a later one -/
structure Tr (B : Addr → Prop) (θ : List Addr) (F H : Hp) (θ' : List Addr) (F' H' : Hp) : Prop where
  th : ∃ r, θ' = θ ++ r
  ex : Same F F'
  fr : ∀ b, B b → H' b = H b
theorem Tr.refl {B : Addr → Prop} {θ : List Addr} {F H : Hp} : Tr B θ F H θ F H := ⟨⟨[], (List.append_nil _).symm⟩, Same.refl _, fun _ _ => rfl⟩
theorem Tr.trans {B : Addr → Prop} {θ θ1 θ2 : List Addr} {F F1 F2 H H1 H2 : Hp} (a : Tr B θ F H θ1 F1 H1) (b : Tr B θ1 F1 H1 θ2 F2 H2) : Tr B θ F H θ2 F2 H2 := by
  obtain ⟨r, rfl⟩ := a.th
  obtain ⟨r', rfl⟩ := b.th
  exact ⟨⟨r ++ r', List.append_assoc _ _ _⟩, a.ex.trans b.ex, fun c h => (b.fr c h).trans (a.fr c h)⟩

section
variable {K : PySem.W.Frag} {B : Addr → Prop} {θ θ' : List Addr} {own : Ts} {F F' H H' : Hp} {v : V} {c : C} {σ : St} {ss : Sl}
theorem same_rd {a : Addr} {u : HO} (e : Same H H') (h : Rd H a u) : Rd H' a u := by
  rcases h with h | ⟨o, h⟩
  · exact Or.inl (e a _ h)
  · exact Or.inr ⟨o, e a _ h⟩
theorem same_l {a : Addr} {xs : List V} (e : Same H H') (h : SqL K H a xs) : SqL K H' a xs := e.seq h
theorem same_t {a : Addr} {xs : List V} (e : Same H H') (h : SqT K H a xs) : SqT K H' a xs := by
  rcases h with h | h
  · exact Or.inl (same_rd e h)
  · exact Or.inr h
mutual
theorem rp_mono (e : Same H H') : ∀ (d : D) (v : V), Rp K H v d → Rp K H' v d
  | .none, _, h => by cases h; exact .non
  | .bool b, _, h => by cases h; exact .bl b
  | .int i, _, h => by cases h; exact .int i
  | .str x, _, h => by cases h; exact .str x
  | .list ds, _, h => by cases h with | lst hs ha => exact .lst (e _ _ hs) (rpAll_mono e ds _ ha)
  | .tuple ds, _, h => by cases h with | tup hs ha => exact .tup (same_t e hs) (rpAll_mono e ds _ ha)
  | .dict _, _, h => by cases h
theorem rpAll_mono (e : Same H H') : ∀ (ds : List D) (vs : List V), RpAll K H vs ds → RpAll K H' vs ds
  | [], _, h => by cases h; exact .nil
  | d :: ds, _, h => by cases h with | cons h1 h2 => exact .cons (rp_mono e d _ h1) (rpAll_mono e ds _ h2)
end
theorem Cr.up (t : Tr B θ F H θ' F' H') (h : Cr K θ F v c) : Cr K θ' F' v c := by
  cases c with
  | fr d => exact rp_mono t.ex d v h
  | hd i =>
    obtain ⟨a, e, r⟩ := h
    obtain ⟨r', rfl⟩ := t.th
    exact ⟨a, by rw [List.getElem?_append_left (List.getElem?_eq_some_iff.mp e).1]; exact e, r⟩
  | sc ns =>
    obtain ⟨a, e, r⟩ := h
    exact ⟨a, e, same_l t.ex r⟩
  | fn x => exact h
theorem SlR.up (t : Tr B θ F H θ' F' H') (h : SlR K θ F σ ss) : SlR K θ' F' σ ss :=
  ⟨h.1, fun i c e => let ⟨v, e1, r⟩ := h.2 i c e; ⟨v, e1, r.up t⟩⟩
theorem paired_mono {α β : Type} {P Q : α → β → Prop} (h : ∀ a b, P a b → Q a b) : ∀ {xs : List α} {ys : List β}, Paired P xs ys → Paired Q xs ys
  | _, _, .nil => .nil
  | _, _, .cons r t => .cons (h _ _ r) (paired_mono h t)
theorem paired_getL {α β : Type} {P : α → β → Prop} : ∀ {xs : List α} {ys : List β} {i : Nat} {b : β}, Paired P xs ys → ys[i]? = some b → ∃ a, xs[i]? = some a ∧ P a b
  | _, _, _, _, .nil, e => by simp at e
  | _, _, 0, _, .cons r _, e => by simp at e; subst e; exact ⟨_, rfl, r⟩
  | _, _, i + 1, b, .cons _ t, e => by
    obtain ⟨a, h1, h2⟩ := paired_getL (i := i) (b := b) t (by simpa using e)
    exact ⟨a, by simpa using h1, h2⟩
theorem paired_len {α β : Type} {P : α → β → Prop} : ∀ {xs : List α} {ys : List β}, Paired P xs ys → xs.length = ys.length
  | _, _, .nil => rfl
  | _, _, .cons _ t => by simp [paired_len t]
theorem paired_app {α β : Type} {P : α → β → Prop} : ∀ {xs xs' : List α} {ys ys' : List β}, Paired P xs ys → Paired P xs' ys' → Paired P (xs ++ xs') (ys ++ ys')
  | _, _, _, _, .nil, h => h
  | _, _, _, _, .cons r t, h => .cons r (paired_app t h)
theorem paired_set {α β : Type} {P : α → β → Prop} {a : α} {b : β} (r : P a b) : ∀ {xs : List α} {ys : List β} (i : Nat), Paired P xs ys → Paired P (xs.set i a) (ys.set i b)
  | _, _, _, .nil => .nil
  | _, _, 0, .cons _ t => .cons r t
  | _, _, i + 1, .cons q t => .cons q (paired_set r i t)
theorem paired_take {α β : Type} {P : α → β → Prop} : ∀ {xs : List α} {ys : List β} (i : Nat), Paired P xs ys → Paired P (xs.take i) (ys.take i)
  | _, _, 0, _ => .nil
  | _, _, _ + 1, .nil => .nil
  | _, _, i + 1, .cons q t => .cons q (paired_take i t)
theorem paired_drop {α β : Type} {P : α → β → Prop} : ∀ {xs : List α} {ys : List β} (i : Nat), Paired P xs ys → Paired P (xs.drop i) (ys.drop i)
  | _, _, 0, h => h
  | _, _, _ + 1, .nil => .nil
  | _, _, i + 1, .cons q t => paired_drop i t
theorem paired_rpAll : ∀ {vs : List V} {ds : List D}, RpAll K F vs ds → Paired (Cr K θ F) vs (ds.map C.fr)
  | _, _, .nil => .nil
  | _, _, .cons h t => .cons h (paired_rpAll t)
theorem rpAll_paired : ∀ {vs : List V} {ds : List D}, Paired (Cr K θ F) vs (ds.map C.fr) → RpAll K F vs ds
  | _, [], .nil => .nil
  | _, _ :: _, .cons h t => .cons h (rpAll_paired t)
theorem rpAll_get : ∀ {vs : List V} {ds : List D} {i : Nat} {d : D}, RpAll K F vs ds → ds[i]? = some d → ∃ v, vs[i]? = some v ∧ Rp K F v d
  | _, _, _, _, .nil, e => by simp at e
  | _, _, 0, _, .cons r _, e => by simp at e; subst e; exact ⟨_, rfl, r⟩
  | _, _, i + 1, b, .cons _ t, e => by
    obtain ⟨a, h1, h2⟩ := rpAll_get (i := i) (d := b) t (by simpa using e)
    exact ⟨a, by simpa using h1, h2⟩
theorem rpAll_getV : ∀ {vs : List V} {ds : List D} {i : Nat} {v : V}, RpAll K F vs ds → vs[i]? = some v → ∃ d, ds[i]? = some d ∧ Rp K F v d
  | _, _, _, _, .nil, e => by simp at e
  | _, _, 0, _, .cons r _, e => by simp at e; subst e; exact ⟨_, rfl, r⟩
  | _, _, i + 1, b, .cons _ t, e => by
    obtain ⟨a, h1, h2⟩ := rpAll_getV (i := i) (v := b) t (by simpa using e)
    exact ⟨a, by simpa using h1, h2⟩
theorem rpAll_len : ∀ {vs : List V} {ds : List D}, RpAll K F vs ds → vs.length = ds.length
  | _, _, .nil => rfl
  | _, _, .cons _ t => by simp [rpAll_len t]
theorem rpAll_app : ∀ {vs ws : List V} {ds es : List D}, RpAll K F vs ds → RpAll K F ws es → RpAll K F (vs ++ ws) (ds ++ es)
  | _, _, _, _, .nil, h => h
  | _, _, _, _, .cons r t, h => .cons r (rpAll_app t h)
theorem rpAll_take : ∀ {vs : List V} {ds : List D} (n : Nat), RpAll K F vs ds → RpAll K F (vs.take n) (ds.take n)
  | _, _, 0, _ => .nil
  | _, _, _ + 1, .nil => .nil
  | _, _, n + 1, .cons r t => .cons r (rpAll_take n t)
theorem rpAll_drop : ∀ {vs : List V} {ds : List D} (n : Nat), RpAll K F vs ds → RpAll K F (vs.drop n) (ds.drop n)
  | _, _, 0, h => h
  | _, _, _ + 1, .nil => .nil
  | _, _, n + 1, .cons r t => rpAll_drop n t
theorem rpAll_cut {vs : List V} {ds : List D} (h : RpAll K F vs ds) (i j : Nat) : RpAll K F ((vs.drop i).take j) ((ds.drop i).take j) := rpAll_take j (rpAll_drop i h)

/-! ### the table's moves -/
theorem Mo.there {a : Addr} {m : MO} (h : Mo K θ F H a m) (ex : Same F H) : H a ≠ none := by
  intro z
  cases m with
  | lst cs => obtain ⟨_, vs, e, _⟩ := h; rw [z] at e; cases e
  | frz d => obtain ⟨⟨o, e⟩, _⟩ := h; have := ex _ _ e; rw [z] at this; cases this
  | ins c fs => obtain ⟨_, dx, vs, e, _⟩ := h; rw [z] at e; cases e
  | dk kvs => obtain ⟨_, vs, e, _⟩ := h; rw [z] at e; cases e
theorem Ga.there (g : Ga K B θ own F H) {i : Nat} {a : Addr} (h : θ[i]? = some a) : H a ≠ none := by
  have hi : i < own.length := by rw [← g.len]; exact (List.getElem?_eq_some_iff.mp h).1
  exact (g.mo i a own[i] h (List.getElem?_eq_getElem hi)).there g.ex
theorem Ga.fresh (g : Ga K B θ own F H) {p : Addr} (h : H p = none) : p ∉ θ ∧ F p = none ∧ ¬ B p := by
  refine ⟨fun hp => ?_, g.ex.free h, fun b => (g.out p b).2.1 h⟩
  obtain ⟨i, hi⟩ := List.getElem?_of_mem hp
  exact g.there hi h
theorem Mo.up {a : Addr} {m : MO} (h : Mo K θ F H a m) (t : Tr B θ F H θ' F' H') (k : F a = none → F' a = none ∧ H' a = H a) : Mo K θ' F' H' a m := by
  cases m with
  | lst cs =>
    obtain ⟨hn, vs, e, r⟩ := h
    exact ⟨(k hn).1, vs, by rw [(k hn).2]; exact e, paired_mono (fun _ _ z => z.up t) r⟩
  | frz d =>
    obtain ⟨⟨o, e⟩, r⟩ := h
    exact ⟨⟨o, t.ex _ _ e⟩, rp_mono t.ex d _ r⟩
  | ins c fs =>
    obtain ⟨hn, dx, vs, e, r⟩ := h
    exact ⟨(k hn).1, dx, vs, by rw [(k hn).2]; exact e, paired_mono (fun _ _ z => ⟨z.1, z.2.up t⟩) r⟩
  | dk kvs =>
    obtain ⟨hn, vs, e, r⟩ := h
    exact ⟨(k hn).1, vs, by rw [(k hn).2]; exact e, paired_mono (fun _ _ z => ⟨z.1, z.2.up t⟩) r⟩
/-- a new frozen object -/
theorem Ga.newF (g : Ga K B θ own F H) {p : Addr} {o : HO} (h : H p = none) : Ga K B θ own (upd F p o) (upd H p o) ∧ Tr B θ F H θ (upd F p o) (upd H p o) := by
  obtain ⟨h1, h2, h3⟩ := g.fresh h
  have t : Tr B θ F H θ (upd F p o) (upd H p o) := ⟨⟨[], (List.append_nil _).symm⟩, fun b u e => by rw [upd_ne (ne_of_none e h2)]; exact e, fun b hb => upd_ne fun z => h3 (z ▸ hb)⟩
  refine ⟨⟨g.len, g.nd, fun b u e => ?_, fun b hb => ?_, fun i a m e1 e2 => ?_, g.cl⟩, t⟩
  · by_cases z : b = p
    · subst z; rw [upd_same] at e ⊢; exact e
    · rw [upd_ne z] at e ⊢; exact g.ex b u e
  · have z : b ≠ p := fun z => h3 (z ▸ hb)
    rw [upd_ne z, upd_ne z]
    exact g.out b hb
  · have z : a ≠ p := fun z => h1 (z ▸ List.mem_of_getElem? e1)
    exact (g.mo i a m e1 e2).up t fun hn => ⟨by rw [upd_ne z]; exact hn, upd_ne z⟩
theorem get_app {α : Type} {xs : List α} {x : α} {i : Nat} {y : α} (h : (xs ++ [x])[i]? = some y) : (i < xs.length ∧ xs[i]? = some y) ∨ (i = xs.length ∧ y = x) := by
  by_cases hi : i < xs.length
  · rw [List.getElem?_append_left hi] at h
    exact .inl ⟨hi, h⟩
  · rw [List.getElem?_append_right (by omega)] at h
    have : i - xs.length = 0 := by
      have := (List.getElem?_eq_some_iff.mp h).1
      simp at this
      omega
    rw [this] at h
    exact .inr ⟨by omega, by simpa using h.symm⟩
theorem Cl.app {own : Ts} {m : MO} (h : Cl own) (hm : ∀ j ∈ m.refs, j < own.length + 1) : Cl (own ++ [m]) := fun x hx j hj => by
  rw [List.length_append]
  rcases List.mem_append.mp hx with hx | hx
  · exact Nat.lt_of_lt_of_le (h x hx j hj) (Nat.le_add_right _ _)
  · have e : x = m := by simpa using hx
    subst e
    exact hm j hj
theorem Cl.set {own : Ts} {m : MO} {i : Nat} (h : Cl own) (hm : ∀ j ∈ m.refs, j < own.length) : Cl (own.set i m) := fun x hx j hj => by
  rw [List.length_set]
  rcases List.mem_or_eq_of_mem_set hx with hx | rfl
  · exact h x hx j hj
  · exact hm j hj
theorem Cr.refs (h : Cr K θ F v c) : ∀ j ∈ c.refs, j < θ.length := fun j hj => by
  cases c with
  | fr d => cases hj
  | hd i =>
    obtain ⟨a, e, _⟩ := h
    have : j = i := by simpa [C.refs] using hj
    subst this
    exact (List.getElem?_eq_some_iff.mp e).1
  | sc ns => cases hj
  | fn x => cases hj
theorem refs_of {vs : List V} : ∀ {vs : List V} {cs : List C}, Paired (Cr K θ F) vs cs → ∀ j ∈ cs.flatMap C.refs, j < θ.length
  | _, _, .nil, j, hj => by cases hj
  | _, _, .cons r t, j, hj => by
    rw [List.flatMap_cons] at hj
    rcases List.mem_append.mp hj with hj | hj
    · exact r.refs j hj
    · exact refs_of (vs := vs) t j hj
theorem refs_of2 {κ : Type} : ∀ {vs : List (κ × V)} {cs : List (κ × C)}, Paired (fun (p : κ × V) (q : κ × C) => p.1 = q.1 ∧ Cr K θ F p.2 q.2) vs cs → ∀ j ∈ cs.flatMap (fun p => p.2.refs), j < θ.length
  | _, _, .nil, j, hj => by cases hj
  | _, _, .cons r t, j, hj => by
    rw [List.flatMap_cons] at hj
    rcases List.mem_append.mp hj with hj | hj
    · exact r.2.refs j hj
    · exact refs_of2 t j hj
theorem Mo.refs {a : Addr} {m : MO} (h : Mo K θ F H a m) : ∀ j ∈ m.refs, j < θ.length := by
  cases m with
  | lst cs => obtain ⟨_, vs, _, r⟩ := h; exact refs_of (vs := vs) r
  | frz d => intro j hj; cases hj
  | ins c fs => obtain ⟨_, dx, vs, _, r⟩ := h; exact refs_of2 r
  | dk kvs => obtain ⟨_, vs, _, r⟩ := h; exact refs_of2 r
/-- a new owned object: o stands at p -/
theorem Ga.newH (g : Ga K B θ own F H) {p : Addr} {o : HO} {m : MO} (h : H p = none) (hm : F p = none → Mo K θ F (upd H p o) p m) (hd : ∀ d, m ≠ .frz d) :
    Ga K B (θ ++ [p]) (own ++ [m]) F (upd H p o) ∧ Tr B θ F H (θ ++ [p]) F (upd H p o) := by
  obtain ⟨h1, h2, h3⟩ := g.fresh h
  have t : Tr B θ F H (θ ++ [p]) F (upd H p o) := ⟨⟨[p], rfl⟩, Same.refl _, fun b hb => upd_ne fun z => h3 (z ▸ hb)⟩
  have t2 : Tr (fun _ => False) θ F (upd H p o) (θ ++ [p]) F (upd H p o) := ⟨⟨[p], rfl⟩, Same.refl _, fun b hb => rfl⟩
  refine ⟨⟨by simp [g.len], ?_, fun b u e => ?_, fun b hb => ?_, fun i a m' e1 e2 => ?_, g.cl.app fun j hj => ?_⟩, t⟩
  · rw [List.nodup_append]
    refine ⟨g.nd, by simp, fun a ha b hb => ?_⟩
    have : b = p := by simpa using hb
    subst this
    exact fun z => h1 (z ▸ ha)
  · rw [upd_ne (ne_of_none e h2)]; exact g.ex b u e
  · have z : b ≠ p := fun z => h3 (z ▸ hb)
    obtain ⟨q1, q2, q3⟩ := g.out b hb
    refine ⟨q1, by rw [upd_ne z]; exact q2, fun hm => ?_⟩
    rcases List.mem_append.mp hm with hm | hm
    · exact q3 hm
    · exact z (by simpa using hm)
  · rcases get_app e1 with ⟨hi, e1⟩ | ⟨hi, rfl⟩
    · rw [List.getElem?_append_left (by rw [← g.len]; exact hi)] at e2
      have z : a ≠ p := fun z => h1 (z ▸ List.mem_of_getElem? e1)
      exact (g.mo i a m' e1 e2).up t fun hn => ⟨hn, upd_ne z⟩
    · rw [hi, g.len, List.getElem?_append_right (Nat.le_refl _)] at e2
      have e3 : m = m' := by simpa using e2
      subst e3
      exact (hm h2).up t2 fun hn => ⟨hn, rfl⟩
  · have := (hm h2).refs j hj
    rw [← g.len]
    omega
/-- an owned object is written -/
theorem Ga.write (g : Ga K B θ own F H) {i : Nat} {a : Addr} {o : HO} {m : MO} (ha : θ[i]? = some a) (hn : F a = none) (hm : Mo K θ F (upd H a o) a m) :
    Ga K B θ (own.set i m) F (upd H a o) ∧ Tr B θ F H θ F (upd H a o) := by
  have hB : ¬ B a := fun hb => (g.out a hb).2.2 (List.mem_of_getElem? ha)
  have t : Tr B θ F H θ F (upd H a o) := ⟨⟨[], (List.append_nil _).symm⟩, Same.refl _, fun b hb => upd_ne fun z => hB (z ▸ hb)⟩
  refine ⟨⟨by simp [g.len], g.nd, fun b u e => ?_, fun b hb => ?_, fun j b m' e1 e2 => ?_, g.cl.set fun j hj => ?_⟩, t⟩
  · rw [upd_ne (ne_of_none e hn)]; exact g.ex b u e
  · have z : b ≠ a := fun z => hB (z ▸ hb)
    obtain ⟨q1, q2, q3⟩ := g.out b hb
    exact ⟨q1, by rw [upd_ne z]; exact q2, q3⟩
  · by_cases hj : j = i
    · subst hj
      rw [ha] at e1; cases e1
      have hi : j < own.length := by rw [← g.len]; exact (List.getElem?_eq_some_iff.mp ha).1
      rw [List.getElem?_set_self hi] at e2
      cases e2
      exact hm
    · rw [List.getElem?_set_ne (Ne.symm hj)] at e2
      have z : b ≠ a := fun z => by
        subst z
        have h1 := List.getElem?_eq_some_iff.mp e1
        have h2 := List.getElem?_eq_some_iff.mp ha
        exact hj ((List.getElem_inj g.nd).mp (h1.2.trans h2.2.symm))
      exact (g.mo j b m' e1 e2).up t fun hn => ⟨hn, upd_ne z⟩
  · have := hm.refs j hj
    rw [← g.len]
    exact this
/-- an owned list of frozen data becomes frozen -/
theorem Ga.freeze (g : Ga K B θ own F H) {i : Nat} {a : Addr} {ds : List D} (ha : θ[i]? = some a) (hm : own[i]? = some (.lst (ds.map C.fr))) :
    ∃ F', Ga K B θ (own.set i (.frz (.list ds))) F' H ∧ Tr B θ F H θ F' H ∧ Rp K F' (.ref a) (.list ds) := by
  obtain ⟨hn, vs, e, r⟩ := g.mo i a _ ha hm
  have hB : ¬ B a := fun hb => (g.out a hb).2.2 (List.mem_of_getElem? ha)
  have sF : Same F (upd F a (.lst vs)) := fun b u q => by rw [upd_ne (ne_of_none q hn)]; exact q
  have t : Tr B θ F H θ (upd F a (.lst vs)) H := ⟨⟨[], (List.append_nil _).symm⟩, sF, fun b hb => rfl⟩
  have hd : Rp K (upd F a (.lst vs)) (.ref a) (.list ds) := .lst upd_same (rpAll_mono sF ds vs (rpAll_paired r))
  refine ⟨upd F a (.lst vs), ⟨by simp [g.len], g.nd, fun b u q => ?_, fun b hb => ?_, fun j b m' e1 e2 => ?_, g.cl.set fun j hj => by cases hj⟩, t, hd⟩
  · by_cases z : b = a
    · subst z; rw [upd_same] at q; cases q; exact e
    · rw [upd_ne z] at q; exact g.ex b u q
  · have z : b ≠ a := fun z => hB (z ▸ hb)
    obtain ⟨q1, q2, q3⟩ := g.out b hb
    exact ⟨by rw [upd_ne z]; exact q1, q2, q3⟩
  · by_cases hj : j = i
    · subst hj
      rw [ha] at e1; cases e1
      have hi : j < own.length := by rw [← g.len]; exact (List.getElem?_eq_some_iff.mp ha).1
      rw [List.getElem?_set_self hi] at e2
      cases e2
      exact ⟨⟨_, upd_same⟩, hd⟩
    · rw [List.getElem?_set_ne (Ne.symm hj)] at e2
      have z : b ≠ a := fun z => by
        subst z
        have h1 := List.getElem?_eq_some_iff.mp e1
        have h2 := List.getElem?_eq_some_iff.mp ha
        exact hj ((List.getElem_inj g.nd).mp (h1.2.trans h2.2.symm))
      exact (g.mo j b m' e1 e2).up t fun q => ⟨by rw [upd_ne z]; exact q, rfl⟩
/-- the table's tail is forgotten -/
theorem Ga.take (g : Ga K B θ own F H) {n : Nat} (hc : Cl (own.take n)) : Ga K B (θ.take n) (own.take n) F H := by
  refine ⟨by simp [g.len], g.nd.sublist (List.take_sublist _ _), g.ex, fun b hb => ?_, fun i a m e1 e2 => ?_, hc⟩
  · obtain ⟨q1, q2, q3⟩ := g.out b hb
    exact ⟨q1, q2, fun h => q3 (List.mem_of_mem_take h)⟩
  · have hi : i < n := by
      have := (List.getElem?_eq_some_iff.mp e1).1
      rw [List.length_take] at this
      omega
    rw [List.getElem?_take_of_lt hi] at e1 e2
    have h := g.mo i a m e1 e2
    have hr : ∀ j ∈ m.refs, j < n := fun j hj => by
      have := hc m (List.mem_of_getElem? (by rw [List.getElem?_take_of_lt hi]; exact e2)) j hj
      rw [List.length_take] at this
      omega
    have crt : ∀ (v : V) (c : C), (∀ j ∈ c.refs, j < n) → Cr K θ F v c → Cr K (θ.take n) F v c := fun v c hj h => by
      cases c with
      | fr d => exact h
      | hd k =>
        obtain ⟨b, e, r⟩ := h
        exact ⟨b, by rw [List.getElem?_take_of_lt (hj k (by simp [C.refs]))]; exact e, r⟩
      | sc ns => exact h
      | fn x => exact h
    have pl : ∀ {vs : List V} {cs : List C}, (∀ j ∈ cs.flatMap C.refs, j < n) → Paired (Cr K θ F) vs cs → Paired (Cr K (θ.take n) F) vs cs := by
      intro vs cs hj r
      induction r with
      | nil => exact .nil
      | cons r t ih => exact .cons (crt _ _ (fun j q => hj j (by rw [List.flatMap_cons]; exact List.mem_append_left _ q)) r) (ih fun j q => hj j (by rw [List.flatMap_cons]; exact List.mem_append_right _ q))
    have pl2 : ∀ {κ : Type} {vs : List (κ × V)} {cs : List (κ × C)}, (∀ j ∈ cs.flatMap (fun p => p.2.refs), j < n) → Paired (fun (p : κ × V) (q : κ × C) => p.1 = q.1 ∧ Cr K θ F p.2 q.2) vs cs → Paired (fun (p : κ × V) (q : κ × C) => p.1 = q.1 ∧ Cr K (θ.take n) F p.2 q.2) vs cs := by
      intro κ vs cs hj r
      induction r with
      | nil => exact .nil
      | cons r t ih => exact .cons ⟨r.1, crt _ _ (fun j q => hj j (by rw [List.flatMap_cons]; exact List.mem_append_left _ q)) r.2⟩ (ih fun j q => hj j (by rw [List.flatMap_cons]; exact List.mem_append_right _ q))
    cases m with
    | lst cs => obtain ⟨hn, vs, e, r⟩ := h; exact ⟨hn, vs, e, pl hr r⟩
    | frz d => exact h
    | ins c fs => obtain ⟨hn, dx, vs, e, r⟩ := h; exact ⟨hn, dx, vs, e, pl2 hr r⟩
    | dk kvs => obtain ⟨hn, vs, e, r⟩ := h; exact ⟨hn, vs, e, pl2 hr r⟩
end
end Zd

/-! Zd2: what an expression gives, at the level of data. -/
namespace Zd
open PySem L2

abbrev KC := C → Ts → Prop
abbrev WE := Sl → Ts → KC → Prop
abbrev WT := Sl → Ts → (Bool → Ts → Prop) → Prop
abbrev WA := Sl → Ts → (List C → Ts → Prop) → Prop
abbrev F1 := C → Ts → KC → Prop
abbrev F2 := C → C → Ts → KC → Prop
abbrev FA := List C → Ts → KC → Prop

section
variable (K : PySem.W.Frag)
/-- behind: a later state, a value for the cell -/
def Bk (B : Addr → Prop) (θ : List Addr) (F H : Hp) (Q : KC) (Qv : VK) : Prop :=
  ∀ θ' own' F' H' v c, Ga K B θ' own' F' H' → Tr B θ F H θ' F' H' → Cr K θ' F' v c → Q c own' → Qv v H'
def BkT (B : Addr → Prop) (θ : List Addr) (F H : Hp) (Q : Bool → Ts → Prop) (Qv : Bool → Hp → Prop) : Prop :=
  ∀ θ' own' F' H' b, Ga K B θ' own' F' H' → Tr B θ F H θ' F' H' → Q b own' → Qv b H'
def BkA (B : Addr → Prop) (θ : List Addr) (F H : Hp) (Q : List C → Ts → Prop) (Qv : List V → Hp → Prop) : Prop :=
  ∀ θ' own' F' H' vs cs, Ga K B θ' own' F' H' → Tr B θ F H θ' F' H' → Paired (Cr K θ' F') vs cs → Q cs own' → Qv vs H'
def SE (t : TE) (w : WE) : Prop := ∀ ss own Q, w ss own Q → ∀ B θ F H σ, Ga K B θ own F H → SlR K θ F σ ss → ∀ Qv : VK, Bk K B θ F H Q Qv → t σ H Qv
def ST (t : TT) (w : WT) : Prop := ∀ ss own Q, w ss own Q → ∀ B θ F H σ, Ga K B θ own F H → SlR K θ F σ ss → ∀ Qv, BkT K B θ F H Q Qv → t σ H Qv
def SA (t : TA) (w : WA) : Prop := ∀ ss own Q, w ss own Q → ∀ B θ F H σ, Ga K B θ own F H → SlR K θ F σ ss → ∀ Qv, BkA K B θ F H Q Qv → t σ H Qv
def S1 (r : V → Hp → VK → Prop) (f : F1) : Prop := ∀ c own Q, f c own Q → ∀ B θ F H v, Ga K B θ own F H → Cr K θ F v c → ∀ Qv : VK, Bk K B θ F H Q Qv → r v H Qv
def S2 (r : R2) (f : F2) : Prop := ∀ c d own Q, f c d own Q → ∀ B θ F H v u, Ga K B θ own F H → Cr K θ F v c → Cr K θ F u d → ∀ Qv : VK, Bk K B θ F H Q Qv → r v u H Qv
def SN (r : List V → Hp → VK → Prop) (f : FA) : Prop := ∀ cs own Q, f cs own Q → ∀ B θ F H vs, Ga K B θ own F H → Paired (Cr K θ F) vs cs → ∀ Qv : VK, Bk K B θ F H Q Qv → r vs H Qv
end
structure AE (X : Cx) (e : Expr) (t : TE) (w : WE) : Prop where
  p : PE X e t
  s : SE X.K t w
structure AT (X : Cx) (e : Expr) (t : TT) (w : WT) : Prop where
  p : PT X e t
  s : ST X.K t w
structure AW (X : Cx) (e : Expr) (t : TT) (w : WT) : Prop where
  p : PW X e t
  s : ST X.K t w
structure AA (X : Cx) (es : List Expr) (t : TA) (w : WA) : Prop where
  p : PA X es t
  s : SA X.K t w
theorem AW.at {X : Cx} {e : Expr} {t : TT} {w : WT} (h : AW X e t w) : AT X e t w := ⟨h.p.pt, h.s⟩

section
variable {K : PySem.W.Frag} {B : Addr → Prop} {θ θ1 : List Addr} {own : Ts} {F F1 H H1 : Hp} {Q : KC} {Qv : VK}
theorem Bk.up (t : Tr B θ F H θ1 F1 H1) (h : Bk K B θ F H Q Qv) : Bk K B θ1 F1 H1 Q Qv := fun θ' own' F' H' v c g t' r q => h θ' own' F' H' v c g (t.trans t') r q
theorem BkT.up {Q : Bool → Ts → Prop} {Qv : Bool → Hp → Prop} (t : Tr B θ F H θ1 F1 H1) (h : BkT K B θ F H Q Qv) : BkT K B θ1 F1 H1 Q Qv := fun θ' own' F' H' v g t' q => h θ' own' F' H' v g (t.trans t') q
theorem BkA.up {Q : List C → Ts → Prop} {Qv : List V → Hp → Prop} (t : Tr B θ F H θ1 F1 H1) (h : BkA K B θ F H Q Qv) : BkA K B θ1 F1 H1 Q Qv := fun θ' own' F' H' v c g t' r q => h θ' own' F' H' v c g (t.trans t') r q
theorem Bk.here {v : V} {c : C} (h : Bk K B θ F H Q Qv) (g : Ga K B θ own F H) (r : Cr K θ F v c) (q : Q c own) : Qv v H := h θ own F H v c g Tr.refl r q
/-- a new frozen object as the answer -/
theorem Bk.new {p : Addr} {o : HO} {d : D} (h : Bk K B θ F H Q Qv) (g : Ga K B θ own F H) (hp : H p = none) (q : Q (.fr d) own) (r : ∀ F', Same F F' → F' p = some o → Rp K F' (.ref p) d) : Qv (.ref p) (upd H p o) := by
  obtain ⟨g1, t1⟩ := g.newF (o := o) hp
  exact h θ own _ _ _ (.fr d) g1 t1 (r _ t1.ex upd_same) q
theorem Bk.newH {p : Addr} {vs : List V} {cs : List C} (h : Bk K B θ F H Q Qv) (g : Ga K B θ own F H) (hp : H p = none) (r : Paired (Cr K θ F) vs cs) (q : Q (.hd own.length) (own ++ [.lst cs])) : Qv (.ref p) (upd H p (.lst vs)) := by
  obtain ⟨g1, t1⟩ := g.newH (o := .lst vs) (m := .lst cs) hp (fun hn => ⟨hn, vs, upd_same, r⟩) (fun d z => by cases z)
  refine h _ _ _ _ _ (.hd own.length) g1 t1 ⟨p, ?_, rfl⟩ q
  rw [← g.len, List.getElem?_append_right (Nat.le_refl _), Nat.sub_self]
  rfl
end

/-! ### names, constants -/
/-- what a cell is now -/
def res (own : Ts) : C → C
  | .hd h => match own[h]? with
    | some (.frz d) => .fr d
    | _ => .hd h
  | c => c
def frs : List C → Option (List D)
  | [] => some []
  | .fr d :: cs => (frs cs).map (d :: ·)
  | _ :: _ => none
theorem frs_map : ∀ (ds : List D), frs (ds.map C.fr) = some ds
  | [] => rfl
  | d :: ds => by rw [List.map_cons, frs, frs_map ds]; rfl
theorem of_frs : ∀ {cs : List C} {ds : List D}, frs cs = some ds → cs = ds.map C.fr
  | [], ds, h => by cases h; rfl
  | .fr d :: cs, ds, h => by
    rw [frs] at h
    cases e : frs cs with
    | none => rw [e] at h; cases h
    | some es => rw [e] at h; cases h; rw [List.map_cons, of_frs e]
  | .hd _ :: _, _, h => by cases h
  | .sc _ :: _, _, h => by cases h
def wVar (i : Nat) : WE := fun ss own Q => match ss[i]? with
  | some (some c) => Q (res own c) own
  | _ => False
/-- an owned list of data is read as a value: it is frozen -/
def frzC (own : Ts) (Q : KC) : C → Prop
  | .hd h => match own[h]? with
    | some (.lst cs) => (match frs cs with
      | some ds => Q (.fr (.list ds)) (own.set h (.frz (.list ds)))
      | none => Q (.hd h) own)
    | _ => Q (.hd h) own
  | c => Q c own
def wFrz (w : WE) : WE := fun ss own Q => w ss own fun c own1 => frzC own1 Q c
def wC (d : D) : WE := fun _ own Q => Q (.fr d) own
section
variable {K : PySem.W.Frag} {t : TE} {w : WE}
theorem Cr.res {B : Addr → Prop} {θ : List Addr} {own : Ts} {F H : Hp} {v : V} {c : C} (g : Ga K B θ own F H) (r : Cr K θ F v c) : Cr K θ F v (res own c) := by
  cases c with
  | fr d => exact r
  | sc ns => exact r
  | fn x => exact r
  | hd h =>
    cases e : own[h]? with
    | none => simp only [Zd.res, e]; exact r
    | some m =>
      cases m with
      | frz d =>
        simp only [Zd.res, e]
        obtain ⟨a, ha, rfl⟩ := r
        exact (g.mo h a _ ha e).2
      | _ => simp only [Zd.res, e]; exact r
theorem se_var {i : Nat} : SE K (tVar i) (wVar i) := by
  intro ss own Q h B θ F H σ g s Qv k
  unfold wVar at h
  cases e : ss[i]? with
  | none => rw [e] at h; exact h.elim
  | some o =>
    cases o with
    | none => rw [e] at h; exact h.elim
    | some c =>
      rw [e] at h
      obtain ⟨v, e1, r⟩ := s.2 i c e
      exact ⟨v, e1, k.here g (r.res g) h⟩
theorem se_c {v : V} {d : D} (hd : ∀ H, Rp K H v d) : SE K (tC v) (wC d) := fun ss own Q h B θ F H σ g s Qv k => k.here (c := .fr d) g (hd F) h
theorem se_frz (h : SE K t w) : SE K t (wFrz w) := by
  intro ss own Q hw B θ F H σ g s Qv k
  refine h ss own _ hw B θ F H σ g s Qv fun θ1 own1 F1 H1 v c g1 t1 r q => ?_
  cases c with
  | fr d => exact k _ _ _ _ _ _ g1 t1 r q
  | sc ns => exact k _ _ _ _ _ _ g1 t1 r q
  | fn x => exact k _ _ _ _ _ _ g1 t1 r q
  | hd i =>
    cases e : own1[i]? with
    | none => simp only [frzC, e] at q; exact k _ _ _ _ _ _ g1 t1 r q
    | some m =>
      cases m with
      | lst cs =>
        cases e2 : frs cs with
        | none => simp only [frzC, e, e2] at q; exact k _ _ _ _ _ _ g1 t1 r q
        | some ds =>
          simp only [frzC, e, e2] at q
          obtain ⟨a, ha, rfl⟩ := r
          obtain ⟨F2, g2, t2, r2⟩ := g1.freeze ha (by rw [e, of_frs e2])
          exact k _ _ _ _ _ (.fr (.list ds)) g2 (t1.trans t2) r2 q
      | _ => simp only [frzC, e] at q; exact k _ _ _ _ _ _ g1 t1 r q
end

/-! ### operators -/
def wOp (f : F2) (wa wb : WE) : WE := fun ss own Q => wa ss own fun c o1 => wb ss o1 fun d o2 => f c d o2 Q
def wUn (f : F1) (wa : WE) : WE := fun ss own Q => wa ss own fun c o1 => f c o1 Q
section
variable {K : PySem.W.Frag} {ta tb tc : TE} {wa wb wc : WE} {r r' : R2} {f f' : F2}
theorem se_op (ha : SE K ta wa) (hb : SE K tb wb) (hr : S2 K r f) : SE K (tOp r ta tb) (wOp f wa wb) := by
  intro ss own Q hw B θ F H σ g s Qv k
  refine ha ss own _ hw B θ F H σ g s _ fun θ1 own1 F1 H1 v c g1 t1 r1 q1 => ?_
  refine hb ss own1 _ q1 B θ1 F1 H1 σ g1 (s.up t1) _ fun θ2 own2 F2 H2 u d g2 t2 r2 q2 => ?_
  exact hr c d own2 Q q2 B θ2 F2 H2 v u g2 (r1.up t2) r2 Qv (k.up (t1.trans t2))
theorem se_un {r : V → Hp → VK → Prop} {f : F1} (ha : SE K ta wa) (hr : S1 K r f) : SE K (tUn r ta) (wUn f wa) := by
  intro ss own Q hw B θ F H σ g s Qv k
  refine ha ss own _ hw B θ F H σ g s _ fun θ1 own1 F1 H1 v c g1 t1 r1 q1 => ?_
  exact hr c own1 Q q1 B θ1 F1 H1 v g1 r1 Qv (k.up t1)
/-- ints -/
def fI (f : Int → Int → D) : F2 := fun c d own Q => match c, d with
  | .fr (.int i), .fr (.int j) => Q (.fr (f i j)) own
  | _, _ => False
def fIC (P : Int → Int → Prop) (f : Int → Int → D) : F2 := fun c d own Q => match c, d with
  | .fr (.int i), .fr (.int j) => P i j ∧ Q (.fr (f i j)) own
  | _, _ => False
theorem cr_int {θ : List Addr} {F : Hp} {v : V} {i : Int} (r : Cr K θ F v (.fr (.int i))) : v = .int i := by
  cases r with | int i => rfl
theorem cr_str {θ : List Addr} {F : Hp} {v : V} {i : Str} (r : Cr K θ F v (.fr (.str i))) : v = .str i := by
  cases r with | str i => rfl
theorem cr_bl {θ : List Addr} {F : Hp} {v : V} {i : Bool} (r : Cr K θ F v (.fr (.bool i))) : v = .bl i := by
  cases r with | bl i => rfl
theorem cr_tup {θ : List Addr} {F : Hp} {v : V} {ds : List D} (r : Cr K θ F v (.fr (.tuple ds))) : ∃ a xs, v = .ref a ∧ SqT K F a xs ∧ RpAll K F xs ds := by
  cases r with | tup h1 h2 => exact ⟨_, _, rfl, h1, h2⟩
theorem cr_lst {θ : List Addr} {F : Hp} {v : V} {ds : List D} (r : Cr K θ F v (.fr (.list ds))) : ∃ a xs, v = .ref a ∧ F a = some (.lst xs) ∧ RpAll K F xs ds := by
  cases r with | lst h1 h2 => exact ⟨_, _, rfl, h1, h2⟩
theorem s2_I0 {g : Int → Int → V} {f : Int → Int → D} (h : ∀ i j H, Rp K H (g i j) (f i j)) : S2 K (rI0 g) (fI f) := by
  intro c d own Q hq B θ F H v u gg r1 r2 Qv k
  unfold fI at hq
  split at hq
  · rename_i i j
    cases cr_int r1
    cases cr_int r2
    exact ⟨i, j, rfl, rfl, k.here (c := .fr (f i j)) gg (h i j F) hq⟩
  · exact hq.elim
theorem s2_I {P : Int → Int → Prop} {g : Int → Int → V} {f : Int → Int → D} (h : ∀ i j H, Rp K H (g i j) (f i j)) : S2 K (rI P g) (fIC P f) := by
  intro c d own Q hq B θ F H v u gg r1 r2 Qv k
  unfold fIC at hq
  split at hq
  · rename_i i j
    cases cr_int r1
    cases cr_int r2
    exact ⟨i, j, rfl, rfl, hq.1, k.here (c := .fr (f i j)) gg (h i j F) hq.2⟩
  · exact hq.elim
theorem s1_neg : S1 K (rU fun i => .int (-i)) (fun c own Q => match c with | .fr (.int i) => Q (.fr (.int (-i))) own | _ => False) := by
  intro c own Q hq B θ F H v gg r1 Qv k
  split at hq
  · rename_i i
    cases cr_int r1
    exact ⟨i, rfl, k.here (c := .fr (.int (-i))) gg (.int _) hq⟩
  · exact hq.elim
end
/-- the sizes that sequences may have -/
abbrev SZ : Nat := 16777216
theorem szl {n : Nat} (h : n ≤ SZ) : n ≤ sizeLine := by rw [sizeLine_eq]; exact h
theorem szlt {n : Nat} (h : n < SZ) : n < sizeLine := by rw [sizeLine_eq]; exact h
/-- + : ints, texts, tuples, lists -/
def fAdd : F2 := fun c d own Q => match c, d with
  | .fr (.int i), .fr (.int j) => Q (.fr (.int (i + j))) own
  | .fr (.str x), .fr (.str y) => x.length + y.length ≤ SZ ∧ Q (.fr (.str (x ++ y))) own
  | .fr (.tuple x), .fr (.tuple y) => x.length + y.length ≤ SZ ∧ Q (.fr (.tuple (x ++ y))) own
  | .fr (.list x), .fr (.list y) => x.length + y.length ≤ SZ ∧ Q (.fr (.list (x ++ y))) own
  | _, _ => False
def rAddStr : R2 := fun x y H Q => ∃ i j, x = .str i ∧ y = .str j ∧ i.length + j.length ≤ sizeLine ∧ Q (.str (i ++ j)) H
def rAddAll (K : PySem.W.Frag) : R2 := fun x y H Q => rI0 (fun i j => .int (i + j)) x y H Q ∨ rAddStr x y H Q ∨ rCatA K x y H Q ∨ rCat x y H Q
theorem op_addAll {X : Cx} : OpR X (binaryOp .Add) (rAddAll X.K) := op_add.or ((show OpR X (binaryOp .Add) rAddStr from op_add_str).or (op_catA.or op_cat))
section
variable {K : PySem.W.Frag}
theorem s2_add : S2 K (rAddAll K) fAdd := by
  intro c d own Q hq B θ F H v u gg r1 r2 Qv k
  unfold fAdd at hq
  split at hq
  · rename_i i j
    cases cr_int r1
    cases cr_int r2
    exact .inl ⟨i, j, rfl, rfl, k.here (c := .fr (.int (i + j))) gg (.int _) hq⟩
  · rename_i x y
    cases cr_str r1
    cases cr_str r2
    exact .inr (.inl ⟨x, y, rfl, rfl, szl hq.1, k.here (c := .fr (.str (x ++ y))) gg (.str _) hq.2⟩)
  · rename_i x y
    obtain ⟨a, xs, rfl, h1, h2⟩ := cr_tup r1
    obtain ⟨b, ys, rfl, h3, h4⟩ := cr_tup r2
    have l1 := rpAll_len h2
    have l2 := rpAll_len h4
    refine .inr (.inr (.inl ⟨a, b, xs, ys, rfl, rfl, same_t gg.ex h1, same_t gg.ex h3, by rw [l1, l2]; exact szl hq.1, fun e => ?_, fun _ e => ?_, fun _ _ p hp => ?_⟩))
    · subst e
      cases h2
      exact k.here (c := .fr (.tuple ([] ++ y))) gg (.tup h3 h4) hq.2
    · subst e
      cases h4
      exact k.here (c := .fr (.tuple (x ++ []))) gg (by rw [List.append_nil]; exact .tup h1 h2) hq.2
    · exact k.new (d := .tuple (x ++ y)) gg hp hq.2 fun F' e hF => .tup (SqT.of hF) (rpAll_app (rpAll_mono e _ _ h2) (rpAll_mono e _ _ h4))
  · rename_i x y
    obtain ⟨a, xs, rfl, h1, h2⟩ := cr_lst r1
    obtain ⟨b, ys, rfl, h3, h4⟩ := cr_lst r2
    have l1 := rpAll_len h2
    have l2 := rpAll_len h4
    refine .inr (.inr (.inr ⟨a, b, xs, ys, rfl, rfl, gg.ex _ _ h1, gg.ex _ _ h3, by rw [l1, l2]; exact szl hq.1, fun p hp => ?_⟩))
    exact k.new (d := .list (x ++ y)) gg hp hq.2 fun F' e hF => .lst hF (rpAll_app (rpAll_mono e _ _ h2) (rpAll_mono e _ _ h4))
  · exact hq.elim
/-- == of data -/
def fEq : F2 := fun c d own Q => match c, d with
  | .fr x, .fr y => SeqAt.shaped x = true ∧ SeqAt.shaped y = true ∧ Q (.fr (.bool (PyData.eqv x y))) own
  | _, _ => False
def fNe : F2 := fun c d own Q => match c, d with
  | .fr x, .fr y => SeqAt.shaped x = true ∧ SeqAt.shaped y = true ∧ Q (.fr (.bool (!PyData.eqv x y))) own
  | _, _ => False
theorem s2_eq : S2 K (rEqD K) fEq := by
  intro c d own Q hq B θ F H v u gg r1 r2 Qv k
  unfold fEq at hq
  split at hq
  · rename_i x y
    exact ⟨x, y, Rp.dp x v (rp_mono gg.ex x v r1), Rp.dp y u (rp_mono gg.ex y u r2), hq.1, hq.2.1, k.here (c := .fr (.bool (PyData.eqv x y))) gg (.bl _) hq.2.2⟩
  · exact hq.elim
theorem s2_ne : S2 K (rNeD K) fNe := by
  intro c d own Q hq B θ F H v u gg r1 r2 Qv k
  unfold fNe at hq
  split at hq
  · rename_i x y
    exact ⟨x, y, Rp.dp x v (rp_mono gg.ex x v r1), Rp.dp y u (rp_mono gg.ex y u r2), hq.1, hq.2.1, k.here (c := .fr (.bool (!PyData.eqv x y))) gg (.bl _) hq.2.2⟩
  · exact hq.elim
end

/-! ### subscripts, slices -/
/-- a choice; a call: what follows is hidden from simp -/
class Hd (α : Type) where
  v : α
def ItB (b : Bool) [x : Hd Prop] [y : Hd Prop] : Prop := match b with
  | true => x.v
  | false => y.v
def Itf (b : Bool) (x y : Prop) : Prop := @ItB b ⟨x⟩ ⟨y⟩
theorem itb_t {x y : Hd Prop} : @ItB true x y = x.v := rfl
theorem itb_f {x y : Hd Prop} : @ItB false x y = y.v := rfl
theorem itf {b : Bool} {x y : Prop} (h1 : b = true → x) (h2 : b = false → y) : Itf b x y := by
  cases b with
  | true => exact h1 rfl
  | false => exact h2 rfl
theorem itd' {p : Prop} {i : Decidable p} {x y : Hd Prop} (h1 : p → x.v) (h2 : ¬p → y.v) : @ItB (decide p) x y := by
  by_cases h : p
  · rw [decide_eq_true h]; exact h1 h
  · rw [decide_eq_false h]; exact h2 h
theorem itb {b : Bool} {x y : Hd Prop} (h1 : b = true → x.v) (h2 : b = false → y.v) : @ItB b x y := by
  cases b with
  | true => exact h1 rfl
  | false => exact h2 rfl
theorem itd {p : Prop} {i : Decidable p} {x y : Prop} (h1 : p → x) (h2 : ¬p → y) : Itf (decide p) x y := itf (fun h => h1 (of_decide_eq_true h)) fun h => h2 (of_decide_eq_false h)
/-- it is there, and P of it -/
def OpB {α : Type} (o : Option α) [P : Hd (α → Prop)] : Prop := match o with
  | some x => P.v x
  | none => False
def optP {α : Type} (o : Option α) (P : α → Prop) : Prop := @OpB α o ⟨P⟩
theorem opb_some {α : Type} {x : α} {P : Hd (α → Prop)} : @OpB α (some x) P = P.v x := rfl
theorem opb_of {α : Type} {o : Option α} {x : α} {P : Hd (α → Prop)} (h : o = some x) (k : P.v x) : @OpB α o P := by
  rw [h]
  exact k
theorem optP_some {α : Type} {x : α} {P : α → Prop} : optP (some x) P = P x := rfl
theorem of_mt {α : Type} {o : Option α} {P : α → Prop} (h : optP o P) : ∃ x, o = some x ∧ P x := by
  cases o with
  | none => exact h.elim
  | some x => exact ⟨x, rfl, h⟩
theorem optP_of {α : Type} {o : Option α} {x : α} {P : α → Prop} (e : o = some x) (h : P x) : optP o P := by
  rw [e]
  exact h
/-- the item of a frozen or owned sequence -/
def fIx : F2 := fun c d own Q => match c, d with
  | .fr (.list ds), .fr (.int i) => optP (atI ds i) fun x => Q (.fr x) own
  | .fr (.tuple ds), .fr (.int i) => optP (atI ds i) fun x => Q (.fr x) own
  | .fr (.str z), .fr (.int i) => z.length ≤ SZ ∧ optP (atI z.cps.toList i) fun x => Q (.fr (.str ⟨#[x]⟩)) own
  | .hd h, .fr (.int i) => (match own[h]? with
    | some (.lst cs) => optP (atI cs i) fun x => Q (res own x) own
    | _ => False)
  | _, _ => False
section
variable {K : PySem.W.Frag}
theorem atI_map {α β : Type} {P : α → β → Prop} {xs : List α} {ys : List β} {i : Int} {y : β} (hp : ∀ (j : Nat) b, ys[j]? = some b → ∃ a, xs[j]? = some a ∧ P a b) (hl : xs.length = ys.length) (h : atI ys i = some y) : ∃ x, atI xs i = some x ∧ P x y := by
  unfold atI at h ⊢
  rw [hl]
  cases e : ixN ys.length i with
  | none => rw [e] at h; cases h
  | some j =>
    rw [e] at h
    exact hp j y h
theorem s2_ix : S2 K (rIx K) fIx := by
  intro c d own Q hq B θ F H v u gg r1 r2 Qv k
  unfold fIx at hq
  split at hq
  · rename_i ds i
    obtain ⟨a, xs, rfl, h1, h2⟩ := cr_lst r1
    cases cr_int r2
    obtain ⟨x, hx, q⟩ := of_mt hq
    obtain ⟨y, hy, ry⟩ := atI_map (fun j b e => rpAll_get h2 e) (rpAll_len h2) hx
    exact .inl ⟨a, xs, i, y, rfl, rfl, SqL.of (gg.ex _ _ h1), hy, k.here (c := .fr x) gg ry q⟩
  · rename_i ds i
    obtain ⟨a, xs, rfl, h1, h2⟩ := cr_tup r1
    cases cr_int r2
    obtain ⟨x, hx, q⟩ := of_mt hq
    obtain ⟨y, hy, ry⟩ := atI_map (fun j b e => rpAll_get h2 e) (rpAll_len h2) hx
    exact .inr (.inl ⟨a, xs, i, y, rfl, rfl, same_t gg.ex h1, hy, k.here (c := .fr x) gg ry q⟩)
  · rename_i z i
    cases cr_str r1
    cases cr_int r2
    obtain ⟨hz, hq⟩ := hq
    obtain ⟨x, hx, q⟩ := of_mt hq
    exact .inr (.inr ⟨z, i, x, rfl, rfl, szl hz, hx, k.here (c := .fr (.str ⟨#[x]⟩)) gg (.str _) q⟩)
  · rename_i h i
    obtain ⟨a, ha, rfl⟩ := r1
    cases cr_int r2
    split at hq
    · rename_i cs e
      obtain ⟨_, vs, hv, rv⟩ := gg.mo h a _ ha e
      obtain ⟨x, hx, q⟩ := of_mt hq
      obtain ⟨y, hy, ry⟩ := atI_map (fun j b e => paired_getL rv e) (paired_len rv) hx
      exact .inl ⟨a, vs, i, y, rfl, rfl, SqL.of hv, hy, k.here gg (Cr.res gg ry) q⟩
    · exact hq.elim
  · exact hq.elim
end
abbrev WO := Sl → Ts → (Option Int → Ts → Prop) → Prop
def SO (K : PySem.W.Frag) (t : TO) (w : WO) : Prop := ∀ ss own Q, w ss own Q → ∀ B θ F H σ, Ga K B θ own F H → SlR K θ F σ ss → ∀ Qv : Option Int → Hp → Prop,
  (∀ θ' own' F' H' o, Ga K B θ' own' F' H' → Tr B θ F H θ' F' H' → Q o own' → Qv o H') → t σ H Qv
structure AO (X : Cx) (e : Option Expr) (t : TO) (w : WO) : Prop where
  p : PO X e t
  s : SO X.K t w
def wNoPart : WO := fun _ own Q => Q none own
def wPart (w : WE) : WO := fun ss own Q => w ss own fun c o1 => match c with
  | .fr (.int i) => Q (some i) o1
  | _ => False
/-- the items of ds[lo:hi] -/
def cutD {α : Type} (xs : List α) (lo hi : Option Int) : List α := (xs.drop (HT.sIx xs.length 0 lo)).take (HT.sIx xs.length xs.length hi - HT.sIx xs.length 0 lo)
abbrev FS := C → Option Int → Option Int → Ts → KC → Prop
def fSl : FS := fun c lo hi own Q => match c with
  | .fr (.list ds) => Q (.fr (.list (cutD ds lo hi))) own
  | .fr (.tuple ds) => Q (.fr (.tuple (cutD ds lo hi))) own
  | .fr (.str z) => z.length ≤ SZ ∧ Q (.fr (.str (cutS z lo hi))) own
  | .sc ns => Q (.fr (.list (cutD (ns.map PyData.int) lo hi))) own
  | .hd h => (match own[h]? with
    | some (.lst cs) => (match frs cs with
      | some ds => Q (.fr (.list (cutD ds lo hi))) own
      | none => False)
    | _ => False)
  | _ => False
/-- a new owned list -/
def fSlH : FS := fun c lo hi own Q => match c with
  | .fr (.list ds) => Q (.hd own.length) (own ++ [.lst ((cutD ds lo hi).map C.fr)])
  | .hd h => (match own[h]? with
    | some (.lst cs) => Q (.hd own.length) (own ++ [.lst (cutD cs lo hi)])
    | _ => False)
  | _ => False
end Zd

/-! Zx1: sum, max, min of a tuple of ints. -/
namespace Zd
open PySem PySem.Spec PyProof.Rows L2
section
variable {prog : Program} {w : World} {A : Around} {E : Value → Shared → Prop} {s : Shared} {l : Addr} {xs : Array (Int × Tok)}
theorem iter_intTup {Q : Value → Shared → Prop} (hl : s.heap.IsTuple l (intItems xs))
    (h : ∀ s₂ : Shared, s₂ = { s with heap := s.heap.push { cls := .type "tuple_iterator", data := .fields #[.ref l, .int 0 0] } } →
      (s₂.heap.IsTupleIter s.heap.objs.size l 0 ∧ s₂.heap.IsTuple l (intItems xs)) → (∀ b ∈ [s.heap.objs.size, l], b < s₂.heap.objs.size) → l ≠ s.heap.objs.size → Q (.ref s.heap.objs.size) s₂) :
    wpAny (model prog w) A (pyIter (.ref l)) Q E s := by
  have hlt : l < s.heap.objs.size := by obtain ⟨_, e, _⟩ := hl; exact Heap.lt_size e
  refine wpAny_pyIter_tuple hl (h _ rfl ⟨⟨_, Heap.get?_push_size _ rfl, rfl, rfl⟩, hl.push _⟩ (fun b hb => ?_) (Nat.ne_of_lt hlt))
  show b < (s.heap.push _).objs.size
  rw [Heap.size_push]
  rcases List.mem_cons.mp hb with rfl | hb
  · exact Nat.lt_succ_self _
  · rcases List.mem_cons.mp hb with rfl | hb
    · exact Nat.lt_succ_of_lt hlt
    · cases hb
theorem old_keptT {h' : Heap} (hk : ∀ b o, b ∉ [s.heap.objs.size] → (s.heap.push { cls := .type "tuple_iterator", data := .fields #[.ref l, .int 0 0] }).get? b = some o → h'.get? b = some o) :
    ∀ b o, s.heap.get? b = some o → h'.get? b = some o := fun b o e => by
  refine hk b o (fun hm => ?_) (Heap.get?_push_of_some _ e)
  rcases List.mem_cons.mp hm with e1 | hm
  · exact absurd (e1 ▸ Heap.lt_size e) (Nat.lt_irrefl _)
  · cases hm
theorem sum_intTup {Q : Value → Shared → Prop} (hh : A.handled = none) (hl : s.heap.IsTuple l (intItems xs))
    (h : ∀ h' tk t', (∀ b o, s.heap.get? b = some o → h'.get? b = some o) → Q (.int (preSum (numAt xs) xs.size) t') { s with heap := h', toks := tk }) :
    wpAny (model prog w) A (call (.builtin "sum") [.ref l]) Q E s := by
  refine call_sum_walkG (iter_intTup hl fun s₂ e st hfp hlI => ?_)
  subst e
  refine ⟨_, _, _, _, _, _, numAt xs, rfl, Walks.tuple (A := A.in1) hh _ l hlI (intItems xs), st, hfp, (fun _ _ => intItems_at), fun h' tk t' hk => ?_⟩
  have := h h' tk t' (old_keptT hk)
  simpa [intItems] using this
theorem max_intTup {Q : Value → Shared → Prop} (hh : A.handled = none) (hl : s.heap.IsTuple l (intItems xs)) (hne : 0 < xs.size)
    (h : ∀ v h' tk, (intItems xs)[argBest (fun i j => decide (numAt xs i > numAt xs j)) (xs.size - 1)]? = some v → (∀ b o, s.heap.get? b = some o → h'.get? b = some o) → Q v { s with heap := h', toks := tk }) :
    wpAny (model prog w) A (call (.builtin "max") [.ref l]) Q E s := by
  refine call_max_walk (iter_intTup hl fun s₂ e st hfp hlI => ?_)
  subst e
  refine ⟨_, _, _, _, _, _, _, rfl, Walks.tuple (A := A.in1) hh _ l hlI (intItems xs), st, hfp, by simpa [intItems] using hne, CmpOf.ints_gt (numAt xs) (fun _ _ => intItems_at), fun v h' tk hP hk => ?_⟩
  exact h v h' tk (by simpa [intItems] using hP) (old_keptT hk)
theorem min_intTup {Q : Value → Shared → Prop} (hh : A.handled = none) (hl : s.heap.IsTuple l (intItems xs)) (hne : 0 < xs.size)
    (h : ∀ v h' tk, (intItems xs)[argBest (fun i j => decide (numAt xs i < numAt xs j)) (xs.size - 1)]? = some v → (∀ b o, s.heap.get? b = some o → h'.get? b = some o) → Q v { s with heap := h', toks := tk }) :
    wpAny (model prog w) A (call (.builtin "min") [.ref l]) Q E s := by
  refine call_min_walk (iter_intTup hl fun s₂ e st hfp hlI => ?_)
  subst e
  refine ⟨_, _, _, _, _, _, _, rfl, Walks.tuple (A := A.in1) hh _ l hlI (intItems xs), st, hfp, by simpa [intItems] using hne, CmpOf.ints_lt (numAt xs) (fun _ _ => intItems_at), fun v h' tk hP hk => ?_⟩
  exact h v h' tk (by simpa [intItems] using hP) (old_keptT hk)
variable {its : List Value} {ns : List Int} {Q : Value → Shared → Prop}
theorem sum_rawT (hh : A.handled = none) (hl : s.heap.IsTuple l its.toArray) (hi : IntsAre its ns)
    (h : ∀ h' tk t', (∀ b o, s.heap.get? b = some o → h'.get? b = some o) → Q (.int ns.sum t') { s with heap := h', toks := tk }) : wpAny (model prog w) A (call (.builtin "sum") [.ref l]) Q E s := by
  obtain ⟨xs, e⟩ := hi.allInts.items
  have hn : numsOf (intItems xs).toList = ns := by rw [← e]; exact hi.numsOf
  rw [nums_intItems] at hn
  rw [e] at hl
  refine sum_intTup hh hl fun h' tk t' hk => ?_
  have := h h' tk t' hk
  rw [preSum_eq, List.take_of_length_le (by simp), hn]; exact this
theorem max_rawT (hh : A.handled = none) (hl : s.heap.IsTuple l its.toArray) (hi : IntsAre its ns) (hne : 0 < ns.length)
    (h : ∀ h' tk M t', (∀ b o, s.heap.get? b = some o → h'.get? b = some o) → M ∈ ns → (∀ a, a ∈ ns → a ≤ M) → Q (.int M t') { s with heap := h', toks := tk }) : wpAny (model prog w) A (call (.builtin "max") [.ref l]) Q E s := by
  obtain ⟨xs, e⟩ := hi.allInts.items
  have hn : numsOf (intItems xs).toList = ns := by rw [← e]; exact hi.numsOf
  rw [nums_intItems] at hn
  subst hn
  rw [e] at hl
  have hsz : 0 < xs.size := by simpa using hne
  refine max_intTup hh hl hsz fun v h' tk hv hk => ?_
  obtain ⟨t, rfl⟩ := intItems_at hv
  obtain ⟨h1, h2⟩ := argBest_gt (numAt xs) (xs.size - 1)
  refine h h' tk _ t hk ?_ fun a ha => ?_
  · rw [numAt_eq]; exact PySem.getD_mem (by rw [List.length_map, Array.length_toList]; omega)
  · obtain ⟨j, hj, rfl⟩ := mem_getD ha
    rw [List.length_map, Array.length_toList] at hj
    rw [← numAt_eq]; exact h2 j (by omega)
theorem min_rawT (hh : A.handled = none) (hl : s.heap.IsTuple l its.toArray) (hi : IntsAre its ns) (hne : 0 < ns.length)
    (h : ∀ h' tk M t', (∀ b o, s.heap.get? b = some o → h'.get? b = some o) → M ∈ ns → (∀ a, a ∈ ns → M ≤ a) → Q (.int M t') { s with heap := h', toks := tk }) : wpAny (model prog w) A (call (.builtin "min") [.ref l]) Q E s := by
  obtain ⟨xs, e⟩ := hi.allInts.items
  have hn : numsOf (intItems xs).toList = ns := by rw [← e]; exact hi.numsOf
  rw [nums_intItems] at hn
  subst hn
  rw [e] at hl
  have hsz : 0 < xs.size := by simpa using hne
  refine min_intTup hh hl hsz fun v h' tk hv hk => ?_
  obtain ⟨t, rfl⟩ := intItems_at hv
  obtain ⟨h1, h2⟩ := argBest_lt (numAt xs) (xs.size - 1)
  refine h h' tk _ t hk ?_ fun a ha => ?_
  · rw [numAt_eq]; exact PySem.getD_mem (by rw [List.length_map, Array.length_toList]; omega)
  · obtain ⟨j, hj, rfl⟩ := mem_getD ha
    rw [List.length_map, Array.length_toList] at hj
    rw [← numAt_eq]; exact h2 j (by omega)
end
section
variable {X : Cx}
def SqA (K : PySem.W.Frag) (H : Hp) (a : Addr) (xs : List V) : Prop := SqL K H a xs ∨ SqT K H a xs
def rSumA (K : PySem.W.Frag) : List V → Hp → VK → Prop := fun vs H Q => ∃ (a : Addr) (ns : List Int), vs = [V.ref a] ∧ SqA K H a (ns.map V.int) ∧ Q (.int ns.sum) H
def rMaxA (K : PySem.W.Frag) : List V → Hp → VK → Prop := fun vs H Q => ∃ (a : Addr) (ns : List Int), vs = [V.ref a] ∧ SqA K H a (ns.map V.int) ∧ 0 < ns.length ∧ ∀ m, m ∈ ns → (∀ y, y ∈ ns → y ≤ m) → Q (.int m) H
def rMinA (K : PySem.W.Frag) : List V → Hp → VK → Prop := fun vs H Q => ∃ (a : Addr) (ns : List Int), vs = [V.ref a] ∧ SqA K H a (ns.map V.int) ∧ 0 < ns.length ∧ ∀ m, m ∈ ns → (∀ y, y ∈ ns → m ≤ y) → Q (.int m) H
theorem cr_sumA (hc : X.calm = true) : CallR X (.builtin "sum") (rSumA X.K) := by
  intro pins s σ H vs us Q I r h
  obtain ⟨a, ns, rfl, hs | hs, q⟩ := h
  · exact cr_sum hc pins s σ H _ us Q I r ⟨a, ns, rfl, hs, q⟩
  · obtain ⟨its, rv, hl, _⟩ := I.tuple hs
    rw [Vals.ref1 r]
    exact sum_rawT (I.ok.hd hc) hl rv.ints fun h' tk t' hk => ⟨.int _, H, I.kept hk, ⟨_, rfl⟩, q⟩
theorem cr_maxA (hc : X.calm = true) : CallR X (.builtin "max") (rMaxA X.K) := by
  intro pins s σ H vs us Q I r h
  obtain ⟨a, ns, rfl, hs | hs, hne, q⟩ := h
  · exact cr_max hc pins s σ H _ us Q I r ⟨a, ns, rfl, hs, hne, q⟩
  · obtain ⟨its, rv, hl, _⟩ := I.tuple hs
    rw [Vals.ref1 r]
    exact max_rawT (I.ok.hd hc) hl rv.ints hne fun h' tk m t' hk h1 h2 => ⟨.int _, H, I.kept hk, ⟨_, rfl⟩, q m h1 h2⟩
theorem cr_minA (hc : X.calm = true) : CallR X (.builtin "min") (rMinA X.K) := by
  intro pins s σ H vs us Q I r h
  obtain ⟨a, ns, rfl, hs | hs, hne, q⟩ := h
  · exact cr_min hc pins s σ H _ us Q I r ⟨a, ns, rfl, hs, hne, q⟩
  · obtain ⟨its, rv, hl, _⟩ := I.tuple hs
    rw [Vals.ref1 r]
    exact min_rawT (I.ok.hd hc) hl rv.ints hne fun h' tk m t' hk h1 h2 => ⟨.int _, H, I.kept hk, ⟨_, rfl⟩, q m h1 h2⟩
end
end Zd

/-! Zd3: slices, displays, tests, argument lists, built-in calls. -/
namespace Zd
open PySem L2

/-! ### slices -/
def SSl (K : PySem.W.Frag) (r : V → Option Int → Option Int → Hp → VK → Prop) (f : FS) : Prop := ∀ c lo hi own Q, f c lo hi own Q → ∀ B θ F H v, Ga K B θ own F H → Cr K θ F v c → ∀ Qv : VK, Bk K B θ F H Q Qv → r v lo hi H Qv
def wSl (f : FS) (we : WE) (wl wh : WO) : WE := fun ss own Q => we ss own fun c o1 => wl ss o1 fun lo o2 => wh ss o2 fun hi o3 => f c lo hi o3 Q
def rSlAll (K : PySem.W.Frag) : V → Option Int → Option Int → Hp → VK → Prop := fun x lo hi H Q => rSlL K x lo hi H Q ∨ rSlA K x lo hi H Q ∨ rSlS x lo hi H Q
theorem sl_all {X : Cx} : L2.SlR X (rSlAll X.K) := sl_list.or (sl_tupA.or sl_str)
theorem paired_cut {α β : Type} {P : α → β → Prop} {xs : List α} {ys : List β} (h : Paired P xs ys) (lo hi : Option Int) : Paired P ((xs.drop (HT.sIx xs.length 0 lo)).take (HT.sIx xs.length xs.length hi - HT.sIx xs.length 0 lo)) (cutD ys lo hi) := by
  unfold cutD
  rw [paired_len h]
  exact paired_take _ (paired_drop _ h)
theorem ints_rp {K : PySem.W.Frag} {F : Hp} : ∀ (ns : List Int), RpAll K F (ns.map V.int) (ns.map PyData.int)
  | [] => .nil
  | n :: ns => .cons (.int n) (ints_rp ns)
theorem rp_paired {K : PySem.W.Frag} {F : Hp} : ∀ {vs : List V} {ds : List D}, RpAll K F vs ds → Paired (Rp K F) vs ds
  | _, _, .nil => .nil
  | _, _, .cons h t => .cons h (rp_paired t)
theorem paired_rp {K : PySem.W.Frag} {F : Hp} : ∀ {vs : List V} {ds : List D}, Paired (Rp K F) vs ds → RpAll K F vs ds
  | _, _, .nil => .nil
  | _, _, .cons h t => .cons h (paired_rp t)
section
variable {K : PySem.W.Frag} {te : TE} {we : WE} {tl th : TO} {wl wh : WO}
theorem rp_cut {F : Hp} {vs : List V} {ds : List D} (h : RpAll K F vs ds) (lo hi : Option Int) : RpAll K F (cutV vs lo hi) (cutD ds lo hi) := paired_rp (paired_cut (rp_paired h) lo hi)
theorem so_none : SO K tNoPart wNoPart := fun ss own Q h B θ F H σ g s Qv k => k θ own F H none g Tr.refl h
theorem so_some (h : SE K te we) : SO K (tPart te) (wPart we) := by
  intro ss own Q hw B θ F H σ g s Qv k
  refine h ss own _ hw B θ F H σ g s _ fun θ1 own1 F1 H1 v c g1 t1 r1 q1 => ?_
  dsimp only at q1
  split at q1
  · rename_i i
    cases cr_int r1
    exact ⟨i, rfl, k _ _ _ _ _ g1 t1 q1⟩
  · exact q1.elim
theorem se_slice {r : V → Option Int → Option Int → Hp → VK → Prop} {f : FS} (hr : SSl K r f) (h : SE K te we) (hl : SO K tl wl) (hh : SO K th wh) : SE K (tSl r te tl th) (wSl f we wl wh) := by
  intro ss own Q hw B θ F H σ g s Qv k
  refine h ss own _ hw B θ F H σ g s _ fun θ1 own1 F1 H1 v c g1 t1 r1 q1 => ?_
  refine hl ss own1 _ q1 B θ1 F1 H1 σ g1 (s.up t1) _ fun θ2 own2 F2 H2 lo g2 t2 q2 => ?_
  refine hh ss own2 _ q2 B θ2 F2 H2 σ g2 (s.up (t1.trans t2)) _ fun θ3 own3 F3 H3 hi g3 t3 q3 => ?_
  exact hr c lo hi own3 Q q3 B θ3 F3 H3 v g3 (r1.up (t2.trans t3)) Qv (k.up ((t1.trans t2).trans t3))
theorem ss_all : SSl K (rSlAll K) fSl := by
  intro c lo hi own Q hq B θ F H v gg r1 Qv k
  unfold fSl at hq
  split at hq
  · rename_i ds
    obtain ⟨a, xs, rfl, h1, h2⟩ := cr_lst r1
    exact .inl ⟨a, xs, rfl, SqL.of (gg.ex _ _ h1), fun p hp => k.new (d := .list (cutD ds lo hi)) gg hp hq fun F' e hF => .lst hF (rp_cut (rpAll_mono e _ _ h2) lo hi)⟩
  · rename_i ds
    obtain ⟨a, xs, rfl, h1, h2⟩ := cr_tup r1
    refine .inr (.inl ⟨a, xs, rfl, same_t gg.ex h1, fun e => ?_, fun _ p hp => k.new (d := .tuple (cutD ds lo hi)) gg hp hq fun F' e hF => .tup (SqT.of hF) (rp_cut (rpAll_mono e _ _ h2) lo hi)⟩)
    have e2 : cutD ds lo hi = ds := by
      unfold cutD
      rw [← rpAll_len h2, e.1, e.2, List.drop_zero, Nat.sub_zero, rpAll_len h2, List.take_length]
    exact k.here (c := .fr (.tuple (cutD ds lo hi))) gg (by rw [e2]; exact r1) hq
  · rename_i z
    cases cr_str r1
    exact .inr (.inr ⟨z, rfl, szl hq.1, k.here (c := .fr (.str (cutS z lo hi))) gg (.str _) hq.2⟩)
  · rename_i ns
    obtain ⟨a, rfl, h1⟩ := r1
    exact .inl ⟨a, _, rfl, same_l gg.ex h1, fun p hp => k.new (d := .list (cutD (ns.map PyData.int) lo hi)) gg hp hq fun F' e hF => .lst hF (rp_cut (ints_rp ns) lo hi)⟩
  · rename_i h
    obtain ⟨a, ha, rfl⟩ := r1
    split at hq
    · rename_i cs e
      split at hq
      · rename_i ds e2
        obtain ⟨_, vs, hv, rv⟩ := gg.mo h a _ ha e
        rw [of_frs e2] at rv
        have rv := rpAll_paired rv
        exact .inl ⟨a, vs, rfl, SqL.of hv, fun p hp => k.new (d := .list (cutD ds lo hi)) gg hp hq fun F' e hF => .lst hF (rp_cut (rpAll_mono e _ _ rv) lo hi)⟩
      · exact hq.elim
    · exact hq.elim
  · exact hq.elim
theorem ss_allH : SSl K (rSlAll K) fSlH := by
  intro c lo hi own Q hq B θ F H v gg r1 Qv k
  unfold fSlH at hq
  split at hq
  · rename_i ds
    obtain ⟨a, xs, rfl, h1, h2⟩ := cr_lst r1
    exact .inl ⟨a, xs, rfl, SqL.of (gg.ex _ _ h1), fun p hp => k.newH gg hp (paired_rpAll (rp_cut h2 lo hi)) hq⟩
  · rename_i h
    obtain ⟨a, ha, rfl⟩ := r1
    split at hq
    · rename_i cs e
      obtain ⟨_, vs, hv, rv⟩ := gg.mo h a _ ha e
      exact .inl ⟨a, vs, rfl, SqL.of hv, fun p hp => k.newH gg hp (paired_cut rv lo hi) hq⟩
    · exact hq.elim
  · exact hq.elim
end

/-! ### argument lists, displays -/
def wNil : WA := fun _ own Q => Q [] own
def wCons (we : WE) (wa : WA) : WA := fun ss own Q => we ss own fun c o1 => wa ss o1 fun cs o2 => Q (c :: cs) o2
def wTup (wa : WA) : WE := fun ss own Q => wa ss own fun cs o1 => match frs cs with
  | some ds => ds.length ≤ SZ ∧ Q (.fr (.tuple ds)) o1
  | none => False
def wLst (wa : WA) : WE := fun ss own Q => wa ss own fun cs o1 => match frs cs with
  | some ds => ds.length ≤ SZ ∧ Q (.fr (.list ds)) o1
  | none => False
def wLstH (wa : WA) : WE := fun ss own Q => wa ss own fun cs o1 => cs.length ≤ SZ ∧ Q (.hd o1.length) (o1 ++ [.lst cs])
section
variable {K : PySem.W.Frag} {te : TE} {we : WE} {ta : TA} {wa : WA}
theorem sa_nil : SA K tNil wNil := fun ss own Q h B θ F H σ g s Qv k => k θ own F H [] [] g Tr.refl .nil h
theorem paired_up {B : Addr → Prop} {θ θ' : List Addr} {F F' H H' : Hp} {vs : List V} {cs : List C} (t : Tr B θ F H θ' F' H') (h : Paired (Cr K θ F) vs cs) : Paired (Cr K θ' F') vs cs := paired_mono (fun _ _ r => r.up t) h
theorem sa_cons (h : SE K te we) (ha : SA K ta wa) : SA K (tCons te ta) (wCons we wa) := by
  intro ss own Q hw B θ F H σ g s Qv k
  refine h ss own _ hw B θ F H σ g s _ fun θ1 own1 F1 H1 v c g1 t1 r1 q1 => ?_
  refine ha ss own1 _ q1 B θ1 F1 H1 σ g1 (s.up t1) _ fun θ2 own2 F2 H2 vs cs g2 t2 r2 q2 => ?_
  exact k _ _ _ _ _ _ g2 (t1.trans t2) (.cons (r1.up t2) r2) q2
theorem se_tup (ha : SA K ta wa) : SE K (tTup ta) (wTup wa) := by
  intro ss own Q hw B θ F H σ g s Qv k
  refine ha ss own _ hw B θ F H σ g s _ fun θ1 own1 F1 H1 vs cs g1 t1 r1 q1 => ?_
  dsimp only at q1
  split at q1
  · rename_i ds e
    rw [of_frs e] at r1
    have r1 := rpAll_paired r1
    exact ⟨by rw [rpAll_len r1]; exact szl q1.1, fun p hp => (k.up t1).new (d := .tuple ds) g1 hp q1.2 fun F' e hF => .tup (SqT.of hF) (rpAll_mono e _ _ r1)⟩
  · exact q1.elim
theorem se_lst (ha : SA K ta wa) : SE K (tLst ta) (wLst wa) := by
  intro ss own Q hw B θ F H σ g s Qv k
  refine ha ss own _ hw B θ F H σ g s _ fun θ1 own1 F1 H1 vs cs g1 t1 r1 q1 => ?_
  dsimp only at q1
  split at q1
  · rename_i ds e
    rw [of_frs e] at r1
    have r1 := rpAll_paired r1
    exact ⟨by rw [rpAll_len r1]; exact szl q1.1, fun p hp => (k.up t1).new (d := .list ds) g1 hp q1.2 fun F' e hF => .lst hF (rpAll_mono e _ _ r1)⟩
  · exact q1.elim
theorem se_lstH (ha : SA K ta wa) : SE K (tLst ta) (wLstH wa) := by
  intro ss own Q hw B θ F H σ g s Qv k
  refine ha ss own _ hw B θ F H σ g s _ fun θ1 own1 F1 H1 vs cs g1 t1 r1 q1 => ?_
  exact ⟨by rw [paired_len r1]; exact szl q1.1, fun p hp => (k.up t1).newH g1 hp r1 q1.2⟩
end

/-! ### tests -/
def wTest (w : WE) : WT := fun ss own Q => w ss own fun c o1 => match c with
  | .fr (.bool b) => Q b o1
  | _ => False
def wNot (w : WT) : WT := fun ss own Q => w ss own fun b o1 => Q (!b) o1
def wAnd (w w' : WT) : WT := fun ss own Q => w ss own fun b o1 => Itf b (w' ss o1 Q) (Q false o1)
def wOr (w w' : WT) : WT := fun ss own Q => w ss own fun b o1 => Itf b (Q true o1) (w' ss o1 Q)
def wChain (f f' : F2) (wa wb wc : WE) : WE := fun ss own Q => wa ss own fun c o1 => wb ss o1 fun d o2 => f c d o2 fun z o3 => match z with
  | .fr (.bool b) => Itf b (wc ss o3 fun e o4 => f' d e o4 Q) (Q (.fr (.bool false)) o3)
  | _ => False
def wIf (w : WT) (wa wb : WE) : WE := fun ss own Q => w ss own fun b o1 => Itf b (wa ss o1 Q) (wb ss o1 Q)
def wAndV (wa wb : WE) : WE := fun ss own Q => wa ss own fun c o1 => match c with
  | .fr (.bool b) => Itf b (wb ss o1 Q) (Q (.fr (.bool false)) o1)
  | _ => False
def wOrV (wa wb : WE) : WE := fun ss own Q => wa ss own fun c o1 => match c with
  | .fr (.bool b) => Itf b (Q (.fr (.bool true)) o1) (wb ss o1 Q)
  | _ => False
def wNotV (wa : WE) : WE := fun ss own Q => wa ss own fun c o1 => match c with
  | .fr (.bool b) => Q (.fr (.bool (!b))) o1
  | _ => False
def wIsN (wa : WE) : WE := fun ss own Q => wa ss own fun c o1 => match c with
  | .fr .none => Q (.fr (.bool true)) o1
  | _ => Q (.fr (.bool false)) o1
def wNotN (wa : WE) : WE := fun ss own Q => wa ss own fun c o1 => match c with
  | .fr .none => Q (.fr (.bool false)) o1
  | _ => Q (.fr (.bool true)) o1
section
variable {K : PySem.W.Frag} {te ta tb tc : TE} {we wa wb wc : WE} {t t' : TT} {w w' : WT} {r r' : R2} {f f' : F2}
theorem test_core (h : SE K te we) : ∀ ss own Q, wTest we ss own Q → ∀ B θ F H σ, Ga K B θ own F H → Zd.SlR K θ F σ ss → ∀ Qv : Bool → Hp → Prop, BkT K B θ F H Q Qv → te σ H fun x H1 => ∃ b, x = .bl b ∧ Qv b H1 := by
  intro ss own Q hw B θ F H σ g s Qv k
  refine h ss own _ hw B θ F H σ g s _ fun θ1 own1 F1 H1 v c g1 t1 r1 q1 => ?_
  dsimp only at q1
  split at q1
  · rename_i b
    cases cr_bl r1
    exact ⟨b, rfl, k _ _ _ _ _ g1 t1 q1⟩
  · exact q1.elim
theorem st_B (h : SE K te we) : ST K (tB te) (wTest we) := test_core h
theorem st_test (h : SE K te we) : ST K (tTest te) (wTest we) := test_core h
theorem st_not (h : ST K t w) : ST K (tNot t) (wNot w) := by
  intro ss own Q hw B θ F H σ g s Qv k
  exact h ss own _ hw B θ F H σ g s _ fun θ1 own1 F1 H1 b g1 t1 q1 => k _ _ _ _ _ g1 t1 q1
theorem st_and (h : ST K t w) (h' : ST K t' w') : ST K (tAnd t t') (wAnd w w') := by
  intro ss own Q hw B θ F H σ g s Qv k
  refine h ss own _ hw B θ F H σ g s _ fun θ1 own1 F1 H1 b g1 t1 q1 => ?_
  cases b with
  | true => exact h' ss own1 Q q1 B θ1 F1 H1 σ g1 (s.up t1) Qv (k.up t1)
  | false => exact k _ _ _ _ _ g1 t1 q1
theorem st_or (h : ST K t w) (h' : ST K t' w') : ST K (tOr t t') (wOr w w') := by
  intro ss own Q hw B θ F H σ g s Qv k
  refine h ss own _ hw B θ F H σ g s _ fun θ1 own1 F1 H1 b g1 t1 q1 => ?_
  cases b with
  | true => exact k _ _ _ _ _ g1 t1 q1
  | false => exact h' ss own1 Q q1 B θ1 F1 H1 σ g1 (s.up t1) Qv (k.up t1)
theorem se_chain (ha : SE K ta wa) (hb : SE K tb wb) (hc : SE K tc wc) (hr : S2 K r f) (hr' : S2 K r' f') : SE K (tChain r r' ta tb tc) (wChain f f' wa wb wc) := by
  intro ss own Q hw B θ F H σ g s Qv k
  refine ha ss own _ hw B θ F H σ g s _ fun θ1 own1 F1 H1 v c g1 t1 r1 q1 => ?_
  refine hb ss own1 _ q1 B θ1 F1 H1 σ g1 (s.up t1) _ fun θ2 own2 F2 H2 u d g2 t2 r2 q2 => ?_
  refine hr c d own2 _ q2 B θ2 F2 H2 v u g2 (r1.up t2) r2 _ fun θ3 own3 F3 H3 x z g3 t3 r3 q3 => ?_
  dsimp only at q3
  split at q3
  · rename_i b
    cases cr_bl r3
    refine ⟨b, rfl, ?_⟩
    cases b with
    | true =>
      refine hc ss own3 _ q3 B θ3 F3 H3 σ g3 (s.up ((t1.trans t2).trans t3)) _ fun θ4 own4 F4 H4 y e g4 t4 r4 q4 => ?_
      exact hr' d e own4 Q q4 B θ4 F4 H4 u y g4 (r2.up (t3.trans t4)) r4 Qv (k.up (((t1.trans t2).trans t3).trans t4))
    | false => exact k _ _ _ _ _ (.fr (.bool false)) g3 ((t1.trans t2).trans t3) (.bl _) q3
  · exact q3.elim
theorem se_if (h : ST K t w) (ha : SE K ta wa) (hb : SE K tb wb) : SE K (tIf t ta tb) (wIf w wa wb) := by
  intro ss own Q hw B θ F H σ g s Qv k
  refine h ss own _ hw B θ F H σ g s _ fun θ1 own1 F1 H1 b g1 t1 q1 => ?_
  cases b with
  | true => exact ha ss own1 Q q1 B θ1 F1 H1 σ g1 (s.up t1) Qv (k.up t1)
  | false => exact hb ss own1 Q q1 B θ1 F1 H1 σ g1 (s.up t1) Qv (k.up t1)
theorem se_andV (ha : SE K ta wa) (hb : SE K tb wb) : SE K (tAndV ta tb) (wAndV wa wb) := by
  intro ss own Q hw B θ F H σ g s Qv k
  refine ha ss own _ hw B θ F H σ g s _ fun θ1 own1 F1 H1 v c g1 t1 r1 q1 => ?_
  dsimp only at q1
  split at q1
  · rename_i b
    cases cr_bl r1
    refine ⟨b, rfl, ?_⟩
    cases b with
    | true => exact hb ss own1 Q q1 B θ1 F1 H1 σ g1 (s.up t1) Qv (k.up t1)
    | false => exact k _ _ _ _ _ (.fr (.bool false)) g1 t1 (.bl _) q1
  · exact q1.elim
theorem se_orV (ha : SE K ta wa) (hb : SE K tb wb) : SE K (tOrV ta tb) (wOrV wa wb) := by
  intro ss own Q hw B θ F H σ g s Qv k
  refine ha ss own _ hw B θ F H σ g s _ fun θ1 own1 F1 H1 v c g1 t1 r1 q1 => ?_
  dsimp only at q1
  split at q1
  · rename_i b
    cases cr_bl r1
    refine ⟨b, rfl, ?_⟩
    cases b with
    | true => exact k _ _ _ _ _ (.fr (.bool true)) g1 t1 (.bl _) q1
    | false => exact hb ss own1 Q q1 B θ1 F1 H1 σ g1 (s.up t1) Qv (k.up t1)
  · exact q1.elim
theorem se_notV (ha : SE K ta wa) : SE K (tNotV ta) (wNotV wa) := by
  intro ss own Q hw B θ F H σ g s Qv k
  refine ha ss own _ hw B θ F H σ g s _ fun θ1 own1 F1 H1 v c g1 t1 r1 q1 => ?_
  dsimp only at q1
  split at q1
  · rename_i b
    cases cr_bl r1
    exact ⟨b, rfl, k _ _ _ _ _ (.fr (.bool (!b))) g1 t1 (.bl _) q1⟩
  · exact q1.elim
theorem cr_non {θ : List Addr} {F : Hp} {v : V} {c : C} (r : Cr K θ F v c) : (v = .non ∧ c = .fr .none) ∨ (v ≠ .non ∧ c ≠ .fr .none) := by
  cases c with
  | fr d => cases r <;> first | exact .inl ⟨rfl, rfl⟩ | exact .inr ⟨(fun z => nomatch z), (fun z => nomatch z)⟩
  | hd h => obtain ⟨a, _, rfl⟩ := r; exact .inr ⟨(fun z => nomatch z), (fun z => nomatch z)⟩
  | sc h => obtain ⟨a, rfl, _⟩ := r; exact .inr ⟨(fun z => nomatch z), (fun z => nomatch z)⟩
  | fn x => cases r; exact .inr ⟨(fun z => nomatch z), (fun z => nomatch z)⟩
theorem se_isN (ha : SE K ta wa) : SE K (tIsN ta) (wIsN wa) := by
  intro ss own Q hw B θ F H σ g s Qv k
  refine ha ss own _ hw B θ F H σ g s _ fun θ1 own1 F1 H1 v c g1 t1 r1 q1 => ?_
  rcases cr_non r1 with ⟨rfl, rfl⟩ | ⟨n1, n2⟩
  · exact k _ _ _ _ _ (.fr (.bool true)) g1 t1 (.bl _) q1
  · rw [decide_eq_false n1]
    refine k _ _ _ _ _ (.fr (.bool false)) g1 t1 (.bl _) ?_
    dsimp only at q1
    split at q1
    · exact absurd rfl n2
    · exact q1
theorem se_notN (ha : SE K ta wa) : SE K (tNotN ta) (wNotN wa) := by
  intro ss own Q hw B θ F H σ g s Qv k
  refine ha ss own _ hw B θ F H σ g s _ fun θ1 own1 F1 H1 v c g1 t1 r1 q1 => ?_
  rcases cr_non r1 with ⟨rfl, rfl⟩ | ⟨n1, n2⟩
  · exact k _ _ _ _ _ (.fr (.bool false)) g1 t1 (.bl _) q1
  · rw [decide_eq_false n1]
    refine k _ _ _ _ _ (.fr (.bool true)) g1 t1 (.bl _) ?_
    dsimp only at q1
    split at q1
    · exact absurd rfl n2
    · exact q1
end

/-! ### built-in calls -/
def wCB (f : FA) (wa : WA) : WE := fun ss own Q => wa ss own fun cs o1 => f cs o1 Q
theorem se_cb {K : PySem.W.Frag} {r : List V → Hp → VK → Prop} {f : FA} {ta : TA} {wa : WA} (ha : SA K ta wa) (hr : SN K r f) : SE K (tCB r ta) (wCB f wa) := by
  intro ss own Q hw B θ F H σ g s Qv k
  refine ha ss own _ hw B θ F H σ g s _ fun θ1 own1 F1 H1 vs cs g1 t1 r1 q1 => ?_
  exact hr cs own1 Q q1 B θ1 F1 H1 vs g1 r1 Qv (k.up t1)
def fLen : FA := fun cs own Q => match cs with
  | [.fr (.list ds)] => Q (.fr (.int ds.length)) own
  | [.fr (.tuple ds)] => Q (.fr (.int ds.length)) own
  | [.fr (.str z)] => z.length ≤ SZ ∧ Q (.fr (.int z.length)) own
  | [.sc ns] => Q (.fr (.int ns.length)) own
  | [.hd h] => (match own[h]? with
    | some (.lst xs) => Q (.fr (.int xs.length)) own
    | _ => False)
  | _ => False
def fInt : FA := fun cs own Q => match cs with
  | [.fr (.int i)] => Q (.fr (.int i)) own
  | [.fr (.bool b)] => Q (.fr (.int (if b then 1 else 0))) own
  | _ => False
def fAbs : FA := fun cs own Q => match cs with
  | [.fr (.int i)] => Q (.fr (.int (if i < 0 then -i else i))) own
  | _ => False
def fMax2 : FA := fun cs own Q => match cs with
  | [.fr (.int i), .fr (.int j)] => Q (.fr (.int (if j > i then j else i))) own
  | _ => False
def fMin2 : FA := fun cs own Q => match cs with
  | [.fr (.int i), .fr (.int j)] => Q (.fr (.int (if j < i then j else i))) own
  | _ => False
/-- the intsD of a list of data -/
def intsD : List D → Option (List Int)
  | [] => some []
  | .int i :: ds => (intsD ds).map (i :: ·)
  | _ :: _ => none
def boolsD : List D → Option (List Bool)
  | [] => some []
  | .bool i :: ds => (boolsD ds).map (i :: ·)
  | _ :: _ => none
theorem ints_map : ∀ (ns : List Int), intsD (ns.map PyData.int) = some ns
  | [] => rfl
  | n :: ns => by rw [List.map_cons, intsD, ints_map ns]; rfl
theorem bools_map : ∀ (ns : List Bool), boolsD (ns.map PyData.bool) = some ns
  | [] => rfl
  | n :: ns => by rw [List.map_cons, boolsD, bools_map ns]; rfl
/-- a list's, a tuple's items -/
def seqD : C → Option (List D)
  | .fr (.list ds) => some ds
  | .fr (.tuple ds) => some ds
  | _ => none
def fSum : FA := fun cs own Q => match cs with
  | [c] => optP ((seqD c).bind intsD) fun ns => Q (.fr (.int ns.sum)) own
  | _ => False
def minI (ns : List Int) : Int := ns.min?.getD 0
def maxI (ns : List Int) : Int := ns.max?.getD 0
def fMinL : FA := fun cs own Q => match cs with
  | [c] => optP ((seqD c).bind intsD) fun ns => ns ≠ [] ∧ Q (.fr (.int (minI ns))) own
  | _ => False
def fMaxL : FA := fun cs own Q => match cs with
  | [c] => optP ((seqD c).bind intsD) fun ns => ns ≠ [] ∧ Q (.fr (.int (maxI ns))) own
  | _ => False
def fAll : FA := fun cs own Q => match cs with
  | [.fr (.list ds)] => optP (boolsD ds) fun ns => Q (.fr (.bool (ns.all id))) own
  | _ => False
def fAny : FA := fun cs own Q => match cs with
  | [.fr (.list ds)] => optP (boolsD ds) fun ns => Q (.fr (.bool (ns.any id))) own
  | _ => False
def fTupleOf : FA := fun cs own Q => match cs with
  | [.fr (.list ds)] => Q (.fr (.tuple ds)) own
  | [.fr (.tuple ds)] => Q (.fr (.tuple ds)) own
  | _ => False
def fListOf : FA := fun cs own Q => match cs with
  | [.fr (.list ds)] => Q (.fr (.list ds)) own
  | [.fr (.tuple ds)] => Q (.fr (.list ds)) own
  | _ => False
def fListOfH : FA := fun cs own Q => match cs with
  | [.fr (.list ds)] => Q (.hd own.length) (own ++ [.lst (ds.map C.fr)])
  | [.fr (.tuple ds)] => Q (.hd own.length) (own ++ [.lst (ds.map C.fr)])
  | [.hd h] => (match own[h]? with
    | some (.lst xs) => Q (.hd own.length) (own ++ [.lst xs])
    | _ => False)
  | _ => False
theorem minI_eq {ns : List Int} {m : Int} (h : m ∈ ns) (hm : ∀ y ∈ ns, m ≤ y) : minI ns = m := by
  have e : ns.min? = some m := by
    rw [List.min?_eq_some_iff]
    exact ⟨h, hm⟩
  unfold minI
  rw [e]
  rfl
theorem maxI_eq {ns : List Int} {m : Int} (h : m ∈ ns) (hm : ∀ y ∈ ns, y ≤ m) : maxI ns = m := by
  have e : ns.max? = some m := by
    rw [List.max?_eq_some_iff]
    exact ⟨h, hm⟩
  unfold maxI
  rw [e]
  rfl
section
variable {K : PySem.W.Frag}
theorem paired1 {α β : Type} {P : α → β → Prop} {xs : List α} {y : β} (h : Paired P xs [y]) : ∃ x, xs = [x] ∧ P x y := by
  cases h with
  | cons r t => cases t; exact ⟨_, rfl, r⟩
theorem paired2 {α β : Type} {P : α → β → Prop} {xs : List α} {y z : β} (h : Paired P xs [y, z]) : ∃ x u, xs = [x, u] ∧ P x y ∧ P u z := by
  cases h with
  | cons r t => cases t with | cons r2 t2 => cases t2; exact ⟨_, _, rfl, r, r2⟩
theorem of_ints {θ : List Addr} {F : Hp} : ∀ {ds : List D} {ns : List Int} {vs : List V}, intsD ds = some ns → RpAll K F vs ds → vs = ns.map V.int
  | [], ns, vs, e, h => by cases e; cases h; rfl
  | .int i :: ds, ns, vs, e, h => by
    rw [intsD] at e
    cases e2 : intsD ds with
    | none => rw [e2] at e; cases e
    | some es =>
      rw [e2] at e
      cases e
      cases h with
      | cons h1 h2 =>
        cases h1
        rw [List.map_cons, of_ints (θ := θ) e2 h2]
  | .none :: _, _, _, e, _ => by cases e
  | .bool _ :: _, _, _, e, _ => by cases e
  | .str _ :: _, _, _, e, _ => by cases e
  | .list _ :: _, _, _, e, _ => by cases e
  | .tuple _ :: _, _, _, e, _ => by cases e
  | .dict _ :: _, _, _, e, _ => by cases e
theorem of_bools {θ : List Addr} {F : Hp} : ∀ {ds : List D} {ns : List Bool} {vs : List V}, boolsD ds = some ns → RpAll K F vs ds → vs = ns.map V.bl
  | [], ns, vs, e, h => by cases e; cases h; rfl
  | .bool i :: ds, ns, vs, e, h => by
    rw [boolsD] at e
    cases e2 : boolsD ds with
    | none => rw [e2] at e; cases e
    | some es =>
      rw [e2] at e
      cases e
      cases h with
      | cons h1 h2 =>
        cases h1
        rw [List.map_cons, of_bools (θ := θ) e2 h2]
  | .none :: _, _, _, e, _ => by cases e
  | .int _ :: _, _, _, e, _ => by cases e
  | .str _ :: _, _, _, e, _ => by cases e
  | .list _ :: _, _, _, e, _ => by cases e
  | .tuple _ :: _, _, _, e, _ => by cases e
  | .dict _ :: _, _, _, e, _ => by cases e
theorem sn_len : SN K (fun xs H Q => ∃ x n, xs = [x] ∧ LenV K x H n ∧ Q (.int n) H) fLen := by
  intro cs own Q hq B θ F H vs gg rs Qv k
  unfold fLen at hq
  split at hq
  · rename_i ds
    obtain ⟨v, rfl, r⟩ := paired1 rs
    obtain ⟨a, xs, rfl, h1, h2⟩ := cr_lst r
    exact ⟨_, _, rfl, .inl ⟨xs, SqL.of (gg.ex _ _ h1), rfl⟩, by rw [rpAll_len h2]; exact k.here (c := .fr (.int ds.length)) gg (.int _) hq⟩
  · rename_i ds
    obtain ⟨v, rfl, r⟩ := paired1 rs
    obtain ⟨a, xs, rfl, h1, h2⟩ := cr_tup r
    exact ⟨_, _, rfl, .inr ⟨xs, same_t gg.ex h1, rfl⟩, by rw [rpAll_len h2]; exact k.here (c := .fr (.int ds.length)) gg (.int _) hq⟩
  · rename_i z
    obtain ⟨v, rfl, r⟩ := paired1 rs
    cases cr_str r
    exact ⟨_, _, rfl, ⟨szl hq.1, rfl⟩, k.here (c := .fr (.int z.length)) gg (.int _) hq.2⟩
  · rename_i ns
    obtain ⟨v, rfl, a, rfl, h1⟩ := paired1 rs
    exact ⟨_, _, rfl, .inl ⟨_, same_l gg.ex h1, rfl⟩, by rw [List.length_map]; exact k.here (c := .fr (.int ns.length)) gg (.int _) hq⟩
  · rename_i h
    obtain ⟨v, rfl, a, ha, rfl⟩ := paired1 rs
    split at hq
    · rename_i xs e
      obtain ⟨_, ws, hv, rv⟩ := gg.mo h a _ ha e
      exact ⟨_, _, rfl, .inl ⟨ws, SqL.of hv, rfl⟩, by rw [paired_len rv]; exact k.here (c := .fr (.int xs.length)) gg (.int _) hq⟩
    · exact hq.elim
  · exact hq.elim
theorem sn_int : SN K (fun xs H Q => (∃ i, xs = [.int i] ∧ Q (.int i) H) ∨ ∃ k, xs = [.bl k] ∧ Q (.int (if k then 1 else 0)) H) fInt := by
  intro cs own Q hq B θ F H vs gg rs Qv k
  unfold fInt at hq
  split at hq
  · rename_i i
    obtain ⟨v, rfl, r⟩ := paired1 rs
    cases cr_int r
    exact .inl ⟨i, rfl, k.here (c := .fr (.int i)) gg (.int _) hq⟩
  · rename_i i
    obtain ⟨v, rfl, r⟩ := paired1 rs
    cases cr_bl r
    exact .inr ⟨i, rfl, k.here (c := .fr (.int (if i then 1 else 0))) gg (.int _) hq⟩
  · exact hq.elim
theorem sn_abs : SN K (fun xs H Q => ∃ i, xs = [.int i] ∧ Q (.int (if i < 0 then -i else i)) H) fAbs := by
  intro cs own Q hq B θ F H vs gg rs Qv k
  unfold fAbs at hq
  split at hq
  · rename_i i
    obtain ⟨v, rfl, r⟩ := paired1 rs
    cases cr_int r
    exact ⟨i, rfl, k.here (c := .fr (.int (if i < 0 then -i else i))) gg (.int _) hq⟩
  · exact hq.elim
theorem sn_max2 : SN K (fun xs H Q => ∃ i j, xs = [.int i, .int j] ∧ Q (.int (if j > i then j else i)) H) fMax2 := by
  intro cs own Q hq B θ F H vs gg rs Qv k
  unfold fMax2 at hq
  split at hq
  · rename_i i j
    obtain ⟨v, u, rfl, r, r2⟩ := paired2 rs
    cases cr_int r
    cases cr_int r2
    exact ⟨i, j, rfl, k.here (c := .fr (.int (if j > i then j else i))) gg (.int _) hq⟩
  · exact hq.elim
theorem sn_min2 : SN K (fun xs H Q => ∃ i j, xs = [.int i, .int j] ∧ Q (.int (if j < i then j else i)) H) fMin2 := by
  intro cs own Q hq B θ F H vs gg rs Qv k
  unfold fMin2 at hq
  split at hq
  · rename_i i j
    obtain ⟨v, u, rfl, r, r2⟩ := paired2 rs
    cases cr_int r
    cases cr_int r2
    exact ⟨i, j, rfl, k.here (c := .fr (.int (if j < i then j else i))) gg (.int _) hq⟩
  · exact hq.elim
theorem seq_ints {B : Addr → Prop} {θ : List Addr} {own : Ts} {F H : Hp} {v : V} {c : C} {ns : List Int} (gg : Ga K B θ own F H) (r : Cr K θ F v c) (e : (seqD c).bind intsD = some ns) : ∃ a, v = .ref a ∧ SqA K H a (ns.map V.int) := by
  unfold seqD at e
  split at e
  · obtain ⟨a, xs, rfl, h1, h2⟩ := cr_lst r
    cases of_ints (θ := θ) e h2
    exact ⟨a, rfl, .inl (SqL.of (gg.ex _ _ h1))⟩
  · obtain ⟨a, xs, rfl, h1, h2⟩ := cr_tup r
    cases of_ints (θ := θ) e h2
    exact ⟨a, rfl, .inr (same_t gg.ex h1)⟩
  · cases e
theorem sn_sum : SN K (rSumA K) fSum := by
  intro cs own Q hq B θ F H vs gg rs Qv k
  unfold fSum at hq
  split at hq
  · obtain ⟨v, rfl, r⟩ := paired1 rs
    obtain ⟨ns, e, hq⟩ := of_mt hq
    obtain ⟨a, rfl, h⟩ := seq_ints gg r e
    exact ⟨a, ns, rfl, h, k.here (c := .fr (.int ns.sum)) gg (.int _) hq⟩
  · exact hq.elim
theorem sn_minL : SN K (rMinA K) fMinL := by
  intro cs own Q hq B θ F H vs gg rs Qv k
  unfold fMinL at hq
  split at hq
  · obtain ⟨v, rfl, r⟩ := paired1 rs
    obtain ⟨ns, e, hq⟩ := of_mt hq
    obtain ⟨a, rfl, h⟩ := seq_ints gg r e
    refine ⟨a, ns, rfl, h, List.length_pos_iff.mpr hq.1, fun m hm hl => ?_⟩
    rw [← minI_eq hm hl]
    exact k.here (c := .fr (.int (minI ns))) gg (.int _) hq.2
  · exact hq.elim
theorem sn_maxL : SN K (rMaxA K) fMaxL := by
  intro cs own Q hq B θ F H vs gg rs Qv k
  unfold fMaxL at hq
  split at hq
  · obtain ⟨v, rfl, r⟩ := paired1 rs
    obtain ⟨ns, e, hq⟩ := of_mt hq
    obtain ⟨a, rfl, h⟩ := seq_ints gg r e
    refine ⟨a, ns, rfl, h, List.length_pos_iff.mpr hq.1, fun m hm hl => ?_⟩
    rw [← maxI_eq hm hl]
    exact k.here (c := .fr (.int (maxI ns))) gg (.int _) hq.2
  · exact hq.elim
theorem sn_all : SN K (rAll K) fAll := by
  intro cs own Q hq B θ F H vs gg rs Qv k
  unfold fAll at hq
  split at hq
  · rename_i ds
    obtain ⟨v, rfl, r⟩ := paired1 rs
    obtain ⟨a, xs, rfl, h1, h2⟩ := cr_lst r
    obtain ⟨ns, e, hq⟩ := of_mt hq
    cases of_bools (θ := θ) e h2
    exact ⟨a, ns, rfl, SqL.of (gg.ex _ _ h1), k.here (c := .fr (.bool (ns.all id))) gg (.bl _) hq⟩
  · exact hq.elim
theorem sn_any : SN K (rAny K) fAny := by
  intro cs own Q hq B θ F H vs gg rs Qv k
  unfold fAny at hq
  split at hq
  · rename_i ds
    obtain ⟨v, rfl, r⟩ := paired1 rs
    obtain ⟨a, xs, rfl, h1, h2⟩ := cr_lst r
    obtain ⟨ns, e, hq⟩ := of_mt hq
    cases of_bools (θ := θ) e h2
    exact ⟨a, ns, rfl, SqL.of (gg.ex _ _ h1), k.here (c := .fr (.bool (ns.any id))) gg (.bl _) hq⟩
  · exact hq.elim
theorem sn_tupleOf : SN K (fun xs H Q => ∃ p ys, xs = [.ref p] ∧ ((SqL K H p ys ∧ ∀ l, H l = none → Q (.ref l) (upd H l (.tup ys))) ∨ (SqT K H p ys ∧ Q (.ref p) H))) fTupleOf := by
  intro cs own Q hq B θ F H vs gg rs Qv k
  unfold fTupleOf at hq
  split at hq
  · rename_i ds
    obtain ⟨v, rfl, r⟩ := paired1 rs
    obtain ⟨a, xs, rfl, h1, h2⟩ := cr_lst r
    exact ⟨a, xs, rfl, .inl ⟨SqL.of (gg.ex _ _ h1), fun p hp => k.new (d := .tuple ds) gg hp hq fun F' e hF => .tup (SqT.of hF) (rpAll_mono e _ _ h2)⟩⟩
  · rename_i ds
    obtain ⟨v, rfl, r⟩ := paired1 rs
    obtain ⟨a, xs, rfl, h1, h2⟩ := cr_tup r
    exact ⟨a, xs, rfl, .inr ⟨same_t gg.ex h1, k.here gg r hq⟩⟩
  · exact hq.elim
theorem sn_listOf : SN K (fun xs H Q => ∃ p ys, xs = [.ref p] ∧ (SqL K H p ys ∨ SqT K H p ys) ∧ ∀ l, H l = none → Q (.ref l) (upd H l (.lst ys))) fListOf := by
  intro cs own Q hq B θ F H vs gg rs Qv k
  unfold fListOf at hq
  split at hq
  · rename_i ds
    obtain ⟨v, rfl, r⟩ := paired1 rs
    obtain ⟨a, xs, rfl, h1, h2⟩ := cr_lst r
    exact ⟨a, xs, rfl, .inl (SqL.of (gg.ex _ _ h1)), fun p hp => k.new (d := .list ds) gg hp hq fun F' e hF => .lst hF (rpAll_mono e _ _ h2)⟩
  · rename_i ds
    obtain ⟨v, rfl, r⟩ := paired1 rs
    obtain ⟨a, xs, rfl, h1, h2⟩ := cr_tup r
    exact ⟨a, xs, rfl, .inr (same_t gg.ex h1), fun p hp => k.new (d := .list ds) gg hp hq fun F' e hF => .lst hF (rpAll_mono e _ _ h2)⟩
  · exact hq.elim
theorem sn_listOfH : SN K (fun xs H Q => ∃ p ys, xs = [.ref p] ∧ (SqL K H p ys ∨ SqT K H p ys) ∧ ∀ l, H l = none → Q (.ref l) (upd H l (.lst ys))) fListOfH := by
  intro cs own Q hq B θ F H vs gg rs Qv k
  unfold fListOfH at hq
  split at hq
  · rename_i ds
    obtain ⟨v, rfl, r⟩ := paired1 rs
    obtain ⟨a, xs, rfl, h1, h2⟩ := cr_lst r
    exact ⟨a, xs, rfl, .inl (SqL.of (gg.ex _ _ h1)), fun p hp => k.newH gg hp (paired_rpAll h2) hq⟩
  · rename_i ds
    obtain ⟨v, rfl, r⟩ := paired1 rs
    obtain ⟨a, xs, rfl, h1, h2⟩ := cr_tup r
    exact ⟨a, xs, rfl, .inr (same_t gg.ex h1), fun p hp => k.newH gg hp (paired_rpAll h2) hq⟩
  · rename_i h
    obtain ⟨v, rfl, a, ha, rfl⟩ := paired1 rs
    split at hq
    · rename_i xs e
      obtain ⟨_, ws, hv, rv⟩ := gg.mo h a _ ha e
      exact ⟨a, ws, rfl, .inl (SqL.of hv), fun p hp => k.newH gg hp rv hq⟩
    · exact hq.elim
  · exact hq.elim
end
/-- isinstance(x, T), T a built-in type -/
def isT : D → String → Option Bool
  | .none, t => kitB "NoneType" t
  | .bool _, t => kitB "bool" t
  | .int _, t => kitB "int" t
  | .str _, t => kitB "str" t
  | .list _, t => kitB "list" t
  | .tuple _, t => kitB "tuple" t
  | .dict _, _ => none
def wIsi (T : String) (we : WE) : WE := fun ss own Q => we ss own fun c o1 => match c with
  | .fr d => optP (isT d T) fun b => Q (.fr (.bool b)) o1
  | _ => False
theorem se_isi {K : PySem.W.Frag} {te : TE} {we : WE} {T : String} (h : SE K te we) : SE K (tCB (rIsi K) (tCons te (tCons (tC (.ty T)) tNil))) (wIsi T we) := by
  intro ss own Q hw B θ F H σ g s Qv k
  refine h ss own _ hw B θ F H σ g s _ fun θ1 own1 F1 H1 v c g1 t1 r1 q1 => ?_
  dsimp only at q1
  split at q1
  · rename_i d
    · obtain ⟨b, e, q1⟩ := of_mt q1
      have fin : Qv (.bl b) H1 := k _ _ _ _ _ (.fr (.bool b)) g1 t1 (.bl _) q1
      cases r1 with
      | non => exact ⟨_, _, _, _, b, rfl, .ty T, .base .non, kit_ty e, fin⟩
      | bl x => exact ⟨_, _, _, _, b, rfl, .ty T, .base (.bl x), kit_ty e, fin⟩
      | int x => exact ⟨_, _, _, _, b, rfl, .ty T, .base (.int x), kit_ty e, fin⟩
      | str x => exact ⟨_, _, _, _, b, rfl, .ty T, .base (.str x), kit_ty e, fin⟩
      | lst h1 h2 => exact ⟨_, _, _, _, b, rfl, .ty T, .base (.lst (g1.ex _ _ h1)), kit_ty e, fin⟩
      | tup h1 h2 =>
        rcases h1 with (h1 | ⟨o, h1⟩) | ⟨o, its, n, h1, h3, _⟩
        · exact ⟨_, _, _, _, b, rfl, .ty T, .base (.tup (g1.ex _ _ h1)), kit_ty e, fin⟩
        · exact ⟨_, _, _, _, b, rfl, .ty T, .fTuple (g1.ex _ _ h1), kit_ty e, fin⟩
        · exact ⟨_, _, _, _, b, rfl, .ty T, .kTuple h1 h3, kit_ty e, fin⟩
  · exact q1.elim
end Zd

/-! Zd4: targets, what is walked, comprehensions, statements, methods, calls, defs. -/
namespace Zd
open PySem L2 RZ RT

/-! ### targets -/
abbrev WG := C → Sl → Ts → (Sl → Ts → Prop) → Prop
abbrev WGs := List C → Sl → Ts → (Sl → Ts → Prop) → Prop
def SG (K : PySem.W.Frag) (js : List Nat) (g : TG) (w : WG) : Prop := ∀ c ss own Q, w c ss own Q → ∀ B θ F H σ v, Ga K B θ own F H → Zd.SlR K θ F σ ss → Cr K θ F v c → ∀ R : St → Hp → Prop,
  (∀ θ' own' F' H' σ' ss', Ga K B θ' own' F' H' → Tr B θ F H θ' F' H' → Zd.SlR K θ' F' σ' ss' → (∀ ws, (∀ j ∈ js, j ∈ ws) → wipe σ' ws = wipe σ ws) → Q ss' own' → R σ' H') → g v σ H R
def SGs (K : PySem.W.Frag) (js : List Nat) (g : TGs) (w : WGs) : Prop := ∀ cs ss own Q, w cs ss own Q → ∀ B θ F H σ vs, Ga K B θ own F H → Zd.SlR K θ F σ ss → Paired (Cr K θ F) vs cs → ∀ R : St → Hp → Prop,
  (∀ θ' own' F' H' σ' ss', Ga K B θ' own' F' H' → Tr B θ F H θ' F' H' → Zd.SlR K θ' F' σ' ss' → (∀ ws, (∀ j ∈ js, j ∈ ws) → wipe σ' ws = wipe σ ws) → Q ss' own' → R σ' H') → g vs σ H R
structure AG (X : Cx) (tg : Expr) (js : List Nat) (g : TG) (w : WG) : Prop where
  p : PG X tg g
  s : SG X.K js g w
structure AGs (X : Cx) (tg : List Expr) (js : List Nat) (g : TGs) (w : WGs) : Prop where
  p : PGs X tg g
  s : SGs X.K js g w
def wName (i : Nat) : WG := fun c ss own Q => Q (ss.set i (some c)) own
def wGNil : WGs := fun cs ss own Q => cs = [] ∧ Q ss own
def wGCons (g : WG) (gs : WGs) : WGs := fun cs ss own Q => match cs with
  | c :: r => g c ss own fun ss' own' => gs r ss' own' Q
  | [] => False
def wGTup (n : Nat) (gs : WGs) : WG := fun c ss own Q => match c with
  | .fr (.tuple ds) => ds.length = n ∧ gs (ds.map C.fr) ss own Q
  | _ => False
theorem wipe_in {σ : St} {j : Nat} {x : Option V} : ∀ {ws : List Nat}, j ∈ ws → wipe (σ.set j x) ws = wipe σ ws := by
  have comm : ∀ (ws : List Nat), wipe (σ.set j x) ws = (wipe σ ws).set j x ∨ wipe (σ.set j x) ws = wipe σ ws := by
    intro ws
    induction ws with
    | nil => exact .inl rfl
    | cons v ws ih =>
      unfold wipe
      rcases ih with e | e
      · rw [e]
        by_cases h : j = v
        · subst h
          exact .inr (by rw [List.set_set])
        · exact .inl (List.set_comm _ _ h)
      · exact .inr (by rw [e])
  intro ws
  induction ws with
  | nil => intro h; cases h
  | cons v ws ih =>
    intro h
    unfold wipe
    by_cases hj : j ∈ ws
    · rw [ih hj]
    · have e : j = v := by
        rcases List.mem_cons.mp h with h | h
        · exact h
        · exact absurd h hj
      subst e
      rcases comm ws with e | e
      · rw [e, List.set_set]
      · rw [e]
section
variable {K : PySem.W.Frag} {g : TG} {gs : TGs} {w : WG} {ws : WGs} {js ks : List Nat}
theorem slr_set {θ : List Addr} {F : Hp} {σ : St} {ss : Sl} {i : Nat} {v : V} {c : C} (s : Zd.SlR K θ F σ ss) (r : Cr K θ F v c) : Zd.SlR K θ F (σ.set i (some v)) (ss.set i (some c)) := by
  refine ⟨by simp [s.1], fun j d e => ?_⟩
  by_cases hj : i = j
  · subst hj
    have hi : i < ss.length := by
      have := (List.getElem?_eq_some_iff.mp e).1
      rwa [List.length_set] at this
    rw [List.getElem?_set_self hi] at e
    cases e
    exact ⟨v, List.getElem?_set_self (by rw [s.1]; exact hi), r⟩
  · rw [List.getElem?_set_ne hj] at e
    obtain ⟨u, h1, h2⟩ := s.2 j d e
    exact ⟨u, by rw [List.getElem?_set_ne hj]; exact h1, h2⟩
theorem sg_name {i : Nat} : SG K [i] (gName i) (wName i) := by
  intro c ss own Q hq B θ F H σ v g s r R k
  exact k θ own F H _ _ g Tr.refl (slr_set s r) (fun ws h => wipe_in (h i (by simp))) hq
theorem sgs_nil : SGs K [] gNil wGNil := by
  intro cs ss own Q hq B θ F H σ vs g s r R k
  obtain ⟨rfl, hq⟩ := hq
  cases r
  exact ⟨rfl, k θ own F H _ _ g Tr.refl s (fun _ _ => rfl) hq⟩
theorem sgs_cons (h : SG K js g w) (hs : SGs K ks gs ws) : SGs K (js ++ ks) (gCons g gs) (wGCons w ws) := by
  intro cs ss own Q hq B θ F H σ vs gg s r R k
  cases r with
  | nil => exact hq.elim
  | cons r1 r2 =>
    refine ⟨_, _, rfl, ?_⟩
    refine h _ ss own _ hq B θ F H σ _ gg s r1 _ fun θ1 own1 F1 H1 σ1 ss1 g1 t1 s1 e1 q1 => ?_
    refine hs _ ss1 own1 _ q1 B θ1 F1 H1 σ1 _ g1 s1 (paired_up t1 r2) _ fun θ2 own2 F2 H2 σ2 ss2 g2 t2 s2 e2 q2 => ?_
    exact k θ2 own2 F2 H2 σ2 ss2 g2 (t1.trans t2) s2 (fun zs hz => (e2 zs fun j hj => hz j (List.mem_append_right _ hj)).trans (e1 zs fun j hj => hz j (List.mem_append_left _ hj))) q2
theorem sg_tup {n : Nat} (hs : SGs K js gs ws) : SG K js (gTup K n gs) (wGTup n ws) := by
  intro c ss own Q hq B θ F H σ v gg s r R k
  unfold wGTup at hq
  split at hq
  · rename_i ds
    obtain ⟨a, xs, rfl, h1, h2⟩ := cr_tup r
    exact ⟨a, xs, rfl, same_t gg.ex h1, by rw [rpAll_len h2]; exact hq.1, hs _ ss own _ hq.2 B θ F H σ xs gg s (paired_rpAll h2) R k⟩
  · exact hq.elim
end

/-! ### what is walked -/
abbrev WI := Sl → Ts → (List D → Ts → Prop) → Prop
/-- the iterator J gives these items, whatever is added to F -/
structure Wk (K : PySem.W.Frag) (F : Hp) (J : It) (items : List D) : Prop where
  ex : ∃ (G : Hp → Prop) (Y : Nat → Hp → V → Hp → Prop), Walk J items.length G Y ∧ (∀ H, Same F H → G H) ∧ ∀ i H x H', i < items.length → Same F H → Y i H x H' →
    ∃ d, items[i]? = some d ∧ ((H' = H ∧ Rp K F x d) ∨ ∃ T o, H T = none ∧ H' = upd H T o ∧ x = .ref T ∧ ∀ F', Same F F' → F' T = some o → Rp K F' x d)
def SI (K : PySem.W.Frag) (wi : TI) (w : WI) : Prop := ∀ ss own Q, w ss own Q → ∀ B θ F H σ, Ga K B θ own F H → Zd.SlR K θ F σ ss → ∀ R : It → Hp → Prop,
  (∀ θ' own' F' H' J items, Ga K B θ' own' F' H' → Tr B θ F H θ' F' H' → Wk K F' J items → Q items own' → R J H') → wi σ H R
structure AI (X : Cx) (tg iter : Expr) (wi : TI) (w : WI) : Prop where
  p : PI X tg iter wi
  s : SI X.K wi w
def wiList (we : WE) : WI := fun ss own Q => we ss own fun c o1 => match c with
  | .fr (.list ds) => Q ds o1
  | .sc ns => Q (ns.map PyData.int) o1
  | _ => False
def wiTup (we : WE) : WI := fun ss own Q => we ss own fun c o1 => match c with
  | .fr (.tuple ds) => Q ds o1
  | _ => False
def wiStr (we : WE) : WI := fun ss own Q => we ss own fun c o1 => match c with
  | .fr (.str z) => Q (z.cps.toList.map fun x => .str ⟨#[x]⟩) o1
  | _ => False
def rangeD (lo : Int) (n : Nat) : List D := (List.range n).map fun (i : Nat) => PyData.int (lo + (i : Int))
theorem rangeD_length {lo : Int} {n : Nat} : (rangeD lo n).length = n := by simp [rangeD]
theorem rangeD_get {lo : Int} {n i : Nat} (h : i < n) : (rangeD lo n)[i]? = some (.int (lo + (i : Int))) := by simp [rangeD, h]
theorem of_rangeD {lo : Int} {n i : Nat} {d : D} (h : (rangeD lo n)[i]? = some d) : i < n ∧ d = .int (lo + (i : Int)) := by
  have hi : i < n := by have := (List.getElem?_eq_some_iff.mp h).1; rwa [rangeD_length] at this
  rw [rangeD_get hi] at h
  exact ⟨hi, (Option.some.inj h).symm⟩
def wiR1 (wa : WA) : WI := fun ss own Q => wa ss own fun cs o1 => match cs with
  | [.fr (.int j)] => (-(2 ^ 62) ≤ j ∧ j < 2 ^ 62) ∧ Q (rangeD 0 j.toNat) o1
  | _ => False
def wiR2 (wa : WA) : WI := fun ss own Q => wa ss own fun cs o1 => match cs with
  | [.fr (.int i), .fr (.int j)] => (-(2 ^ 62) ≤ i ∧ i < 2 ^ 62 ∧ -(2 ^ 62) ≤ j ∧ j < 2 ^ 62) ∧ Q (rangeD i (j - i).toNat) o1
  | _ => False
/-- zip of two lists, of two tuples -/
def wiZip (wa : WA) : WI := fun ss own Q => wa ss own fun cs o1 => match cs with
  | [.fr (.list xs), .fr (.list ys)] => Q ((xs.zip ys).map fun p => .tuple [p.1, p.2]) o1
  | [.fr (.tuple xs), .fr (.tuple ys)] => Q ((xs.zip ys).map fun p => .tuple [p.1, p.2]) o1
  | _ => False
def wiRev (we : WE) : WI := fun ss own Q => we ss own fun c o1 => match c with
  | .fr (.list ds) => Q ds.reverse o1
  | .fr (.tuple ds) => Q ds.reverse o1
  | _ => False
section
variable {K : PySem.W.Frag} {F : Hp} {te : TE} {we : WE} {ta : TA} {wa : WA}
theorem wk_of {J : It} {items : List D} {G : Hp → Prop} {Y : Nat → Hp → V → Hp → Prop} (h : Walk J items.length G Y) (hg : ∀ H, Same F H → G H) (hy : ∀ i H x H', Y i H x H' → ∃ d, items[i]? = some d ∧ H' = H ∧ Rp K F x d) : Wk K F J items :=
  ⟨G, Y, h, hg, fun i H x H' _ _ y => let ⟨d, e, a, b⟩ := hy i H x H' y; ⟨d, e, .inl ⟨a, b⟩⟩⟩
theorem wk_list {a : Addr} {xs : List V} {ds : List D} (h : SqL K F a xs) (r : RpAll K F xs ds) : Wk K F (Itl K a) ds := by
  refine wk_of (G := fun H => SqL K H a xs) (Y := YAt xs) (by rw [← rpAll_len r]; exact walk_list) (fun H e => same_l e h) fun i H x H' y => ?_
  obtain ⟨d, e, rd⟩ := rpAll_getV r y.2
  exact ⟨d, e, y.1, rd⟩
theorem wk_tup {a : Addr} {xs : List V} {ds : List D} (h : SqT K F a xs) (r : RpAll K F xs ds) : Wk K F (Itt K a) ds := by
  refine wk_of (G := fun H => SqT K H a xs) (Y := YAt xs) (by rw [← rpAll_len r]; exact walk_tup) (fun H e => same_t e h) fun i H x H' y => ?_
  obtain ⟨d, e, rd⟩ := rpAll_getV r y.2
  exact ⟨d, e, y.1, rd⟩
theorem wk_range {lo : Int} {n : Nat} : Wk K F (Itr lo n) (rangeD lo n) := by
  refine ⟨fun _ => True, YFn fun i => .int (lo + i), by rw [rangeD_length]; exact walk_range, fun _ _ => trivial, fun i H x H' hi _ y => ?_⟩
  obtain ⟨e1, e2⟩ := y
  rw [rangeD_length] at hi
  exact ⟨_, rangeD_get hi, .inl ⟨e1, by rw [e2]; exact .int _⟩⟩
theorem rp_pair {F F' : Hp} {T : Addr} {x y : V} {d e : D} (s : Same F F') (h : F' T = some (.tup [x, y])) (hx : Rp K F x d) (hy : Rp K F y e) : Rp K F' (.ref T) (.tuple [d, e]) :=
  .tup (SqT.of h) (.cons (rp_mono s _ _ hx) (.cons (rp_mono s _ _ hy) .nil))
theorem wk_pair {J : It} {ds es : List D} {xs ys : Nat → Option V} {G : Hp → Prop} (h : Walk J (min ds.length es.length) G (YPair xs ys)) (hg : ∀ H, Same F H → G H)
    (hx : ∀ i v, xs i = some v → ∃ d, ds[i]? = some d ∧ Rp K F v d) (hy : ∀ i v, ys i = some v → ∃ d, es[i]? = some d ∧ Rp K F v d) : Wk K F J ((ds.zip es).map fun p => .tuple [p.1, p.2]) := by
  refine ⟨G, YPair xs ys, by rw [List.length_map, List.length_zip]; exact h, hg, fun i H v H' hi _ y => ?_⟩
  obtain ⟨T, x, z, e1, e2, e3, e4, e5⟩ := y
  obtain ⟨d, h1, r1⟩ := hx i x e4
  obtain ⟨d', h2, r2⟩ := hy i z e5
  subst e1
  refine ⟨.tuple [d, d'], ?_, .inr ⟨T, _, e2, e3, rfl, fun F' s hF => rp_pair s hF r1 r2⟩⟩
  rw [List.getElem?_map, List.getElem?_zip_eq_some (z := (d, d')) |>.mpr ⟨h1, h2⟩]
  rfl
theorem walk_zipT {a b : Addr} {xs ys : List V} {n : Nat} (hn : n = min xs.length ys.length) : Walk (ItzT K a b) n (fun H => SqT K H a xs ∧ SqT K H b ys) (YPair (fun i => xs[i]?) (fun i => ys[i]?)) := by
  subst hn
  refine ⟨fun i _ hi q => ?_, fun _ q => ⟨xs, ys, q.1, q.2, by omega⟩, fun i H v H' _ q y => ?_⟩
  · have h1 : i < xs.length := by omega
    have h2 : i < ys.length := by omega
    exact ⟨xs, ys, xs[i], ys[i], q.1, q.2, by simp [h1], by simp [h2]⟩
  · obtain ⟨T, x, z, h1, h2, h3, h4, h5⟩ := y
    exact ⟨T, x, z, h1, h2, h3, h4 xs q.1, h5 ys q.2⟩
theorem walk_revT {a : Addr} {xs : List V} : Walk (ItvT K a xs.length) xs.length (fun H => SqT K H a xs) (fun i H x H' => H' = H ∧ xs[xs.length - 1 - i]? = some x) :=
  ⟨fun i _ hi q => ⟨hi, xs, xs[xs.length - 1 - i]'(by omega), q, by simp [show xs.length - 1 - i < xs.length by omega]⟩, fun _ _ => Nat.le_refl _, fun _ _ _ _ _ q y => ⟨y.1, y.2 xs q⟩⟩
theorem si_list (h : SE K te we) : SI K (iList K te) (wiList we) := by
  intro ss own Q hw B θ F H σ g s R k
  refine h ss own _ hw B θ F H σ g s _ fun θ1 own1 F1 H1 v c g1 t1 r1 q1 => ?_
  dsimp only at q1
  split at q1
  · rename_i ds
    obtain ⟨a, xs, rfl, h1, h2⟩ := cr_lst r1
    exact ⟨a, rfl, ⟨xs, SqL.of (g1.ex _ _ h1)⟩, k _ _ _ _ _ _ g1 t1 (wk_list (SqL.of h1) h2) q1⟩
  · rename_i ns
    obtain ⟨a, rfl, h1⟩ := r1
    exact ⟨a, rfl, ⟨_, same_l g1.ex h1⟩, k _ _ _ _ _ _ g1 t1 (wk_list h1 (ints_rp ns)) q1⟩
  · exact q1.elim
theorem si_tup (h : SE K te we) : SI K (iTup K te) (wiTup we) := by
  intro ss own Q hw B θ F H σ g s R k
  refine h ss own _ hw B θ F H σ g s _ fun θ1 own1 F1 H1 v c g1 t1 r1 q1 => ?_
  dsimp only at q1
  split at q1
  · rename_i ds
    obtain ⟨a, xs, rfl, h1, h2⟩ := cr_tup r1
    exact ⟨a, rfl, ⟨xs, same_t g1.ex h1⟩, k _ _ _ _ _ _ g1 t1 (wk_tup h1 h2) q1⟩
  · exact q1.elim
theorem si_str (h : SE K te we) : SI K (iStr te) (wiStr we) := by
  intro ss own Q hw B θ F H σ g s R k
  refine h ss own _ hw B θ F H σ g s _ fun θ1 own1 F1 H1 v c g1 t1 r1 q1 => ?_
  dsimp only at q1
  split at q1
  · rename_i z
    cases cr_str r1
    refine ⟨z, rfl, k _ _ _ _ _ _ g1 t1 (wk_of (G := fun _ => True) (Y := fun i H v H' => H' = H ∧ ∃ c, z.cps[i]? = some c ∧ v = .str ⟨#[c]⟩) (by rw [List.length_map, Array.length_toList]; exact walk_str) (fun _ _ => trivial) fun i H x H' y => ?_) q1⟩
    obtain ⟨e1, c, e2, e3⟩ := y
    exact ⟨.str ⟨#[c]⟩, by rw [List.getElem?_map, Array.getElem?_toList, e2]; rfl, e1, by rw [e3]; exact .str _⟩
  · exact q1.elim
theorem si_r1 (h : SA K ta wa) : SI K (iRng1 ta) (wiR1 wa) := by
  intro ss own Q hw B θ F H σ g s R k
  refine h ss own _ hw B θ F H σ g s _ fun θ1 own1 F1 H1 vs cs g1 t1 r1 q1 => ?_
  dsimp only at q1
  split at q1
  · rename_i j
    obtain ⟨v, rfl, r⟩ := paired1 r1
    cases cr_int r
    exact ⟨j, rfl, q1.1.1, q1.1.2, k _ _ _ _ _ _ g1 t1 wk_range q1.2⟩
  · exact q1.elim
theorem si_r2 (h : SA K ta wa) : SI K (iRng2 ta) (wiR2 wa) := by
  intro ss own Q hw B θ F H σ g s R k
  refine h ss own _ hw B θ F H σ g s _ fun θ1 own1 F1 H1 vs cs g1 t1 r1 q1 => ?_
  dsimp only at q1
  split at q1
  · rename_i i j
    obtain ⟨v, u, rfl, r, r2⟩ := paired2 r1
    cases cr_int r
    cases cr_int r2
    exact ⟨i, j, rfl, q1.1, k _ _ _ _ _ _ g1 t1 wk_range q1.2⟩
  · exact q1.elim
theorem si_zip (h : SA K ta wa) : SI K (iZipA K ta) (wiZip wa) := by
  intro ss own Q hw B θ F H σ g s R k
  refine h ss own _ hw B θ F H σ g s _ fun θ1 own1 F1 H1 vs cs g1 t1 r1 q1 => ?_
  dsimp only at q1
  split at q1
  · rename_i xs ys
    obtain ⟨v, u, rfl, r, r2⟩ := paired2 r1
    obtain ⟨a, vs, rfl, h1, h2⟩ := cr_lst r
    obtain ⟨b, us, rfl, h3, h4⟩ := cr_lst r2
    refine ⟨a, b, vs, us, rfl, .inl ⟨SqL.of (g1.ex _ _ h1), SqL.of (g1.ex _ _ h3), k _ _ _ _ _ _ g1 t1 (wk_pair (ds := xs) (es := ys) (xs := fun i => vs[i]?) (ys := fun i => us[i]?) (G := fun H => SqL K H a vs ∧ SqL K H b us) (walk_zip (by rw [rpAll_len h2, rpAll_len h4]))
      (fun H e => ⟨SqL.of (e _ _ h1), SqL.of (e _ _ h3)⟩) (fun i v e => rpAll_getV h2 e) fun i v e => rpAll_getV h4 e) q1⟩⟩
  · rename_i xs ys
    obtain ⟨v, u, rfl, r, r2⟩ := paired2 r1
    obtain ⟨a, vs, rfl, h1, h2⟩ := cr_tup r
    obtain ⟨b, us, rfl, h3, h4⟩ := cr_tup r2
    refine ⟨a, b, vs, us, rfl, .inr ⟨same_t g1.ex h1, same_t g1.ex h3, k _ _ _ _ _ _ g1 t1 (wk_pair (ds := xs) (es := ys) (xs := fun i => vs[i]?) (ys := fun i => us[i]?) (G := fun H => SqT K H a vs ∧ SqT K H b us) (walk_zipT (by rw [rpAll_len h2, rpAll_len h4]))
      (fun H e => ⟨same_t e h1, same_t e h3⟩) (fun i v e => rpAll_getV h2 e) fun i v e => rpAll_getV h4 e) q1⟩⟩
  · exact q1.elim
theorem rev_at {xs : List V} {ds : List D} {i : Nat} {x : V} (h2 : RpAll K F xs ds) (hi : i < ds.length) (e : xs[xs.length - 1 - i]? = some x) : ∃ d, ds.reverse[i]? = some d ∧ Rp K F x d := by
  obtain ⟨d, e2, rd⟩ := rpAll_getV h2 e
  exact ⟨d, by rw [List.getElem?_reverse hi, ← rpAll_len h2]; exact e2, rd⟩
theorem si_rev (h : SE K te we) : SI K (iRevA K te) (wiRev we) := by
  intro ss own Q hw B θ F H σ g s R k
  refine h ss own _ hw B θ F H σ g s _ fun θ1 own1 F1 H1 v c g1 t1 r1 q1 => ?_
  dsimp only at q1
  split at q1
  · rename_i ds
    obtain ⟨a, xs, rfl, h1, h2⟩ := cr_lst r1
    refine ⟨a, xs, rfl, .inl ⟨SqL.of (g1.ex _ _ h1), k _ _ _ _ _ _ g1 t1 ⟨_, _, by rw [List.length_reverse, ← rpAll_len h2]; exact walk_rev (K := K) (a := a) (xs := xs), fun H e => SqL.of (e _ _ h1), fun i H x H' hi _ y => ?_⟩ q1⟩⟩
    obtain ⟨d, e, rd⟩ := rev_at h2 (by rwa [List.length_reverse] at hi) y.2
    exact ⟨d, e, .inl ⟨y.1, rd⟩⟩
  · rename_i ds
    obtain ⟨a, xs, rfl, h1, h2⟩ := cr_tup r1
    refine ⟨a, xs, rfl, .inr ⟨same_t g1.ex h1, k _ _ _ _ _ _ g1 t1 ⟨_, _, by rw [List.length_reverse, ← rpAll_len h2]; exact walk_revT (K := K) (a := a) (xs := xs), fun H e => same_t e h1, fun i H x H' hi _ y => ?_⟩ q1⟩⟩
    obtain ⟨d, e, rd⟩ := rev_at h2 (by rwa [List.length_reverse] at hi) y.2
    exact ⟨d, e, .inl ⟨y.1, rd⟩⟩
  · exact q1.elim
end

/-! ### statements -/
structure En where
  nx : Sl → Ts → Prop
  rt : C → Ts → Prop
  bk : Sl → Ts → Prop := fun _ _ => False
  ct : Sl → Ts → Prop := fun _ _ => False
abbrev WS := En → Sl → Ts → Prop
section
variable (K : PySem.W.Frag)
def BkN (B : Addr → Prop) (θ : List Addr) (F H : Hp) (Q : Sl → Ts → Prop) (R : St → Hp → Prop) : Prop :=
  ∀ θ' own' F' H' σ' ss', Ga K B θ' own' F' H' → Tr B θ F H θ' F' H' → Zd.SlR K θ' F' σ' ss' → Q ss' own' → R σ' H'
structure BkS (B : Addr → Prop) (θ : List Addr) (F H : Hp) (E : En) (D : Ends) : Prop where
  nx : BkN K B θ F H E.nx D.nx
  rt : Bk K B θ F H E.rt D.rt
  bk : BkN K B θ F H E.bk D.bk
  ct : BkN K B θ F H E.ct D.ct
def SS (t : TS) (w : WS) : Prop := ∀ E ss own, w E ss own → ∀ B θ F H σ, Ga K B θ own F H → Zd.SlR K θ F σ ss → ∀ D : Ends, BkS K B θ F H E D → t D σ H
end
structure AS (X : Cx) (st : Stmt) (t : TS) (w : WS) : Prop where
  p : PS X st t
  s : SS X.K t w
structure ASs (X : Cx) (st : List Stmt) (t : TS) (w : WS) : Prop where
  p : PSs X st t
  s : SS X.K t w
/-- one statement, then the rest; M holds between them -/
def wSeq (w w' : WS) : WS := fun E ss own => ∃ M : Sl → Ts → Prop, w { E with nx := M } ss own ∧ ∀ ss' own', M ss' own' → w' E ss' own'
theorem seq1 {w w' : WS} {E : En} {ss : Sl} {own : Ts} (h : w { E with nx := w' E } ss own) : wSeq w w' E ss own := ⟨_, h, fun _ _ z => z⟩
theorem seq_cut {w w' : WS} {E : En} {ss : Sl} {own : Ts} (M : Sl → Ts → Prop) (h : w { E with nx := M } ss own) (k : ∀ ss' own', M ss' own' → w' E ss' own') : wSeq w w' E ss own := ⟨M, h, k⟩
def wNext : WS := fun E ss own => E.nx ss own
def wBreak : WS := fun E ss own => E.bk ss own
def wCont : WS := fun E ss own => E.ct ss own
def wNever : WS := fun _ _ _ => False
def wAsg (we : WE) (g : WG) : WS := fun E ss own => we ss own fun c o1 => g c ss o1 E.nx
def wRet (we : WE) : WS := fun E ss own => we ss own E.rt
def wRetN : WS := fun E _ own => E.rt (.fr .none) own
def wDrop (we : WE) : WS := fun E ss own => we ss own fun _ o1 => E.nx ss o1
def wIfS (wt : WT) (wa wb : WS) : WS := fun E ss own => wt ss own fun b o1 => Itf b (wa E ss o1) (wb E ss o1)
def wFor (wi : WI) (g : WG) (wb : WS) : WS := fun E ss own => ∃ I : List D → Ts → Prop, wi ss own I ∧ ∀ items o1, I items o1 → ∃ P : Nat → Sl → Ts → Prop, P 0 ss o1 ∧
  (∀ (i : Nat) d ss' own', items[i]? = some d → P i ss' own' → g (.fr d) ss' own' fun ss2 own2 => wb { E with nx := P (i + 1), ct := P (i + 1), bk := E.nx } ss2 own2) ∧ ∀ ss' own', P items.length ss' own' → E.nx ss' own'
def wWhile (wt : WT) (wb : WS) : WS := fun E ss own => ∃ P : Nat → Sl → Ts → Prop, (∃ m, P m ss own) ∧ ∀ m ss' own', P m ss' own' →
  wt ss' own' fun b o1 => Itf b (wb { E with nx := fun s2 o2 => ∃ m', m' < m ∧ P m' s2 o2, ct := fun s2 o2 => ∃ m', m' < m ∧ P m' s2 o2, bk := E.nx } ss' o1) (E.nx ss' o1)
/-- x op= e -/
def wAug (i : Nat) (f : F2) (we : WE) : WS := fun E ss own => match ss[i]? with
  | some (some c) => we ss own fun d o1 => f (res own c) d o1 fun e o2 => E.nx (ss.set i (some e)) o2
  | _ => False
/-- a, b = x, y -/
def wPar (i j : Nat) (wa : WA) : WS := fun E ss own => wa ss own fun cs o1 => match cs with
  | [c, d] => E.nx ((ss.set i (some c)).set j (some d)) o1
  | _ => False
/-- xs[i] = v -/
def setI (cs : List C) (k : Int) (v : C) : Option (List C) := (ixN cs.length k).map fun j => cs.set j v
def fSet (o i v : C) (own : Ts) (Q : Ts → Prop) : Prop := match o, i with
  | .hd h, .fr (.int k) => (match own[h]? with
    | some (.lst cs) => optP (setI cs k v) fun cs' => Q (own.set h (.lst cs'))
    | _ => False)
  | _, _ => False
def wSet (wo wi : WE) : WG := fun c ss own Q => wo ss own fun o o1 => wi ss o1 fun i o2 => fSet o i c o2 fun o3 => Q ss o3
/-- xs[i] of an owned list -/
def fGet : F2 := fun c d own Q => match c, d with
  | .hd h, .fr (.int i) => (match own[h]? with
    | some (.lst cs) => optP (atI cs i) fun x => Q (res own x) own
    | _ => False)
  | _, _ => False
/-- xs[i] op= e -/
def wAugS (f : F2) (wo wi we : WE) : WS := fun E ss own => wo ss own fun o o1 => wi ss o1 fun i o2 => fGet o i o2 fun x o3 => we ss o3 fun y o4 => f x y o4 fun z o5 => fSet o i z o5 fun o6 => E.nx ss o6
end Zd

/-! Zd5: statements, comprehensions, methods, calls, defs: that they are sound. -/
namespace Zd
open PySem L2 RZ RT

section
variable {K : PySem.W.Frag} {B : Addr → Prop} {θ θ1 : List Addr} {F F1 H H1 : Hp} {E : En} {D : Ends}
theorem BkN.up {Q : Sl → Ts → Prop} {R : St → Hp → Prop} (t : Tr B θ F H θ1 F1 H1) (h : BkN K B θ F H Q R) : BkN K B θ1 F1 H1 Q R := fun θ' own' F' H' σ ss g t' s q => h θ' own' F' H' σ ss g (t.trans t') s q
theorem BkS.up (t : Tr B θ F H θ1 F1 H1) (h : BkS K B θ F H E D) : BkS K B θ1 F1 H1 E D := ⟨h.nx.up t, h.rt.up t, h.bk.up t, h.ct.up t⟩
end
section
variable {K : PySem.W.Frag} {t u ts tb : TS} {w w' wb : WS} {te ta tb' : TE} {we wa we' : WE} {tt : TT} {wt : WT} {ta' : TA} {wa' : WA}
theorem ss_seq (h : SS K t w) (h' : SS K u w') : SS K (tSeq t u) (wSeq w w') := by
  intro E ss own hw B θ F H σ g s D k
  obtain ⟨M, hw, hm⟩ := hw
  refine h _ ss own hw B θ F H σ g s _ ⟨fun θ1 own1 F1 H1 σ1 ss1 g1 t1 s1 q1 => ?_, k.rt, k.bk, k.ct⟩
  exact h' E ss1 own1 (hm ss1 own1 q1) B θ1 F1 H1 σ1 g1 s1 D (k.up t1)
theorem ss_next : SS K tNext wNext := fun E ss own h B θ F H σ g s D k => k.nx θ own F H σ ss g Tr.refl s h
theorem ss_brk : SS K tBreak wBreak := fun E ss own h B θ F H σ g s D k => k.bk θ own F H σ ss g Tr.refl s h
theorem ss_cont : SS K tCont wCont := fun E ss own h B θ F H σ g s D k => k.ct θ own F H σ ss g Tr.refl s h
theorem ss_never {t : TS} : SS K t wNever := fun E ss own h => h.elim
theorem ss_ret (h : SE K te we) : SS K (tRet te) (wRet we) := by
  intro E ss own hw B θ F H σ g s D k
  exact h ss own _ hw B θ F H σ g s _ k.rt
theorem ss_retN : SS K tRetN wRetN := fun E ss own h B θ F H σ g s D k => k.rt θ own F H _ (.fr .none) g Tr.refl .non h
theorem ss_drop (h : SE K te we) : SS K (tDrop te) (wDrop we) := by
  intro E ss own hw B θ F H σ g s D k
  exact h ss own _ hw B θ F H σ g s _ fun θ1 own1 F1 H1 v c g1 t1 r1 q1 => k.nx _ _ _ _ _ _ g1 t1 (s.up t1) q1
theorem ss_asg {js : List Nat} {tg : TG} {wg : WG} (h : SE K te we) (hg : SG K js tg wg) : SS K (tAsg te tg) (wAsg we wg) := by
  intro E ss own hw B θ F H σ g s D k
  refine h ss own _ hw B θ F H σ g s _ fun θ1 own1 F1 H1 v c g1 t1 r1 q1 => ?_
  exact hg c ss own1 _ q1 B θ1 F1 H1 σ v g1 (s.up t1) r1 _ fun θ2 own2 F2 H2 σ2 ss2 g2 t2 s2 _ q2 => k.nx _ _ _ _ _ _ g2 (t1.trans t2) s2 q2
theorem ss_if (h : ST K tt wt) (ha : SS K t w) (hb : SS K u w') : SS K (tIfS tt t u) (wIfS wt w w') := by
  intro E ss own hw B θ F H σ g s D k
  refine h ss own _ hw B θ F H σ g s _ fun θ1 own1 F1 H1 b g1 t1 q1 => ?_
  cases b with
  | true => exact ha E ss own1 q1 B θ1 F1 H1 σ g1 (s.up t1) D (k.up t1)
  | false => exact hb E ss own1 q1 B θ1 F1 H1 σ g1 (s.up t1) D (k.up t1)
theorem ss_par {i j : Nat} (h : SA K ta' wa') : SS K (tPar i j ta') (wPar i j wa') := by
  intro E ss own hw B θ F H σ g s D k
  refine h ss own _ hw B θ F H σ g s _ fun θ1 own1 F1 H1 vs cs g1 t1 r1 q1 => ?_
  dsimp only at q1
  split at q1
  · rename_i c d
    obtain ⟨v, u, rfl, r, r2⟩ := paired2 r1
    exact ⟨v, u, rfl, k.nx _ _ _ _ _ _ g1 t1 (slr_set (slr_set (s.up t1) r) r2) q1⟩
  · exact q1.elim
theorem ss_aug {i : Nat} {r : R2} {f : F2} (h : SE K te we) (hr : S2 K r f) : SS K (tAug i te r) (wAug i f we) := by
  intro E ss own hw B θ F H σ g s D k
  unfold wAug at hw
  split at hw
  · rename_i c e
    obtain ⟨v, e1, r1⟩ := s.2 i c e
    refine ⟨v, e1, ?_⟩
    refine h ss own _ hw B θ F H σ g s _ fun θ1 own1 F1 H1 u d g1 t1 r2 q1 => ?_
    refine hr _ d own1 _ q1 B θ1 F1 H1 v u g1 ((r1.res g).up t1) r2 _ fun θ2 own2 F2 H2 x e g2 t2 r3 q2 => ?_
    exact k.nx _ _ _ _ _ _ g2 (t1.trans t2) (slr_set (s.up (t1.trans t2)) r3) q2
  · exact hw.elim
/-- a for loop -/
theorem ss_for {wi : TI} {wI : WI} {js : List Nat} {tg : TG} {wg : WG} (hi : SI K wi wI) (hg : SG K js tg wg) (hb : SS K tb wb) : SS K (tFor wi tg tb) (wFor wI wg wb) := by
  rintro E ss own ⟨I, hw, hk⟩ B θ F H σ g s D k
  refine hi ss own _ hw B θ F H σ g s _ fun θ1 own1 F1 H1 J items g1 t1 wk q1 => ?_
  obtain ⟨P, p0, ps, pd⟩ := hk _ _ q1
  obtain ⟨G, Y, W, hG, hY⟩ := wk.ex
  refine for_it W (fun i σ' H' => ∃ θ' own' F' ss', Ga K B θ' own' F' H' ∧ Tr B θ1 F1 H1 θ' F' H' ∧ Zd.SlR K θ' F' σ' ss' ∧ P i ss' own') ⟨θ1, own1, F1, ss, g1, Tr.refl, s.up t1, p0⟩ ?_ ?_ ?_
  · rintro i σ' H' _ ⟨θ', own', F', ss', g', t', s', p⟩
    exact hG H' (t'.ex.trans g'.ex)
  · rintro i x σ' H' H2 hi ⟨θ', own', F', ss', g', t', s', p⟩ y
    obtain ⟨d, ed, y⟩ := hY i H' x H2 hi (t'.ex.trans g'.ex) y
    have fin : ∀ F'' , Ga K B θ' own' F'' H2 → Tr B θ' F' H' θ' F'' H2 → Rp K F'' x d → tg x σ' H2 fun σ2 H3 => tb { D with nx := fun σ H => ∃ θ' own' F' ss', Ga K B θ' own' F' H ∧ Tr B θ1 F1 H1 θ' F' H ∧ Zd.SlR K θ' F' σ ss' ∧ P (i + 1) ss' own', ct := fun σ H => ∃ θ' own' F' ss', Ga K B θ' own' F' H ∧ Tr B θ1 F1 H1 θ' F' H ∧ Zd.SlR K θ' F' σ ss' ∧ P (i + 1) ss' own', bk := D.nx } σ2 H3 := by
      intro F'' g2 t2 rx
      refine hg (.fr d) ss' own' _ (ps i d ss' own' ed p) B θ' F'' H2 σ' x g2 (s'.up t2) rx _ fun θ3 own3 F3 H3 σ3 ss3 g3 t3 s3 _ q3 => ?_
      have t13 := (t'.trans t2).trans t3
      refine hb _ ss3 own3 q3 B θ3 F3 H3 σ3 g3 s3 _ ⟨?_, (k.up (t1.trans t13)).rt, ?_, ?_⟩
      · exact fun θ4 own4 F4 H4 σ4 ss4 g4 t4 s4 q4 => ⟨θ4, own4, F4, ss4, g4, t13.trans t4, s4, q4⟩
      · exact fun θ4 own4 F4 H4 σ4 ss4 g4 t4 s4 q4 => k.nx _ _ _ _ _ _ g4 ((t1.trans t13).trans t4) s4 q4
      · exact fun θ4 own4 F4 H4 σ4 ss4 g4 t4 s4 q4 => ⟨θ4, own4, F4, ss4, g4, t13.trans t4, s4, q4⟩
    rcases y with ⟨rfl, rx⟩ | ⟨T, o, hT, rfl, rfl, rx⟩
    · exact fin F' g' Tr.refl (rp_mono t'.ex _ _ rx)
    · obtain ⟨g2, t2⟩ := g'.newF (o := o) hT
      exact fin _ g2 t2 (rx _ (t'.ex.trans t2.ex) upd_same)
  · rintro σ' H' ⟨θ', own', F', ss', g', t', s', p⟩
    exact k.nx _ _ _ _ _ _ g' (t1.trans t') s' (pd ss' own' p)
theorem ss_while (h : ST K tt wt) (hb : SS K tb wb) : SS K (tWhile tt tb) (wWhile wt wb) := by
  intro E ss own hw B θ F H σ g s D k
  obtain ⟨P, ⟨m0, p0⟩, ps⟩ := hw
  refine ⟨fun m σ' H' => ∃ θ' own' F' ss', Ga K B θ' own' F' H' ∧ Tr B θ F H θ' F' H' ∧ Zd.SlR K θ' F' σ' ss' ∧ P m ss' own', ⟨m0, θ, own, F, ss, g, Tr.refl, s, p0⟩, ?_⟩
  rintro m σ' H' ⟨θ', own', F', ss', g', t', s', p⟩
  refine h ss' own' _ (ps m ss' own' p) B θ' F' H' σ' g' s' _ fun θ1 own1 F1 H1 b g1 t1 q1 => ?_
  cases b with
  | true =>
    have t01 := t'.trans t1
    refine ⟨fun σ2 H2 => ∃ m', m' < m ∧ ∃ θ' own' F' ss', Ga K B θ' own' F' H2 ∧ Tr B θ F H θ' F' H2 ∧ Zd.SlR K θ' F' σ2 ss' ∧ P m' ss' own', fun _ _ z => z, ?_⟩
    have nx : BkN K B θ1 F1 H1 (fun s2 o2 => ∃ m', m' < m ∧ P m' s2 o2) fun σ2 H2 => ∃ m', m' < m ∧ ∃ θ' own' F' ss', Ga K B θ' own' F' H2 ∧ Tr B θ F H θ' F' H2 ∧ Zd.SlR K θ' F' σ2 ss' ∧ P m' ss' own' :=
      fun θ4 own4 F4 H4 σ4 ss4 g4 t4 s4 ⟨m', hm, q4⟩ => ⟨m', hm, θ4, own4, F4, ss4, g4, t01.trans t4, s4, q4⟩
    exact hb _ ss' own1 q1 B θ1 F1 H1 σ' g1 (s'.up t1) _ ⟨nx, (k.up t01).rt, (k.up t01).nx, nx⟩
  | false => exact k.nx _ _ _ _ _ _ g1 (t'.trans t1) (s'.up t1) q1
/-- stores in lists -/
theorem set_core {o i c : C} {own : Ts} {Q : Ts → Prop} (hq : fSet o i c own Q) {B : Addr → Prop} {θ : List Addr} {F H : Hp} {vo vi v : V} (g : Ga K B θ own F H) (ro : Cr K θ F vo o) (ri : Cr K θ F vi i) (r : Cr K θ F v c)
    {R : Hp → Prop} (k : ∀ own' H', Ga K B θ own' F H' → Tr B θ F H θ F H' → Q own' → R H') : rSetL vo vi v H R := by
  unfold fSet at hq
  split at hq
  · rename_i h z
    obtain ⟨a, ha, rfl⟩ := ro
    cases cr_int ri
    split at hq
    · rename_i cs e
      obtain ⟨cs', ecs, hq⟩ := of_mt hq
      unfold setI at ecs
      obtain ⟨j, ej, ecs⟩ := Option.map_eq_some_iff.mp ecs
      subst ecs
      obtain ⟨hn, vs, hv, rv⟩ := g.mo h a _ ha e
      obtain ⟨g1, t1⟩ := g.write (o := .lst (vs.set j v)) (m := .lst (cs.set j c)) ha hn ⟨hn, _, upd_same, paired_set r j rv⟩
      exact ⟨a, vs, z, j, rfl, rfl, hv, by rw [paired_len rv]; exact ej, k _ _ g1 t1 hq⟩
    · exact hq.elim
  · exact hq.elim
theorem sg_set {to ti : TE} {wo wi : WE} (ho : SE K to wo) (hi : SE K ti wi) : SG K [] (gSub to ti rSetL) (wSet wo wi) := by
  intro c ss own Q hq B θ F H σ v g s r R k
  refine ho ss own _ hq B θ F H σ g s _ fun θ1 own1 F1 H1 vo o g1 t1 r1 q1 => ?_
  refine hi ss own1 _ q1 B θ1 F1 H1 σ g1 (s.up t1) _ fun θ2 own2 F2 H2 vi i g2 t2 r2 q2 => ?_
  exact set_core q2 g2 (r1.up t2) r2 (r.up (t1.trans t2)) fun own3 H3 g3 t3 q3 => k _ _ _ _ _ _ g3 ((t1.trans t2).trans t3) (s.up ((t1.trans t2).trans t3)) (fun _ _ => rfl) q3
theorem ss_augS {to ti : TE} {wo wi : WE} {r : R2} {f : F2} (ho : SE K to wo) (hi : SE K ti wi) (h : SE K te we) (hr : S2 K r f) : SS K (tAugS to ti te (rIxL K) r rSetL) (wAugS f wo wi we) := by
  intro E ss own hw B θ F H σ g s D k
  refine ho ss own _ hw B θ F H σ g s _ fun θ1 own1 F1 H1 vo o g1 t1 r1 q1 => ?_
  refine hi ss own1 _ q1 B θ1 F1 H1 σ g1 (s.up t1) _ fun θ2 own2 F2 H2 vi i g2 t2 r2 q2 => ?_
  have fin : ∀ (vx : V) x, Cr K θ2 F2 vx x → (we ss own2 fun y o4 => f x y o4 fun z o5 => fSet o i z o5 fun o6 => E.nx ss o6) → te σ H2 fun y H4 => r vx y H4 fun z H5 => rSetL vo vi z H5 fun H6 => D.nx σ H6 := by
    intro vx x rx q3
    refine h ss own2 _ q3 B θ2 F2 H2 σ g2 (s.up (t1.trans t2)) _ fun θ4 own4 F4 H4 vy y g4 t4 r4 q4 => ?_
    refine hr x y own4 _ q4 B θ4 F4 H4 vx vy g4 (rx.up t4) r4 _ fun θ5 own5 F5 H5 vz z g5 t5 r5 q5 => ?_
    exact set_core q5 g5 (r1.up ((t2.trans t4).trans t5)) (r2.up (t4.trans t5)) r5 fun own6 H6 g6 t6 q6 => k.nx _ _ _ _ _ _ g6 ((((t1.trans t2).trans t4).trans t5).trans t6) (s.up ((((t1.trans t2).trans t4).trans t5).trans t6)) q6
  dsimp only at q2
  unfold fGet at q2
  split at q2
  · rename_i hh z
    obtain ⟨a, ha, rfl⟩ := r1.up t2
    cases cr_int r2
    split at q2
    · rename_i cs e
      obtain ⟨_, vs, hv, rv⟩ := g2.mo hh a _ ha e
      obtain ⟨x, hx, q⟩ := of_mt q2
      obtain ⟨y, hy, ry⟩ := atI_map (fun j b e => paired_getL rv e) (paired_len rv) hx
      exact ⟨a, vs, z, y, rfl, rfl, SqL.of hv, hy, fin y _ (Cr.res g2 ry) q⟩
    · exact q2.elim
  · exact q2.elim
theorem pget_list {X : Cx} : PGet X (rIxL X.K) := by
  intro pins s σ H x y v u Q I rx ry h
  obtain ⟨p, xs, i, z, rfl, rfl, hq, he, q⟩ := h
  cases rx
  obtain ⟨t, rfl⟩ := ry
  obtain ⟨its, r, pl, hz⟩ := I.list hq
  obtain ⟨j, h1, h2, h3, h4, h5⟩ := atI_get he
  obtain ⟨w, ew, rw'⟩ := r.get h2
  have hl := r.length
  have hn := line63
  have fin : EP X pins σ Q w s := ⟨z, H, I, rw', q⟩
  by_cases h0 : 0 ≤ i
  · have hj : i.toNat = j := by
      rw [PySem.seqIndex_of h0 h5] at h1
      exact Option.some.inj h1
    exact wpAny_getItem_list pl.isList h0 (by omega) (by rw [hj]; simpa using ew) fin
  · have hj : (i + (its.toArray.size : Int)).toNat = j := by
      rw [PySem.seqIndex_neg (by omega) h4] at h1
      rw [List.size_toArray, ← hl]
      exact Option.some.inj h1
    exact wpAny_getItem_list_neg pl.isList (by omega) (by rw [List.size_toArray] <;> omega) (by omega) (by rw [hj]; simpa using ew) fin
end
end Zd

/-! Zd6: comprehensions, methods of lists and texts, calls of the text's defs, a def's promise. -/
namespace Zd
open PySem L2 RZ RT

def wipeS (ss : Sl) : List Nat → Sl
  | [] => ss
  | v :: vs => (wipeS ss vs).set v none
def wLcG (wI : WI) (wg : WG) (wt : WT) (we : WE) (vs : List Nat) (fin : List C → Ts → KC → Prop) : WE := fun ss own Q => ∃ I : List D → Ts → Prop, wI ss own I ∧ ∀ items o1, I items o1 → ∃ P : Nat → List C → Ts → Prop, P 0 [] o1 ∧
  (∀ (i : Nat) d acc own', items[i]? = some d → P i acc own' → wg (.fr d) (wipeS ss vs) own' fun ss2 own2 => wt ss2 own2 fun b own3 =>
    Itf b (we ss2 own3 fun c own4 => acc.length < SZ ∧ P (i + 1) (acc ++ [c]) own4) (P (i + 1) acc own3)) ∧ ∀ acc own', P items.length acc own' → fin acc own' Q
def finL : List C → Ts → KC → Prop := fun acc own Q => match frs acc with
  | some ds => Q (.fr (.list ds)) own
  | none => False
def finH : List C → Ts → KC → Prop := fun acc own Q => Q (.hd own.length) (own ++ [.lst acc])
def LcB (wI : WI) (wg : WG) (wt : WT) (we : WE) (vs : List Nat) (ss : Sl) (own : Ts) [q : Hd KC] : Prop := wLcG wI wg wt we vs finL ss own q.v
def LcHB (wI : WI) (wg : WG) (wt : WT) (we : WE) (vs : List Nat) (ss : Sl) (own : Ts) [q : Hd KC] : Prop := wLcG wI wg wt we vs finH ss own q.v
def wLc (wI : WI) (wg : WG) (wt : WT) (we : WE) (vs : List Nat) : WE := fun ss own Q => @LcB wI wg wt we vs ss own ⟨Q⟩
def wLcH (wI : WI) (wg : WG) (wt : WT) (we : WE) (vs : List Nat) : WE := fun ss own Q => @LcHB wI wg wt we vs ss own ⟨Q⟩
def wYes : WT := fun _ own Q => Q true own
structure ATs (X : Cx) (ifs : List Expr) (t : TT) (w : WT) : Prop where
  p : PTs X ifs t
  s : ST X.K t w
section
variable {K : PySem.W.Frag} {B : Addr → Prop} {θ θ' θ1 : List Addr} {own : Ts} {F F' F1 H H' H1 : Hp}
theorem st_yes : ST K tYes wYes := fun ss own Q h B θ F H σ g s Qv k => k θ own F H true g Tr.refl h
theorem slr_wipe {σ : St} {ss : Sl} (s : Zd.SlR K θ F σ ss) : ∀ (vs : List Nat), Zd.SlR K θ F (wipe σ vs) (wipeS ss vs)
  | [] => s
  | v :: vs => by
    have ih := slr_wipe s vs
    unfold wipe wipeS
    refine ⟨by simp [ih.1], fun j d e => ?_⟩
    by_cases hj : v = j
    · subst hj
      have hi : v < (wipeS ss vs).length := by
        have := (List.getElem?_eq_some_iff.mp e).1
        rwa [List.length_set] at this
      rw [List.getElem?_set_self hi] at e
      cases e
    · rw [List.getElem?_set_ne hj] at e
      obtain ⟨u, h1, h2⟩ := ih.2 j d e
      exact ⟨u, by rw [List.getElem?_set_ne hj]; exact h1, h2⟩
theorem wipe_at {σ : St} {i : Nat} : ∀ {vs : List Nat}, i ∈ vs → (wipe σ vs)[i]? = if i < σ.length then some none else none
  | [], h => by cases h
  | v :: vs, h => by
    unfold wipe
    by_cases hv : v = i
    · subst hv
      by_cases hl : v < σ.length
      · rw [if_pos hl, List.getElem?_set_self (by rw [wipe_length]; exact hl)]
      · rw [if_neg hl, List.getElem?_eq_none (by rw [List.length_set, wipe_length]; omega)]
    · rw [List.getElem?_set_ne hv]
      rcases List.mem_cons.mp h with h | h
      · exact absurd h.symm hv
      · exact wipe_at h
theorem wipe_wipe (σ : St) (vs : List Nat) : wipe (wipe σ vs) vs = wipe σ vs := by
  refine List.ext_getElem? fun i => ?_
  by_cases h : i ∈ vs
  · rw [wipe_at h, wipe_at h, wipe_length]
  · rw [wipe_out h]
theorem Tr.res {B' : Addr → Prop} (t : Tr B' θ F H θ' F' H') (h : ∀ b, B b → B' b) : Tr B θ F H θ' F' H' := ⟨t.th, t.ex, fun b hb => t.fr b (h b hb)⟩
theorem Ga.hide (g : Ga K B θ own F H) {p : Addr} {o : HO} (h : H p = none) : Ga K (fun b => B b ∨ b = p) θ own F (upd H p o) ∧ Tr B θ F H θ F (upd H p o) := by
  obtain ⟨h1, h2, h3⟩ := g.fresh h
  have t : Tr B θ F H θ F (upd H p o) := ⟨⟨[], (List.append_nil _).symm⟩, Same.refl _, fun b hb => upd_ne fun z => h3 (z ▸ hb)⟩
  refine ⟨⟨g.len, g.nd, fun b u e => by rw [upd_ne (ne_of_none e h2)]; exact g.ex b u e, fun b hb => ?_, fun i a m e1 e2 => ?_, g.cl⟩, t⟩
  · rcases hb with hb | rfl
    · have z : b ≠ p := fun z => h3 (z ▸ hb)
      obtain ⟨q1, q2, q3⟩ := g.out b hb
      exact ⟨q1, by rw [upd_ne z]; exact q2, q3⟩
    · exact ⟨h2, by rw [upd_same]; exact (fun z => nomatch z), h1⟩
  · have z : a ≠ p := fun z => h1 (z ▸ List.mem_of_getElem? e1)
    exact (g.mo i a m e1 e2).up t fun hn => ⟨hn, upd_ne z⟩
theorem Ga.bset (g : Ga K B θ own F H) {p : Addr} {o : HO} (h : B p) : Ga K B θ own F (upd H p o) := by
  obtain ⟨q1, q2, q3⟩ := g.out p h
  have t : Tr (fun _ => False) θ F H θ F (upd H p o) := ⟨⟨[], (List.append_nil _).symm⟩, Same.refl _, fun b hb => hb.elim⟩
  refine ⟨g.len, g.nd, fun b u e => by rw [upd_ne (ne_of_none e q1)]; exact g.ex b u e, fun b hb => ?_, fun i a m e1 e2 => ?_, g.cl⟩
  · obtain ⟨r1, r2, r3⟩ := g.out b hb
    refine ⟨r1, ?_, r3⟩
    by_cases z : b = p
    · subst z; rw [upd_same]; exact fun z => nomatch z
    · rw [upd_ne z]; exact r2
  · have z : a ≠ p := fun z => q3 (z ▸ List.mem_of_getElem? e1)
    exact (g.mo i a m e1 e2).up t fun hn => ⟨hn, upd_ne z⟩
/-- the hidden list becomes frozen -/
theorem Ga.unhideF {p : Addr} {vs : List V} {ds : List D} (g : Ga K (fun b => B b ∨ b = p) θ own F H) (hB : ¬ B p) (hp : H p = some (.lst vs)) (r : RpAll K F vs ds) :
    Ga K B θ own (upd F p (.lst vs)) H ∧ Tr B θ F H θ (upd F p (.lst vs)) H ∧ Rp K (upd F p (.lst vs)) (.ref p) (.list ds) := by
  obtain ⟨q1, q2, q3⟩ := g.out p (.inr rfl)
  have sF : Same F (upd F p (.lst vs)) := fun b u q => by rw [upd_ne (ne_of_none q q1)]; exact q
  have t : Tr B θ F H θ (upd F p (.lst vs)) H := ⟨⟨[], (List.append_nil _).symm⟩, sF, fun b hb => rfl⟩
  refine ⟨⟨g.len, g.nd, fun b u e => ?_, fun b hb => ?_, fun i a m e1 e2 => ?_, g.cl⟩, t, .lst upd_same (rpAll_mono sF ds vs r)⟩
  · by_cases z : b = p
    · subst z; rw [upd_same] at e; cases e; exact hp
    · rw [upd_ne z] at e; exact g.ex b u e
  · have z : b ≠ p := fun z => hB (z ▸ hb)
    obtain ⟨r1, r2, r3⟩ := g.out b (.inl hb)
    exact ⟨by rw [upd_ne z]; exact r1, r2, r3⟩
  · have z : a ≠ p := fun z => q3 (z ▸ List.mem_of_getElem? e1)
    exact (g.mo i a m e1 e2).up t fun hn => ⟨by rw [upd_ne z]; exact hn, rfl⟩
/-- the hidden list becomes owned -/
theorem Ga.unhideH {p : Addr} {vs : List V} {cs : List C} (g : Ga K (fun b => B b ∨ b = p) θ own F H) (hB : ¬ B p) (hp : H p = some (.lst vs)) (r : Paired (Cr K θ F) vs cs) :
    Ga K B (θ ++ [p]) (own ++ [.lst cs]) F H ∧ Tr B θ F H (θ ++ [p]) F H := by
  obtain ⟨q1, q2, q3⟩ := g.out p (.inr rfl)
  have t : Tr B θ F H (θ ++ [p]) F H := ⟨⟨[p], rfl⟩, Same.refl _, fun b hb => rfl⟩
  refine ⟨⟨by simp [g.len], ?_, g.ex, fun b hb => ?_, fun i a m' e1 e2 => ?_, g.cl.app fun j hj => ?_⟩, t⟩
  · rw [List.nodup_append]
    refine ⟨g.nd, by simp, fun a ha b hb => ?_⟩
    have : b = p := by simpa using hb
    subst this
    exact fun z => q3 (z ▸ ha)
  · have z : b ≠ p := fun z => hB (z ▸ hb)
    obtain ⟨r1, r2, r3⟩ := g.out b (.inl hb)
    refine ⟨r1, r2, fun hm => ?_⟩
    rcases List.mem_append.mp hm with hm | hm
    · exact r3 hm
    · exact z (by simpa using hm)
  · rcases get_app e1 with ⟨hi, e1⟩ | ⟨hi, rfl⟩
    · rw [List.getElem?_append_left (by rw [← g.len]; exact hi)] at e2
      exact (g.mo i a m' e1 e2).up t fun hn => ⟨hn, rfl⟩
    · rw [hi, g.len, List.getElem?_append_right (Nat.le_refl _)] at e2
      have e3 : MO.lst cs = m' := by simpa using e2
      subst e3
      exact ⟨q1, vs, hp, paired_up t r⟩
  · have := refs_of (vs := vs) r j hj
    rw [← g.len]
    omega
/-- how a comprehension ends -/
def SF (K : PySem.W.Frag) (fin : List C → Ts → KC → Prop) : Prop := ∀ acc own Q, fin acc own Q → ∀ (B : Addr → Prop) θ F H p vs, Ga K (fun b => B b ∨ b = p) θ own F H → ¬ B p → H p = some (.lst vs) → Paired (Cr K θ F) vs acc → ∀ Qv, Bk K B θ F H Q Qv → Qv (.ref p) H
theorem sf_L : SF K finL := by
  intro acc own Q hq B θ F H p vs g hB hp r Qv k
  unfold finL at hq
  split at hq
  · rename_i ds e
    rw [of_frs e] at r
    obtain ⟨g1, t1, r1⟩ := g.unhideF hB hp (rpAll_paired r)
    exact k _ _ _ _ _ (.fr (.list ds)) g1 t1 r1 hq
  · exact hq.elim
theorem sf_H : SF K finH := by
  intro acc own Q hq B θ F H p vs g hB hp r Qv k
  obtain ⟨g1, t1⟩ := g.unhideH hB hp r
  refine k _ _ _ _ _ (.hd own.length) g1 t1 ⟨p, ?_, rfl⟩ hq
  rw [← g.len, List.getElem?_append_right (Nat.le_refl _), Nat.sub_self]
  rfl
theorem se_lcG {wi : TI} {wI : WI} {js vs : List Nat} {tg : TG} {wg : WG} {tt : TT} {wt : WT} {te : TE} {we : WE} {fin : List C → Ts → KC → Prop} (hf : SF K fin) (hi : SI K wi wI) (hg : SG K js tg wg) (ht : ST K tt wt) (he : SE K te we) (hj : ∀ j ∈ js, j ∈ vs) :
    SE K (tLc wi tg tt te vs) (wLcG wI wg wt we vs fin) := by
  rintro ss own Q ⟨I, hw, hkk⟩ B θ F H σ g s Qv k
  refine hi ss own _ hw B θ F H σ g s _ fun θ1 own1 F1 H1 J items g1 t1 wk q1 => ?_
  replace q1 := hkk _ _ q1
  obtain ⟨P, p0, ps, pd⟩ := q1
  obtain ⟨G, Y, W, hG, hY⟩ := wk.ex
  intro Dl hD
  have hB : ¬ B Dl := (g1.fresh hD).2.2
  obtain ⟨gh, th⟩ := g1.hide (o := .lst []) hD
  refine lc_it W (fun i H' => ∃ θ' own' F' acc ws, Ga K (fun b => B b ∨ b = Dl) θ' own' F' H' ∧ Tr B θ1 F1 H1 θ' F' H' ∧ P i acc own' ∧ H' Dl = some (.lst ws) ∧ Paired (Cr K θ' F') ws acc)
    ⟨θ1, own1, F1, [], [], gh, th, p0, upd_same, .nil⟩ ?_ ?_ ?_
  · rintro i H' _ ⟨θ', own', F', acc, ws, g', t', _⟩
    exact hG H' (t'.ex.trans g'.ex)
  · rintro i x H' H2 hi ⟨θ', own', F', acc, ws, g', t', p, hl, rl⟩ y
    obtain ⟨d, ed, y⟩ := hY i H' x H2 hi (t'.ex.trans g'.ex) y
    have core : ∀ F'', Ga K (fun b => B b ∨ b = Dl) θ' own' F'' H2 → Tr (fun b => B b ∨ b = Dl) θ' F' H' θ' F'' H2 → Rp K F'' x d → tg x (wipe σ vs) H2 fun σ2 H3 => wipe σ2 vs = wipe σ vs ∧ tt σ2 H3 fun b H4 =>
        if b = true then te σ2 H4 fun y H5 => ∃ acc, H5 Dl = some (.lst acc) ∧ acc.length < sizeLine ∧ (∃ θ' own' F' acc' ws, Ga K (fun b => B b ∨ b = Dl) θ' own' F' (upd H5 Dl (.lst (acc ++ [y]))) ∧ Tr B θ1 F1 H1 θ' F' (upd H5 Dl (.lst (acc ++ [y]))) ∧ P (i + 1) acc' own' ∧ (upd H5 Dl (.lst (acc ++ [y]))) Dl = some (.lst ws) ∧ Paired (Cr K θ' F') ws acc')
        else (∃ θ' own' F' acc ws, Ga K (fun b => B b ∨ b = Dl) θ' own' F' H4 ∧ Tr B θ1 F1 H1 θ' F' H4 ∧ P (i + 1) acc own' ∧ H4 Dl = some (.lst ws) ∧ Paired (Cr K θ' F') ws acc) := by
      intro F'' g2 t2 rx
      have st : Zd.SlR K θ' F'' (wipe σ vs) (wipeS ss vs) := slr_wipe (((s.up t1).up t').up t2) vs
      refine hg (.fr d) (wipeS ss vs) own' _ (ps i d acc own' ed p) _ θ' F'' H2 _ x g2 st rx _ fun θ3 own3 F3 H3 σ3 ss3 g3 t3 s3 e3 q3 => ?_
      refine ⟨(e3 vs hj).trans (wipe_wipe σ vs), ?_⟩
      refine ht ss3 own3 _ q3 _ θ3 F3 H3 σ3 g3 s3 _ fun θ4 own4 F4 H4 b g4 t4 q4 => ?_
      have t24 := (t2.trans t3).trans t4
      have inl : ∀ b, B b → B b ∨ b = Dl := fun b h => .inl h
      cases b with
      | false => exact ⟨θ4, own4, F4, acc, ws, g4, t'.trans (t24.res inl), q4, (t24.fr Dl (.inr rfl)).trans hl, paired_up t24 rl⟩
      | true =>
        refine he ss3 own4 _ q4 _ θ4 F4 H4 σ3 g4 (s3.up t4) _ fun θ5 own5 F5 H5 v c g5 t5 r5 q5 => ?_
        have t25 := t24.trans t5
        have e5 := (t25.fr Dl (.inr rfl)).trans hl
        have r6 := paired_up t25 rl
        refine ⟨ws, e5, by rw [paired_len rl]; exact szlt q5.1, θ5, own5, F5, acc ++ [c], ws ++ [v], g5.bset (.inr rfl), ?_, q5.2, upd_same, paired_app r6 (.cons r5 .nil)⟩
        have tb : Tr B θ5 F5 H5 θ5 F5 (upd H5 Dl (.lst (ws ++ [v]))) := ⟨⟨[], (List.append_nil _).symm⟩, Same.refl _, fun b hb => upd_ne fun z => hB (z ▸ hb)⟩
        exact (t'.trans (t25.res inl)).trans tb
    rcases y with ⟨rfl, rx⟩ | ⟨T, o, hT, rfl, rfl, rx⟩
    · exact core F' g' Tr.refl (rp_mono t'.ex _ _ rx)
    · obtain ⟨g2, t2⟩ := g'.newF (o := o) hT
      exact core _ g2 t2 (rx _ (t'.ex.trans t2.ex) upd_same)
  · rintro H' ⟨θ', own', F', acc, ws, g', t', p, hl, rl⟩
    exact hf acc own' Q (pd acc own' p) B θ' F' H' Dl ws g' hB hl rl Qv ((k.up t1).up t')
end

/-! ### methods -/
abbrev FM := C → List C → Ts → KC → Prop
def SM (K : PySem.W.Frag) (r : V → List V → Hp → VK → Prop) (f : FM) : Prop := ∀ c cs own Q, f c cs own Q → ∀ B θ F H v vs, Ga K B θ own F H → Cr K θ F v c → Paired (Cr K θ F) vs cs → ∀ Qv : VK, Bk K B θ F H Q Qv → r v vs H Qv
def isLst (own : Ts) : C → Prop
  | .fr (.list _) => True
  | .hd h => ∃ cs, own[h]? = some (.lst cs)
  | _ => False
def isStr : C → Prop
  | .fr (.str _) => True
  | _ => False
/-- a method of a list; of a text -/
def wBL (f : FM) (wo : WE) (wa : WA) : WE := fun ss own Q => wo ss own fun c o1 => isLst o1 c ∧ wa ss o1 fun cs o2 => f c cs o2 Q
def wBS (f : FM) (wo : WE) (wa : WA) : WE := fun ss own Q => wo ss own fun c o1 => isStr c ∧ wa ss o1 fun cs o2 => f c cs o2 Q
def fAppend : FM := fun c cs own Q => match c, cs with
  | .hd h, [x] => (match own[h]? with
    | some (.lst xs) => xs.length < SZ ∧ Q (.fr .none) (own.set h (.lst (xs ++ [x])))
    | _ => False)
  | _, _ => False
def fPopAt : FM := fun c cs own Q => match c, cs with
  | .hd h, [.fr (.int i)] => (match own[h]? with
    | some (.lst xs) => xs.length ≤ SZ ∧ ∃ k y, ixN xs.length i = some k ∧ xs[k]? = some y ∧ Q (res (own.set h (.lst (xs.eraseIdx k))) y) (own.set h (.lst (xs.eraseIdx k)))
    | _ => False)
  | _, _ => False
def fPop : FM := fun c cs own Q => match c, cs with
  | .hd h, [] => (match own[h]? with
    | some (.lst xs) => ∃ y, xs[xs.length - 1]? = some y ∧ Q (res (own.set h (.lst xs.dropLast)) y) (own.set h (.lst xs.dropLast))
    | _ => False)
  | _, _ => False
def fCountI : FM := fun c cs own Q => match c, cs with
  | .fr (.list ds), [.fr (.int i)] => optP (intsD ds) fun ns => Q (.fr (.int (ns.count i))) own
  | _, _ => False
/-- xs.extend(ys), ys frozen data -/
def fExtend : FM := fun c cs own Q => match c, cs with
  | .hd h, [.fr (.list ds)] => (match own[h]? with
    | some (.lst xs) => xs.length + ds.length ≤ SZ ∧ Q (.fr .none) (own.set h (.lst (xs ++ ds.map C.fr)))
    | _ => False)
  | _, _ => False
section
variable {K : PySem.W.Frag} {to : TE} {wo : WE} {ta : TA} {wa : WA} {r : V → List V → Hp → VK → Prop} {f : FM}
theorem se_bl (ho : SE K to wo) (ha : SA K ta wa) (hm : SM K r f) : SE K (tBM K "list" r to ta) (wBL f wo wa) := by
  intro ss own Q hw B θ F H σ g s Qv k
  refine ho ss own _ hw B θ F H σ g s _ fun θ1 own1 F1 H1 v c g1 t1 r1 q1 => ?_
  refine ⟨?_, ?_⟩
  · have q := q1.1
    unfold isLst at q
    split at q
    · obtain ⟨a, xs, rfl, h1, h2⟩ := cr_lst r1
      exact .inl ⟨rfl, xs, SqL.of (g1.ex _ _ h1)⟩
    · rename_i h
      obtain ⟨cs, e⟩ := q
      obtain ⟨a, ha, rfl⟩ := r1
      obtain ⟨_, vs, hv, _⟩ := g1.mo h a _ ha e
      exact .inl ⟨rfl, vs, SqL.of hv⟩
    · exact q.elim
  · refine ha ss own1 _ q1.2 B θ1 F1 H1 σ g1 (s.up t1) _ fun θ2 own2 F2 H2 vs cs g2 t2 r2 q2 => ?_
    exact hm c cs own2 Q q2 B θ2 F2 H2 v vs g2 (r1.up t2) r2 Qv (k.up (t1.trans t2))
theorem se_bs (ho : SE K to wo) (ha : SA K ta wa) (hm : SM K r f) : SE K (tBM K "str" r to ta) (wBS f wo wa) := by
  intro ss own Q hw B θ F H σ g s Qv k
  refine ho ss own _ hw B θ F H σ g s _ fun θ1 own1 F1 H1 v c g1 t1 r1 q1 => ?_
  refine ⟨?_, ?_⟩
  · have q := q1.1
    unfold isStr at q
    split at q
    · cases cr_str r1
      rfl
    · exact q.elim
  · refine ha ss own1 _ q1.2 B θ1 F1 H1 σ g1 (s.up t1) _ fun θ2 own2 F2 H2 vs cs g2 t2 r2 q2 => ?_
    exact hm c cs own2 Q q2 B θ2 F2 H2 v vs g2 (r1.up t2) r2 Qv (k.up (t1.trans t2))
/-- without arguments -/
theorem se_bl0 (ho : SE K to wo) (hm : SM K r f) : SE K (tBM0 K "list" r to) (wBL f wo wNil) := by
  intro ss own Q hw B θ F H σ g s Qv k
  refine ho ss own _ hw B θ F H σ g s _ fun θ1 own1 F1 H1 v c g1 t1 r1 q1 => ?_
  refine ⟨?_, ?_⟩
  · have q := q1.1
    unfold isLst at q
    split at q
    · obtain ⟨a, xs, rfl, h1, h2⟩ := cr_lst r1
      exact .inl ⟨rfl, xs, SqL.of (g1.ex _ _ h1)⟩
    · rename_i h
      obtain ⟨cs, e⟩ := q
      obtain ⟨a, ha, rfl⟩ := r1
      obtain ⟨_, vs, hv, _⟩ := g1.mo h a _ ha e
      exact .inl ⟨rfl, vs, SqL.of hv⟩
    · exact q.elim
  · exact hm c [] own1 Q q1.2 B θ1 F1 H1 v [] g1 r1 .nil Qv (k.up t1)
theorem paired_erase {α β : Type} {P : α → β → Prop} : ∀ {xs : List α} {ys : List β} (i : Nat), Paired P xs ys → Paired P (xs.eraseIdx i) (ys.eraseIdx i)
  | _, _, _, .nil => .nil
  | _, _, 0, .cons _ t => t
  | _, _, i + 1, .cons r t => .cons r (paired_erase i t)
theorem paired_dropLast {α β : Type} {P : α → β → Prop} {xs : List α} {ys : List β} (h : Paired P xs ys) : Paired P xs.dropLast ys.dropLast := by
  rw [List.dropLast_eq_take, List.dropLast_eq_take, paired_len h]
  exact paired_take _ h
theorem sm_append : SM K rAppend fAppend := by
  intro c cs own Q hq B θ F H v vs g r rs Qv k
  unfold fAppend at hq
  split at hq
  · rename_i h x
    obtain ⟨a, ha, rfl⟩ := r
    obtain ⟨u, rfl, ru⟩ := paired1 rs
    split at hq
    · rename_i xs e
      obtain ⟨hn, ws, hv, rv⟩ := g.mo h a _ ha e
      obtain ⟨g1, t1⟩ := g.write (o := .lst (ws ++ [u])) (m := .lst (xs ++ [x])) ha hn ⟨hn, _, upd_same, paired_app rv (.cons ru .nil)⟩
      exact ⟨a, ws, u, rfl, rfl, hv, by rw [paired_len rv]; exact szlt hq.1, k _ _ _ _ _ (.fr .none) g1 t1 .non hq.2⟩
    · exact hq.elim
  · exact hq.elim
theorem sm_popAt : SM K rPopAt fPopAt := by
  intro c cs own Q hq B θ F H v vs g r rs Qv k
  unfold fPopAt at hq
  split at hq
  · rename_i h i
    obtain ⟨a, ha, rfl⟩ := r
    obtain ⟨u, rfl, ru⟩ := paired1 rs
    cases cr_int ru
    split at hq
    · rename_i xs e
      obtain ⟨hz, j, y, ej, ey, hq⟩ := hq
      obtain ⟨hn, ws, hv, rv⟩ := g.mo h a _ ha e
      obtain ⟨z, ez, rz⟩ := paired_getL rv ey
      obtain ⟨g1, t1⟩ := g.write (o := .lst (ws.eraseIdx j)) (m := .lst (xs.eraseIdx j)) ha hn ⟨hn, _, upd_same, paired_erase j rv⟩
      obtain ⟨h1, h2, h3, h4⟩ := ixN_seq ej
      refine ⟨a, ws, i, j, z, rfl, rfl, hv, by unfold SZ at hz; omega, by unfold SZ at hz; omega, by rw [paired_len rv]; exact h1, ez, ?_⟩
      exact k _ _ _ _ _ _ g1 t1 ((rz.up t1).res g1) hq
    · exact hq.elim
  · exact hq.elim
theorem sm_pop : SM K rPop fPop := by
  intro c cs own Q hq B θ F H v vs g r rs Qv k
  unfold fPop at hq
  split at hq
  · rename_i h
    obtain ⟨a, ha, rfl⟩ := r
    cases rs
    split at hq
    · rename_i xs e
      obtain ⟨y, ey, hq⟩ := hq
      obtain ⟨hn, ws, hv, rv⟩ := g.mo h a _ ha e
      obtain ⟨z, ez, rz⟩ := paired_getL rv ey
      obtain ⟨g1, t1⟩ := g.write (o := .lst ws.dropLast) (m := .lst xs.dropLast) ha hn ⟨hn, _, upd_same, paired_dropLast rv⟩
      refine ⟨a, ws, z, rfl, rfl, hv, by rw [paired_len rv]; exact ez, ?_⟩
      exact k _ _ _ _ _ _ g1 t1 ((rz.up t1).res g1) hq
    · exact hq.elim
  · exact hq.elim
theorem sm_countI : SM K (rCntI K) fCountI := by
  intro c cs own Q hq B θ F H v vs g r rs Qv k
  unfold fCountI at hq
  split at hq
  · rename_i ds i
    obtain ⟨a, xs, rfl, h1, h2⟩ := cr_lst r
    obtain ⟨u, rfl, ru⟩ := paired1 rs
    cases cr_int ru
    obtain ⟨ns, e, hq⟩ := of_mt hq
    cases of_ints (θ := θ) e h2
    exact ⟨a, ns, i, rfl, rfl, SqL.of (g.ex _ _ h1), k.here (c := .fr (.int (ns.count i))) g (.int _) hq⟩
  · exact hq.elim
theorem sm_extend : SM K rExtend fExtend := by
  intro c cs own Q hq B θ F H v vs g r rs Qv k
  unfold fExtend at hq
  split at hq
  · rename_i h ds
    obtain ⟨a, ha, rfl⟩ := r
    obtain ⟨u, rfl, ru⟩ := paired1 rs
    obtain ⟨b, zs, rfl, h1, h2⟩ := cr_lst ru
    split at hq
    · rename_i xs e
      obtain ⟨hn, ws, hv, rv⟩ := g.mo h a _ ha e
      obtain ⟨g1, t1⟩ := g.write (o := .lst (ws ++ zs)) (m := .lst (xs ++ ds.map C.fr)) ha hn ⟨hn, _, upd_same, paired_app rv (paired_rpAll h2)⟩
      exact ⟨a, b, ws, zs, rfl, rfl, hv, g.ex _ _ h1, by rw [paired_len rv, rpAll_len h2]; exact szl hq.1, k _ _ _ _ _ (.fr .none) g1 t1 .non hq.2⟩
    · exact hq.elim
  · exact hq.elim
end

/-! ### calls of the text's defs, a def's promise -/
/-- the promise by the level of data: f tells what is asked and what comes -/
def spA (K : PySem.W.Frag) (n : Nat) (f : FA) : Sp := fun vs H Q _ => ∃ (B : Addr → Prop) (θ : List Addr) (own : Ts) (F : Hp) (cs : List C) (Q0 : KC),
  Ga K B θ own F H ∧ Paired (Cr K θ F) vs cs ∧ cs.length = n ∧ f cs own Q0 ∧ Bk K B θ F H Q0 Q
def CalB (f : FA) (cs : List C) (own : Ts) [q : Hd KC] : Prop := f cs own q.v
def Cal (f : FA) (cs : List C) (own : Ts) (Q : KC) : Prop := @CalB f cs own ⟨Q⟩
def wCall (n : Nat) (f : FA) (wa : WA) : WE := fun ss own Q => wa ss own fun cs o1 => cs.length = n ∧ Cal f cs o1 Q
theorem se_call {K : PySem.W.Frag} {n : Nat} {f : FA} {ta : TA} {wa : WA} (ha : SA K ta wa) : SE K (tCall (spA K n f) [] E0 ta) (wCall n f wa) := by
  intro ss own Q hw B θ F H σ g s Qv k
  refine ha ss own _ hw B θ F H σ g s _ fun θ1 own1 F1 H1 vs cs g1 t1 r1 q1 => ?_
  rw [List.append_nil]
  exact ⟨B, θ1, own1, F1, cs, Q, g1, r1, q1.1, q1.2, k.up t1⟩
/-- where a def ends: what it made for itself is forgotten -/
def EndQ (n : Nat) (Q : KC) : KC := fun c own => ∃ k, n ≤ k ∧ (∀ j ∈ c.refs, j < k) ∧ Cl (own.take k) ∧ Q c (own.take k)
def enF (n : Nat) (Q : KC) : En := { nx := fun _ own => EndQ n Q (.fr .none) own, rt := EndQ n Q }
def startS (N : List Str) (cs : List C) : Sl := cs.map some ++ List.replicate (N.length - cs.length) none
theorem bk_end {K : PySem.W.Frag} {B : Addr → Prop} {θ : List Addr} {own : Ts} {F H : Hp} {Q0 : KC} {Q : VK} (g0 : Ga K B θ own F H) (k : Bk K B θ F H Q0 Q) : Bk K B θ F H (EndQ own.length Q0) Q := by
  intro θ' own' F' H' v c g t r ⟨m, hm, hc, hcl, q⟩
  obtain ⟨r', rfl⟩ := t.th
  have g2 := g.take hcl
  refine k _ _ _ _ v c g2 ⟨⟨r'.take (m - θ.length), ?_⟩, t.ex, t.fr⟩ ?_ q
  · rw [List.take_append, List.take_of_length_le (by rw [g0.len]; exact hm)]
  · cases c with
    | fr d => exact r
    | sc ns => exact r
    | fn x => exact r
    | hd i =>
      obtain ⟨a, e, rr⟩ := r
      exact ⟨a, by rw [List.getElem?_take_of_lt (hc i (by simp [C.refs]))]; exact e, rr⟩
theorem slr_start {K : PySem.W.Frag} {θ : List Addr} {F : Hp} {N : List Str} {vs : List V} {cs : List C} (r : Paired (Cr K θ F) vs cs) : Zd.SlR K θ F (L2.start N vs) (startS N cs) := by
  have hl := paired_len r
  unfold L2.start startS
  refine ⟨by simp [hl], fun i c e => ?_⟩
  by_cases hi : i < cs.length
  · rw [List.getElem?_append_left (by simpa using hi), List.getElem?_map] at e
    cases e2 : cs[i]? with
    | none => rw [e2] at e; cases e
    | some d =>
      rw [e2] at e
      have e3 : d = c := Option.some.inj (Option.some.inj e)
      subst e3
      obtain ⟨v, ev, rv⟩ := paired_getL r e2
      exact ⟨v, by rw [List.getElem?_append_left (by simpa [hl] using hi), List.getElem?_map, ev]; rfl, rv⟩
  · rw [List.getElem?_append_right (by simpa using hi), List.getElem?_replicate] at e
    split at e <;> cases e
theorem body_ok {K : PySem.W.Frag} {N : List Str} {t : TS} {w : WS} {n : Nat} {f : FA} {vs : List V} {H : Hp} {Q : VK} {E : XK} (hs : SS K t w) (hw : ∀ cs own Q, Cl own → cs.length = n → f cs own Q → w (enF own.length Q) (startS N cs) own) (h : spA K n f vs H Q E) :
    t { nx := fun _ H' => Q .non H', rt := Q } (L2.start N vs) H := by
  obtain ⟨B, θ, own, F, cs, Q0, g, r, hl, hf, k⟩ := h
  have k2 := bk_end g k
  refine hs _ _ _ (hw cs own Q0 g.cl hl hf) B θ F H (L2.start N vs) g (slr_start r) _ ⟨?_, k2, ?_, ?_⟩
  · exact fun θ' own' F' H' σ ss g' t' s' q => k2 θ' own' F' H' .non (.fr .none) g' t' .non q
  · exact fun _ _ _ _ _ _ _ _ _ q => q.elim
  · exact fun _ _ _ _ _ _ _ _ _ q => q.elim
end Zd

/-! Zx2: in, not in; is True. -/
namespace Zd
open PySem L2
def strsD : List D → Option (List Str)
  | [] => some []
  | .str i :: ds => (strsD ds).map (i :: ·)
  | _ :: _ => none
theorem of_strs {F : Hp} {K : PySem.W.Frag} : ∀ {ds : List D} {ns : List Str} {vs : List V}, strsD ds = some ns → RpAll K F vs ds → vs = ns.map V.str
  | [], ns, vs, e, h => by cases e; cases h; rfl
  | .str i :: ds, ns, vs, e, h => by
    rw [strsD] at e
    cases e2 : strsD ds with
    | none => rw [e2] at e; cases e
    | some es =>
      rw [e2] at e
      cases e
      cases h with
      | cons h1 h2 =>
        cases h1
        rw [List.map_cons, of_strs e2 h2]
  | .none :: _, _, _, e, _ => by cases e
  | .int _ :: _, _, _, e, _ => by cases e
  | .bool _ :: _, _, _, e, _ => by cases e
  | .list _ :: _, _, _, e, _ => by cases e
  | .tuple _ :: _, _, _, e, _ => by cases e
  | .dict _ :: _, _, _, e, _ => by cases e
theorem strsD_map {α : Type} (f : α → Str) : ∀ xs : List α, strsD (xs.map fun x => .str (f x)) = some (xs.map f)
  | [] => rfl
  | x :: xs => by
    show (strsD (xs.map fun x => .str (f x))).map (f x :: ·) = _
    rw [strsD_map f xs]
    rfl
theorem inV_int (i : Int) : ∀ ns : List Int, inV (V.int i) (ns.map V.int) = decide (i ∈ ns)
  | [] => rfl
  | n :: ns => by
    have ih := inV_int i ns
    unfold inV at *
    rw [List.map_cons, List.any_cons, ih]
    have : eqV (.int n) (.int i) = decide (i = n) := by
      show (n == i) = _
      by_cases h : i = n
      · subst h; simp
      · have : ¬ n = i := fun e => h e.symm
        simp [h, this]
    rw [this]
    by_cases h : i = n <;> simp [h]
theorem inV_str (i : Str) : ∀ ns : List Str, inV (V.str i) (ns.map V.str) = decide (i ∈ ns)
  | [] => rfl
  | n :: ns => by
    have ih := inV_str i ns
    unfold inV at *
    rw [List.map_cons, List.any_cons, ih]
    have : eqV (.str n) (.str i) = decide (i = n) := by
      show (n == i) = _
      by_cases h : i = n
      · subst h; simp
      · have : ¬ n = i := fun e => h e.symm
        simp [h, this]
    rw [this]
    by_cases h : i = n <;> simp [h]
theorem flat_ints (ns : List Int) : (ns.map V.int).all flatV = true := by
  rw [List.all_map]
  exact List.all_eq_true.mpr fun _ _ => rfl
theorem flat_strs (ns : List Str) : (ns.map V.str).all flatV = true := by
  rw [List.all_map]
  exact List.all_eq_true.mpr fun _ _ => rfl
def fInG (neg : Bool) : F2 := fun c d own Q => match c with
  | .fr (.int i) => optP ((seqD d).bind intsD) fun ns => Q (.fr (.bool (if neg then !decide (i ∈ ns) else decide (i ∈ ns)))) own
  | .fr (.str i) => optP ((seqD d).bind strsD) fun ns => Q (.fr (.bool (if neg then !decide (i ∈ ns) else decide (i ∈ ns)))) own
  | _ => False
def fIn : F2 := fun c d own Q => match c with
  | .fr (.int i) => optP ((seqD d).bind intsD) fun ns => Q (.fr (.bool (decide (i ∈ ns)))) own
  | .fr (.str i) => optP ((seqD d).bind strsD) fun ns => Q (.fr (.bool (decide (i ∈ ns)))) own
  | _ => False
def fNotIn : F2 := fun c d own Q => match c with
  | .fr (.int i) => optP ((seqD d).bind intsD) fun ns => Q (.fr (.bool (!decide (i ∈ ns)))) own
  | .fr (.str i) => optP ((seqD d).bind strsD) fun ns => Q (.fr (.bool (!decide (i ∈ ns)))) own
  | _ => False
section
variable {K : PySem.W.Frag}
theorem seq_strs {B : Addr → Prop} {θ : List Addr} {own : Ts} {F H : Hp} {v : V} {c : C} {ns : List Str} (gg : Ga K B θ own F H) (r : Cr K θ F v c) (e : (seqD c).bind strsD = some ns) : ∃ a, v = .ref a ∧ SqA K H a (ns.map V.str) := by
  unfold seqD at e
  split at e
  · obtain ⟨a, xs, rfl, h1, h2⟩ := cr_lst r
    cases of_strs e h2
    exact ⟨a, rfl, .inl (SqL.of (gg.ex _ _ h1))⟩
  · obtain ⟨a, xs, rfl, h1, h2⟩ := cr_tup r
    cases of_strs e h2
    exact ⟨a, rfl, .inr (same_t gg.ex h1)⟩
  · cases e
theorem s2_inG (neg : Bool) : S2 K (rIn K neg) (fInG neg) := by
  intro c d own Q hq B θ F H v u gg r1 r2 Qv k
  unfold fInG at hq
  split at hq
  · rename_i i
    cases cr_int r1
    obtain ⟨ns, e, hq⟩ := of_mt hq
    obtain ⟨a, rfl, h⟩ := seq_ints gg r2 e
    refine ⟨a, _, rfl, h, rfl, flat_ints ns, ?_⟩
    rw [inV_int]
    cases neg <;> exact k.here (c := .fr (.bool _)) gg (.bl _) hq
  · rename_i i
    cases cr_str r1
    obtain ⟨ns, e, hq⟩ := of_mt hq
    obtain ⟨a, rfl, h⟩ := seq_strs gg r2 e
    refine ⟨a, _, rfl, h, rfl, flat_strs ns, ?_⟩
    rw [inV_str]
    cases neg <;> exact k.here (c := .fr (.bool _)) gg (.bl _) hq
  · exact hq.elim
theorem s2_in : S2 K (rIn K false) fIn := s2_inG false
theorem s2_notIn : S2 K (rIn K true) fNotIn := s2_inG true
def fIsB : F2 := fun c d own Q => match c, d with
  | .fr (.bool i), .fr (.bool j) => Q (.fr (.bool (decide (i = j)))) own
  | _, _ => False
def fNotB : F2 := fun c d own Q => match c, d with
  | .fr (.bool i), .fr (.bool j) => Q (.fr (.bool (!decide (i = j)))) own
  | _, _ => False
theorem s2_isB : S2 K (fun x y H Q => ∃ a b, x = .bl a ∧ y = .bl b ∧ Q (.bl (decide (a = b))) H) fIsB := by
  intro c d own Q hq B θ F H v u gg r1 r2 Qv k
  unfold fIsB at hq
  split at hq
  · cases cr_bl r1
    cases cr_bl r2
    exact ⟨_, _, rfl, rfl, k.here (c := .fr (.bool _)) gg (.bl _) hq⟩
  · exact hq.elim
theorem s2_notB : S2 K (fun x y H Q => ∃ a b, x = .bl a ∧ y = .bl b ∧ Q (.bl (!decide (a = b))) H) fNotB := by
  intro c d own Q hq B θ F H v u gg r1 r2 Qv k
  unfold fNotB at hq
  split at hq
  · cases cr_bl r1
    cases cr_bl r2
    exact ⟨_, _, rfl, rfl, k.here (c := .fr (.bool _)) gg (.bl _) hq⟩
  · exact hq.elim
end
end Zd

/-! Zd7: a rule for each construct: its reading by the heap and by data. -/
namespace Zd
open PySem PySem.Spec PyProof.Rows L2 RZ RT
theorem kB {X : Cx} {s : Shared} {H : Hp} {sc : Scope} {e : Env} {fp : List Addr} : (X.blk s H sc e fp).K = X.K := rfl

section
variable {X : Cx} {a b c e : Expr} {es : List Expr} {ta tb tc te : TE} {wa wb wc we : WE} {tA : TA} {wA : WA} {pos p : Pos} {tt tu : TT} {wt wu : WT}
/-! ### names, constants -/
theorem ae_var (i : Nat) {x : Str} (hN : X.N[i]? = some x := by rfl) (hv : Vis X.env.scope x := by first | exact Or.inl rfl | exact Or.inr (Or.inl rfl) | exact Or.inr (Or.inr rfl)) (hd : (x == ("__debug__" : Str)) = false := by decide)
    (hcd : (x == ("__classdict__" : Str)) = false := by decide) : AE X (.Name x pos) (tVar i) (wVar i) := ⟨pe_var hN hv hd hcd, se_var⟩
theorem ae_varF (i : Nat) {x : Str} (hN : X.N[i]? = some x := by rfl) (hv : Vis X.env.scope x := by first | exact Or.inl rfl | exact Or.inr (Or.inl rfl) | exact Or.inr (Or.inr rfl)) (hd : (x == ("__debug__" : Str)) = false := by decide)
    (hcd : (x == ("__classdict__" : Str)) = false := by decide) : AE X (.Name x pos) (tVar i) (wFrz (wVar i)) := ⟨pe_var hN hv hd hcd, se_frz se_var⟩
theorem ae_frz (h : AE X e te we) : AE X e te (wFrz we) := ⟨h.p, se_frz h.s⟩
theorem ae_int {i : Int} {j : Nat} : AE X (.Constant (.int i) j pos) (tC (.int i)) (wC (.int i)) := ⟨pe_int, se_c fun _ => .int i⟩
theorem ae_bl {i : Bool} {j : Nat} : AE X (.Constant (.bool i) j pos) (tC (.bl i)) (wC (.bool i)) := ⟨pe_bl, se_c fun _ => .bl i⟩
theorem ae_non {j : Nat} : AE X (.Constant .none j pos) (tC .non) (wC .none) := ⟨pe_non, se_c fun _ => .non⟩
theorem ae_str {i : Str} {j : Nat} : AE X (.Constant (.str i) j pos) (tC (.str i)) (wC (.str i)) := ⟨pe_str, se_c fun _ => .str i⟩
/-- a module's constant -/
theorem ae_glob {K : PySem.W.Frag} {x : Str} {v : V} {u : Value} {d : D} (hg : Gl X x) (hm : X.mg x = some u) (r : RelV v u) (hd : ∀ H, Rp K H v d) (hdb : (x == ("__debug__" : Str)) = false := by decide) (hK : X.K = K := by first | rfl | exact kB | exact kB.trans kB) : AE X (.Name x pos) (tC v) (wC d) := by
  subst hK
  exact ⟨pe_glob hg hm r hdb, se_c hd⟩

/-! ### operators -/
abbrev rI' (f : Int → Int → Int) : R2 := rI0 fun i j => .int (f i j)
theorem ae_add {K : PySem.W.Frag} (ha : AE X a ta wa) (hb : AE X b tb wb) (hK : X.K = K := by first | rfl | exact kB | exact kB.trans kB) : AE X (.BinOp a .Add b pos) (tOp (rAddAll K) ta tb) (wOp fAdd wa wb) := by
  subst hK
  exact ⟨pe_op op_addAll ha.p hb.p, se_op ha.s hb.s s2_add⟩
def fSub : F2 := fun c d own Q => (fI fun i j => .int (i - j)) c d own Q
def fMul : F2 := fun c d own Q => (fIC CMul fun i j => .int (i * j)) c d own Q
def fDiv : F2 := fun c d own Q => (fIC CDiv fun i j => .int (i / j)) c d own Q
def fMod : F2 := fun c d own Q => (fIC (fun _ j => 0 < j) fun i j => .int (i % j)) c d own Q
def fPow : F2 := fun c d own Q => (fIC CPow fun i j => .int (i ^ j.toNat)) c d own Q
def fShl : F2 := fun c d own Q => (fIC CPow fun i j => .int (i * 2 ^ j.toNat)) c d own Q
def fShr : F2 := fun c d own Q => (fIC (fun _ j => 0 ≤ j) fun i j => .int (i / 2 ^ j.toNat)) c d own Q
def fAnd : F2 := fun c d own Q => (fI fun i j => .int (Builtin.bitAnd i j)) c d own Q
theorem ae_sub (ha : AE X a ta wa) (hb : AE X b tb wb) : AE X (.BinOp a .Sub b pos) (tOp (rI0 fun i j => .int (i - j)) ta tb) (wOp fSub wa wb) := ⟨pe_op op_sub ha.p hb.p, se_op ha.s hb.s (s2_I0 fun _ _ _ => .int _)⟩
theorem ae_mul (ha : AE X a ta wa) (hb : AE X b tb wb) : AE X (.BinOp a .Mult b pos) (tOp (rI CMul fun i j => .int (i * j)) ta tb) (wOp fMul wa wb) := ⟨pe_op op_mul ha.p hb.p, se_op ha.s hb.s (s2_I fun _ _ _ => .int _)⟩
theorem ae_div (ha : AE X a ta wa) (hb : AE X b tb wb) : AE X (.BinOp a .FloorDiv b pos) (tOp (rI CDiv fun i j => .int (i / j)) ta tb) (wOp fDiv wa wb) := ⟨pe_op op_fdiv ha.p hb.p, se_op ha.s hb.s (s2_I fun _ _ _ => .int _)⟩
theorem ae_mod (ha : AE X a ta wa) (hb : AE X b tb wb) : AE X (.BinOp a .Mod b pos) (tOp (rI (fun _ j => 0 < j) fun i j => .int (i % j)) ta tb) (wOp fMod wa wb) := ⟨pe_op op_mod ha.p hb.p, se_op ha.s hb.s (s2_I fun _ _ _ => .int _)⟩
theorem ae_pow (ha : AE X a ta wa) (hb : AE X b tb wb) : AE X (.BinOp a .Pow b pos) (tOp (rI CPow fun i j => .int (i ^ j.toNat)) ta tb) (wOp fPow wa wb) := ⟨pe_op op_pow ha.p hb.p, se_op ha.s hb.s (s2_I fun _ _ _ => .int _)⟩
theorem ae_shl (ha : AE X a ta wa) (hb : AE X b tb wb) : AE X (.BinOp a .LShift b pos) (tOp (rI CPow fun i j => .int (i * 2 ^ j.toNat)) ta tb) (wOp fShl wa wb) := ⟨pe_op op_shl ha.p hb.p, se_op ha.s hb.s (s2_I fun _ _ _ => .int _)⟩
theorem ae_shr (ha : AE X a ta wa) (hb : AE X b tb wb) : AE X (.BinOp a .RShift b pos) (tOp (rI (fun _ j => 0 ≤ j) fun i j => .int (i / 2 ^ j.toNat)) ta tb) (wOp fShr wa wb) := ⟨pe_op op_shr ha.p hb.p, se_op ha.s hb.s (s2_I fun _ _ _ => .int _)⟩
theorem ae_and (ha : AE X a ta wa) (hb : AE X b tb wb) : AE X (.BinOp a .BitAnd b pos) (tOp (rI0 fun i j => .int (Builtin.bitAnd i j)) ta tb) (wOp fAnd wa wb) := ⟨pe_op op_and ha.p hb.p, se_op ha.s hb.s (s2_I0 fun _ _ _ => .int _)⟩
def fNeg : F1 := fun c own Q => match c with | .fr (.int i) => Q (.fr (.int (-i))) own | _ => False
theorem ae_neg (ha : AE X a ta wa) : AE X (.UnaryOp .USub a pos) (tUn (rU fun i => .int (-i)) ta) (wUn fNeg wa) := ⟨pe_un un_neg ha.p, se_un ha.s s1_neg⟩

/-! ### comparisons: as a value, as a test -/
def fLt : F2 := fun c d own Q => (fI fun i j => .bool (decide (i < j))) c d own Q
def fLe : F2 := fun c d own Q => (fI fun i j => .bool (decide (i ≤ j))) c d own Q
def fGt : F2 := fun c d own Q => (fI fun i j => .bool (decide (j < i))) c d own Q
def fGe : F2 := fun c d own Q => (fI fun i j => .bool (decide (j ≤ i))) c d own Q
structure CO (X : Cx) (op : CmpOp) (r : R2) (f : F2) : Prop where
  o : OpR X (compareOp op) r
  s : S2 X.K r f
theorem co_lt : CO X .Lt (rI0 fun i j => .bl (decide (i < j))) fLt := ⟨op_lt, s2_I0 fun _ _ _ => .bl _⟩
theorem co_le : CO X .LtE (rI0 fun i j => .bl (decide (i ≤ j))) fLe := ⟨op_le, s2_I0 fun _ _ _ => .bl _⟩
theorem co_gt : CO X .Gt (rI0 fun i j => .bl (decide (j < i))) fGt := ⟨op_gt, s2_I0 fun _ _ _ => .bl _⟩
theorem co_ge : CO X .GtE (rI0 fun i j => .bl (decide (j ≤ i))) fGe := ⟨op_ge, s2_I0 fun _ _ _ => .bl _⟩
theorem co_eq {K : PySem.W.Frag} {k : Nat} (hr : Room k X.A) (hK : X.K = K := by first | rfl | exact kB | exact kB.trans kB) : CO X .Eq (rEqD K) fEq := by
  subst hK
  exact ⟨op_eqD hr.units, s2_eq⟩
theorem co_ne {K : PySem.W.Frag} {k : Nat} (hr : Room k X.A) (hK : X.K = K := by first | rfl | exact kB | exact kB.trans kB) : CO X .NotEq (rNeD K) fNe := by
  subst hK
  exact ⟨op_neD hr.units, s2_ne⟩
theorem co_in {K : PySem.W.Frag} (hK : X.K = K := by first | rfl | exact kB | exact kB.trans kB) : CO X .In (rIn K false) fIn := by
  subst hK
  exact ⟨op_in_seq, s2_in⟩
theorem co_nin {K : PySem.W.Frag} (hK : X.K = K := by first | rfl | exact kB | exact kB.trans kB) : CO X .NotIn (rIn K true) fNotIn := by
  subst hK
  exact ⟨op_notIn_seq, s2_notIn⟩
theorem co_isB : CO X .Is (fun x y H Q => ∃ a b, x = .bl a ∧ y = .bl b ∧ Q (.bl (decide (a = b))) H) fIsB := ⟨op_is_bl, s2_isB⟩
theorem co_notB : CO X .IsNot (fun x y H Q => ∃ a b, x = .bl a ∧ y = .bl b ∧ Q (.bl (!decide (a = b))) H) fNotB := ⟨op_isnot_bl, s2_notB⟩
variable {op op' : CmpOp} {r r' : R2} {f f' : F2}
theorem ae_cmp (h : CO X op r f) (ha : AE X a ta wa) (hb : AE X b tb wb) (hm : behindInMarks op b = false := by first | rfl | exact nomark _) : AE X (.Compare a [op] [b] pos) (tOp r ta tb) (wOp f wa wb) := ⟨pe_cmpR h.o ha.p hb.p hm, se_op ha.s hb.s h.s⟩
theorem at_cmp (h : CO X op r f) (ha : AE X a ta wa) (hb : AE X b tb wb) (hm : behindInMarks op b = false := by first | rfl | exact nomark _) : AT X (.Compare a [op] [b] pos) (tTest (tOp r ta tb)) (wTest (wOp f wa wb)) := ⟨pt_cmpR h.o ha.p hb.p hm, st_test (se_op ha.s hb.s h.s)⟩
theorem ae_chain (h : CO X op r f) (h' : CO X op' r' f') (ha : AE X a ta wa) (hb : AE X b tb wb) (hc : AE X c tc wc) (hm : lastMarks [op, op'] [b, c] = false := by with_unfolding_all rfl) :
    AE X (.Compare a [op, op'] [b, c] pos) (tChain r r' ta tb tc) (wChain f f' wa wb wc) := ⟨pe_chain h.o h'.o ha.p hb.p hc.p hm, se_chain ha.s hb.s hc.s h.s h'.s⟩
theorem at_chain (h : CO X op r f) (h' : CO X op' r' f') (ha : AE X a ta wa) (hb : AE X b tb wb) (hc : AE X c tc wc) (hm : lastMarks [op, op'] [b, c] = false := by with_unfolding_all rfl) :
    AT X (.Compare a [op, op'] [b, c] pos) (tTest (tChain r r' ta tb tc)) (wTest (wChain f f' wa wb wc)) := ⟨pt_chain h.o h'.o ha.p hb.p hc.p hm, st_test (se_chain ha.s hb.s hc.s h.s h'.s)⟩
theorem ae_isN {j : Nat} (ha : AE X a ta wa) : AE X (.Compare a [.Is] [.Constant .none j p] pos) (tIsN ta) (wIsN wa) := ⟨pe_cmp (pc_isN ha.p), se_isN ha.s⟩
theorem ae_notN {j : Nat} (ha : AE X a ta wa) : AE X (.Compare a [.IsNot] [.Constant .none j p] pos) (tNotN ta) (wNotN wa) := ⟨pe_cmp (pc_notN ha.p), se_notN ha.s⟩
theorem at_isN {j : Nat} (ha : AE X a ta wa) : AT X (.Compare a [.Is] [.Constant .none j p] pos) (tB (tIsN ta)) (wTest (wIsN wa)) := ⟨pt_cmp (pc_isN ha.p), st_B (se_isN ha.s)⟩
theorem at_notN {j : Nat} (ha : AE X a ta wa) : AT X (.Compare a [.IsNot] [.Constant .none j p] pos) (tB (tNotN ta)) (wTest (wNotN wa)) := ⟨pt_cmp (pc_notN ha.p), st_B (se_notN ha.s)⟩

/-! ### tests -/
theorem at_val (h : AE X e te we) (he : ∀ whole, isTrue e X.env whole = (do let v ← whole; standAt e.pos; holding [v] (truthy v)) := by intro _; rfl) : AT X e (tB te) (wTest we) := ⟨pt_val h.p he, st_B h.s⟩
theorem at_not (h : AT X a tt wt) : AT X (.UnaryOp .Not a pos) (tNot tt) (wNot wt) := ⟨pt_not h.p, st_not h.s⟩
theorem aw_and1 (h : AT X a tt wt) : AW X (.BoolOp .And [a] pos) tt wt := ⟨pw_and1 h.p, h.s⟩
theorem aw_or1 (h : AT X a tt wt) : AW X (.BoolOp .Or [a] pos) tt wt := ⟨pw_or1 h.p, h.s⟩
theorem aw_and (h : AT X a tt wt) (h' : AW X (.BoolOp .And (b :: es) pos) tu wu) : AW X (.BoolOp .And (a :: b :: es) pos) (tAnd tt tu) (wAnd wt wu) := ⟨pw_and h.p h'.p, st_and h.s h'.s⟩
theorem aw_or (h : AT X a tt wt) (h' : AW X (.BoolOp .Or (b :: es) pos) tu wu) : AW X (.BoolOp .Or (a :: b :: es) pos) (tOr tt tu) (wOr wt wu) := ⟨pw_or h.p h'.p, st_or h.s h'.s⟩
theorem ae_one {op : BoolOp} (h : AE X a ta wa) : AE X (.BoolOp op [a] pos) ta wa := ⟨pe_one h.p, h.s⟩
theorem ae_andV (ha : AE X a ta wa) (hb : AE X (.BoolOp .And (b :: es) pos) tb wb) : AE X (.BoolOp .And (a :: b :: es) pos) (tAndV ta tb) (wAndV wa wb) := ⟨pe_and ha.p hb.p, se_andV ha.s hb.s⟩
theorem ae_orV (ha : AE X a ta wa) (hb : AE X (.BoolOp .Or (b :: es) pos) tb wb) : AE X (.BoolOp .Or (a :: b :: es) pos) (tOrV ta tb) (wOrV wa wb) := ⟨pe_or ha.p hb.p, se_orV ha.s hb.s⟩
theorem ae_notV (ha : AE X a ta wa) : AE X (.UnaryOp .Not a pos) (tNotV ta) (wNotV wa) := ⟨pe_not ha.p, se_notV ha.s⟩
theorem ae_if (h : AT X c tt wt) (ha : AE X a ta wa) (hb : AE X b tb wb) : AE X (.IfExp c a b pos) (tIf tt ta tb) (wIf wt wa wb) := ⟨pe_ifExp h.p ha.p hb.p, se_if h.s ha.s hb.s⟩

/-! ### sequences -/
theorem aa_nil : AA X [] tNil wNil := ⟨pa_nil, sa_nil⟩
theorem aa_cons (h : AE X e te we) (ha : AA X es tA wA) (hs : starEach (e :: es) X.env = (false, eval e X.env) :: starEach es X.env := by rfl) : AA X (e :: es) (tCons te tA) (wCons we wA) := ⟨pa_cons h.p ha.p hs, sa_cons h.s ha.s⟩
theorem ae_tup {x1 : Nat} (h : AA X es tA wA) : AE X (.Tuple es x1 pos) (tTup tA) (wTup wA) := ⟨pe_tup h.p, se_tup h.s⟩
theorem ae_lst (h : AA X es tA wA) : AE X (.List es pos) (tLst tA) (wLst wA) := ⟨pe_lst h.p, se_lst h.s⟩
theorem ae_lstH (h : AA X es tA wA) : AE X (.List es pos) (tLst tA) (wLstH wA) := ⟨pe_lst h.p, se_lstH h.s⟩
theorem ae_ix {K : PySem.W.Frag} (ha : AE X a ta wa) (hb : AE X b tb wb) (hs : PlainIx b := by intro _ _; rfl) (hK : X.K = K := by first | rfl | exact kB | exact kB.trans kB) : AE X (.Subscript a b pos) (tOp (rIx K) ta tb) (wOp fIx wa wb) := by
  subst hK
  exact ⟨pe_ix ix_seq ha.p hb.p hs, se_op ha.s hb.s s2_ix⟩
theorem ao_none : AO X none tNoPart wNoPart := ⟨po_none, so_none⟩
theorem ao_some (h : AE X e te we) : AO X (some e) (tPart te) (wPart we) := ⟨po_some h.p, so_some h.s⟩
variable {lo hi : Option Expr} {tl th : TO} {wl wh : WO}
theorem ae_sl {K : PySem.W.Frag} (he : AE X e te we) (hl : AO X lo tl wl) (hh : AO X hi th wh) (hK : X.K = K := by first | rfl | exact kB | exact kB.trans kB) : AE X (.Subscript e (.Slice lo hi none p) pos) (tSl (rSlAll K) te tl th) (wSl fSl we wl wh) := by
  subst hK
  exact ⟨pe_slice sl_all he.p hl.p hh.p, se_slice ss_all he.s hl.s hh.s⟩
theorem ae_slH {K : PySem.W.Frag} (he : AE X e te we) (hl : AO X lo tl wl) (hh : AO X hi th wh) (hK : X.K = K := by first | rfl | exact kB | exact kB.trans kB) : AE X (.Subscript e (.Slice lo hi none p) pos) (tSl (rSlAll K) te tl th) (wSl fSlH we wl wh) := by
  subst hK
  exact ⟨pe_slice sl_all he.p hl.p hh.p, se_slice ss_allH he.s hl.s hh.s⟩

/-! ### built-in calls -/
/-- a built-in by its rule -/
structure BR (X : Cx) (f : Value) (r : List V → Hp → VK → Prop) (g : FA) : Prop where
  c : CallR X f r
  s : SN X.K r g
theorem ae_cb {x : Str} {id : String} {r : List V → Hp → VK → Prop} {g : FA} (h : BR X (.builtin id) r g) (hm : X.mg x = none) (ha : AA X (e :: es) tA wA) (hg : Gl X x := by rfl) (hv : bootBuiltins x = some (.builtin id) := by decide +kernel) (hn : x ≠ "__name__" := by decide) (hdb : (x == ("__debug__" : Str)) = false := by decide)
    (he : starEach (e :: es) X.env = (false, eval e X.env) :: starEach es X.env := by rfl) (hpl : (backTo pos (starEach es X.env)).any (·.1) = false := by rfl) : AE X (.Call (.Name x p) (e :: es) [] pos) (tCB r tA) (wCB g wA) :=
  ⟨pe_callB h.c hg hm hv ha.p hn hdb he hpl, se_cb ha.s h.s⟩
theorem ae_ct {x : Str} {T : String} {r : List V → Hp → VK → Prop} {g : FA} (h : BR X (.type T) r g) (hm : X.mg x = none) (ha : AA X (e :: es) tA wA) (hg : Gl X x := by rfl) (hv : bootBuiltins x = some (.type T) := by decide +kernel) (hn : x ≠ "__name__" := by decide) (hdb : (x == ("__debug__" : Str)) = false := by decide)
    (he : starEach (e :: es) X.env = (false, eval e X.env) :: starEach es X.env := by rfl) (hpl : (backTo pos (starEach es X.env)).any (·.1) = false := by rfl) : AE X (.Call (.Name x p) (e :: es) [] pos) (tCB r tA) (wCB g wA) :=
  ⟨pe_callTy h.c hg hm hv ha.p hn hdb he hpl, se_cb ha.s h.s⟩
theorem br_len {K : PySem.W.Frag} (hK : X.K = K := by first | rfl | exact kB | exact kB.trans kB) : BR X (.builtin "len") (fun xs H Q => ∃ x n, xs = [x] ∧ LenV K x H n ∧ Q (.int n) H) fLen := by
  subst hK
  exact ⟨call_len, sn_len⟩
theorem br_abs : BR X (.builtin "abs") (fun xs H Q => ∃ i, xs = [.int i] ∧ Q (.int (if i < 0 then -i else i)) H) fAbs := ⟨call_abs, sn_abs⟩
theorem br_max2 (hc : X.calm = true := by rfl) : BR X (.builtin "max") (fun xs H Q => ∃ i j, xs = [.int i, .int j] ∧ Q (.int (if j > i then j else i)) H) fMax2 := ⟨call_max2 hc, sn_max2⟩
theorem br_min2 (hc : X.calm = true := by rfl) : BR X (.builtin "min") (fun xs H Q => ∃ i j, xs = [.int i, .int j] ∧ Q (.int (if j < i then j else i)) H) fMin2 := ⟨call_min2 hc, sn_min2⟩
theorem br_sum {K : PySem.W.Frag} (hc : X.calm = true := by rfl) (hK : X.K = K := by first | rfl | exact kB | exact kB.trans kB) : BR X (.builtin "sum") (rSumA K) fSum := by
  subst hK
  exact ⟨cr_sumA hc, sn_sum⟩
theorem br_minL {K : PySem.W.Frag} (hc : X.calm = true := by rfl) (hK : X.K = K := by first | rfl | exact kB | exact kB.trans kB) : BR X (.builtin "min") (rMinA K) fMinL := by
  subst hK
  exact ⟨cr_minA hc, sn_minL⟩
theorem br_maxL {K : PySem.W.Frag} (hc : X.calm = true := by rfl) (hK : X.K = K := by first | rfl | exact kB | exact kB.trans kB) : BR X (.builtin "max") (rMaxA K) fMaxL := by
  subst hK
  exact ⟨cr_maxA hc, sn_maxL⟩
theorem br_all {K : PySem.W.Frag} (hc : X.calm = true := by rfl) (hK : X.K = K := by first | rfl | exact kB | exact kB.trans kB) : BR X (.builtin "all") (rAll K) fAll := by
  subst hK
  exact ⟨cr_all hc, sn_all⟩
theorem br_any {K : PySem.W.Frag} (hc : X.calm = true := by rfl) (hK : X.K = K := by first | rfl | exact kB | exact kB.trans kB) : BR X (.builtin "any") (rAny K) fAny := by
  subst hK
  exact ⟨cr_any hc, sn_any⟩
theorem br_int : BR X (.type "int") (fun xs H Q => (∃ i, xs = [.int i] ∧ Q (.int i) H) ∨ ∃ k, xs = [.bl k] ∧ Q (.int (if k then 1 else 0)) H) fInt := ⟨call_int1, sn_int⟩
theorem br_tuple {K : PySem.W.Frag} (hK : X.K = K := by first | rfl | exact kB | exact kB.trans kB) : BR X (.type "tuple") (fun xs H Q => ∃ p ys, xs = [.ref p] ∧ ((SqL K H p ys ∧ ∀ l, H l = none → Q (.ref l) (upd H l (.tup ys))) ∨ (SqT K H p ys ∧ Q (.ref p) H))) fTupleOf := by
  subst hK
  exact ⟨call_tuple_of, sn_tupleOf⟩
theorem br_list {K : PySem.W.Frag} (hK : X.K = K := by first | rfl | exact kB | exact kB.trans kB) : BR X (.type "list") (fun xs H Q => ∃ p ys, xs = [.ref p] ∧ (SqL K H p ys ∨ SqT K H p ys) ∧ ∀ l, H l = none → Q (.ref l) (upd H l (.lst ys))) fListOf := by
  subst hK
  exact ⟨call_list_of, sn_listOf⟩
theorem br_listH {K : PySem.W.Frag} (hK : X.K = K := by first | rfl | exact kB | exact kB.trans kB) : BR X (.type "list") (fun xs H Q => ∃ p ys, xs = [.ref p] ∧ (SqL K H p ys ∨ SqT K H p ys) ∧ ∀ l, H l = none → Q (.ref l) (upd H l (.lst ys))) fListOfH := by
  subst hK
  exact ⟨call_list_of, sn_listOfH⟩
theorem ae_isi {K : PySem.W.Frag} {x y : Str} {T : String} {p2 : Pos} (h : AE X e te we) (hm : X.mg x = none) (hm2 : X.mg y = none) (hg : Gl X x := by rfl) (hg2 : Gl X y := by rfl) (hv : bootBuiltins x = some (.builtin "isinstance") := by decide +kernel) (hv2 : bootBuiltins y = some (.type T) := by decide +kernel)
    (hn : x ≠ "__name__" := by decide) (hdb : (x == ("__debug__" : Str)) = false := by decide) (hn2 : y ≠ "__name__" := by decide) (hdb2 : (y == ("__debug__" : Str)) = false := by decide)
    (he : starEach [e, .Name y p2] X.env = (false, eval e X.env) :: starEach [.Name y p2] X.env := by rfl) (he2 : starEach [.Name y p2] X.env = (false, eval (.Name y p2) X.env) :: starEach [] X.env := by rfl) (hpl : (backTo pos (starEach [.Name y p2] X.env)).any (·.1) = false := by rfl) (hK : X.K = K := by first | rfl | exact kB | exact kB.trans kB) :
    AE X (.Call (.Name x p) [e, .Name y p2] [] pos) (tCB (rIsi K) (tCons te (tCons (tC (.ty T)) tNil))) (wIsi T we) := by
  subst hK
  exact ⟨pe_callB call_isi hg hm hv (pa_cons h.p (pa_cons (pe_bltn hg2 hm2 hv2 (v := .ty T) rfl hn2 hdb2) pa_nil he2) he) hn hdb he hpl, se_isi h.s⟩

/-! ### what is walked -/
variable {tg it : Expr} {wi : TI} {wI : WI} {js vs : List Nat} {gt : TG} {gw : WG}
theorem ai_list {K : PySem.W.Frag} (h : AE X e te we) (hK : X.K = K := by first | rfl | exact kB | exact kB.trans kB) : AI X tg e (iList K te) (wiList (wFrz we)) := by
  subst hK
  exact ⟨pi_list h.p, si_list (se_frz h.s)⟩
theorem ai_tup {K : PySem.W.Frag} (h : AE X e te we) (hK : X.K = K := by first | rfl | exact kB | exact kB.trans kB) : AI X tg e (iTup K te) (wiTup we) := by
  subst hK
  exact ⟨pi_tup h.p, si_tup h.s⟩
theorem ai_str (h : AE X e te we) : AI X tg e (iStr te) (wiStr we) := ⟨pi_str h.p, si_str h.s⟩
theorem ai_r1 (hm : X.mg "range" = none) (h : AA X [a] tA wA) (hg : Gl X "range" := by rfl) (hs : starEach [a] X.env = [(false, eval a X.env)] := by rfl) : AI X tg (.Call (.Name "range" p) [a] [] pos) (iRng1 tA) (wiR1 wA) := ⟨pi_range1 hg hm h.p hs, si_r1 h.s⟩
theorem ai_r2 (hm : X.mg "range" = none) (h : AA X [a, b] tA wA) (hg : Gl X "range" := by rfl) (hs : starEach [a, b] X.env = [(false, eval a X.env), (false, eval b X.env)] := by rfl) (hs2 : starEach [b] X.env = [(false, eval b X.env)] := by rfl) :
    AI X tg (.Call (.Name "range" p) [a, b] [] pos) (iRng2 tA) (wiR2 wA) := ⟨pi_range2 hg hm h.p hs hs2, si_r2 h.s⟩

/-! ### targets -/
theorem ag_name (i : Nat) {x : Str} (hN : X.N.Nodup) (hi : X.N[i]? = some x := by rfl) (hx : Loc X.env.scope x := by first | exact Or.inl rfl | exact Or.inr rfl) (hf : X.fn x = true ∨ X.env.scope.names.lookup x = some .local := by first | exact .inl rfl | exact .inr rfl) : AG X (.Name x pos) [i] (gName i) (wName i) := ⟨pg_name hN hi hx hf, sg_name⟩
theorem ags_nil : AGs X [] [] gNil wGNil := ⟨pgs_nil, sgs_nil⟩
theorem ags_cons {ks l : List Nat} {gs : TGs} {gws : WGs} (h : AG X e js gt gw) (hs : AGs X es ks gs gws) (hq : (assignEach (e :: es) X.env).map (·.2) = assign e X.env :: (assignEach es X.env).map (·.2) := by rfl) (hl : l = js ++ ks := by rfl) : AGs X (e :: es) l (gCons gt gs) (wGCons gw gws) := by
  subst hl
  exact ⟨pgs_cons h.p hs.p hq, sgs_cons h.s hs.s⟩
theorem ag_tup {K : PySem.W.Frag} {k n : Nat} {gs : TGs} {gws : WGs} (h : AGs X es js gs gws) (hc : X.calm = true := by rfl) (hn : (assignEach es X.env).length = n := by rfl) (hst : (assignEach es X.env).findIdx? (·.1) = none := by rfl) (hK : X.K = K := by first | rfl | exact kB | exact kB.trans kB) : AG X (.Tuple es k pos) js (gTup K n gs) (wGTup n gws) := by
  subst hK
  exact ⟨pg_tup hc h.p hn hst, sg_tup h.s⟩
theorem ag_set (ha : AE X a ta wa) (hb : AE X b tb wb) (hq : ∀ v, assign (.Subscript a b pos) X.env v = (do
      let ov ← holding [v] (eval a X.env)
      let iv ← holding [v, ov] (eval b X.env)
      standAt pos
      holding [v, ov, iv] (setItem ov iv v)
      release [v, ov, iv] []) := by intro _; rfl) : AG X (.Subscript a b pos) [] (gSub ta tb rSetL) (wSet wa wb) := ⟨pg_sub ha.p hb.p set_list hq, sg_set ha.s hb.s⟩

/-! ### comprehensions -/
theorem ats_nil : ATs X [] tYes wYes := ⟨pts_nil, st_yes⟩
theorem ats_one (h : AT X c tt wt) : ATs X [c] tt wt := ⟨pts_one h.p, h.s⟩
end
section
variable {X : Cx} {te : TE} {we : WE} {tt : TT} {wt : WT} {tg it : Expr} {wi : TI} {wI : WI} {js : List Nat} {gt : TG} {gw : WG} {elt : Expr} {ifs : List Expr} {scope : Scope} {own : List (Str × Nat)} {pos py spos : Pos} {i : Nat} {y : Str}
  (ha : AI X tg it wi wI) (hN : X.N.Nodup) (ok : BlkOk X.N X.env.scope scope own)
  (hg : ∀ (s : Shared) (H : Hp) (C : Addr) (cl : List (Str × Addr)) (fp : List Addr), AG (X.blk s H scope (compEnvC scope cl C X.env) fp) tg js gt gw) (ht : ∀ (s : Shared) (H : Hp) (C : Addr) (cl : List (Str × Addr)) (fp : List Addr), ATs (X.blk s H scope (compEnvC scope cl C X.env) fp) ifs tt wt)
  (he : ∀ (s : Shared) (H : Hp) (C : Addr) (cl : List (Str × Addr)) (fp : List Addr), AE (X.blk s H scope (compEnvC scope cl C X.env) fp) elt te we)
include ha hN ok hg ht he
theorem ae_lc (hc : X.calm = true := by rfl) (hj : ∀ j ∈ js, j ∈ own.map (·.2) := by decide) (hs : ∀ x, foldedSetIterable it X.env x = pure x := by intro _; rfl) : AE X (.ListComp elt [⟨tg, it, ifs, 0⟩] scope pos) (tLc wi gt tt te (own.map (·.2))) (wLc wI gw wt we (own.map (·.2))) :=
  ⟨pe_lc hc hN ha.p ok (fun s H C cl fp => (hg s H C cl fp).p) (fun s H C cl fp => (ht s H C cl fp).p) (fun s H C cl fp => (he s H C cl fp).p) hs, se_lcG sf_L ha.s (hg X.s_0 X.H_0 0 [] []).s (ht X.s_0 X.H_0 0 [] []).s (he X.s_0 X.H_0 0 [] []).s hj⟩
/-- y = [..] -/
theorem as_setLc (hy : X.N[i]? = some y := by rfl) (hyl : X.env.scope.names.lookup y = some .local := by rfl) (hsw : swapsWith (.ListComp elt [⟨tg, it, ifs, 0⟩] scope pos) (some (.Name y py)) spos.line X.env = pure true := by exact sw_true rfl rfl rfl (by decide +kernel))
    (hc : X.calm = true := by rfl) (hj : ∀ j ∈ js, j ∈ own.map (·.2) := by decide) (hs : ∀ x, foldedSetIterable it X.env x = pure x := by intro _; rfl) : AS X (.Assign [.Name y py] (.ListComp elt [⟨tg, it, ifs, 0⟩] scope pos) spos) (tAsg (tLc wi gt tt te (own.map (·.2))) (gName i)) (wAsg (wLc wI gw wt we (own.map (·.2))) (wName i)) :=
  ⟨ps_setLc hc hN hy hyl hsw ha.p ok (fun s H C cl fp => (hg s H C cl fp).p) (fun s H C cl fp => (ht s H C cl fp).p) (fun s H C cl fp => (he s H C cl fp).p) hs, ss_asg (se_lcG sf_L ha.s (hg X.s_0 X.H_0 0 [] []).s (ht X.s_0 X.H_0 0 [] []).s (he X.s_0 X.H_0 0 [] []).s hj) sg_name⟩
theorem as_setLcH (hy : X.N[i]? = some y := by rfl) (hyl : X.env.scope.names.lookup y = some .local := by rfl) (hsw : swapsWith (.ListComp elt [⟨tg, it, ifs, 0⟩] scope pos) (some (.Name y py)) spos.line X.env = pure true := by exact sw_true rfl rfl rfl (by decide +kernel))
    (hc : X.calm = true := by rfl) (hj : ∀ j ∈ js, j ∈ own.map (·.2) := by decide) (hs : ∀ x, foldedSetIterable it X.env x = pure x := by intro _; rfl) : AS X (.Assign [.Name y py] (.ListComp elt [⟨tg, it, ifs, 0⟩] scope pos) spos) (tAsg (tLc wi gt tt te (own.map (·.2))) (gName i)) (wAsg (wLcH wI gw wt we (own.map (·.2))) (wName i)) :=
  ⟨ps_setLc hc hN hy hyl hsw ha.p ok (fun s H C cl fp => (hg s H C cl fp).p) (fun s H C cl fp => (ht s H C cl fp).p) (fun s H C cl fp => (he s H C cl fp).p) hs, ss_asg (se_lcG sf_H ha.s (hg X.s_0 X.H_0 0 [] []).s (ht X.s_0 X.H_0 0 [] []).s (he X.s_0 X.H_0 0 [] []).s hj) sg_name⟩
end

section
variable {X : Cx} {a b c e o : Expr} {es : List Expr} {ta tb tc te to : TE} {wa wb wc we wo : WE} {tA : TA} {wA : WA} {pos p apos cpos : Pos} {tt tu : TT} {wt wu : WT}
/-! ### methods -/
theorem ae_ml {K : PySem.W.Frag} {id : String} {name : Str} {r : V → List V → Hp → VK → Prop} {f : FM} (slot : Slot "list" name id) (hty : typeOf (.builtin id) = pure (.type "method_descriptor")) (hm : MtR X id r) (hf : SM K r f) (ho : AE X o to wo) (ha : AA X (e :: es) tA wA)
    (hbase : attributeBase o name X.env (eval o X.env) = eval o X.env := by rfl)
    (hfew : ((backTo cpos (starEach (e :: es) X.env)).all (fun x => !x.1) && (backToKw cpos (keywordEach [] X.env)).all (fun x => x.1.isSome)
      && decide ((e :: es).length + ([] : List Keyword).length + (if ([] : List Keyword).isEmpty then 0 else 1) < 30)) = true := by rfl)
    (hline : (apos.endLine == cpos.line) = true := by rfl) (hs : starEach (e :: es) X.env = (false, eval e X.env) :: starEach es X.env := by rfl) (hplain : (backTo cpos (starEach es X.env)).any (·.1) = false := by rfl) (hK : X.K = K := by first | rfl | exact kB | exact kB.trans kB) :
    AE X (.Call (.Attribute o name apos) (e :: es) [] cpos) (tBM K "list" r to tA) (wBL f wo wA) := by
  subst hK
  exact ⟨pe_bm PySem.F.plainAttrs_list slot hty hm ho.p ha.p hbase hfew hline hs hplain, se_bl ho.s ha.s hf⟩
theorem ae_ml0 {K : PySem.W.Frag} {id : String} {name : Str} {r : V → List V → Hp → VK → Prop} {f : FM} (slot : Slot "list" name id) (hty : typeOf (.builtin id) = pure (.type "method_descriptor")) (hm : MtR X id r) (hf : SM K r f) (ho : AE X o to wo)
    (hbase : attributeBase o name X.env (eval o X.env) = eval o X.env := by rfl) (hline : (apos.endLine == cpos.line) = true := by rfl) (hK : X.K = K := by first | rfl | exact kB | exact kB.trans kB) :
    AE X (.Call (.Attribute o name apos) [] [] cpos) (tBM0 K "list" r to) (wBL f wo wNil) := by
  subst hK
  exact ⟨pe_bm0 PySem.F.plainAttrs_list slot hty hm ho.p hbase hline, se_bl0 ho.s hf⟩

/-! ### statements -/
variable {st : Stmt} {sts : List Stmt} {t u : TS} {w w' : WS} {js : List Nat} {gt : TG} {gw : WG} {tg : Expr}
theorem ass_nil : ASs X [] tNext wNext := ⟨pss_nil, ss_next⟩
theorem ass_cons (h : AS X st t w) (h' : ASs X sts u w') : ASs X (st :: sts) (tSeq t u) (wSeq w w') := ⟨pss_cons h.p h'.p, ss_seq h.s h'.s⟩
theorem ass_one (h : AS X st t w) : ASs X [st] t w := ⟨pss_one h.p, h.s⟩
theorem as_pass : AS X (.Pass pos) tNext wNext := ⟨ps_pass, ss_next⟩
theorem as_break : AS X (.Break pos) tBreak wBreak := ⟨ps_break, ss_brk⟩
theorem as_cont : AS X (.Continue pos) tCont wCont := ⟨ps_continue, ss_cont⟩
theorem as_never : AS X st tNever wNever := ⟨ps_never, ss_never⟩
theorem ass_never : ASs X sts tNever wNever := ⟨pss_never, ss_never⟩
theorem as_ret (h : AE X e te we) : AS X (.Return (some e) pos) (tRet te) (wRet we) := ⟨ps_ret h.p, ss_ret h.s⟩
theorem as_retN : AS X (.Return none pos) tRetN wRetN := ⟨ps_retN, ss_retN⟩
theorem as_expr (h : AE X e te we) (hs : swapsWith e none pos.line X.env = pure false := by rfl) : AS X (.Expr e pos) (tDrop te) (wDrop we) := ⟨ps_expr h.p hs, ss_drop h.s⟩
theorem as_set (i : Nat) {x : Str} {pos' : Pos} (hN : X.N.Nodup) (h : AE X e te we) (hi : X.N[i]? = some x := by rfl) (hx : Loc X.env.scope x := by first | exact Or.inl rfl | exact Or.inr rfl) (hs : swapsWith e (some (.Name x pos')) pos.line X.env = pure false := by rfl) (hf : X.fn x = true ∨ X.env.scope.names.lookup x = some .local := by first | exact .inl rfl | exact .inr rfl) :
    AS X (.Assign [.Name x pos'] e pos) (tAsg te (gName i)) (wAsg we (wName i)) := ⟨ps_set hN hi hx h.p hs hf, ss_asg h.s sg_name⟩
theorem as_asg (h : AE X e te we) (hg : AG X tg js gt gw) (hs : swapsWithSole [tg] e pos.line X.env = pure false := by rfl) (hw : swappedStores [tg] e X.env = pure none := by rfl) (h1 : (assignEach [tg] X.env).map (·.2) = [assign tg X.env] := by rfl) :
    AS X (.Assign [tg] e pos) (tAsg te gt) (wAsg we gw) := ⟨ps_asg h.p hg.p hs hw h1, ss_asg h.s hg.s⟩
theorem as_if {q r : List Stmt} (hc : AT X c tt wt) (ha : ASs X q t w) (hb : ASs X r u w') : AS X (.If c q r pos) (tIfS tt t u) (wIfS wt w w') := ⟨ps_if hc.p ha.p hb.p, ss_if hc.s ha.s hb.s⟩
theorem as_for {it : Expr} {wi : TI} {wI : WI} {body : List Stmt} (hi : AI X tg it wi wI) (hg : AG X tg js gt gw) (hb : ASs X body t w) (hp : PassesOwn (model X.prog X.w) X.A X.env X.xe := by exact PassesOwn.never) (hc : X.calm = true := by rfl) (hs : ∀ x, foldedSetIterable it X.env x = pure x := by intro _; rfl) :
    AS X (.For tg it body [] pos) (tFor wi gt t) (wFor wI gw w) := ⟨ps_for hp hc hi.p hg.p hb.p hs, ss_for hi.s hg.s hb.s⟩
theorem as_while {body : List Stmt} (hc : AT X c tt wt) (hb : ASs X body t w) (hp : PassesOwn (model X.prog X.w) X.A X.env X.xe := by exact PassesOwn.never) : AS X (.While c body [] pos) (tWhile tt t) (wWhile wt w) := ⟨ps_while hp hc.p hb.p, ss_while hc.s hb.s⟩
/-- an in-place operator -/
structure IO (X : Cx) (op : Operator) (r : R2) (f : F2) : Prop where
  o : PIp X op r
  s : S2 X.K r f
theorem io_add : IO X .Add (rI0 fun i j => .int (i + j)) (fI fun i j => .int (i + j)) := ⟨iop_add, s2_I0 fun _ _ _ => .int _⟩
theorem io_sub : IO X .Sub (rI0 fun i j => .int (i - j)) (fI fun i j => .int (i - j)) := ⟨iop_sub, s2_I0 fun _ _ _ => .int _⟩
variable {op : Operator} {r : R2} {f : F2}
theorem as_aug (i : Nat) {x : Str} {pos' : Pos} (ho : IO X op r f) (hN : X.N.Nodup) (h : AE X e te we) (hi : X.N[i]? = some x := by rfl) (hx : Loc X.env.scope x := by first | exact Or.inl rfl | exact Or.inr rfl) (hf : X.fn x = true ∨ X.env.scope.names.lookup x = some .local := by first | exact .inl rfl | exact .inr rfl) :
    AS X (.AugAssign (.Name x pos') op e pos) (tAug i te r) (wAug i f we) := ⟨ps_aug hN hi hx h.p ho.o hf, ss_aug h.s ho.s⟩
theorem as_augS {K : PySem.W.Frag} {i : Expr} {ti : TE} {wi : WE} {tpos : Pos} (hO : IO X op r f) (ho : AE X o to wo) (hi : AE X i ti wi) (he : AE X e te we)
    (hq : ∀ ov iv new, augStore i ov iv new = (do holding [new, ov, iv] (setItem ov iv new); release [new, ov, iv] []; pure .next) := by intros; rfl) (hK : X.K = K := by first | rfl | exact kB | exact kB.trans kB) : AS X (.AugAssign (.Subscript o i tpos) op e pos) (tAugS to ti te (rIxL K) r rSetL) (wAugS f wo wi we) := by
  subst hK
  exact ⟨ps_augS ho.p hi.p pget_list he.p hO.o set_list hq, ss_augS ho.s hi.s he.s hO.s⟩
/-! ### calls -/
/-- a def of the text, with its promise -/
def Dk (P : Program) (w : World) (K : PySem.W.Frag) (mg : Str → Option Value) (base : Heap) (k : Nat) (x : Str) (ps : List Str) (f : FA) : Prop :=
  ∃ (a : Addr) (fd : FuncData), FnOk P w K mg base CX0 k a fd ps (spA K ps.length f) ∧ mg x = some (.ref a) ∧ PySem.W.keepIn K (.ref a) = true ∧ Binds K fd ps []
theorem ae_call {K : PySem.W.Frag} {k j n : Nat} {x : Str} {ps : List Str} {f : FA} (h : Dk X.prog X.w K X.mg X.base k x ps f) (hr : Room j X.A) (ha : AA X (e :: es) tA wA) (hk : k ≤ j := by decide) (hg : Gl X x := by rfl) (hdb : (x == ("__debug__" : Str)) = false := by decide)
    (he : starEach (e :: es) X.env = (false, eval e X.env) :: starEach es X.env := by rfl) (hpl : (backTo pos (starEach es X.env)).any (·.1) = false := by rfl) (hK : X.K = K := by first | rfl | exact kB | exact kB.trans kB) (hn : ps.length = n := by rfl) : AE X (.Call (.Name x p) (e :: es) [] pos) (tCall (spA K n f) [] E0 tA) (wCall n f wA) := by
  subst hK hn
  obtain ⟨a, fd, F, hm, kp, hb⟩ := h
  exact ⟨pe_call F (hr.mono hk) hg hm kp hb .nil pass0 ha.p hdb he hpl, se_call ha.s⟩
end
/-- a def of the text: where it stands and what it keeps -/
theorem dk_of {P : Program} {w : World} {K : PySem.W.Frag} {mg : Str → Option Value} {base : Heap} {k : Nat} {x : Str} {st : Stmt} {N ps : List Str} {f : FA} {t : TS} {wv : WS} {a : Addr} (F : ∃ fd, FunD K x x (defArgs st) (defBody st) (defScope st) [] [] a fd) (hm : mg x = some (.ref a)) (S : FnScope N ps (defScope st))
    (hbind : ∀ (kV doc pm : Value) (an : Option Addr) (cdv ct : Value) (us : List Value), us.length = ps.length → bindArgs (PySem.W.fnOf x x (defArgs st) (defBody st) (defScope st) .none kV doc pm an cdv ct) ⟨us, []⟩ = pure (ps.zip us))
    (hb : ∀ (cdv : Value) (A : Around) (outer : List Env) (s : Shared) (H : Hp) (E : XK), Room k (A.deeper (envOfC x (defScope st) s.heap.objs.size a cdv)) → ASs (cxOf CX0 P w K mg base N x (defScope st) a cdv A outer s H E).nox (defBody st) t wv)
    (hw : ∀ cs own Q, Cl own → cs.length = ps.length → f cs own Q → wv (enF own.length Q) (startS N cs) own) : Dk P w K mg base (k + 1) x ps f := by
  obtain ⟨fd, F⟩ := F
  refine ⟨a, fd, F.ok S (fun vs H Q E h => ?_) (fun cdv A outer s H vs Q E hr h => ⟨t, (hb cdv A outer s H E hr).p.nox, ?_⟩), hm, F.kp, F.bindsN hbind⟩
  · obtain ⟨B, θ, own, F, cs, Q0, _, r, hl, _⟩ := h
    rw [paired_len r, hl]
  · exact body_ok (hb cdv A outer s H E hr).s hw h
end Zd

/-! Zx3: tuple(reversed(xs)). -/
namespace Zd
open PySem PySem.Spec PyProof.Rows L2 RZ RT
def wTupRev (we : WE) : WE := fun ss own Q => we ss own fun c o1 => match c with
  | .fr (.list ds) => Q (.fr (.tuple ds.reverse)) o1
  | _ => False
theorem rpAll_rev {K : PySem.W.Frag} {F : Hp} : ∀ {xs : List V} {ds : List D}, RpAll K F xs ds → RpAll K F xs.reverse ds.reverse
  | _, _, .nil => .nil
  | _, _, .cons h1 h2 => by
    rw [List.reverse_cons, List.reverse_cons]
    exact rpAll_app (rpAll_rev h2) (.cons h1 .nil)
theorem se_tupRev {K : PySem.W.Frag} {te : TE} {we : WE} (h : SE K te we) : SE K (tTupRev K te) (wTupRev we) := by
  intro ss own Q hw B θ F H σ g s Qv k
  refine h ss own _ hw B θ F H σ g s _ fun θ1 own1 F1 H1 v c g1 t1 r1 q1 => ?_
  dsimp only at q1
  split at q1
  · obtain ⟨a, xs, rfl, h1, h2⟩ := cr_lst r1
    exact ⟨a, xs, rfl, SqL.of (g1.ex _ _ h1), fun q hq => (k.up t1).new (d := .tuple _) g1 hq q1 fun F' e hF => .tup (SqT.of hF) (rpAll_mono e _ _ (rpAll_rev h2))⟩
  · exact q1.elim
theorem ae_tupRev {K : PySem.W.Frag} {X : Cx} {e : Expr} {te : TE} {we : WE} {p p2 pos pos2 : Pos} (hm : X.mg "tuple" = none) (hm2 : X.mg "reversed" = none) (h : AE X e te we) (hc : X.calm = true := by rfl) (hg : Gl X "tuple" := by rfl) (hg2 : Gl X "reversed" := by rfl) (hs : starEach [e] X.env = (false, eval e X.env) :: starEach [] X.env := by rfl)
    (hs2 : starEach [.Call (.Name "reversed" p2) [e] [] pos2] X.env = (false, eval (.Call (.Name "reversed" p2) [e] [] pos2) X.env) :: starEach [] X.env := by rfl) (hK : X.K = K := by first | rfl | exact kB | exact kB.trans kB) :
    AE X (.Call (.Name "tuple" p) [.Call (.Name "reversed" p2) [e] [] pos2] [] pos) (tTupRev K te) (wTupRev we) := by
  subst hK
  exact ⟨pe_tupRev hc hg hm hg2 hm2 h.p hs hs2, se_tupRev h.s⟩
/-- nothing is promised -/
def fNone : FA := fun _ _ _ => False
theorem dk_none {P : Program} {w : World} {K : PySem.W.Frag} {mg : Str → Option Value} {base : Heap} {k : Nat} {x : Str} {st : Stmt} {ps : List Str} {a : Addr} (F : ∃ fd, FunD K x x (defArgs st) (defBody st) (defScope st) [] [] a fd) (hm : mg x = some (.ref a))
    (hbind : ∀ (kV doc pm : Value) (an : Option Addr) (cdv ct : Value) (us : List Value), us.length = ps.length → bindArgs (PySem.W.fnOf x x (defArgs st) (defBody st) (defScope st) .none kV doc pm an cdv ct) ⟨us, []⟩ = pure (ps.zip us)) : Dk P w K mg base k x ps fNone := by
  obtain ⟨fd, F⟩ := F
  refine ⟨a, fd, ⟨fun vs H Q E h => ?_, fun A outer s H args us vs Q E hr he hb hv h => ?_⟩, hm, F.kp, F.bindsN hbind⟩
  · obtain ⟨_, _, _, _, _, _, _, _, _, h, _⟩ := h
    exact h.elim
  · obtain ⟨_, _, _, _, _, _, _, _, _, h, _⟩ := h
    exact h.elim
end Zd

/-! Zd8: walks over any sequence, further built-ins. -/
namespace Zd
open PySem PySem.Spec PyProof.Rows L2 RZ RT

/-! ### for x in a list, a tuple, a text -/
def iSeq (K : PySem.W.Frag) (te : TE) : TI := fun σ H R => te σ H fun x H1 => (∃ a xs, x = .ref a ∧ SqL K H1 a xs ∧ R (Itl K a) H1) ∨ (∃ a xs, x = .ref a ∧ SqT K H1 a xs ∧ R (Itt K a) H1) ∨ ∃ z, x = .str z ∧ R (Its z) H1
theorem pi_seq {K : PySem.W.Frag} {X : Cx} {tg l : Expr} {tl : TE} (hl : PE X l tl) (hK : X.K = K := by first | rfl | exact kB | exact kB.trans kB) : PI X tg l (iSeq K tl) := by
  subst hK
  refine ⟨fun pins s σ H R I h => ?_⟩
  refine thn (hl.run pins s σ H _ I h) fun v s1 ⟨x, H1, I1, r1, q1⟩ => ?_
  rcases q1 with ⟨a, xs, e, hq, q⟩ | ⟨a, xs, e, hq, q⟩ | ⟨z, e, q⟩
  · subst e
    cases r1
    obtain ⟨its, rv, p, hz⟩ := I1.list hq
    refine wpAny_pyIter_list p.isList ?_
    refine ⟨s1.heap.objs.size, [s1.heap.objs.size], _, _, H1, rfl, I1.kept (t' := s1.toks) fun b o e => Heap.get?_push_of_some _ e, turn_list a _, ⟨_, Heap.get?_push_size _ rfl, rfl, rfl⟩, fun b hb => ?_, q⟩
    have e : b = s1.heap.objs.size := by simpa using hb
    subst e
    exact I1.fpOk (Nat.le_refl _) (I1.hok.fresh (Nat.le_refl _))
  · subst e
    cases r1
    obtain ⟨its, rv, p, hz⟩ := I1.tuple hq
    refine wpAny_pyIter_tuple (show s1.heap.IsTuple a its.toArray from p) ?_
    refine ⟨s1.heap.objs.size, [s1.heap.objs.size], _, _, H1, rfl, I1.kept (t' := s1.toks) fun b o e => Heap.get?_push_of_some _ e, turn_tuple a _, ⟨_, Heap.get?_push_size _ rfl, rfl, rfl⟩, fun b hb => ?_, q⟩
    have e : b = s1.heap.objs.size := by simpa using hb
    subst e
    exact I1.fpOk (Nat.le_refl _) (I1.hok.fresh (Nat.le_refl _))
  · subst e
    obtain ⟨t, rfl⟩ := r1
    cases ha : z.cps.all (· < 128)
    · exact wpAny_pyIter_wide ha (pi_one (tk := s1.toks) I1 _ (turn_str _ z t "str_iterator" (.inr rfl)) ⟨_, Heap.get?_push_size _ rfl, rfl, rfl⟩ q)
    · exact wpAny_pyIter_ascii ha (pi_one (tk := s1.toks) I1 _ (turn_str _ z t "str_ascii_iterator" (.inl rfl)) ⟨_, Heap.get?_push_size _ rfl, rfl, rfl⟩ q)
/-- the items of a sequence -/
def itemsOf (c : C) : Option (List D) := match c with
  | .fr (.list ds) => some ds
  | .fr (.tuple ds) => some ds
  | .fr (.str z) => some (z.cps.toList.map fun x => .str ⟨#[x]⟩)
  | .sc ns => some (ns.map PyData.int)
  | _ => none
def wiSeq (we : WE) : WI := fun ss own Q => we ss own fun c o1 => match itemsOf c with
  | some ds => Q ds o1
  | none => False
section
variable {K : PySem.W.Frag} {te : TE} {we : WE}
theorem si_seq (h : SE K te we) : SI K (iSeq K te) (wiSeq we) := by
  intro ss own Q hw B θ F H σ g s R k
  refine h ss own _ hw B θ F H σ g s _ fun θ1 own1 F1 H1 v c g1 t1 r1 q1 => ?_
  dsimp only at q1
  split at q1
  · rename_i items e
    unfold itemsOf at e
    split at e
    · rename_i ds
      cases e
      obtain ⟨a, xs, rfl, h1, h2⟩ := cr_lst r1
      exact .inl ⟨a, xs, rfl, SqL.of (g1.ex _ _ h1), k _ _ _ _ _ _ g1 t1 (wk_list (SqL.of h1) h2) q1⟩
    · rename_i ds
      cases e
      obtain ⟨a, xs, rfl, h1, h2⟩ := cr_tup r1
      exact .inr (.inl ⟨a, xs, rfl, same_t g1.ex h1, k _ _ _ _ _ _ g1 t1 (wk_tup h1 h2) q1⟩)
    · rename_i z
      cases e
      cases cr_str r1
      refine .inr (.inr ⟨z, rfl, k _ _ _ _ _ _ g1 t1 (wk_of (G := fun _ => True) (Y := fun i H v H' => H' = H ∧ ∃ c, z.cps[i]? = some c ∧ v = .str ⟨#[c]⟩) (by rw [List.length_map, Array.length_toList]; exact walk_str) (fun _ _ => trivial) fun i H x H' y => ?_) q1⟩)
      obtain ⟨e1, c, e2, e3⟩ := y
      exact ⟨.str ⟨#[c]⟩, by rw [List.getElem?_map, Array.getElem?_toList, e2]; rfl, e1, by rw [e3]; exact .str _⟩
    · rename_i ns
      cases e
      obtain ⟨a, rfl, h1⟩ := r1
      exact .inl ⟨a, _, rfl, same_l g1.ex h1, k _ _ _ _ _ _ g1 t1 (wk_list h1 (ints_rp ns)) q1⟩
    · cases e
  · exact q1.elim
end
theorem ai_seq {K : PySem.W.Frag} {X : Cx} {tg e : Expr} {te : TE} {we : WE} (h : AE X e te we) (hK : X.K = K := by first | rfl | exact kB | exact kB.trans kB) : AI X tg e (iSeq K te) (wiSeq we) := by
  subst hK
  exact ⟨pi_seq h.p, si_seq h.s⟩
section
variable {X : Cx} {a b e : Expr} {tA : TA} {wA : WA} {p pos tpos : Pos} {tg : Expr}
theorem ai_zip {K : PySem.W.Frag} {elts : List Expr} {kk : Nat} (hm : X.mg "zip" = none) (h : AA X [a, b] tA wA) (hg : Gl X "zip" := by rfl) (hs : starEach [a, b] X.env = (false, eval a X.env) :: starEach [b] X.env := by rfl) (hpl : (backTo pos (starEach [b] X.env)).any (·.1) = false := by rfl) (hK : X.K = K := by first | rfl | exact kB | exact kB.trans kB) :
    AI X (.Tuple elts kk tpos) (.Call (.Name "zip" p) [a, b] [] pos) (iZipA K tA) (wiZip wA) := by
  subst hK
  exact ⟨pi_zipA hg hm h.p hs hpl, si_zip h.s⟩
theorem ai_rev {K : PySem.W.Frag} {te : TE} {we : WE} (hm : X.mg "reversed" = none) (h : AE X e te we) (hg : Gl X "reversed" := by rfl) (hs : starEach [e] X.env = (false, eval e X.env) :: starEach [] X.env := by rfl) (hK : X.K = K := by first | rfl | exact kB | exact kB.trans kB) : AI X tg (.Call (.Name "reversed" p) [e] [] pos) (iRevA K te) (wiRev we) := by
  subst hK
  exact ⟨pi_revA hg hm h.p hs, si_rev h.s⟩
end
end Zd

/-! Zd9: the law's own def: its promise from the script. -/
namespace Zd
open PySem PySem.Spec PyProof.Rows L2
/-- what the law promises: at every script it answers true -/
def f_law : FA := fun cs own Q => (∃ ns : List Int, cs = [.sc ns] ∧ ns.length ≤ 63) ∧ own = [] ∧ ∀ o, Q (.fr (.bool true)) o
theorem law_start (ns : List Int) (h : ns.length ≤ 63) : ∀ Q : KC, (∀ o, Q (.fr (.bool true)) o) → f_law [.sc ns] [] Q := fun _ k => ⟨⟨ns, rfl, h⟩, rfl, k⟩
theorem law_sp {K : PySem.W.Frag} {H : Hp} {a : Addr} {ns : List Int} {f : FA} {E : XK} (hf : ∀ Q : KC, (∀ o, Q (.fr (.bool true)) o) → f [.sc ns] [] Q) (hO : Only H) (hS : SqL K H a (ns.map V.int)) : spA K 1 f [.ref a] H (fun v _ => v = .bl true) E := by
  refine ⟨fun _ => False, [], [], H, [.sc ns], fun c _ => c = .fr (.bool true), ⟨rfl, List.nodup_nil, Same.refl _, fun _ h => h.elim, fun i a m h => ?_, fun m hm => nomatch hm⟩, .cons ⟨a, rfl, hS⟩ .nil, rfl, hf _ fun _ => rfl, fun θ' own' F' H' v c g t r q => ?_⟩
  · simp at h
  · subst q
    cases r
    rfl
theorem fn_of {P : Program} {w : World} {K : PySem.W.Frag} {mg : Str → Option Value} {base : Heap} {k : Nat} {x : Str} {st : Stmt} {N ps : List Str} {f : FA} {t : TS} {wv : WS} {a : Addr} {fd : FuncData} (F : FunD K x x (defArgs st) (defBody st) (defScope st) [] [] a fd) (S : FnScope N ps (defScope st))
    (hb : ∀ (cdv : Value) (A : Around) (outer : List Env) (s : Shared) (H : Hp) (E : XK), Room k (A.deeper (envOfC x (defScope st) s.heap.objs.size a cdv)) → ASs (cxOf CX0 P w K mg base N x (defScope st) a cdv A outer s H E).nox (defBody st) t wv)
    (hw : ∀ cs own Q, Cl own → cs.length = ps.length → f cs own Q → wv (enF own.length Q) (startS N cs) own) : FnOk P w K mg base CX0 (k + 1) a fd ps (spA K ps.length f) := by
  refine F.ok S (fun vs H Q E h => ?_) (fun cdv A outer s H vs Q E hr h => ⟨t, (hb cdv A outer s H E hr).p.nox, ?_⟩)
  · obtain ⟨B, θ, own, F, cs, Q0, _, r, hl, _⟩ := h
    rw [paired_len r, hl]
  · exact body_ok (hb cdv A outer s H E hr).s hw h
end Zd

/-! Zx4: the module's constants. -/
namespace Zd
open PySem PySem.Spec PyProof.Rows L2 RZ RT He
/-- a constant of the module -/
structure GlK (K : PySem.W.Frag) (mg : Str → Option Value) (x : Str) (v : V) (d : D) : Prop where
  u : ∃ u, mg x = some u ∧ RelV v u
  r : ∀ H, Rp K H v d
theorem ae_gl {K : PySem.W.Frag} {X : Cx} {x : Str} {v : V} {d : D} {pos : Pos} (h : GlK K X.mg x v d) (hg : Gl X x := by rfl) (hdb : (x == ("__debug__" : Str)) = false := by decide) (hK : X.K = K := by first | rfl | exact kB | exact kB.trans kB) : AE X (.Name x pos) (tC v) (wC d) := by
  subst hK
  obtain ⟨⟨u, hm, r⟩, hd⟩ := h
  exact ⟨pe_glob hg hm r hdb, se_c hd⟩
theorem gl_int {K : PySem.W.Frag} {mg : Str → Option Value} {h : Heap} (X : K.In h) (G : h.Ns mainGlobals mg) {x : Str} {i : Int} (c : (Fa.int x i).ok K = true) : GlK K mg x (.int i) (.int i) := by
  obtain ⟨t, e⟩ := int_ok X G c
  exact ⟨⟨_, e, ⟨t, rfl⟩⟩, fun _ => .int i⟩
theorem gl_str {K : PySem.W.Frag} {mg : Str → Option Value} {h : Heap} (X : K.In h) (G : h.Ns mainGlobals mg) {x z : Str} (c : (Fa.str x z).ok K = true) : GlK K mg x (.str z) (.str z) := by
  obtain ⟨t, e⟩ := str_ok X G c
  exact ⟨⟨_, e, ⟨t, rfl⟩⟩, fun _ => .str z⟩
/-- plain parts of a tuple -/
def dvD : Dv → D
  | .bl b => .bool b
  | .int i => .int i
  | .str x => .str x
  | _ => .none
def dvOk : Dv → Bool
  | .non => true
  | .bl _ => true
  | .int _ => true
  | .str _ => true
  | _ => false
theorem dv_rp {K : PySem.W.Frag} {H : Hp} : ∀ {v : Dv}, dvOk v = true → Rp K H (v.v K) (dvD v)
  | .non, _ => .non
  | .bl b, _ => .bl b
  | .int i, _ => .int i
  | .str x, _ => .str x
  | .byt _, h => by cases h
  | .flt _, h => by cases h
  | .ty _, h => by cases h
  | .glo _, h => by cases h
  | .adr _, h => by cases h
theorem dvs_rp {K : PySem.W.Frag} {H : Hp} : ∀ {vs : List Dv}, vs.all dvOk = true → RpAll K H (vs.map (Dv.v K)) (vs.map dvD)
  | [], _ => .nil
  | v :: vs, h => by
    rw [List.all_cons, Bool.and_eq_true] at h
    exact .cons (dv_rp h.1) (dvs_rp h.2)
theorem gl_tup {K : PySem.W.Frag} {mg : Str → Option Value} {h : Heap} (X : K.In h) (G : h.Ns mainGlobals mg) {x : Str} {vs : List Dv} (c : (Fa.glo x).ok K = true) (t : tupB K x vs = true) (ok : vs.all dvOk = true := by rfl) : GlK K mg x (.ref (ga K x)) (.tuple (vs.map dvD)) :=
  ⟨⟨_, glo_ok X G c, rfl⟩, fun H => .tup (tupB_ok t H) (dvs_rp ok)⟩
/-! the hook with one more look -/
abbrev AlX : Type := Bool × AlD
def obsX (n : Nat) (ex : PySem.W.Frag → Bool) (fa : List Fa) (fn : List DefD) (g : Addr → Option Obj) : AlX := (ex (frG g (asD g n)), obsDG n fa fn g)
def hookX (n : Nat) (ex : PySem.W.Frag → Bool) (fa : List Fa) (fn : List DefD) : PySem.W.Hook where
  α := AlX
  obs := fun s => obsX n ex fa fn s.heap.get?
  val := fun _ => (true, valD fn)
  says := fun _ h => ∃ K : PySem.W.Frag, K.In h ∧ SaysD fa fn K ∧ ex K = true
  of := fun _ _ e => ⟨_, frG_in, congrArg (fun z : AlX => z.2) e, congrArg (fun z : AlX => z.1) e⟩
  keeps := fun _ _ _ ⟨K, hK, c⟩ k => ⟨K, PySem.W.Frag.In.keeps hK k, c⟩
theorem obsX_eq {n : Nat} {ex : PySem.W.Frag → Bool} {fa : List Fa} {fn : List DefD} {g : Addr → Option Obj} {s : Shared} (h : ∀ a, g a = s.heap.get? a) : obsX n ex fa fn g = (hookX n ex fa fn).obs s := by
  have e : g = s.heap.get? := funext h
  rw [e] <;> rfl
theorem exs_at {α : Type} {f : α → Bool} {xs : List α} (h : xs.all f = true) (i : Nat) {x : α} (e : xs[i]? = some x := by rfl) : f x = true := List.all_eq_true.mp h x (List.mem_of_getElem? e)
end Zd

/-! Zx5: a, b = x, y; a, b, c = x, y, z. -/
namespace Zd
open PySem PySem.Spec PyProof.Rows L2 RZ RT
def wPar3 (i j l : Nat) (wa : WA) : WS := fun E ss own => wa ss own fun cs o1 => match cs with
  | [c, d, e] => E.nx (((ss.set i (some c)).set j (some d)).set l (some e)) o1
  | _ => False
theorem paired3 {α β : Type} {P : α → β → Prop} {vs : List α} {c d e : β} (h : Paired P vs [c, d, e]) : ∃ u v w, vs = [u, v, w] ∧ P u c ∧ P v d ∧ P w e := by
  cases h with
  | cons h1 h =>
    cases h with
    | cons h2 h =>
      cases h with
      | cons h3 h =>
        cases h
        exact ⟨_, _, _, rfl, h1, h2, h3⟩
theorem ss_par3 {K : PySem.W.Frag} {i j l : Nat} {ta : TA} {wa : WA} (h : SA K ta wa) : SS K (tPar3 i j l ta) (wPar3 i j l wa) := by
  intro E ss own hw B θ F H σ g s D k
  refine h ss own _ hw B θ F H σ g s _ fun θ1 own1 F1 H1 vs cs g1 t1 r1 q1 => ?_
  dsimp only at q1
  split at q1
  · rename_i c d e
    obtain ⟨u, v, w, rfl, r, r2, r3⟩ := paired3 r1
    exact ⟨u, v, w, rfl, k.nx _ _ _ _ _ _ g1 t1 (slr_set (slr_set (slr_set (s.up t1) r) r2) r3) q1⟩
  · exact q1.elim
theorem relab {q : Str × NameKind → Bool} {x : Str} : ∀ {names : List (Str × NameKind)}, names.lookup x = some .cell ∨ names.lookup x = some .free →
    (names.map fun p => if (p.2 == NameKind.free && q p) = true then (p.1, NameKind.cell) else p).lookup x = some .cell ∨ (names.map fun p => if (p.2 == NameKind.free && q p) = true then (p.1, NameKind.cell) else p).lookup x = some .free
  | [], h => by simp at h
  | (n, k) :: r, h => by
    have ih := @relab q x r
    rw [List.map_cons]
    by_cases hq : ((n, k).2 == NameKind.free && q (n, k)) = true
    · rw [if_pos hq]
      cases hx : x == n with
      | false =>
        simp only [List.lookup_cons, hx] at h ⊢
        exact ih h
      | true =>
        simp only [List.lookup_cons, hx] at h ⊢
        exact .inl trivial
    · rw [if_neg hq]
      cases hx : x == n with
      | false =>
        simp only [List.lookup_cons, hx] at h ⊢
        exact ih h
      | true =>
        simp only [List.lookup_cons, hx] at h ⊢
        exact h
theorem blkB {X : Cx} {s : Shared} {H : Hp} {sc0 scope : Scope} {cl : List (Str × Addr)} {C : Addr} {env : Env} {fp : List Addr} {N : List Str} {own : List (Str × Nat)} (h : BlkOk N sc0 scope own) (hN : X.N = N := by rfl) :
    BlkOk (X.blk s H sc0 (compEnvC sc0 cl C env) fp).N (X.blk s H sc0 (compEnvC sc0 cl C env) fp).env.scope scope own := by
  subst hN
  refine ⟨h.kind, h.uniq, h.ix, fun y hy e => ?_, h.own⟩
  have z := relab (q := fun p => env.scope.kind == .function && env.kindOf p.1 == some .cell) (h.free y hy e)
  have e2 : (relabel sc0 env).names = sc0.names.map fun p => if (p.2 == NameKind.free && (env.scope.kind == .function && env.kindOf p.1 == some .cell)) = true then (p.1, NameKind.cell) else p := by
    unfold relabel
    refine List.map_congr_left fun p _ => ?_
    obtain ⟨n, k⟩ := p
    simp only [Bool.and_assoc]
  show List.lookup y.1 (relabel sc0 env).names = some NameKind.cell ∨ List.lookup y.1 (relabel sc0 env).names = some NameKind.free
  rw [e2]
  exact z
section
variable {X : Cx} {a b c : Expr} {tA : TA} {wA : WA} {px py pz pt pos : Pos} {x y z : Str} {kt k2 : Nat} {pt2 : Pos}
theorem as_par (i j : Nat) (hN : X.N.Nodup) (ha : AA X [a, b] tA wA) (hc : X.calm = true := by rfl) (hi : X.N[i]? = some x := by rfl) (hj : X.N[j]? = some y := by rfl) (hij : i ≠ j := by decide)
    (hx : X.env.scope.names.lookup x = some .local := by rfl) (hy : X.env.scope.names.lookup y = some .local := by rfl)
    (hw : swappedStores [.Tuple [.Name x px, .Name y py] kt pt] (.Tuple [a, b] k2 pt2) X.env = pure (some [x, y]) := by rfl)
    (hs : swapsWithSole [.Tuple [.Name x px, .Name y py] kt pt] (.Tuple [a, b] k2 pt2) pos.line X.env = pure false := by rfl) :
    AS X (.Assign [.Tuple [.Name x px, .Name y py] kt pt] (.Tuple [a, b] k2 pt2) pos) (tPar i j tA) (wPar i j wA) := ⟨ps_par hc hN hi hj hij hx hy ha.p hw hs, ss_par ha.s⟩
theorem as_par3 (i j l : Nat) (hN : X.N.Nodup) (ha : AA X [a, b, c] tA wA) (hc : X.calm = true := by rfl) (hi : X.N[i]? = some x := by rfl) (hj : X.N[j]? = some y := by rfl) (hl : X.N[l]? = some z := by rfl) (hij : i ≠ j := by decide) (hil : i ≠ l := by decide) (hjl : j ≠ l := by decide)
    (hx : X.env.scope.names.lookup x = some .local := by rfl) (hy : X.env.scope.names.lookup y = some .local := by rfl) (hz : X.env.scope.names.lookup z = some .local := by rfl)
    (hw : swappedStores [.Tuple [.Name x px, .Name y py, .Name z pz] kt pt] (.Tuple [a, b, c] k2 pt2) X.env = pure (some [x, y, z]) := by rfl)
    (hs : swapsWithSole [.Tuple [.Name x px, .Name y py, .Name z pz] kt pt] (.Tuple [a, b, c] k2 pt2) pos.line X.env = pure false := by rfl) :
    AS X (.Assign [.Tuple [.Name x px, .Name y py, .Name z pz] kt pt] (.Tuple [a, b, c] k2 pt2) pos) (tPar3 i j l tA) (wPar3 i j l wA) := ⟨ps_par3 hc hN hi hj hl hij hil hjl hx hy hz ha.p hw hs, ss_par3 ha.s⟩
end
end Zd

/-! Zx6: the sum of an owned list that is changed later. -/
namespace Zd
open PySem L2
/-! targets, by equations that are not rfl (the kernel is slow at those) -/
theorem gtup_eq {n : Nat} {gs : WGs} {ds : List D} {ss : Sl} {own : Ts} {Q : Sl → Ts → Prop} : wGTup n gs (.fr (.tuple ds)) ss own Q = (ds.length = n ∧ gs (ds.map C.fr) ss own Q) := propext ⟨fun h => h, fun h => h⟩
theorem gcons_eq {g : WG} {gs : WGs} {c : C} {r : List C} {ss : Sl} {own : Ts} {Q : Sl → Ts → Prop} : wGCons g gs (c :: r) ss own Q = g c ss own (fun ss' own' => gs r ss' own' Q) := propext ⟨fun h => h, fun h => h⟩
theorem gnil_eq {ss : Sl} {own : Ts} {Q : Sl → Ts → Prop} : wGNil [] ss own Q = Q ss own := propext ⟨fun h => h.2, fun h => ⟨rfl, h⟩⟩
theorem gname_eq {i : Nat} {c : C} {ss : Sl} {own : Ts} {Q : Sl → Ts → Prop} : wName i c ss own Q = Q (ss.set i (some c)) own := propext ⟨fun h => h, fun h => h⟩
def hdD (own : Ts) : C → Option (List D)
  | .hd h => (match own[h]? with
    | some (.lst cs) => frs cs
    | _ => none)
  | _ => none
def fSumH : FA := fun cs own Q => match cs with
  | [c] => optP ((hdD own c).bind intsD) fun ns => Q (.fr (.int ns.sum)) own
  | _ => False
section
variable {K : PySem.W.Frag}
theorem hd_ints {B : Addr → Prop} {θ : List Addr} {own : Ts} {F H : Hp} {v : V} {c : C} {ns : List Int} (gg : Ga K B θ own F H) (r : Cr K θ F v c) (e : (hdD own c).bind intsD = some ns) : ∃ a, v = .ref a ∧ SqA K H a (ns.map V.int) := by
  unfold hdD at e
  split at e
  · rename_i h
    obtain ⟨a, ha, rfl⟩ := r
    split at e
    · rename_i cs e2
      obtain ⟨_, vs, hv, rv⟩ := gg.mo h a _ ha e2
      cases e3 : frs cs with
      | none => rw [e3] at e; cases e
      | some ds =>
        rw [e3] at e
        rw [of_frs e3] at rv
        cases of_ints (θ := θ) e (rpAll_paired rv)
        exact ⟨a, rfl, .inl (SqL.of hv)⟩
    · cases e
  · cases e
theorem sn_sumH : SN K (rSumA K) fSumH := by
  intro cs own Q hq B θ F H vs gg rs Qv k
  unfold fSumH at hq
  split at hq
  · obtain ⟨v, rfl, r⟩ := paired1 rs
    obtain ⟨ns, e, hq⟩ := of_mt hq
    obtain ⟨a, rfl, h⟩ := hd_ints gg r e
    exact ⟨a, ns, rfl, h, k.here (c := .fr (.int ns.sum)) gg (.int _) hq⟩
  · exact hq.elim
theorem br_sumH {X : Cx} {K : PySem.W.Frag} (hc : X.calm = true := by rfl) (hK : X.K = K := by first | rfl | exact kB | exact kB.trans kB) : BR X (.builtin "sum") (rSumA K) fSumH := by
  subst hK
  exact ⟨cr_sumA hc, sn_sumH⟩
end
end Zd

/-! Zx7: a tuple so many times; the place of a text in a list. -/
namespace Zd
open PySem L2
theorem rpAll_rep {K : PySem.W.Frag} {F : Hp} {vs : List V} {ds : List D} (h : RpAll K F vs ds) : ∀ n, RpAll K F (List.replicate n vs).flatten (List.replicate n ds).flatten
  | 0 => .nil
  | n + 1 => by
    rw [List.replicate_succ, List.replicate_succ, List.flatten_cons, List.flatten_cons]
    exact rpAll_app h (rpAll_rep h n)
def fMulT : F2 := fun c d own Q => match c, d with
  | .fr (.tuple ds), .fr (.int k) => ds ≠ [] ∧ 2 ≤ k ∧ k ≤ 1000 ∧ ds.length ≤ 1000 ∧ Q (.fr (.tuple (List.replicate k.toNat ds).flatten)) own
  | _, _ => False
theorem s2_mulT {K : PySem.W.Frag} : S2 K (rRepT K) fMulT := by
  intro c d own Q hq B θ F H v u gg r1 r2 Qv k
  unfold fMulT at hq
  split at hq
  · rename_i ds i
    obtain ⟨a, xs, rfl, h1, h2⟩ := cr_tup r1
    cases cr_int r2
    obtain ⟨q1, q2, q3, q4, hq⟩ := hq
    have hl := rpAll_len h2
    refine ⟨a, i, xs, rfl, rfl, same_t gg.ex h1, fun e => q1 ?_, q2, q3, by rw [hl]; exact q4, fun p hp => ?_⟩
    · subst e
      exact List.eq_nil_of_length_eq_zero hl.symm
    · exact k.new (d := .tuple (List.replicate i.toNat ds).flatten) gg hp hq fun F' e hF => .tup (SqT.of hF) (rpAll_rep (rpAll_mono e _ _ h2) _)
  · exact hq.elim
theorem ae_mulT {X : Cx} {a b : Expr} {ta tb : TE} {wa wb : WE} {pos : Pos} {K : PySem.W.Frag} (ha : AE X a ta wa) (hb : AE X b tb wb) (hK : X.K = K := by first | rfl | exact kB | exact kB.trans kB) : AE X (.BinOp a .Mult b pos) (tOp (rRepT K) ta tb) (wOp fMulT wa wb) := by
  subst hK
  exact ⟨pe_op op_repT ha.p hb.p, se_op ha.s hb.s s2_mulT⟩
/-- xs.index(z): texts -/
def fIndexS : FM := fun c cs own Q => match c, cs with
  | .fr (.list ds), [.fr (.str z)] => ∃ (zs : List Str) (j : Nat), strsD ds = some zs ∧ zs[j]? = some z ∧ (∀ m : Nat, m < j → zs[m]? ≠ some z) ∧ Q (.fr (.int j)) own
  | _, _ => False
theorem sm_indexS {K : PySem.W.Frag} : SM K (rIndex K) fIndexS := by
  intro c cs own Q hq B θ F H v vs g r rs Qv k
  unfold fIndexS at hq
  split at hq
  · rename_i ds z
    obtain ⟨a, xs, rfl, h1, h2⟩ := cr_lst r
    obtain ⟨u, rfl, ru⟩ := paired1 rs
    cases cr_str ru
    obtain ⟨zs, j, e, hj, hm, hq⟩ := hq
    cases of_strs e h2
    refine ⟨a, _, .str z, j, .str z, rfl, rfl, SqL.of (g.ex _ _ h1), rfl, flat_strs zs, by rw [List.getElem?_map, hj]; rfl, by simp [eqV], fun m z' hlt hz => ?_, k.here (c := .fr (.int j)) g (.int _) hq⟩
    rw [List.getElem?_map] at hz
    cases e2 : zs[m]? with
    | none => rw [e2] at hz; cases hz
    | some y =>
      rw [e2] at hz
      cases hz
      show (y == z) = false
      refine beq_eq_false_iff_ne.mpr fun e3 => hm m hlt ?_
      rw [e2, e3]
  · exact hq.elim
end Zd

/-! Zx8: dicts with ints and texts as keys. -/
namespace Zd
open PySem L2 RZ RT
def keyC : C → Option Key
  | .fr (.int i) => some (.inl i)
  | .fr (.str z) => some (.inr z)
  | _ => none
def valC (kvs : List (Key × C)) (k : Key) : Option C := (kvs.find? fun kv => decide (kv.1 = k)).map (·.2)
def putC (kvs : List (Key × C)) (k : Key) (v : C) : List (Key × C) :=
  if (kvs.any fun kv => decide (kv.1 = k)) = true then kvs.map (fun kv => if kv.1 = k then (kv.1, v) else kv) else kvs ++ [(k, v)]
section
variable {K : PySem.W.Frag} {θ : List Addr} {F H : Hp}
theorem keyc_of {v : V} {c : C} {k : Key} (r : Cr K θ F v c) (e : keyC c = some k) : v = kV k := by
  unfold keyC at e
  split at e
  · cases e
    exact cr_int r
  · cases e
    exact cr_str r
  · cases e
abbrev PKv (K : PySem.W.Frag) (θ : List Addr) (F : Hp) : List (Key × V) → List (Key × C) → Prop := Paired fun (p : Key × V) (q : Key × C) => p.1 = q.1 ∧ Cr K θ F p.2 q.2
theorem pkv_val {k : Key} : ∀ {vs : List (Key × V)} {kvs : List (Key × C)}, PKv K θ F vs kvs → (valV vs k = none ∧ valC kvs k = none) ∨ ∃ v c, valV vs k = some v ∧ valC kvs k = some c ∧ Cr K θ F v c
  | _, _, .nil => .inl ⟨rfl, rfl⟩
  | (k1, v) :: vs, (k2, c) :: kvs, .cons r t => by
    have e : k1 = k2 := r.1
    subst e
    by_cases h : k1 = k
    · refine .inr ⟨v, c, ?_, ?_, r.2⟩
      · simp [valV, h]
      · simp [valC, h]
    · have ih := pkv_val (k := k) t
      have e1 : valV ((k1, v) :: vs) k = valV vs k := by simp [valV, List.find?_cons, h]
      have e2 : valC ((k1, c) :: kvs) k = valC kvs k := by simp [valC, List.find?_cons, h]
      rw [e1, e2]
      exact ih
theorem pkv_any {k : Key} : ∀ {vs : List (Key × V)} {kvs : List (Key × C)}, PKv K θ F vs kvs → (vs.any fun kv => decide (kv.1 = k)) = (kvs.any fun kv => decide (kv.1 = k))
  | _, _, .nil => rfl
  | (k1, v) :: vs, (k2, c) :: kvs, .cons r t => by
    have e : k1 = k2 := r.1
    rw [List.any_cons, List.any_cons, pkv_any t, e]
theorem pkv_repl {k : Key} {v : V} {c : C} (rc : Cr K θ F v c) : ∀ {vs : List (Key × V)} {kvs : List (Key × C)}, PKv K θ F vs kvs → PKv K θ F (vs.map fun kv => if kv.1 = k then (kv.1, v) else kv) (kvs.map fun kv => if kv.1 = k then (kv.1, c) else kv)
  | _, _, .nil => .nil
  | (k1, v1) :: vs, (k2, c1) :: kvs, .cons r t => by
    have e : k1 = k2 := r.1
    subst e
    refine .cons ?_ (pkv_repl rc t)
    by_cases h : k1 = k
    · dsimp only
      rw [if_pos h, if_pos h]
      exact ⟨rfl, rc⟩
    · dsimp only
      rw [if_neg h, if_neg h]
      exact r
theorem pkv_put {k : Key} {v : V} {c : C} {vs : List (Key × V)} {kvs : List (Key × C)} (r : PKv K θ F vs kvs) (rc : Cr K θ F v c) : PKv K θ F (putK vs k v) (putC kvs k c) := by
  unfold putK putC
  rw [pkv_any r]
  by_cases h : (kvs.any fun kv => decide (kv.1 = k)) = true
  · rw [if_pos h, if_pos h]
    exact pkv_repl rc r
  · rw [if_neg h, if_neg h]
    exact paired_app r (.cons ⟨rfl, rc⟩ .nil)
end
/-- a new dict -/
def wDNew : WE := fun _ own Q => Q (.hd own.length) (own ++ [.dk []])
theorem se_dnew {K : PySem.W.Frag} : SE K tDNewK wDNew := by
  intro ss own Q h B θ F H σ g s Qv k p hp
  obtain ⟨g1, t1⟩ := g.newH (o := .dK []) (m := .dk []) hp (fun hn => ⟨hn, [], upd_same, .nil⟩) (fun d z => by cases z)
  refine k _ _ _ _ _ (.hd own.length) g1 t1 ⟨p, ?_, rfl⟩ h
  rw [← g.len, List.getElem?_append_right (Nat.le_refl _), Nat.sub_self]
  rfl
theorem ae_dnew {X : Cx} {pos : Pos} : AE X (.Dict [] [] pos) tDNewK wDNew := ⟨pe_dnewK, se_dnew⟩
/-! what it holds -/
def rDIn : R2 := fun y x H Q => ∃ a o, x = .ref a ∧ DGet H a y o ∧ Q (.bl o.isSome) H
def rDNotIn : R2 := fun y x H Q => ∃ a o, x = .ref a ∧ DGet H a y o ∧ Q (.bl (!o.isSome)) H
def rDGet : R2 := fun x y H Q => ∃ a v, x = .ref a ∧ DGet H a y (some v) ∧ Q v H
/-- the dict in hand -/
def dkD (own : Ts) : C → Option (List (Key × C))
  | .hd h => (match own[h]? with
    | some (.dk kvs) => some kvs
    | _ => none)
  | _ => none
def fDIn : F2 := fun y d own Q => optP (dkD own d) fun kvs => optP (keyC y) fun k => Q (.fr (.bool (valC kvs k).isSome)) own
def fDNotIn : F2 := fun y d own Q => optP (dkD own d) fun kvs => optP (keyC y) fun k => Q (.fr (.bool (!(valC kvs k).isSome))) own
def fDGet : F2 := fun d y own Q => optP (dkD own d) fun kvs => optP (keyC y) fun k => optP (valC kvs k) fun c => Q (res own c) own
section
variable {K : PySem.W.Frag} {B : Addr → Prop} {θ : List Addr} {own : Ts} {F H : Hp} {v : V} {c : C}
theorem dk_at {kvs : List (Key × C)} (g : Ga K B θ own F H) (r : Cr K θ F v c) (e : dkD own c = some kvs) : ∃ h a vs, c = .hd h ∧ θ[h]? = some a ∧ own[h]? = some (.dk kvs) ∧ v = .ref a ∧ F a = none ∧ H a = some (.dK vs) ∧ PKv K θ F vs kvs := by
  unfold dkD at e
  split at e
  · rename_i h
    split at e
    · rename_i ks e2
      cases e
      obtain ⟨a, ha, rfl⟩ := r
      obtain ⟨hn, vs, hv, rv⟩ := g.mo h a _ ha e2
      exact ⟨h, a, vs, rfl, ha, e2, rfl, hn, hv, rv⟩
    · cases e
  · cases e
theorem s2_din : S2 K rDIn fDIn := by
  intro c d own Q hq B θ F H v u gg r1 r2 Qv k
  obtain ⟨kvs, e1, q1⟩ := of_mt hq
  obtain ⟨ky, e2, q2⟩ := of_mt q1
  clear hq q1
  obtain ⟨h, a, vs, rfl, ha, _, rfl, _, hv, rv⟩ := dk_at gg r2 e1
  cases keyc_of r1 e2
  refine ⟨a, _, rfl, DGet.k hv, ?_⟩
  rcases pkv_val (k := ky) rv with ⟨z1, z2⟩ | ⟨x, y, z1, z2, _⟩
  · rw [z1]
    rw [z2] at q2
    exact k.here (c := .fr (.bool _)) gg (.bl _) q2
  · rw [z1]
    rw [z2] at q2
    exact k.here (c := .fr (.bool _)) gg (.bl _) q2
theorem s2_dnin : S2 K rDNotIn fDNotIn := by
  intro c d own Q hq B θ F H v u gg r1 r2 Qv k
  obtain ⟨kvs, e1, q1⟩ := of_mt hq
  obtain ⟨ky, e2, q2⟩ := of_mt q1
  clear hq q1
  obtain ⟨h, a, vs, rfl, ha, _, rfl, _, hv, rv⟩ := dk_at gg r2 e1
  cases keyc_of r1 e2
  refine ⟨a, _, rfl, DGet.k hv, ?_⟩
  rcases pkv_val (k := ky) rv with ⟨z1, z2⟩ | ⟨x, y, z1, z2, _⟩
  · rw [z1]
    rw [z2] at q2
    exact k.here (c := .fr (.bool _)) gg (.bl _) q2
  · rw [z1]
    rw [z2] at q2
    exact k.here (c := .fr (.bool _)) gg (.bl _) q2
theorem s2_dget : S2 K rDGet fDGet := by
  intro d c own Q hq B θ F H v u gg r1 r2 Qv k
  obtain ⟨kvs, e1, q1⟩ := of_mt hq
  obtain ⟨ky, e2, q2⟩ := of_mt q1
  obtain ⟨cv, e3, q3⟩ := of_mt q2
  clear hq q1 q2
  obtain ⟨h, a, vs, rfl, ha, _, rfl, _, hv, rv⟩ := dk_at gg r1 e1
  cases keyc_of r2 e2
  rcases pkv_val (k := ky) rv with ⟨z1, z2⟩ | ⟨x, y, z1, z2, rc⟩
  · rw [z2] at e3
    cases e3
  · rw [z2] at e3
    cases e3
    exact ⟨a, x, rfl, by rw [← z1]; exact DGet.k hv, k.here gg (rc.res gg) q3⟩
end
section
variable {X : Cx} {a b : Expr} {ta tb : TE} {wa wb : WE} {pos : Pos} {k : Nat}
theorem room1 (hr : Room k X.A) : X.A.units + 1 < cLine := by
  have := hr.units
  omega
theorem op_din (hu : X.A.units + 1 < cLine) : OpR X (compareOp .In) rDIn := by
  intro pins s σ H x y v u Q I rx ry h
  obtain ⟨a, o, rfl, g, q⟩ := h
  obtain rfl : u = Value.ref a := ry
  exact d_in hu I g rx fun s3 I3 => ⟨.bl o.isSome, H, I3, rfl, q⟩
theorem op_dnin (hu : X.A.units + 1 < cLine) : OpR X (compareOp .NotIn) rDNotIn := by
  intro pins s σ H x y v u Q I rx ry h
  obtain ⟨a, o, rfl, g, q⟩ := h
  obtain rfl : u = Value.ref a := ry
  exact d_notIn hu I g rx fun s3 I3 => ⟨.bl (!o.isSome), H, I3, rfl, q⟩
theorem co_din (hr : Room k X.A) : CO X .In rDIn fDIn := ⟨op_din (room1 hr), s2_din⟩
theorem co_dnin (hr : Room k X.A) : CO X .NotIn rDNotIn fDNotIn := ⟨op_dnin (room1 hr), s2_dnin⟩
theorem ae_dget (hr : Room k X.A) (ha : AE X a ta wa) (hb : AE X b tb wb) (hs : NoSl b := by intro _ _; rfl) : AE X (.Subscript a b pos) (tOp rDGet ta tb) (wOp fDGet wa wb) := ⟨pe_dget (room1 hr) ha.p hb.p hs, se_op ha.s hb.s s2_dget⟩
end
/-- d[k] = v -/
def wDPut (wd wk wv : WE) : WS := fun E ss own => wv ss own fun v o1 => wd ss o1 fun d o2 => wk ss o2 fun y o3 => match d with
  | .hd h => (match o3[h]? with
    | some (.dk kvs) => optP (keyC y) fun k => kvs.length < SZ ∧ E.nx ss (o3.set h (.dk (putC kvs k v)))
    | _ => False)
  | _ => False
theorem ss_dput {K : PySem.W.Frag} {td tk tv : TE} {wd wk wv : WE} (hd : SE K td wd) (hk : SE K tk wk) (hv : SE K tv wv) : SS K (sDPut td tk tv) (wDPut wd wk wv) := by
  intro E ss own hw B θ F H σ g s D k
  refine hv ss own _ hw B θ F H σ g s _ fun θ1 own1 F1 H1 v c g1 t1 r1 q1 => ?_
  refine hd ss own1 _ q1 B θ1 F1 H1 σ g1 (s.up t1) _ fun θ2 own2 F2 H2 x d g2 t2 r2 q2 => ?_
  refine hk ss own2 _ q2 B θ2 F2 H2 σ g2 (s.up (t1.trans t2)) _ fun θ3 own3 F3 H3 y e g3 t3 r3 q3 => ?_
  dsimp only at q3
  split at q3
  · rename_i h
    split at q3
    · rename_i kvs e2
      obtain ⟨ky, e3, hl, q⟩ := of_mt q3
      obtain ⟨a, ha, rfl⟩ := r2.up t3
      obtain ⟨hn, vs, hvs, rv⟩ := g3.mo h a _ ha e2
      cases keyc_of r3 e3
      obtain ⟨g4, t4⟩ := g3.write (o := .dK (putK vs ky v)) (m := .dk (putC kvs ky c)) ha hn ⟨hn, _, upd_same, pkv_put rv (r1.up (t2.trans t3))⟩
      exact ⟨a, _, rfl, DPut.k hvs (by rw [paired_len rv]; exact szlt hl), k.nx _ _ _ _ _ _ g4 (((t1.trans t2).trans t3).trans t4) (s.up (((t1.trans t2).trans t3).trans t4)) q⟩
    · exact q3.elim
  · exact q3.elim
theorem as_dput {X : Cx} {o i e : Expr} {td tk tv : TE} {wd wk wv : WE} {pos pos' : Pos} {k : Nat} (hr : Room k X.A) (ho : AE X o td wd) (hi : AE X i tk wk) (hv : AE X e tv wv) (hs : swapsWith e (some (.Subscript o i pos')) pos.line X.env = pure false := by rfl) : AS X (.Assign [.Subscript o i pos'] e pos) (sDPut td tk tv) (wDPut wd wk wv) :=
  ⟨ps_dput (room1 hr) ho.p hi.p hv.p hs, ss_dput ho.s hi.s hv.s⟩
/-! d.get -/
def wDGet1 (wd wk : WE) : WE := fun ss own Q => wd ss own fun d o1 => optP (dkD o1 d) fun _ => wk ss o1 fun y o2 => optP (dkD o2 d) fun kvs => optP (keyC y) fun k => Q (res o2 ((valC kvs k).getD (.fr .none))) o2
def wDGet2 (wd wk wx : WE) : WE := fun ss own Q => wd ss own fun d o1 => optP (dkD o1 d) fun _ => wk ss o1 fun y o2 => wx ss o2 fun z o3 => optP (dkD o3 d) fun kvs => optP (keyC y) fun k => Q (res o3 ((valC kvs k).getD z)) o3
theorem pkv_getD {K : PySem.W.Frag} {θ : List Addr} {F : Hp} {k : Key} {vs : List (Key × V)} {kvs : List (Key × C)} {v : V} {c : C} (r : PKv K θ F vs kvs) (rc : Cr K θ F v c) : Cr K θ F ((valV vs k).getD v) ((valC kvs k).getD c) := by
  rcases pkv_val (k := k) r with ⟨z1, z2⟩ | ⟨x, y, z1, z2, rc⟩
  · rw [z1, z2]
    exact rc
  · rw [z1, z2]
    exact rc
theorem se_dget1 {K : PySem.W.Frag} {td tk : TE} {wd wk : WE} (hd : SE K td wd) (hk : SE K tk wk) : SE K (tDGet1 td tk) (wDGet1 wd wk) := by
  intro ss own Q hw B θ F H σ g s Qv k
  refine hd ss own _ hw B θ F H σ g s _ fun θ1 own1 F1 H1 v d g1 t1 r1 q1 => ?_
  obtain ⟨kvs0, e0, q1⟩ := of_mt q1
  obtain ⟨h, a, vs0, rfl, ha, _, rfl, _, hv0, _⟩ := dk_at g1 r1 e0
  refine ⟨a, rfl, .inl ⟨vs0, .inl hv0⟩, ?_⟩
  refine hk ss own1 _ q1 B θ1 F1 H1 σ g1 (s.up t1) _ fun θ2 own2 F2 H2 y c g2 t2 r2 q2 => ?_
  obtain ⟨kvs, e1, q3⟩ := of_mt q2
  obtain ⟨ky, e2, q4⟩ := of_mt q3
  obtain ⟨h2, a2, vs, eh, ha2, _, ea, _, hv, rv⟩ := dk_at g2 (r1.up t2) e1
  cases eh
  cases ea
  cases keyc_of r2 e2
  exact ⟨_, DGet.k hv, k _ _ _ _ _ _ g2 (t1.trans t2) ((pkv_getD (v := .non) (c := .fr .none) rv .non).res g2) q4⟩
theorem se_dget2 {K : PySem.W.Frag} {td tk tx : TE} {wd wk wx : WE} (hd : SE K td wd) (hk : SE K tk wk) (hx : SE K tx wx) : SE K (tDGet2 td tk tx) (wDGet2 wd wk wx) := by
  intro ss own Q hw B θ F H σ g s Qv k
  refine hd ss own _ hw B θ F H σ g s _ fun θ1 own1 F1 H1 v d g1 t1 r1 q1 => ?_
  obtain ⟨kvs0, e0, q1⟩ := of_mt q1
  obtain ⟨h, a, vs0, rfl, ha, _, rfl, _, hv0, _⟩ := dk_at g1 r1 e0
  refine ⟨a, rfl, .inl ⟨vs0, .inl hv0⟩, ?_⟩
  refine hk ss own1 _ q1 B θ1 F1 H1 σ g1 (s.up t1) _ fun θ2 own2 F2 H2 y c g2 t2 r2 q2 => ?_
  refine hx ss own2 _ q2 B θ2 F2 H2 σ g2 (s.up (t1.trans t2)) _ fun θ3 own3 F3 H3 x z g3 t3 r3 q2 => ?_
  obtain ⟨kvs, e1, q3⟩ := of_mt q2
  obtain ⟨ky, e2, q4⟩ := of_mt q3
  obtain ⟨h2, a2, vs, eh, ha2, _, ea, _, hv, rv⟩ := dk_at g3 (r1.up (t2.trans t3)) e1
  cases eh
  cases ea
  cases keyc_of (r2.up t3) e2
  exact ⟨_, DGet.k hv, k _ _ _ _ _ _ g3 ((t1.trans t2).trans t3) ((pkv_getD rv r3).res g3) q4⟩
section
variable {X : Cx} {o e f : Expr} {td tk tx : TE} {wd wk wx : WE} {apos cpos : Pos} {k : Nat}
theorem ae_dget1 (hr : Room k X.A) (ho : AE X o td wd) (he : AE X e tk wk) (m : M1 X o "get" apos e cpos := by exact ⟨rfl, rfl, rfl, rfl⟩) : AE X (.Call (.Attribute o "get" apos) [e] [] cpos) (tDGet1 td tk) (wDGet1 wd wk) := ⟨pe_dget1 (room1 hr) ho.p he.p m, se_dget1 ho.s he.s⟩
theorem ae_dget2 (hr : Room k X.A) (ho : AE X o td wd) (he : AE X e tk wk) (hf : AE X f tx wx) (m : M2 X o "get" apos e f cpos := by exact ⟨rfl, rfl, rfl, rfl⟩) : AE X (.Call (.Attribute o "get" apos) [e, f] [] cpos) (tDGet2 td tk tx) (wDGet2 wd wk wx) := ⟨pe_dget2 (room1 hr) ho.p he.p hf.p m, se_dget2 ho.s he.s hf.s⟩
end
/-! lists in hand, read as they stand -/
def fAddH : F2 := fun c d own Q => optP (hdD own c) fun xs => match d with
  | .fr (.list ys) => xs.length + ys.length ≤ SZ ∧ Q (.fr (.list (xs ++ ys))) own
  | _ => False
theorem s2_addH {K : PySem.W.Frag} : S2 K (rAddAll K) fAddH := by
  intro c d own Q hq B θ F H v u gg r1 r2 Qv k
  obtain ⟨xs, e1, q1⟩ := of_mt hq
  clear hq
  have hd : ∃ ys, d = .fr (.list ys) ∧ xs.length + ys.length ≤ SZ ∧ Q (.fr (.list (xs ++ ys))) own := by
    split at q1
    · exact ⟨_, rfl, q1⟩
    · exact q1.elim
  obtain ⟨ys, rfl, hl, q⟩ := hd
  obtain ⟨b, ws, rfl, h3, h4⟩ := cr_lst r2
  have hc : ∃ h cs, c = .hd h ∧ own[h]? = some (.lst cs) ∧ frs cs = some xs := by
    unfold hdD at e1
    split at e1
    · split at e1
      · rename_i e2
        exact ⟨_, _, rfl, e2, e1⟩
      · cases e1
    · cases e1
  obtain ⟨h, cs, rfl, e2, e3⟩ := hc
  obtain ⟨a, ha, rfl⟩ := r1
  obtain ⟨_, vs, hv, rv⟩ := gg.mo h a _ ha e2
  rw [of_frs e3] at rv
  have h2 := rpAll_paired rv
  have l1 := rpAll_len h2
  have l2 := rpAll_len h4
  refine .inr (.inr (.inr ⟨a, b, vs, ws, rfl, rfl, hv, gg.ex _ _ h3, by rw [l1, l2]; exact szl hl, fun p hp => ?_⟩))
  exact k.new (d := .list (xs ++ ys)) gg hp q fun F' e hF => .lst hF (rpAll_app (rpAll_mono e _ _ h2) (rpAll_mono e _ _ h4))
theorem ae_addH {X : Cx} {a b : Expr} {ta tb : TE} {wa wb : WE} {pos : Pos} {K : PySem.W.Frag} (ha : AE X a ta wa) (hb : AE X b tb wb) (hK : X.K = K := by first | rfl | exact kB | exact kB.trans kB) : AE X (.BinOp a .Add b pos) (tOp (rAddAll K) ta tb) (wOp fAddH wa wb) := by
  subst hK
  exact ⟨pe_op op_addAll ha.p hb.p, se_op ha.s hb.s s2_addH⟩
end Zd

/-! Zx9: xs.insert(i, x) of a list in hand. -/
namespace Zd
open PySem L2
def fInsert : FM := fun c cs own Q => match c, cs with
  | .hd h, [.fr (.int i), x] => (match own[h]? with
    | some (.lst xs) => (xs.length < SZ ∧ 0 ≤ i ∧ i < 2 ^ 62) ∧ Q (.fr .none) (own.set h (.lst (xs.take i.toNat ++ [x] ++ xs.drop i.toNat)))
    | _ => False)
  | _, _ => False
theorem sm_insert {K : PySem.W.Frag} : SM K (fun x vs H Q => ∃ (l : Addr) (xs : List V) (i : Int) (y : V), x = .ref l ∧ vs = [.int i, y] ∧ H l = some (.lst xs) ∧ xs.length < sizeLine ∧ 0 ≤ i ∧ i < 2 ^ 63 ∧
    Q .non (upd H l (.lst (xs.take i.toNat ++ [y] ++ xs.drop i.toNat)))) fInsert := by
  intro c cs own Q hq B θ F H v vs g r rs Qv k
  unfold fInsert at hq
  split at hq
  · rename_i h i x
    obtain ⟨a, ha, rfl⟩ := r
    obtain ⟨u1, u2, rfl, r1, r2⟩ := paired2 rs
    cases cr_int r1
    split at hq
    · rename_i xs e
      obtain ⟨hn, ws, hv, rv⟩ := g.mo h a _ ha e
      obtain ⟨⟨q1, q2, q3⟩, q⟩ := hq
      obtain ⟨g1, t1⟩ := g.write (o := .lst (ws.take i.toNat ++ [u2] ++ ws.drop i.toNat)) (m := .lst (xs.take i.toNat ++ [x] ++ xs.drop i.toNat)) ha hn ⟨hn, _, upd_same, paired_app (paired_app (paired_take _ rv) (.cons r2 .nil)) (paired_drop _ rv)⟩
      exact ⟨a, ws, i, u2, rfl, rfl, hv, by rw [paired_len rv]; exact szlt q1, q2, by omega, k _ _ _ _ _ (.fr .none) g1 t1 .non q⟩
    · exact hq.elim
  · exact hq.elim
end Zd

/-! Zx10: a list of lists in hand, read as data: each of them is frozen, then the list itself. -/
namespace Zd
open PySem PySem.Spec PyProof.Rows L2 RZ RT
def frzAll : Ts → List C → Option (List D × Ts)
  | own, [] => some ([], own)
  | own, .fr d :: cs => (frzAll own cs).map fun p => (d :: p.1, p.2)
  | own, .hd i :: cs => match own[i]? with
    | some (.lst xs) => (match frs xs with
      | some ds => (frzAll (own.set i (.frz (.list ds))) cs).map fun p => (.list ds :: p.1, p.2)
      | none => none)
    | some (.frz d) => (frzAll own cs).map fun p => (d :: p.1, p.2)
    | _ => none
  | _, .sc _ :: _ => none
  | _, .fn _ :: _ => none
def wFrz2 (w : WE) : WE := fun ss own Q => w ss own fun c own1 => match c with
  | .hd h => ∃ cs ds o2, own1[h]? = some (.lst cs) ∧ frzAll own1 cs = some (ds, o2) ∧ o2[h]? = some (.lst cs) ∧ Q (.fr (.list ds)) (o2.set h (.frz (.list ds)))
  | _ => False
section
variable {K : PySem.W.Frag} {B : Addr → Prop} {θ : List Addr} {own : Ts} {F H : Hp}
/-- an owned list whose items are frozen becomes frozen -/
theorem Ga.freezeG (g : Ga K B θ own F H) {i : Nat} {a : Addr} {ds : List D} {vs : List V} (ha : θ[i]? = some a) (hn : F a = none) (e : H a = some (.lst vs)) (r : RpAll K F vs ds) :
    ∃ F', Ga K B θ (own.set i (.frz (.list ds))) F' H ∧ Tr B θ F H θ F' H ∧ Rp K F' (.ref a) (.list ds) := by
  have hB : ¬ B a := fun hb => (g.out a hb).2.2 (List.mem_of_getElem? ha)
  have sF : Same F (upd F a (.lst vs)) := fun b u q => by rw [upd_ne (ne_of_none q hn)]; exact q
  have t : Tr B θ F H θ (upd F a (.lst vs)) H := ⟨⟨[], (List.append_nil _).symm⟩, sF, fun b hb => rfl⟩
  have hd : Rp K (upd F a (.lst vs)) (.ref a) (.list ds) := .lst upd_same (rpAll_mono sF ds vs r)
  refine ⟨upd F a (.lst vs), ⟨by simp [g.len], g.nd, fun b u q => ?_, fun b hb => ?_, fun j b m' e1 e2 => ?_, g.cl.set fun j hj => by cases hj⟩, t, hd⟩
  · by_cases z : b = a
    · subst z; rw [upd_same] at q; cases q; exact e
    · rw [upd_ne z] at q; exact g.ex b u q
  · have z : b ≠ a := fun z => hB (z ▸ hb)
    obtain ⟨q1, q2, q3⟩ := g.out b hb
    exact ⟨by rw [upd_ne z]; exact q1, q2, q3⟩
  · by_cases hj : j = i
    · subst hj
      rw [ha] at e1; cases e1
      have hi : j < own.length := by rw [← g.len]; exact (List.getElem?_eq_some_iff.mp ha).1
      rw [List.getElem?_set_self hi] at e2
      cases e2
      exact ⟨⟨_, upd_same⟩, hd⟩
    · rw [List.getElem?_set_ne (Ne.symm hj)] at e2
      have z : b ≠ a := fun z => by
        subst z
        have h1 := List.getElem?_eq_some_iff.mp e1
        have h2 := List.getElem?_eq_some_iff.mp ha
        exact hj ((List.getElem_inj g.nd).mp (h1.2.trans h2.2.symm))
      exact (g.mo j b m' e1 e2).up t fun q => ⟨by rw [upd_ne z]; exact q, rfl⟩
theorem frzAll_ok : ∀ {cs : List C} {own : Ts} {F : Hp} {vs : List V} {ds : List D} {o2 : Ts}, Ga K B θ own F H → Paired (Cr K θ F) vs cs → frzAll own cs = some (ds, o2) →
    ∃ F', Ga K B θ o2 F' H ∧ Tr B θ F H θ F' H ∧ RpAll K F' vs ds
  | [], own, F, _, ds, o2, g, .nil, e => by
    cases e
    exact ⟨F, g, Tr.refl, .nil⟩
  | .fr d :: cs, own, F, v :: vs, ds, o2, g, .cons r t, e => by
    rw [frzAll] at e
    cases e2 : frzAll own cs with
    | none => rw [e2] at e; cases e
    | some p =>
      rw [e2] at e
      cases e
      obtain ⟨F', g', t', r'⟩ := frzAll_ok g t e2
      exact ⟨F', g', t', .cons (rp_mono t'.ex d v r) r'⟩
  | .hd i :: cs, own, F, v :: vs, ds, o2, g, .cons r t, e => by
    rw [frzAll] at e
    obtain ⟨a, ha, rfl⟩ := r
    cases e1 : own[i]? with
    | none => rw [e1] at e; cases e
    | some m =>
      rw [e1] at e
      cases m with
      | frz d =>
        dsimp only at e
        cases e2 : frzAll own cs with
        | none => rw [e2] at e; cases e
        | some p =>
          rw [e2] at e
          cases e
          obtain ⟨F', g', t', r'⟩ := frzAll_ok g t e2
          exact ⟨F', g', t', .cons (rp_mono t'.ex d _ (g.mo i a _ ha e1).2) r'⟩
      | lst xs =>
        dsimp only at e
        cases e3 : frs xs with
        | none => rw [e3] at e; cases e
        | some es =>
          rw [e3] at e
          dsimp only at e
          cases e2 : frzAll (own.set i (.frz (.list es))) cs with
          | none => rw [e2] at e; cases e
          | some p =>
            rw [e2] at e
            cases e
            obtain ⟨F1, g1, t1, r1⟩ := g.freeze ha (by rw [e1, of_frs e3])
            obtain ⟨F', g', t', r'⟩ := frzAll_ok g1 (paired_mono (fun _ _ z => z.up t1) t) e2
            exact ⟨F', g', t1.trans t', .cons (rp_mono t'.ex _ _ r1) r'⟩
      | ins c fs => cases e
      | dk kvs => cases e
  | .sc _ :: _, _, _, _ :: _, _, _, _, _, e => by cases e
  | .fn _ :: _, _, _, _ :: _, _, _, _, _, e => by cases e
theorem se_frz2 {t : TE} {w : WE} (h : SE K t w) : SE K t (wFrz2 w) := by
  intro ss own Q hw B θ F H σ g s Qv k
  refine h ss own _ hw B θ F H σ g s Qv fun θ1 own1 F1 H1 v c g1 t1 r q => ?_
  cases c with
  | fr d => exact q.elim
  | sc ns => exact q.elim
  | fn x => exact q.elim
  | hd i =>
    obtain ⟨cs, ds, o2, e1, e2, e3, q⟩ := q
    obtain ⟨a, ha, rfl⟩ := r
    obtain ⟨hn, vs, hv, rv⟩ := g1.mo i a _ ha e1
    obtain ⟨F2, g2, t2, r2⟩ := frzAll_ok g1 rv e2
    obtain ⟨hn2, vs2, hv2, _⟩ := g2.mo i a _ ha e3
    rw [hv] at hv2
    cases hv2
    obtain ⟨F3, g3, t3, r3⟩ := g2.freezeG ha hn2 hv r2
    exact k _ _ _ _ _ (.fr (.list ds)) g3 ((t1.trans t2).trans t3) r3 q
end
/-- a list unpacked -/
def wGLst (n : Nat) (gs : WGs) : WG := fun c ss own Q => match c with
  | .fr (.list ds) => ds.length = n ∧ gs (ds.map C.fr) ss own Q
  | _ => False
theorem glst_eq {n : Nat} {gs : WGs} {ds : List D} {ss : Sl} {own : Ts} {Q : Sl → Ts → Prop} : wGLst n gs (.fr (.list ds)) ss own Q = (ds.length = n ∧ gs (ds.map C.fr) ss own Q) := propext ⟨fun h => h, fun h => h⟩
theorem sg_lst {K : PySem.W.Frag} {js : List Nat} {gs : TGs} {ws : WGs} {n : Nat} (hs : SGs K js gs ws) : SG K js (gLst K n gs) (wGLst n ws) := by
  intro c ss own Q hq B θ F H σ v gg s r R k
  unfold wGLst at hq
  split at hq
  · rename_i ds
    obtain ⟨a, xs, rfl, h1, h2⟩ := cr_lst r
    exact ⟨a, xs, rfl, SqL.of (gg.ex _ _ h1), by rw [rpAll_len h2]; exact hq.1, hs _ ss own _ hq.2 B θ F H σ xs gg s (paired_rpAll h2) R k⟩
  · exact hq.elim
theorem ag_lst {X : Cx} {es : List Expr} {js : List Nat} {pos : Pos} {K : PySem.W.Frag} {k n : Nat} {gs : TGs} {gws : WGs} (h : AGs X es js gs gws) (hc : X.calm = true := by rfl) (hn : (assignEach es X.env).length = n := by rfl) (hst : (assignEach es X.env).findIdx? (·.1) = none := by rfl) (hK : X.K = K := by first | rfl | exact kB | exact kB.trans kB) : AG X (.Tuple es k pos) js (gLst K n gs) (wGLst n gws) := by
  subst hK
  exact ⟨pg_lst hc h.p hn hst, sg_lst h.s⟩
theorem ae_frz2 {X : Cx} {e : Expr} {te : TE} {we : WE} (h : AE X e te we) : AE X e te (wFrz2 we) := ⟨h.p, se_frz2 h.s⟩
end Zd

/-! Zx11: zip of three tuples. -/
namespace Zd
open PySem PySem.Spec PyProof.Rows L2 RZ RT
def Itz3 (K : PySem.W.Frag) (a b c : Addr) (xs ys zs : List V) : It :=
  ⟨fun i H => (SqT K H a xs ∧ SqT K H b ys ∧ SqT K H c zs) ∧ i < min (min xs.length ys.length) zs.length,
    fun i H v H' => ∃ T x y z, v = .ref T ∧ H T = none ∧ H' = upd H T (.tup [x, y, z]) ∧ xs[i]? = some x ∧ ys[i]? = some y ∧ zs[i]? = some z,
    fun i H => (SqT K H a xs ∧ SqT K H b ys ∧ SqT K H c zs) ∧ i = min (min xs.length ys.length) zs.length⟩
def tnz3 (a b c z TI TO i1 i2 i3 : Addr) (i : Nat) (h : Heap) : Prop := IsZip h z TI TO .none ∧ IsTupOf3 h TI (.ref i1) (.ref i2) (.ref i3) ∧ (∃ x y u, IsTupOf3 h TO x y u) ∧ h.IsTupleIter i1 a i ∧ h.IsTupleIter i2 b i ∧ h.IsTupleIter i3 c i
structure Apart3 (a b c z TI TO i1 i2 i3 : Addr) : Prop where
  s : ZipSep3 z TI TO i1 i2 i3 [i1, a] [i2, b] [i3, c]
  a1 : a ≠ i1
  b2 : b ≠ i2
  c3 : c ≠ i3
theorem mem6 {c z TI TO i1 i2 i3 : Addr} (h : c ∈ [z, TI, TO, i1, i2, i3]) : c = z ∨ c = TI ∨ c = TO ∨ c = i1 ∨ c = i2 ∨ c = i3 := by simpa using h
theorem turn_z3 {P : Program} {w : World} {K : PySem.W.Frag} {elts : List Expr} {kk : Nat} {tpos : Pos} {a b c z TI TO i1 i2 i3 : Addr} {xs ys zs : List V} (D : Apart3 a b c z TI TO i1 i2 i3) :
    Turn P w K (.Tuple elts kk tpos) (Itz3 K a b c xs ys zs) [z, TI, TO, i1, i2, i3] z (tnz3 a b c z TI TO i1 i2 i3) where
  mem := by simp
  obj := fun i h st d hd => by
    obtain ⟨hz, hTI, ⟨x, y, u, hTO⟩, ⟨o1, e1, _, d1⟩, ⟨o2, e2, _, d2⟩, ⟨o3, e3, _, d3⟩⟩ := st
    rcases mem6 hd with q | q | q | q | q | q
    · rw [q]; exact ⟨_, hz, fun v q => nomatch q⟩
    · rw [q]; exact ⟨_, hTI, fun v q => nomatch q⟩
    · rw [q]; exact ⟨_, hTO, fun v q => nomatch q⟩
    · rw [q]; exact ⟨o1, e1, fun v q => by rw [d1] at q; cases q⟩
    · rw [q]; exact ⟨o2, e2, fun v q => by rw [d2] at q; cases q⟩
    · rw [q]; exact ⟨o3, e3, fun v q => by rw [d3] at q; cases q⟩
  keep := fun i h h' st k => by
    obtain ⟨hz, hTI, ⟨x, y, u, hTO⟩, h1, h2, h3⟩ := st
    exact ⟨k z (by simp) _ hz, k TI (by simp) _ hTI, ⟨x, y, u, k TO (by simp) _ hTO⟩, h1.at fun o q => k i1 (by simp) o q, h2.at fun o q => k i2 (by simp) o q, h3.at fun o q => k i3 (by simp) o q⟩
  item := by
    intro X hP hw hK hc i pins s σ H E I hf st hg
    subst hP hw hK
    obtain ⟨hz, hTI, hTO, h1, h2, h3⟩ := st
    obtain ⟨⟨hqx, hqy, hqz⟩, hi⟩ := hg
    obtain ⟨its, rv, p, _⟩ := I.tuple hqx
    obtain ⟨its2, rv2, p2, _⟩ := I.tuple hqy
    obtain ⟨its3, rv3, p3, _⟩ := I.tuple hqz
    have l1 := rv.length
    have l2 := rv2.length
    have l3 := rv3.length
    have hh : X.A.in1.handled = none := I.ok.hd hc
    refine (GoesN.zip3 D.s (Draws.tuple (prog := X.prog) (w := X.w) hh i1 a D.a1 its.toArray) (Draws.tuple hh i2 b D.b2 its2.toArray) (Draws.tuple hh i3 c D.c3 its3.toArray)).goes i s (fun u s2 => ∃ x H', Inv X pins σ H' s2 ∧ RelV x u ∧ (Itz3 X.K a b c xs ys zs).yld i H x H' ∧ tnz3 a b c z TI TO i1 i2 i3 (i + 1) s2.heap ∧ ∀ b ∈ [z, TI, TO, i1, i2, i3], H' b = none) E (by simp; omega) ⟨hz, hTI, hTO, ⟨h1, p⟩, ⟨h2, p2⟩, ⟨h3, p3⟩⟩ fun v h' tk hY st' hk htk => ?_
    obtain ⟨T, x, y, u, rfl, hT, e1, e2, e3, hTt⟩ := hY
    obtain ⟨hz', hTI', hTO', ⟨h1', _⟩, ⟨h2', _⟩, ⟨h3', _⟩⟩ := st'
    have hi1 : i < xs.length := by omega
    have hi2 : i < ys.length := by omega
    have hi3 : i < zs.length := by omega
    obtain ⟨x', ex, rx⟩ := rv.get (List.getElem?_eq_getElem hi1)
    obtain ⟨y', ey, ry⟩ := rv2.get (List.getElem?_eq_getElem hi2)
    obtain ⟨u', eu, ru⟩ := rv3.get (List.getElem?_eq_getElem hi3)
    simp only [List.getElem?_toArray] at e1 e2 e3
    rw [ex] at e1
    rw [ey] at e2
    rw [eu] at e3
    cases e1
    cases e2
    cases e3
    have new : ObjOk X.prog X.w (upd H T (.tup [xs[i], ys[i], zs[i]])) h' T (.tup [xs[i], ys[i], zs[i]]) := ⟨by show 3 ≤ sizeLine; decide, [x, y, u], .cons rx (.cons ry (.cons ru .nil)), hTt⟩
    have I1 : Inv X pins σ (upd H T (.tup [xs[i], ys[i], zs[i]])) { s with heap := h', toks := tk } :=
      I.turnedNew (t' := tk) (ch := [z, TI, TO, i1, i2, i3]) (fun d o hb q => hk d o (fun q' => hb (by
        have : d = z ∨ d = TO ∨ d = i1 ∨ d = i2 ∨ d = i3 := by simpa using q'
        rcases this with r | r | r | r | r <;> simp [r])) q) hf hT new
    refine ⟨.ref T, _, I1, rfl, ⟨T, _, _, _, rfl, I.hok.fresh hT, rfl, List.getElem?_eq_getElem hi1, List.getElem?_eq_getElem hi2, List.getElem?_eq_getElem hi3⟩, ⟨hz', hTI', hTO', h1', h2', h3'⟩, fun d hd => ?_⟩
    have hlt : d < s.heap.objs.size := by
      obtain ⟨_, _, _, hTO0⟩ := hTO
      rcases mem6 hd with q | q | q | q | q | q
      · rw [q]; exact Heap.lt_size hz
      · rw [q]; exact Heap.lt_size hTI
      · rw [q]; exact Heap.lt_size hTO0
      · rw [q]; obtain ⟨_, e1, _⟩ := h1; exact Heap.lt_size e1
      · rw [q]; obtain ⟨_, e1, _⟩ := h2; exact Heap.lt_size e1
      · rw [q]; obtain ⟨_, e1, _⟩ := h3; exact Heap.lt_size e1
    rw [upd_ne (Nat.ne_of_lt (Nat.lt_of_lt_of_le hlt hT))]
    exact (hf d hd).1
  done := by
    intro X hP hw hK hc i pins s σ H E I hf st hg
    subst hP hw hK
    obtain ⟨hz, hTI, hTO, h1, h2, h3⟩ := st
    obtain ⟨⟨hqx, hqy, hqz⟩, hi⟩ := hg
    obtain ⟨its, rv, p, _⟩ := I.tuple hqx
    obtain ⟨its2, rv2, p2, _⟩ := I.tuple hqy
    obtain ⟨its3, rv3, p3, _⟩ := I.tuple hqz
    have l1 := rv.length
    have l2 := rv2.length
    have l3 := rv3.length
    have hh : X.A.in1.handled = none := I.ok.hd hc
    have hi2 : i = min (min its.toArray.size its2.toArray.size) its3.toArray.size := by simp; omega
    subst hi2
    refine (GoesN.zip3 (elts := elts) (x1 := kk) (pos := tpos) D.s (Draws.tuple (prog := X.prog) (w := X.w) hh i1 a D.a1 its.toArray) (Draws.tuple hh i2 b D.b2 its2.toArray) (Draws.tuple hh i3 c D.c3 its3.toArray)).stops s (fun s1 => Inv X pins σ H s1) E ⟨hz, hTI, hTO, ⟨h1, p⟩, ⟨h2, p2⟩, ⟨h3, p3⟩⟩ fun h' tk hk htk => ?_
    exact I.turnedL (t' := tk) (ch := [z, TI, TO, i1, i2, i3]) (fun d o hb q => hk d o (fun q' => hb (by
        have : d = z ∨ d = TO ∨ d = i1 ∨ d = i2 ∨ d = i3 := by simpa using q'
        rcases this with r | r | r | r | r <;> simp [r])) q) hf
  self := fun A i s Q E st h => wpAny_pyIter_zip st.1 h
theorem nm2 {x p q : Nat} (h1 : x ≠ p) (h2 : x ≠ q) : x ∉ [p, q] := fun h => by
  rcases List.mem_cons.mp h with e | h
  · exact h1 e
  · exact h2 (List.mem_singleton.mp h)
theorem apart3 {n a b c : Nat} (ha : a < n) (hb : b < n) (hc : c < n) : Apart3 a b c (n + 5) (n + 3) (n + 4) n (n + 1) (n + 2) where
  s := ⟨(by omega : n + 3 ≠ n + 5), (by omega : n + 4 ≠ n + 5), (by omega : n + 3 ≠ n + 4), (by omega : n + 3 ≠ n), List.mem_cons_self, nm2 (by omega) (by omega), nm2 (by omega) (by omega),
    (by omega : n + 3 ≠ n + 1), List.mem_cons_self, nm2 (by omega) (by omega), nm2 (by omega) (by omega), (by omega : n + 3 ≠ n + 2), List.mem_cons_self, nm2 (by omega) (by omega), nm2 (by omega) (by omega),
    nm2 (by omega) (by omega), nm2 (by omega) (by omega), nm2 (by omega) (by omega), nm2 (by omega) (by omega), nm2 (by omega) (by omega), nm2 (by omega) (by omega)⟩
  a1 := (by omega : a ≠ n)
  b2 := (by omega : b ≠ n + 1)
  c3 := (by omega : c ≠ n + 2)
def iZip3 (K : PySem.W.Frag) (ta : TA) : TI := fun σ H R => ta σ H fun vs H1 => ∃ a b c xs ys zs, vs = [.ref a, .ref b, .ref c] ∧ SqT K H1 a xs ∧ SqT K H1 b ys ∧ SqT K H1 c zs ∧ R (Itz3 K a b c xs ys zs) H1
theorem pi_zip3 {X : Cx} {e e2 e3 : Expr} {ta : TA} {p pos tpos : Pos} {elts : List Expr} {kk : Nat} (hg : Gl X "zip") (hm : X.mg "zip" = none) (ha : PA X [e, e2, e3] ta)
    (hs : starEach [e, e2, e3] X.env = (false, eval e X.env) :: starEach [e2, e3] X.env := by rfl) (hpl : (backTo pos (starEach [e2, e3] X.env)).any (·.1) = false := by rfl) :
    PI X (.Tuple elts kk tpos) (.Call (.Name "zip" p) [e, e2, e3] [] pos) (iZip3 X.K ta) := by
  refine ⟨fun pins s σ H R I h => ?_⟩
  refine Call_ (ld_blt I hg hm PyProof.Rows.boot_zip (PyProof.Rows.callWith_type1 (thn (ha.run pos pins s σ H _ I h) fun us s1 ⟨vs, H1, I1, r1, q1⟩ => ?_) hs hpl))
  obtain ⟨a, b, c, xs, ys, zs, ex, hqx, hqy, hqz, q⟩ := q1
  subst ex
  cases r1 with
  | cons r rr =>
    cases rr with
    | cons r' rr =>
      cases rr with
      | cons r'' rr =>
        cases rr
        cases r
        cases r'
        cases r''
        obtain ⟨its, rv, p1, _⟩ := I1.tuple hqx
        obtain ⟨its2, rv2, p2, _⟩ := I1.tuple hqy
        obtain ⟨its3, rv3, p3, _⟩ := I1.tuple hqz
        obtain ⟨o1, ho1, _⟩ := id p1
        obtain ⟨o2, ho2, _⟩ := id p2
        obtain ⟨o3, ho3, _⟩ := id p3
        refine zip_begins3 (begins_tuple a its.toArray) (begins_tuple b its2.toArray) (begins_tuple c its3.toArray) p1 p2 p3 fun h' hz hTI hTO g1 g2 g3 hsz hk => wpAny_pyIter_zip hz ?_
        have I2 : Inv X pins σ H1 { s1 with heap := h' } := I1.kept (t' := s1.toks) hk
        refine ⟨s1.heap.objs.size + 5, [s1.heap.objs.size + 5, s1.heap.objs.size + 3, s1.heap.objs.size + 4, s1.heap.objs.size, s1.heap.objs.size + 1, s1.heap.objs.size + 2], _, _, H1, rfl, I2, turn_z3 (apart3 (Heap.lt_size ho1) (Heap.lt_size ho2) (Heap.lt_size ho3)), ⟨hz, hTI, ⟨_, _, _, hTO⟩, ⟨_, g1, rfl, rfl⟩, ⟨_, g2, rfl, rfl⟩, ⟨_, g3, rfl, rfl⟩⟩, fun d hd => ?_, q⟩
        have hle : s1.heap.objs.size ≤ d := by
          rcases mem6 hd with q | q | q | q | q | q
          · rw [q]; exact Nat.le_add_right _ _
          · rw [q]; exact Nat.le_add_right _ _
          · rw [q]; exact Nat.le_add_right _ _
          · rw [q]; exact Nat.le_refl _
          · rw [q]; exact Nat.le_add_right _ _
          · rw [q]; exact Nat.le_add_right _ _
        exact I1.fpOk hle (I1.hok.fresh hle)
/-! ### by data -/
def z3D (p : D × D × D) : D := .tuple [p.1, p.2.1, p.2.2]
def wiZip3 (wa : WA) : WI := fun ss own Q => wa ss own fun cs o1 => match cs with
  | [.fr (.tuple xs), .fr (.tuple ys), .fr (.tuple zs)] => Q ((xs.zip (ys.zip zs)).map z3D) o1
  | _ => False
theorem si_zip3 {K : PySem.W.Frag} {ta : TA} {wa : WA} (h : SA K ta wa) : SI K (iZip3 K ta) (wiZip3 wa) := by
  intro ss own Q hw B θ F H σ g s R k
  refine h ss own _ hw B θ F H σ g s _ fun θ1 own1 F1 H1 vs cs g1 t1 r1 q1 => ?_
  dsimp only at q1
  split at q1
  · rename_i xs ys zs
    obtain ⟨v, u, t, rfl, r, r2, r3⟩ := paired3 r1
    obtain ⟨a, vs, rfl, h1, h2⟩ := cr_tup r
    obtain ⟨b, us, rfl, h3, h4⟩ := cr_tup r2
    obtain ⟨c, ts, rfl, h5, h6⟩ := cr_tup r3
    refine ⟨a, b, c, vs, us, ts, rfl, same_t g1.ex h1, same_t g1.ex h3, same_t g1.ex h5, k _ _ _ _ _ _ g1 t1 ?_ q1⟩
    have l1 := rpAll_len h2
    have l2 := rpAll_len h4
    have l3 := rpAll_len h6
    refine ⟨fun H => SqT K H a vs ∧ SqT K H b us ∧ SqT K H c ts, fun i H v H' => (Itz3 K a b c vs us ts).yld i H v H', ⟨fun i H hi q => ⟨q, ?_⟩, fun H q => ⟨q, ?_⟩, fun i H x H' _ _ y => y⟩, fun H e => ⟨same_t e h1, same_t e h3, same_t e h5⟩, fun i H x H' hi _ y => ?_⟩
    · simp only [List.length_map, List.length_zip] at hi
      omega
    · simp only [List.length_map, List.length_zip]
      omega
    · obtain ⟨T, x, y, z, rfl, hT, rfl, e1, e2, e3⟩ := y
      obtain ⟨d1, f1, q1⟩ := rpAll_getV h2 e1
      obtain ⟨d2, f2, q2⟩ := rpAll_getV h4 e2
      obtain ⟨d3, f3, q3⟩ := rpAll_getV h6 e3
      refine ⟨.tuple [d1, d2, d3], ?_, .inr ⟨T, _, hT, rfl, rfl, fun F' s hF => .tup (SqT.of hF) (.cons (rp_mono s _ _ q1) (.cons (rp_mono s _ _ q2) (.cons (rp_mono s _ _ q3) .nil)))⟩⟩
      rw [List.getElem?_map, List.getElem?_zip_eq_some (z := (d1, d2, d3)) |>.mpr ⟨f1, List.getElem?_zip_eq_some (z := (d2, d3)) |>.mpr ⟨f2, f3⟩⟩]
      rfl
  · exact q1.elim
theorem ai_zip3 {X : Cx} {a b c : Expr} {tA : TA} {wA : WA} {p pos tpos : Pos} {K : PySem.W.Frag} {elts : List Expr} {kk : Nat} (hm : X.mg "zip" = none) (h : AA X [a, b, c] tA wA) (hg : Gl X "zip" := by rfl) (hs : starEach [a, b, c] X.env = (false, eval a X.env) :: starEach [b, c] X.env := by rfl) (hpl : (backTo pos (starEach [b, c] X.env)).any (·.1) = false := by rfl) (hK : X.K = K := by first | rfl | exact kB | exact kB.trans kB) :
    AI X (.Tuple elts kk tpos) (.Call (.Name "zip" p) [a, b, c] [] pos) (iZip3 K tA) (wiZip3 wA) := by
  subst hK
  exact ⟨pi_zip3 hg hm h.p hs hpl, si_zip3 h.s⟩
end Zd

/-! Zx12: list(range(n)). -/
namespace Zd
open PySem PySem.Spec PyProof.Rows L2 RZ RT
def wListRg (we : WE) : WE := fun ss own Q => we ss own fun c o1 => match c with
  | .fr (.int n) => (-16777216 ≤ n ∧ n ≤ 16777216) ∧ Q (.fr (.list (rangeD 0 n.toNat))) o1
  | _ => False
def wListRgH (we : WE) : WE := fun ss own Q => we ss own fun c o1 => match c with
  | .fr (.int n) => (-16777216 ≤ n ∧ n ≤ 16777216) ∧ Q (.hd o1.length) (o1 ++ [.lst ((rangeD 0 n.toNat).map C.fr)])
  | _ => False
section
variable {K : PySem.W.Frag} {te : TE} {we : WE}
theorem rg_all {F : Hp} (n : Int) : RpAll K F (rgV 0 n) (rangeD 0 n.toNat) := by
  unfold rgV rangeD
  rw [Int.sub_zero]
  generalize n.toNat = m
  have : ∀ xs : List Nat, RpAll K F (xs.map fun i => V.int (0 + (i : Nat))) (xs.map fun (i : Nat) => PyData.int (0 + (i : Int))) := fun xs => by
    induction xs with
    | nil => exact .nil
    | cons x xs ih => exact .cons (.int _) ih
  exact this _
theorem rg_ok {n : Int} (h : -16777216 ≤ n ∧ n ≤ 16777216) : RgOk 0 n := ⟨by omega, by omega, by omega, by omega, by omega⟩
theorem se_listRg (h : SE K te we) : SE K (tLstRg (tRg1 te)) (wListRg we) := by
  intro ss own Q hw B θ F H σ g s Qv k
  refine h ss own _ hw B θ F H σ g s _ fun θ1 own1 F1 H1 v c g1 t1 r q => ?_
  dsimp only at q
  split at q
  · rename_i n
    cases cr_int r
    refine ⟨n, rfl, rg_ok q.1, fun p hp => ?_⟩
    exact (k.up t1).new g1 hp q.2 fun F' sF e => .lst e (rg_all n)
  · exact q.elim
theorem se_listRgH (h : SE K te we) : SE K (tLstRg (tRg1 te)) (wListRgH we) := by
  intro ss own Q hw B θ F H σ g s Qv k
  refine h ss own _ hw B θ F H σ g s _ fun θ1 own1 F1 H1 v c g1 t1 r q => ?_
  dsimp only at q
  split at q
  · rename_i n
    cases cr_int r
    refine ⟨n, rfl, rg_ok q.1, fun p hp => ?_⟩
    exact (k.up t1).newH g1 hp (paired_rpAll (rg_all n)) q.2
  · exact q.elim
end
section
variable {X : Cx} {a : Expr} {ta : TE} {wa : WE} {p p2 pos pos2 : Pos}
theorem ae_listRg (hm : X.mg "list" = none) (hm2 : X.mg "range" = none) (ha : AE X a ta wa) (hc : X.calm = true := by rfl) (hg : Gl X "list" := by rfl) (hg2 : Gl X "range" := by rfl) (na : starEach [.Call (.Name "range" p2) [a] [] pos2] X.env = (false, eval (.Call (.Name "range" p2) [a] [] pos2) X.env) :: starEach [] X.env := by rfl) (nb : starEach [a] X.env = (false, eval a X.env) :: starEach [] X.env := by rfl) :
    AE X (.Call (.Name "list" p) [.Call (.Name "range" p2) [a] [] pos2] [] pos) (tLstRg (tRg1 ta)) (wListRg wa) := ⟨pe_listRg hc hg hm (prg_1 hg2 hm2 ha.p nb) na, se_listRg ha.s⟩
theorem ae_listRgH (hm : X.mg "list" = none) (hm2 : X.mg "range" = none) (ha : AE X a ta wa) (hc : X.calm = true := by rfl) (hg : Gl X "list" := by rfl) (hg2 : Gl X "range" := by rfl) (na : starEach [.Call (.Name "range" p2) [a] [] pos2] X.env = (false, eval (.Call (.Name "range" p2) [a] [] pos2) X.env) :: starEach [] X.env := by rfl) (nb : starEach [a] X.env = (false, eval a X.env) :: starEach [] X.env := by rfl) :
    AE X (.Call (.Name "list" p) [.Call (.Name "range" p2) [a] [] pos2] [] pos) (tLstRg (tRg1 ta)) (wListRgH wa) := ⟨pe_listRg hc hg hm (prg_1 hg2 hm2 ha.p nb) na, se_listRgH ha.s⟩
end
/-! sorted(ints) -/
def fSortedI : FA := fun cs own Q => match cs with
  | [.fr (.list ds)] => optP (intsD ds) fun ns => ns.length ≤ SZ ∧ ∀ ms : List Int, ms.Perm ns → ms.Pairwise (· ≤ ·) → Q (.fr (.list (ms.map .int))) own
  | _ => False
theorem rp_ints12 {K : PySem.W.Frag} {F : Hp} : ∀ ns : List Int, RpAll K F (ns.map V.int) (ns.map PyData.int)
  | [] => .nil
  | _ :: ns => .cons (.int _) (rp_ints12 ns)
theorem sn_sortedI {K : PySem.W.Frag} : SN K (rSortedI K) fSortedI := by
  intro cs own Q hq B θ F H vs gg rs Qv k
  unfold fSortedI at hq
  split at hq
  · rename_i ds
    obtain ⟨v, rfl, r⟩ := paired1 rs
    obtain ⟨a, xs, rfl, h1, h2⟩ := cr_lst r
    obtain ⟨ns, e, hl, hq⟩ := of_mt hq
    cases of_ints (θ := θ) e h2
    exact ⟨a, ns, rfl, SqL.of (gg.ex _ _ h1), fun ns' p hp1 hs hp => k.new (d := .list (ns'.map .int)) gg hp (hq ns' hp1 hs) fun F' e hF => .lst hF (rp_ints12 ns')⟩
  · exact hq.elim
theorem br_sortedI {X : Cx} {K : PySem.W.Frag} (hK : X.K = K := by first | rfl | exact kB | exact kB.trans kB) : BR X (.builtin "sorted") (rSortedI K) fSortedI := by
  subst hK
  exact ⟨cr_sortedI, sn_sortedI⟩
end Zd

/-! Zx13: instances: a class of the text, its fields, its methods. -/
namespace Zd
open PySem PySem.Spec PyProof.Rows L2 RZ RT
/-! ### fields -/
def fldC : List (Str × C) → Str → Option C
  | [], _ => none
  | (g, x) :: r, f => if g = f then some x else fldC r f
def putFC (f : Str) (c : C) : List (Str × C) → List (Str × C)
  | [] => [(f, c)]
  | (g, x) :: r => if g = f then (g, c) :: r else (g, x) :: putFC f c r
section
variable {K : PySem.W.Frag} {θ : List Addr} {F H : Hp}
abbrev PFs (K : PySem.W.Frag) (θ : List Addr) (F : Hp) : List (Str × V) → List (Str × C) → Prop := Paired fun (p : Str × V) (q : Str × C) => p.1 = q.1 ∧ Cr K θ F p.2 q.2
theorem lookup_cons' (g f : Str) (x : V) (r : List (Str × V)) : List.lookup f ((g, x) :: r) = if g = f then some x else List.lookup f r := by
  rw [List.lookup_cons]
  by_cases h : g = f
  · subst h
    simp
  · rw [if_neg h]
    have : (f == g) = false := by simpa using fun e => h e.symm
    rw [this]
theorem pfs_some {f : Str} {c : C} : ∀ {vs : List (Str × V)} {fs : List (Str × C)}, PFs K θ F vs fs → fldC fs f = some c → ∃ v, vs.lookup f = some v ∧ Cr K θ F v c
  | _, _, .nil, e => by cases e
  | (g, x) :: vs, (g', y) :: fs, .cons r t, e => by
    have eg : g = g' := r.1
    subst eg
    rw [lookup_cons']
    rw [fldC] at e
    by_cases h : g = f
    · rw [if_pos h] at e ⊢
      cases e
      exact ⟨x, rfl, r.2⟩
    · rw [if_neg h] at e ⊢
      exact pfs_some t e
theorem pfs_none {f : Str} : ∀ {vs : List (Str × V)} {fs : List (Str × C)}, PFs K θ F vs fs → fldC fs f = none → vs.lookup f = none
  | _, _, .nil, e => rfl
  | (g, x) :: vs, (g', y) :: fs, .cons r t, e => by
    have eg : g = g' := r.1
    subst eg
    rw [lookup_cons']
    rw [fldC] at e
    by_cases h : g = f
    · rw [if_pos h] at e
      cases e
    · rw [if_neg h] at e ⊢
      exact pfs_none t e
theorem pfs_put {f : Str} {v : V} {c : C} (rc : Cr K θ F v c) : ∀ {vs : List (Str × V)} {fs : List (Str × C)}, PFs K θ F vs fs → PFs K θ F (putF f v vs) (putFC f c fs)
  | _, _, .nil => .cons ⟨rfl, rc⟩ .nil
  | (g, x) :: vs, (g', y) :: fs, .cons r t => by
    have eg : g = g' := r.1
    subst eg
    rw [putF, putFC]
    by_cases h : g = f
    · rw [if_pos h, if_pos h]
      exact .cons ⟨rfl, rc⟩ t
    · rw [if_neg h, if_neg h]
      exact .cons r (pfs_put rc t)
end
/-- what of the text the class x must have -/
def ClsOk (K : PySem.W.Frag) (x : Str) : Prop := Cls K (He.ga K x)
def NoF (K : PySem.W.Frag) (x f : Str) : Prop := NoAttr K (He.ga K x) f
/-! ### o.f -/
def wFld (x f : Str) (wo : WE) : WE := fun ss own Q => wo ss own fun c o1 => match c with
  | .hd h => (match o1[h]? with
    | some (.ins y fs) => y = x ∧ optP (fldC fs f) fun d => Q (res o1 d) o1
    | _ => False)
  | _ => False
section
variable {K : PySem.W.Frag} {to tv : TE} {wo wv : WE} {x f : Str}
theorem se_fld (hc : ClsOk K x) (hn : NoF K x f) (ho : SE K to wo) : SE K (tFld K to f) (wFld x f wo) := by
  intro ss own Q hw B θ F H σ g s Qv k
  refine ho ss own _ hw B θ F H σ g s _ fun θ1 own1 F1 H1 v c g1 t1 r q => ?_
  dsimp only at q
  split at q
  · rename_i h
    split at q
    · rename_i y fs e
      obtain ⟨rfl, q⟩ := q
      obtain ⟨a, ha, rfl⟩ := r
      obtain ⟨hn0, dx, vs, hv, rv⟩ := g1.mo h a _ ha e
      obtain ⟨d, ed, q⟩ := of_mt q
      obtain ⟨u, eu, ru⟩ := pfs_some rv ed
      exact ⟨a, He.ga K y, dx, vs, u, rfl, hv, hc, hn, eu, (k.up t1).here g1 (ru.res g1) q⟩
    · exact q.elim
  · exact q.elim
/-! ### o.f = value -/
def wSFld (x f : Str) (wo wv : WE) : WS := fun E ss own => wv ss own fun v o1 => wo ss o1 fun c o2 => match c with
  | .hd h => (match o2[h]? with
    | some (.ins y fs) => y = x ∧ fs.length < 1000 ∧ E.nx ss (o2.set h (.ins x (putFC f v fs)))
    | _ => False)
  | _ => False
theorem ss_fld (hc : ClsOk K x) (hn : NoF K x f) (ho : SE K to wo) (hv : SE K tv wv) : SS K (sFld K to tv f) (wSFld x f wo wv) := by
  intro E ss own hw B θ F H σ g s D k
  refine hv ss own _ hw B θ F H σ g s _ fun θ1 own1 F1 H1 v c g1 t1 r1 q1 => ?_
  refine ho ss own1 _ q1 B θ1 F1 H1 σ g1 (s.up t1) _ fun θ2 own2 F2 H2 o d g2 t2 r2 q => ?_
  dsimp only at q
  split at q
  · rename_i h
    split at q
    · rename_i y fs e
      obtain ⟨rfl, hl, q⟩ := q
      obtain ⟨a, ha, rfl⟩ := r2
      obtain ⟨hn0, dx, vs, hv0, rv⟩ := g2.mo h a _ ha e
      have rv2 := pfs_put (f := f) (r1.up t2) rv
      obtain ⟨g3, t3⟩ := g2.write (o := .ins (He.ga K y) dx (putF f v vs)) (m := .ins y (putFC f c fs)) ha hn0 ⟨hn0, dx, _, upd_same, rv2⟩
      refine ⟨a, He.ga K y, dx, vs, rfl, hv0, hc, hn, by rw [paired_len rv]; exact hl, ?_⟩
      exact k.nx _ _ _ _ _ _ g3 ((t1.trans t2).trans t3) (s.up ((t1.trans t2).trans t3)) q
    · exact q.elim
  · exact q.elim
end
end Zd

/-! Zx14: instances made, methods called. -/
namespace Zd
open PySem PySem.Spec PyProof.Rows L2 RZ RT
section
variable {K : PySem.W.Frag} {B : Addr → Prop} {θ : List Addr} {own : Ts} {F H : Hp}
/-- something new that is nobody's -/
theorem Ga.junk (g : Ga K B θ own F H) {p : Addr} {o : HO} (h : H p = none) : Ga K B θ own F (upd H p o) ∧ Tr B θ F H θ F (upd H p o) := by
  obtain ⟨h1, h2, h3⟩ := g.fresh h
  have t : Tr B θ F H θ F (upd H p o) := ⟨⟨[], (List.append_nil _).symm⟩, Same.refl _, fun b hb => upd_ne fun z => h3 (z ▸ hb)⟩
  refine ⟨⟨g.len, g.nd, fun b u e => ?_, fun b hb => ?_, fun i a m e1 e2 => ?_, g.cl⟩, t⟩
  · rw [upd_ne (ne_of_none e h2)]
    exact g.ex b u e
  · have z : b ≠ p := fun z => h3 (z ▸ hb)
    obtain ⟨q1, q2, q3⟩ := g.out b hb
    exact ⟨q1, by rw [upd_ne z]; exact q2, q3⟩
  · have z : a ≠ p := fun z => h1 (z ▸ List.mem_of_getElem? e1)
    exact (g.mo i a m e1 e2).up t fun hn => ⟨hn, upd_ne z⟩
end
def wMake (n : Nat) (x : Str) (f : FA) (wa : WA) : WE := fun ss own Q => wa ss own fun cs o1 => cs.length + 1 = n ∧ Cal f (.hd o1.length :: cs) (o1 ++ [.ins x []]) fun c o2 => c = .fr .none ∧ Q (.hd o1.length) o2
theorem se_make {K : PySem.W.Frag} {n : Nat} {x : Str} {f : FA} {ta : TA} {wa : WA} (ha : SA K ta wa) : SE K (tMake (He.ga K x) (spA K n f) [] E0 ta) (wMake n x f wa) := by
  intro ss own Q hw B θ F H σ g s Qv k
  refine ha ss own _ hw B θ F H σ g s _ fun θ1 own1 F1 H1 vs cs g1 t1 r1 q1 => ?_
  intro p dx hp hdx hne
  obtain ⟨g2, t2⟩ := g1.junk (o := .own p) hdx
  have hp2 : (upd H1 dx (.own p)) p = none := by rw [upd_ne hne.symm]; exact hp
  obtain ⟨g3, t3⟩ := g2.newH (o := .ins (He.ga K x) dx []) (m := .ins x []) hp2 (fun hn => ⟨hn, dx, [], upd_same, .nil⟩) (fun d z => by cases z)
  have hidx : (θ1 ++ [p])[own1.length]? = some p := by
    rw [← g1.len, List.getElem?_append_right (Nat.le_refl _), Nat.sub_self]
    rfl
  rw [List.append_nil]
  refine ⟨B, θ1 ++ [p], own1 ++ [MO.ins x []], F1, .hd own1.length :: cs, (fun c o2 => c = .fr .none ∧ Q (.hd own1.length) o2), g3, .cons ⟨p, hidx, rfl⟩ (paired_mono (fun _ _ z => z.up (t2.trans t3)) r1), q1.1, q1.2, ?_⟩
  intro θ' own' F' H' v c g' t' r' q'
  obtain ⟨rfl, q'⟩ := q'
  cases r'
  obtain ⟨rr, er⟩ := t'.th
  refine ⟨rfl, k θ' own' F' H' (.ref p) (.hd own1.length) g' (t1.trans ((t2.trans t3).trans t')) ⟨p, ?_, rfl⟩ q'⟩
  rw [er, List.getElem?_append_left (by rw [List.length_append, g1.len, List.length_singleton]; omega)]
  exact hidx
def InsAt (own : Ts) (x m : Str) : C → Prop
  | .hd h => (match own[h]? with
    | some (.ins y fs) => y = x ∧ fldC fs m = none
    | _ => False)
  | _ => False
def wMeth (n : Nat) (x m : Str) (f : FA) (wo : WE) (wa : WA) : WE := fun ss own Q => wo ss own fun c o1 => InsAt o1 x m c ∧ wa ss o1 fun cs o2 => cs.length + 1 = n ∧ Cal f (c :: cs) o2 Q
theorem se_meth {K : PySem.W.Frag} {n : Nat} {x m : Str} {f : FA} {to : TE} {wo : WE} {ta : TA} {wa : WA} (ho : SE K to wo) (ha : SA K ta wa) : SE K (tMeth (He.ga K x) m (spA K n f) [] E0 to ta) (wMeth n x m f wo wa) := by
  intro ss own Q hw B θ F H σ g s Qv k
  refine ho ss own _ hw B θ F H σ g s _ fun θ1 own1 F1 H1 v c g1 t1 r1 q1 => ?_
  obtain ⟨q0, q1⟩ := q1
  unfold InsAt at q0
  split at q0
  · rename_i h
    split at q0
    · rename_i y fs e
      obtain ⟨rfl, en⟩ := q0
      have r1' := r1
      obtain ⟨a, hh, rfl⟩ := r1
      obtain ⟨hn0, dx, vs0, hv, rv⟩ := g1.mo h a _ hh e
      refine ⟨a, dx, vs0, rfl, hv, pfs_none rv en, ?_⟩
      refine ha ss own1 _ q1 B θ1 F1 H1 σ g1 (s.up t1) _ fun θ2 own2 F2 H2 vs cs g2 t2 r2 q2 => ?_
      rw [List.append_nil]
      exact ⟨B, θ2, own2, F2, .hd h :: cs, Q, g2, .cons (r1'.up t2) r2, q2.1, q2.2, k.up (t1.trans t2)⟩
    · exact q0.elim
  · exact q0.elim
/-! ### promises of methods -/
def Dm (P : Program) (w : World) (K : PySem.W.Frag) (mg : Str → Option Value) (base : Heap) (k : Nat) (x m : Str) (ps : List Str) (f : FA) : Prop :=
  ∃ fd : FuncData, FnOk P w K mg base CX0 k (He.ma K (He.ga K x) m) fd ps (spA K ps.length f) ∧ Binds K fd ps []
theorem dm_of {P : Program} {w : World} {K : PySem.W.Frag} {mg : Str → Option Value} {base : Heap} {k : Nat} {x m q : Str} {st : Stmt} {N ps : List Str} {f : FA} {t : TS} {wv : WS} (F : ∃ fd, FunD K m q (defArgs st) (defBody st) (defScope st) [] [] (He.ma K (He.ga K x) m) fd) (S : FnScope N ps (defScope st))
    (hbind : ∀ (kV doc pm : Value) (an : Option Addr) (cdv ct : Value) (us : List Value), us.length = ps.length → bindArgs (PySem.W.fnOf m q (defArgs st) (defBody st) (defScope st) .none kV doc pm an cdv ct) ⟨us, []⟩ = pure (ps.zip us))
    (hb : ∀ (cdv : Value) (A : Around) (outer : List Env) (s : Shared) (H : Hp) (E : XK), Room k (A.deeper (envOfC q (defScope st) s.heap.objs.size (He.ma K (He.ga K x) m) cdv)) → ASs (cxOf CX0 P w K mg base N q (defScope st) (He.ma K (He.ga K x) m) cdv A outer s H E).nox (defBody st) t wv)
    (hw : ∀ cs own Q, Cl own → cs.length = ps.length → f cs own Q → wv (enF own.length Q) (startS N cs) own) : Dm P w K mg base (k + 1) x m ps f := by
  obtain ⟨fd, F⟩ := F
  refine ⟨fd, F.ok S (fun vs H Q E h => ?_) (fun cdv A outer s H vs Q E hr h => ⟨t, (hb cdv A outer s H E hr).p.nox, ?_⟩), F.bindsN hbind⟩
  · obtain ⟨B, θ, own, F, cs, Q0, _, r, hl, _⟩ := h
    rw [paired_len r, hl]
  · exact body_ok (hb cdv A outer s H E hr).s hw h
section
variable {X : Cx} {K : PySem.W.Frag} {e o : Expr} {es : List Expr} {to tv : TE} {wo wv : WE} {tA : TA} {wA : WA} {p pos apos pos' : Pos} {k j n : Nat} {x m f : Str} {ps : List Str} {fa : FA}
theorem ae_fld (hc : ClsOk K x) (hn : NoF K x f) (ho : AE X o to wo) (hb : attributeBase o f X.env (eval o X.env) = eval o X.env := by rfl) (hK : X.K = K := by first | rfl | exact kB | exact kB.trans kB) : AE X (.Attribute o f pos) (tFld K to f) (wFld x f wo) := by
  subst hK
  exact ⟨pe_fld ho.p hb, se_fld hc hn ho.s⟩
theorem as_fld (hc : ClsOk K x) (hn : NoF K x f) (ho : AE X o to wo) (hv : AE X e tv wv) (hs : swapsWith e (some (.Attribute o f pos')) pos.line X.env = pure false := by rfl) (hK : X.K = K := by first | rfl | exact kB | exact kB.trans kB) : AS X (.Assign [.Attribute o f pos'] e pos) (sFld K to tv f) (wSFld x f wo wv) := by
  subst hK
  exact ⟨ps_fld ho.p hv.p hs, ss_fld hc hn ho.s hv.s⟩
theorem ae_make (h : Dm X.prog X.w K X.mg X.base k x "__init__" ps fa) (M : Mk K (He.ga K x) (He.ma K (He.ga K x) "__init__")) (hm : X.mg x = some (.ref (He.ga K x))) (hr : Room j X.A) (ha : AA X (e :: es) tA wA) (hk : k + 1 ≤ j := by decide) (hg : Gl X x := by rfl) (hdb : (x == ("__debug__" : Str)) = false := by decide)
    (he : starEach (e :: es) X.env = (false, eval e X.env) :: starEach es X.env := by rfl) (hpl : (backTo pos (starEach es X.env)).any (·.1) = false := by rfl) (hK : X.K = K := by first | rfl | exact kB | exact kB.trans kB) (hn : ps.length = n := by rfl) : AE X (.Call (.Name x p) (e :: es) [] pos) (tMake (He.ga K x) (spA K n fa) [] E0 tA) (wMake n x fa wA) := by
  subst hK hn
  obtain ⟨fd, F, hb⟩ := h
  exact ⟨pe_make M F (hr.mono hk) hg hm hb .nil pass0 ha.p hdb he hpl, se_make ha.s⟩
theorem ae_meth {pl : Sem Bool} (hc : ClsOk K x) (hm : Meth K (He.ga K x) m (He.ma K (He.ga K x) m)) (h : Dm X.prog X.w K X.mg X.base k x m ps fa) (hr : Room j X.A) (ho : AE X o to wo) (ha : AA X (e :: es) tA wA) (hk : k ≤ j := by decide)
    (hst : starEach (e :: es) X.env = (false, eval e X.env) :: starEach es X.env := by rfl) (hpl : (backTo pos (starEach es X.env)).any (·.1) = false := by rfl)
    (ht : eval (.Call (.Attribute o m apos) (e :: es) [] pos) X.env = (do
      let ov ← eval o X.env
      standAt apos.atName
      let (f, first) ← holding [ov] (getMethod ov m pl)
      callWith pos f first (backTo pos (starEach (e :: es) X.env)) (backToKw pos (keywordEach [] X.env))) := by rfl) (hK : X.K = K := by first | rfl | exact kB | exact kB.trans kB) (hn : ps.length = n := by rfl) :
    AE X (.Call (.Attribute o m apos) (e :: es) [] pos) (tMeth (He.ga K x) m (spA K n fa) [] E0 to tA) (wMeth n x m fa wo wA) := by
  subst hK hn
  obtain ⟨fd, F, hb⟩ := h
  exact ⟨pe_meth ho.p hc hm F (hr.mono hk) hb .nil pass0 ha.p hst hpl ht, se_meth ho.s ha.s⟩
theorem ae_meth0 {pl : Sem Bool} (hc : ClsOk K x) (hm : Meth K (He.ga K x) m (He.ma K (He.ga K x) m)) (h : Dm X.prog X.w K X.mg X.base k x m ps fa) (hr : Room j X.A) (ho : AE X o to wo) (hk : k ≤ j := by decide)
    (ht : eval (.Call (.Attribute o m apos) [] [] pos) X.env = (do
      let ov ← eval o X.env
      standAt apos.atName
      let (f, first) ← holding [ov] (getMethod ov m pl)
      callWith pos f first (backTo pos (starEach [] X.env)) (backToKw pos (keywordEach [] X.env))) := by rfl) (hK : X.K = K := by first | rfl | exact kB | exact kB.trans kB) (hn : ps.length = n := by rfl) :
    AE X (.Call (.Attribute o m apos) [] [] pos) (tMeth (He.ga K x) m (spA K n fa) [] E0 to tNil) (wMeth n x m fa wo wNil) := by
  subst hK hn
  obtain ⟨fd, F, hb⟩ := h
  exact ⟨pe_meth0 ho.p hc hm F (hr.mono hk) hb .nil pass0 ht, se_meth ho.s sa_nil⟩
end
def clsAt (s : Stmt) (i : Nat) : Stmt := match s with
  | .ClassDef _ _ _ body _ _ _ _ _ _ _ => body.getD i (.Pass ⟨0, 0, 0, 0⟩)
  | _ => .Pass ⟨0, 0, 0, 0⟩
end Zd

/-! Zx15: the least of a list of alike data. -/
namespace Zd
open PySem PySem.Spec PyProof.Rows L2 RZ RT
def rMinT (K : PySem.W.Frag) : List V → Hp → VK → Prop := fun vs H Q => ∃ (a : Addr) (xs : List V) (d : PyData) (ds : List PyData), vs = [V.ref a] ∧ SqL K H a xs ∧ DpAll K H xs (d :: ds) ∧ PySem.W.AlikeAll (d :: ds) ∧ PyData.depthAll (d :: ds) < 60 ∧
  ∀ (i : Nat) v, xs[i]? = some v → (d :: ds)[i]? = some (PySem.W.minD d ds) → Q v H
theorem cr_minT {X : Cx} (hc : X.calm = true) (hu : X.A.units + 64 < cLine) : CallR X (.builtin "min") (rMinT X.K) := by
  intro pins s σ H vs us Q I r h
  obtain ⟨a, xs, d, ds, rfl, hs, ha, hal, hd, q⟩ := h
  obtain ⟨its, rv, hl, _⟩ := I.list hs
  rw [Vals.ref1 r]
  obtain ⟨as, hr⟩ := Dp.readsAll I (d :: ds) _ its ha rv
  refine PySem.W.min_list_data (I.ok.hd hc) hl.isList hr hal (by omega) fun i v h' tk bs hv hrd hk => ?_
  obtain ⟨cs, h1, h2, _⟩ := PySem.W.readsAll_atA (vs := its.toArray) hr i v hv
  obtain ⟨e, _⟩ := Reads.unique (PySem.W.reads_keeps hk h1) _ _ hrd
  simp only [List.getElem?_toArray] at hv
  have hl2 : i < xs.length := by
    rw [rv.length]
    exact (List.getElem?_eq_some_iff.mp hv).1
  obtain ⟨x, ex, rx⟩ := rv.get (List.getElem?_eq_getElem hl2)
  rw [hv] at ex
  cases ex
  exact ⟨_, H, I.kept hk, rx, q i _ (List.getElem?_eq_getElem hl2) (by
    rw [← e, List.getD_eq_getElem?_getD, List.getElem?_eq_getElem h2]
    rfl)⟩
def fMinT : FA := fun cs own Q => match cs with
  | [.fr (.list (d :: ds))] => PySem.W.AlikeAll (d :: ds) ∧ PyData.depthAll (d :: ds) < 60 ∧ Q (.fr (PySem.W.minD d ds)) own
  | _ => False
theorem rpAll_at2 {K : PySem.W.Frag} {H : Hp} : ∀ {vs : List V} {ds : List D} {i : Nat} {v : V} {d : D}, RpAll K H vs ds → vs[i]? = some v → ds[i]? = some d → Rp K H v d
  | _, _, 0, _, _, .cons h _, e1, e2 => by
    cases e1
    cases e2
    exact h
  | _, _, i + 1, _, _, .cons _ h, e1, e2 => rpAll_at2 h e1 e2
theorem sn_minT {K : PySem.W.Frag} : SN K (rMinT K) fMinT := by
  intro cs own Q hq B θ F H vs gg rs Qv k
  unfold fMinT at hq
  split at hq
  · rename_i d ds
    obtain ⟨v, rfl, r⟩ := paired1 rs
    obtain ⟨a, xs, rfl, h1, h2⟩ := cr_lst r
    obtain ⟨q1, q2, q3⟩ := hq
    have h2' : RpAll K F xs (d :: ds) := h2
    refine ⟨a, xs, d, ds, rfl, SqL.of (gg.ex _ _ h1), RpAll.dp _ _ (rpAll_mono gg.ex _ _ h2'), q1, q2, fun i v e1 e2 => ?_⟩
    exact k.here (c := .fr (PySem.W.minD d ds)) gg (rpAll_at2 h2' e1 e2) q3
  · exact hq.elim
theorem br_minT {X : Cx} {K : PySem.W.Frag} {k : Nat} (hr : Room k X.A) (hc : X.calm = true := by rfl) (hK : X.K = K := by first | rfl | exact kB | exact kB.trans kB) : BR X (.builtin "min") (rMinT K) fMinT := by
  subst hK
  exact ⟨cr_minT hc hr.units, sn_minT⟩
end Zd

/-! Zx16: texts: sep.join(xs), str of an int. -/
namespace Zd
open PySem PySem.Spec PyProof.Rows L2 RZ RT
def iS (i : Int) : Str := toString i
def fStrI : FA := fun cs own Q => match cs with
  | [.fr (.int i)] => i.natAbs.log2 < 1920 ∧ Q (.fr (.str (iS i))) own
  | _ => False
theorem sn_strI {K : PySem.W.Frag} : SN K (fun xs H Q => ∃ i, xs = [V.int i] ∧ i.natAbs.log2 < 1920 ∧ Q (.str (toString i)) H) fStrI := by
  intro cs own Q hq B θ F H vs gg rs Qv k
  unfold fStrI at hq
  split at hq
  · rename_i i
    obtain ⟨v, rfl, r⟩ := paired1 rs
    cases cr_int r
    exact ⟨i, rfl, hq.1, k.here (c := .fr (.str (iS i))) gg (.str _) hq.2⟩
  · exact hq.elim
theorem br_strI {X : Cx} : BR X (.type "str") (fun xs H Q => ∃ i, xs = [.int i] ∧ i.natAbs.log2 < 1920 ∧ Q (.str (toString i)) H) fStrI := ⟨call_str_int, sn_strI⟩
def fJoin : FM := fun c cs own Q => match c, cs with
  | .fr (.str a), [d] => optP ((seqD d).bind strsD) fun ys => (ys.map (·.length)).sum + ys.length * a.length ≤ SZ ∧ Q (.fr (.str (Txt.join a ys))) own
  | _, _ => False
theorem seq_strs2 {K : PySem.W.Frag} {B : Addr → Prop} {θ : List Addr} {own : Ts} {F H : Hp} {v : V} {c : C} {ns : List Str} (gg : Ga K B θ own F H) (r : Cr K θ F v c) (e : (seqD c).bind strsD = some ns) : ∃ a, v = .ref a ∧ (SqL K H a (ns.map V.str) ∨ SqT K H a (ns.map V.str)) := by
  unfold seqD at e
  split at e
  · obtain ⟨a, xs, rfl, h1, h2⟩ := cr_lst r
    cases of_strs (K := K) (F := F) e h2
    exact ⟨a, rfl, .inl (SqL.of (gg.ex _ _ h1))⟩
  · obtain ⟨a, xs, rfl, h1, h2⟩ := cr_tup r
    cases of_strs (K := K) (F := F) e h2
    exact ⟨a, rfl, .inr (same_t gg.ex h1)⟩
  · cases e
theorem sm_join {K : PySem.W.Frag} : SM K (fun x xs H Q => ∃ a p, ∃ ys : List Str, x = .str a ∧ xs = [.ref p] ∧ (SqL K H p (ys.map V.str) ∨ SqT K H p (ys.map V.str)) ∧
    (ys.map (·.length)).sum + ys.length * a.length ≤ 16777216 ∧ Q (.str (Txt.join a ys)) H) fJoin := by
  intro c cs own Q hq B θ F H v vs g r rs Qv k
  unfold fJoin at hq
  split at hq
  · rename_i a d
    cases r
    obtain ⟨u, rfl, r1⟩ := paired1 rs
    obtain ⟨ys, e, q1, q2⟩ := of_mt hq
    obtain ⟨p, rfl, h⟩ := seq_strs2 g r1 e
    exact ⟨a, p, ys, rfl, rfl, h, q1, k.here (c := .fr (.str (Txt.join a ys))) g (.str _) q2⟩
  · exact hq.elim
/-- a list in hand or a frozen one, and a list -/
def fAddM : F2 := fun c d own Q => match c with
  | .hd h => fAddH (.hd h) d own Q
  | c => fAdd c d own Q
theorem s2_addM {K : PySem.W.Frag} : S2 K (rAddAll K) fAddM := by
  intro c d own Q hq
  cases c with
  | hd h => exact s2_addH (.hd h) d own Q hq
  | fr x => exact s2_add (.fr x) d own Q hq
  | sc ns => exact s2_add (.sc ns) d own Q hq
  | fn x => exact s2_add (.fn x) d own Q hq
theorem ae_addM {X : Cx} {a b : Expr} {ta tb : TE} {wa wb : WE} {pos : Pos} {K : PySem.W.Frag} (ha : AE X a ta wa) (hb : AE X b tb wb) (hK : X.K = K := by first | rfl | exact kB | exact kB.trans kB) : AE X (.BinOp a .Add b pos) (tOp (rAddAll K) ta tb) (wOp fAddM wa wb) := by
  subst hK
  exact ⟨pe_op op_addAll ha.p hb.p, se_op ha.s hb.s s2_addM⟩
section
variable {X : Cx} {o e : Expr} {es : List Expr} {to : TE} {wo : WE} {tA : TA} {wA : WA} {apos cpos : Pos}
theorem ae_join {K : PySem.W.Frag} (ho : AE X o to wo) (ha : AA X (e :: es) tA wA)
    (hbase : attributeBase o "join" X.env (eval o X.env) = eval o X.env := by rfl)
    (hfew : ((backTo cpos (starEach (e :: es) X.env)).all (fun x => !x.1) && (backToKw cpos (keywordEach [] X.env)).all (fun x => x.1.isSome)
      && decide ((e :: es).length + ([] : List Keyword).length + (if ([] : List Keyword).isEmpty then 0 else 1) < 30)) = true := by rfl)
    (hline : (apos.endLine == cpos.line) = true := by rfl) (hs : starEach (e :: es) X.env = (false, eval e X.env) :: starEach es X.env := by rfl) (hplain : (backTo cpos (starEach es X.env)).any (·.1) = false := by rfl) (hK : X.K = K := by first | rfl | exact kB | exact kB.trans kB) :
    AE X (.Call (.Attribute o "join" apos) (e :: es) [] cpos) (tBM K "str" (fun x xs H Q => ∃ a p, ∃ ys : List Str, x = .str a ∧ xs = [.ref p] ∧ (SqL K H p (ys.map V.str) ∨ SqT K H p (ys.map V.str)) ∧ (ys.map (·.length)).sum + ys.length * a.length ≤ 16777216 ∧ Q (.str (Txt.join a ys)) H) to tA) (wBS fJoin wo wA) := by
  subst hK
  exact ⟨pe_bm PySem.F.plainAttrs_str PySem.F.slot_str_join PySem.F.type_str_join mt_join ho.p ha.p hbase hfew hline hs hplain, se_bs ho.s ha.s sm_join⟩
end
end Zd

/-! Zx17: defs as values, called; a chain of three comparisons as a test. -/
namespace Zd
open PySem PySem.Spec PyProof.Rows L2 RZ RT
def wFn (x : Str) : WE := fun _ own Q => Q (.fn x) own
theorem se_fn {K : PySem.W.Frag} {x : Str} : SE K (tC (.ref (He.ga K x))) (wFn x) := fun ss own Q h B θ F H σ g s Qv k => k.here (c := .fn x) g rfl h
/-- a def by its name -/
theorem ae_fn {X : Cx} {K : PySem.W.Frag} {x : Str} {pos : Pos} (hm : X.mg x = some (.ref (He.ga K x))) (hg : Gl X x := by rfl) (hdb : (x == ("__debug__" : Str)) = false := by decide) (hK : X.K = K := by first | rfl | exact kB | exact kB.trans kB) : AE X (.Name x pos) (tC (.ref (He.ga K x))) (wFn x) := by
  subst hK
  exact ⟨pe_glob hg hm rfl hdb, se_fn⟩
/-- e(..), e one of the defs of a table -/
def tCallF (K : PySem.W.Frag) (n : Nat) (L : List (Str × FA)) (te : TE) (tA : TA) : TE := fun σ H Q => te σ H fun y H1 => ∃ x f, (x, f) ∈ L ∧ y = .ref (He.ga K x) ∧ tA σ H1 fun vs H2 => spA K n f vs H2 Q E0
def tabF : List (Str × FA) → Str → Option FA
  | [], _ => none
  | (y, f) :: r, x => if y = x then some f else tabF r x
theorem tab_mem {x : Str} {f : FA} : ∀ {L : List (Str × FA)}, tabF L x = some f → (x, f) ∈ L
  | [], h => by cases h
  | (y, g) :: r, h => by
    unfold tabF at h
    by_cases e : y = x
    · rw [if_pos e] at h
      cases h
      rw [e]
      exact List.mem_cons_self
    · rw [if_neg e] at h
      exact List.mem_cons_of_mem _ (tab_mem h)
def wCallF (n : Nat) (L : List (Str × FA)) (we : WE) (wA : WA) : WE := fun ss own Q => we ss own fun c o1 => match c with
  | .fn x => (match tabF L x with
    | some f => wA ss o1 fun cs o2 => cs.length = n ∧ Cal f cs o2 Q
    | none => False)
  | _ => False
theorem se_callF {K : PySem.W.Frag} {n : Nat} {L : List (Str × FA)} {te : TE} {we : WE} {tA : TA} {wA : WA} (he : SE K te we) (ha : SA K tA wA) : SE K (tCallF K n L te tA) (wCallF n L we wA) := by
  intro ss own Q hw B θ F H σ g s Qv k
  refine he ss own _ hw B θ F H σ g s _ fun θ1 own1 F1 H1 v c g1 t1 r1 q1 => ?_
  dsimp only at q1
  split at q1
  · rename_i x
    split at q1
    · rename_i f e
      refine ⟨x, f, tab_mem e, r1, ?_⟩
      refine ha ss own1 _ q1 B θ1 F1 H1 σ g1 (s.up t1) _ fun θ2 own2 F2 H2 vs cs g2 t2 r2 q2 => ?_
      exact ⟨B, θ2, own2, F2, cs, Q, g2, r2, q2.1, q2.2, k.up (t1.trans t2)⟩
    · exact q1.elim
  · exact q1.elim
section
variable {X : Cx} {K : PySem.W.Frag} {fe e : Expr} {es : List Expr} {te : TE} {we : WE} {tA : TA} {wA : WA} {pos : Pos} {n j : Nat} {L : List (Str × FA)}
theorem ae_callF (hL : ∀ x f, (x, f) ∈ L → X.mg x = some (.ref (He.ga K x)) ∧ ∃ k ps, Dk X.prog X.w K X.mg X.base k x ps f ∧ k ≤ j ∧ ps.length = n) (hr : Room j X.A) (hf : AE X fe te we) (ha : AA X (e :: es) tA wA)
    (ht : eval (.Call fe (e :: es) [] pos) X.env = (do callWith pos (← eval fe X.env) [] (backTo pos (starEach (e :: es) X.env)) (backToKw pos (keywordEach [] X.env))) := by rfl)
    (he : starEach (e :: es) X.env = (false, eval e X.env) :: starEach es X.env := by rfl) (hpl : (backTo pos (starEach es X.env)).any (·.1) = false := by rfl) (hK : X.K = K := by first | rfl | exact kB | exact kB.trans kB) :
    AE X (.Call fe (e :: es) [] pos) (tCallF K n L te tA) (wCallF n L we wA) := by
  subst hK
  refine ⟨⟨fun pins s σ H Q I h => ?_⟩, se_callF hf.s ha.s⟩
  rw [ht]
  refine wpAny_bind (thn (hf.p.run pins s σ H _ I h) fun u s1 ⟨y, H1, I1, ry, x, f, hm, ey, q⟩ => ?_)
  subst ey
  obtain rfl : u = Value.ref (He.ga X.K x) := ry
  obtain ⟨hx, k, ps, hd, hk, hn⟩ := hL x f hm
  obtain ⟨a, fd, F, ex, kp, hb⟩ := hd
  rw [hx] at ex
  cases ex
  subst hn
  refine PySem.W.callWith_K (h₀ := X.base) I1.ok.mod.kin kp (thn (ha.p.run pos pins s1 σ H1 _ I1 q) fun us s2 ⟨vs, H2, I2, r, q2⟩ => ⟨I2.kIn, ?_⟩) he hpl
  refine run_fn F (hr.mono hk) hb .nil pass0 I2 r ?_
  rw [List.append_nil]
  exact q2
end
/-! ### a < b < c < d as a test -/
def tT3 (r r' r'' : R2) (ta tb tc td : TE) : TT := fun σ H R => ta σ H fun x H1 => tb σ H1 fun y H2 => r x y H2 fun z H3 => ∃ k, z = .bl k ∧
  (if k = true then tc σ H3 fun w H4 => r' y w H4 fun z2 H5 => ∃ k2, z2 = .bl k2 ∧ (if k2 = true then td σ H5 fun u H6 => r'' w u H6 fun z3 H7 => ∃ k3, z3 = .bl k3 ∧ R k3 H7 else R false H5) else R false H3)
def wT3 (f f' f'' : F2) (wa wb wc wd : WE) : WT := fun ss own R => wa ss own fun c o1 => wb ss o1 fun d o2 => f c d o2 fun z o3 => match z with
  | .fr (.bool b) => Itf b (wc ss o3 fun e o4 => f' d e o4 fun z2 o5 => match z2 with
    | .fr (.bool b2) => Itf b2 (wd ss o5 fun g o6 => f'' e g o6 fun z3 o7 => match z3 with
      | .fr (.bool b3) => R b3 o7
      | _ => False) (R false o5)
    | _ => False) (R false o3)
  | _ => False
section
variable {X : Cx} {K : PySem.W.Frag} {a b c d : Expr} {ta tb tc td : TE} {wa wb wc wd : WE} {pos : Pos} {op op' op'' : CmpOp} {r r' r'' : R2} {f f' f'' : F2}
theorem pt_T3 (ho : OpR X (compareOp op) r) (ho' : OpR X (compareOp op') r') (ho'' : OpR X (compareOp op'') r'') (ha : PE X a ta) (hb : PE X b tb) (hc : PE X c tc) (hd : PE X d td)
    (hm : lastMarks [op, op', op''] [b, c, d] = false := by with_unfolding_all rfl) : PT X (.Compare a [op, op', op''] [b, c, d] pos) (tT3 r r' r'' ta tb tc td) := by
  refine ⟨fun pins s σ H Q I h => ?_⟩
  refine isTrue_chain (thn (ha.run pins s σ H _ I h) fun v s1 ⟨x, H1, I1, r1, q1⟩ => test_link (thn (hb.run pins s1 σ H1 _ I1 q1) fun u s2 ⟨y, H2, I2, r2, q2⟩ =>
    thn (ho pins s2 σ H2 x y v u _ I2 r1 r2 q2) fun d s3 ⟨z, H3, I3, r3, k, e, q3⟩ => ?_)) hm
  subst e
  cases r3
  refine wpAny_truthy_bool ?_
  cases k with
  | false => exact ite_ff ⟨H3, I3, q3⟩
  | true =>
    refine ite_tt (test_link (thn (hc.run pins s3 σ H3 _ I3 q3) fun w' s4 ⟨z', H4, I4, r4, q4⟩ => thn (ho' pins s4 σ H4 y z' u w' _ I4 r2 r4 q4) fun d' s5 ⟨z2, H5, I5, r5, k2, e2, q5⟩ => ?_))
    subst e2
    cases r5
    refine wpAny_truthy_bool ?_
    cases k2 with
    | false => exact ite_ff ⟨H5, I5, q5⟩
    | true =>
      refine ite_tt (test_last (thn (hd.run pins s5 σ H5 _ I5 q5) fun w2 s6 ⟨z3, H6, I6, r6, q6⟩ => thn (ho'' pins s6 σ H6 z' z3 w' w2 _ I6 r4 r6 q6) fun d2 s7 ⟨z4, H7, I7, r7, k3, e3, q7⟩ => ?_))
      subst e3
      cases r7
      exact wpAny_truthy_bool ⟨H7, I7, q7⟩
theorem st_T3 (ha : SE K ta wa) (hb : SE K tb wb) (hc : SE K tc wc) (hd : SE K td wd) (hr : S2 K r f) (hr' : S2 K r' f') (hr'' : S2 K r'' f'') : ST K (tT3 r r' r'' ta tb tc td) (wT3 f f' f'' wa wb wc wd) := by
  intro ss own Q hw B θ F H σ g s Qv k
  refine ha ss own _ hw B θ F H σ g s _ fun θ1 own1 F1 H1 v c g1 t1 r1 q1 => ?_
  refine hb ss own1 _ q1 B θ1 F1 H1 σ g1 (s.up t1) _ fun θ2 own2 F2 H2 u d g2 t2 r2 q2 => ?_
  refine hr c d own2 _ q2 B θ2 F2 H2 v u g2 (r1.up t2) r2 _ fun θ3 own3 F3 H3 x z g3 t3 r3 q3 => ?_
  dsimp only at q3
  split at q3
  · rename_i b
    cases cr_bl r3
    refine ⟨b, rfl, ?_⟩
    cases b with
    | true =>
      refine hc ss own3 _ q3 B θ3 F3 H3 σ g3 (s.up ((t1.trans t2).trans t3)) _ fun θ4 own4 F4 H4 y e g4 t4 r4 q4 => ?_
      refine hr' d e own4 _ q4 B θ4 F4 H4 u y g4 (r2.up (t3.trans t4)) r4 _ fun θ5 own5 F5 H5 x2 z2 g5 t5 r5 q5 => ?_
      dsimp only at q5
      split at q5
      · rename_i b2
        cases cr_bl r5
        refine ⟨b2, rfl, ?_⟩
        cases b2 with
        | true =>
          refine hd ss own5 _ q5 B θ5 F5 H5 σ g5 (s.up ((((t1.trans t2).trans t3).trans t4).trans t5)) _ fun θ6 own6 F6 H6 y2 e2 g6 t6 r6 q6 => ?_
          refine hr'' e e2 own6 _ q6 B θ6 F6 H6 y y2 g6 (r4.up (t5.trans t6)) r6 _ fun θ7 own7 F7 H7 x3 z3 g7 t7 r7 q7 => ?_
          dsimp only at q7
          split at q7
          · rename_i b3
            cases cr_bl r7
            exact ⟨b3, rfl, k _ _ _ _ _ g7 ((((((t1.trans t2).trans t3).trans t4).trans t5).trans t6).trans t7) q7⟩
          · exact q7.elim
        | false => exact k _ _ _ _ _ g5 ((((t1.trans t2).trans t3).trans t4).trans t5) q5
      · exact q5.elim
    | false => exact k _ _ _ _ _ g3 ((t1.trans t2).trans t3) q3
  · exact q3.elim
theorem at_chain3 (h : CO X op r f) (h' : CO X op' r' f') (h'' : CO X op'' r'' f'') (ha : AE X a ta wa) (hb : AE X b tb wb) (hc : AE X c tc wc) (hd : AE X d td wd) (hm : lastMarks [op, op', op''] [b, c, d] = false := by with_unfolding_all rfl) :
    AT X (.Compare a [op, op', op''] [b, c, d] pos) (tT3 r r' r'' ta tb tc td) (wT3 f f' f'' wa wb wc wd) := ⟨pt_T3 h.o h'.o h''.o ha.p hb.p hc.p hd.p hm, st_T3 ha.s hb.s hc.s hd.s h.s h'.s h''.s⟩
end
/-! ### a sign in a text -/
def hd0 (z : Str) : Nat := z.cps.toList.headD 0
def fInSg : F2 := fun c d own Q => match c, d with
  | .fr (.str i), .fr (.str z) => i = ⟨#[hd0 i]⟩ ∧ Q (.fr (.bool (decide (hd0 i ∈ z.cps.toList)))) own
  | _, _ => False
theorem s2_inSg {K : PySem.W.Frag} : S2 K (fun x y H Q => ∃ (c : Nat) (z : Str), x = .str ⟨#[c]⟩ ∧ y = .str z ∧ Q (.bl (decide (c ∈ z.cps.toList))) H) fInSg := by
  intro c d own Q hq B θ F H v u gg r1 r2 Qv k
  unfold fInSg at hq
  split at hq
  · rename_i i z
    cases cr_str r1
    cases cr_str r2
    exact ⟨hd0 i, z, congrArg V.str hq.1, rfl, k.here (c := .fr (.bool _)) gg (.bl _) hq.2⟩
  · exact hq.elim
theorem co_inSg {X : Cx} : CO X .In (fun x y H Q => ∃ (c : Nat) (z : Str), x = .str ⟨#[c]⟩ ∧ y = .str z ∧ Q (.bl (decide (c ∈ z.cps.toList))) H) fInSg := ⟨op_in_sign, s2_inSg⟩
/-! ### in a list in hand -/
def fInM : F2 := fun c d own Q => match c with
  | .fr (.str i) => optP ((hdD own d).bind strsD) fun ns => Q (.fr (.bool (decide (i ∈ ns)))) own
  | _ => False
def fNotInM : F2 := fun c d own Q => match c with
  | .fr (.str i) => optP ((hdD own d).bind strsD) fun ns => Q (.fr (.bool (!decide (i ∈ ns)))) own
  | _ => False
section
variable {K : PySem.W.Frag}
theorem hd_strs {B : Addr → Prop} {θ : List Addr} {own : Ts} {F H : Hp} {v : V} {c : C} {ns : List Str} (gg : Ga K B θ own F H) (r : Cr K θ F v c) (e : (hdD own c).bind strsD = some ns) : ∃ a, v = .ref a ∧ SqA K H a (ns.map V.str) := by
  unfold hdD at e
  split at e
  · rename_i h
    obtain ⟨a, ha, rfl⟩ := r
    split at e
    · rename_i cs e2
      obtain ⟨_, vs, hv, rv⟩ := gg.mo h a _ ha e2
      cases e3 : frs cs with
      | none => rw [e3] at e; cases e
      | some ds =>
        rw [e3] at e
        rw [of_frs e3] at rv
        cases of_strs e (rpAll_paired rv)
        exact ⟨a, rfl, .inl (SqL.of hv)⟩
    · cases e
  · cases e
theorem s2_inM : S2 K (rIn K false) fInM := by
  intro c d own Q hq B θ F H v u gg r1 r2 Qv k
  unfold fInM at hq
  split at hq
  · rename_i i
    cases cr_str r1
    obtain ⟨ns, e, hq⟩ := of_mt hq
    obtain ⟨a, rfl, h⟩ := hd_strs gg r2 e
    refine ⟨a, _, rfl, h, rfl, flat_strs ns, ?_⟩
    rw [inV_str]
    exact k.here (c := .fr (.bool _)) gg (.bl _) hq
  · exact hq.elim
theorem s2_notInM : S2 K (rIn K true) fNotInM := by
  intro c d own Q hq B θ F H v u gg r1 r2 Qv k
  unfold fNotInM at hq
  split at hq
  · rename_i i
    cases cr_str r1
    obtain ⟨ns, e, hq⟩ := of_mt hq
    obtain ⟨a, rfl, h⟩ := hd_strs gg r2 e
    refine ⟨a, _, rfl, h, rfl, flat_strs ns, ?_⟩
    rw [inV_str]
    exact k.here (c := .fr (.bool _)) gg (.bl _) hq
  · exact hq.elim
theorem co_inM {X : Cx} (hK : X.K = K := by first | rfl | exact kB | exact kB.trans kB) : CO X .In (rIn K false) fInM := by
  subst hK
  exact ⟨op_in_seq, s2_inM⟩
theorem co_ninM {X : Cx} (hK : X.K = K := by first | rfl | exact kB | exact kB.trans kB) : CO X .NotIn (rIn K true) fNotInM := by
  subst hK
  exact ⟨op_notIn_seq, s2_notInM⟩
end
end Zd

/-! Zx18: sorted of texts, out of a list or a tuple. -/
namespace Zd
open PySem PySem.Spec PyProof.Rows L2 RZ RT
section
variable {prog : Program} {w : World} {A : Around} {E : Value → Shared → Prop} {s : Shared}
/-- the items of a tuple in a new list -/
theorem gather_tup {t : Addr} {us : List Value} {R : List Value → Shared → Prop} (ht : s.heap.IsTuple t us.toArray) (hz : us.length ≤ sizeLine)
    (k : R us { s with heap := (s.heap.push (seqObj "list" #[] 0)).update s.heap.objs.size (Obj.mapSeq (· ++ us.toArray)) }) : wpAny (model prog w) A (collect (.ref t)) R E s := by
  obtain ⟨ob, h1, h2, m, h3⟩ := id ht
  have h4 : (s.heap.push (seqObj "list" #[] 0)).get? t = some ob := Heap.get?_push_of_some _ h1
  have h5 : (s.heap.push (seqObj "list" #[] 0)).get? s.heap.objs.size = some (seqObj "list" #[] 0) := Heap.get?_push_size _ rfl
  unfold collect
  refine wpAny_bind (wpAny_runValue (codeAny_builtin entry_proto_collect' ?_))
  refine wpAny_bind (m := newList []) (wpAny_newList (wpAny_pure ⟨Code.quiet_builtin _ (by decide +kernel), codeAny_builtin entry_list_iadd' ?_⟩))
  refine (?_ : wpAny _ _ (Builtin.List.listExtendWith (.ref s.heap.objs.size) (.ref t) (.ref s.heap.objs.size)) _ _ _)
  unfold Builtin.List.listExtendWith
  refine wpAny_bind (wpAny_typeOf (T := "tuple") ⟨ob, h4, h2⟩ ?_)
  have h6 : (Value.type "tuple" == Value.type "tuple") = true := by rfl
  rw [if_pos (by rw [h6]; simp)]
  refine wpAny_bind (listItems_at h4 h3 (wpAny_bind (listItems_at (xs := #[]) (n := 0) h5 rfl ?_)))
  rw [if_neg (by simp)]
  refine wpAny_bind (listUpdate_at (xs := #[]) (n := 0) h5 rfl (wpAny_pure ?_) (Nat.zero_le _) (by show (#[] ++ us.toArray).size ≤ sizeLine + 1; simp only [Array.size_append, List.size_toArray, List.length_nil]; omega))
  refine (?_ : wpAny _ _ (load s.heap.objs.size >>= fun o => match o.data with
      | .seq ys _ => pure ys.toList
      | _ => unsupported "internal:collect") _ _ _)
  refine wpAny_bind (wpAny_load (get?_update_seq h5 _) ?_)
  have h7 : ((#[] : Array Value) ++ us.toArray).toList = us := by simp
  refine (?_ : wpAny _ _ (pure ((#[] : Array Value) ++ us.toArray).toList) _ _ _)
  rw [h7]
  exact wpAny_pure k
/-- sorted of a tuple of texts -/
theorem sorted_tup {t : Addr} {us : List Value} {zs : List Str} {R : Value → Shared → Prop} (ht : s.heap.IsTuple t us.toArray) (hs : StrsAre us zs) (h64 : us.length < 64)
    (k : ∀ (out : Array Value) (ys : List Str), StrsAre out.toList ys → ys.Perm zs → sortedS ys = true → R (.ref (s.heap.objs.size + 1)) { s with heap := sortedAll s.heap us out }) : wpAny (model prog w) A (call (.builtin "sorted") [.ref t]) R E s := by
  refine Calls.call_function_entry kind_sorted plain_sorted entry_sorted (args_sorted1 _) ?_
  unfold Builtin.«sorted»
  refine wpAny_bind (m := checkCount "sorted" 1 1 _) (wpAny_pure (wpAny_bind (gather_tup ht (by rw [sizeLine_eq]; omega) (wpAny_bind (wpAny_newList ?_)))))
  have e1 : ((s.heap.push (seqObj "list" #[] 0)).update s.heap.objs.size (Obj.mapSeq (· ++ us.toArray))).objs.size = s.heap.objs.size + 1 := (Heap.size_update ..).trans (size_push' ..)
  have e2 := Heap.get?_push_size ((s.heap.push (seqObj "list" #[] 0)).update s.heap.objs.size (Obj.mapSeq (· ++ us.toArray))) (o := seqObj "list" us.toArray 0) rfl
  rw [e1] at e2
  refine (?_ : wpAny _ _ _ _ _ { s with heap := ((s.heap.push (seqObj "list" #[] 0)).update s.heap.objs.size (Obj.mapSeq (· ++ us.toArray))).push (seqObj "list" us.toArray 0) })
  rw [e1]
  refine wpAny_bind (wpAny_holding (wpAny_call_entry slot_list_sort ⟨_, e2, rfl⟩ entry_list_sort (list_sort_treeK strKind_oneLt e2 hs.keysOf (fun _ _ _ e => keyKind_strs (by rw [← e]; exact hs)) h64 fun st p1 p2 => ?_) (args_list_sort _)))
  obtain ⟨ys, q1, q2, q3⟩ := sorted_out_str hs p1 p2
  exact ⟨_, rfl, wpAny_pure ⟨_, rfl, k _ ys q1 q2 q3⟩⟩
end
/-! ### by the heap, by data -/
def rSrtS (K : PySem.W.Frag) : List V → Hp → VK → Prop := fun vs H Q => ∃ (a : Addr) (xs : List Str), vs = [V.ref a] ∧ (SqL K H a (xs.map V.str) ∨ SqT K H a (xs.map V.str)) ∧ xs.length < 64 ∧
  ∀ (ys : List Str) (p : Addr), ys.Perm xs → sortedS ys = true → H p = none → Q (.ref p) (upd H p (.lst (ys.map V.str)))
theorem cr_srtS {X : Cx} : CallR X (.builtin "sorted") (rSrtS X.K) := by
  intro pins s σ H vs us Q I r h
  obtain ⟨a, xs, e, hs, h64, q⟩ := h
  rcases hs with hs | hs
  · exact cr_sortedS pins s σ H vs us Q I r ⟨a, xs, e, hs, h64, q⟩
  · subst e
    obtain ⟨its, rv, ht, _⟩ := I.tuple hs
    rw [Vals.ref1 r]
    have n1 : xs.length = its.length := by have := rv.length; rwa [List.length_map] at this
    refine sorted_tup (show s.heap.IsTuple a its.toArray from ht) rv.strs (by rw [← n1]; exact h64) fun out ys g1 g2 g3 => ?_
    obtain ⟨ep, g4⟩ := PyProof.Rows.sortedAll_at s.heap its out
    have g5 : (ys.map V.str).length ≤ sizeLine := by rw [List.length_map, g2.length_eq]; exact small64 h64
    exact ⟨.ref _, upd H (s.heap.objs.size + 1) (.lst (ys.map V.str)), I.laid (t' := s.toks) (fun _ _ => PyProof.Rows.sortedAll_old) (Nat.le_succ _) ⟨g5, out.toList, ep, vals_of_strs g1, g4⟩, rfl, q ys _ g2 g3 (I.hok.fresh (Nat.le_succ _))⟩
def fSortedS : FA := fun cs own Q => match cs with
  | [d] => optP ((seqD d).bind strsD) fun ns => ns.length < 64 ∧ ∀ ms : List Str, ms.Perm ns → sortedS ms = true → Q (.fr (.list (ms.map .str))) own
  | _ => False
theorem rp_strs18 {K : PySem.W.Frag} {F : Hp} : ∀ ns : List Str, RpAll K F (ns.map V.str) (ns.map PyData.str)
  | [] => .nil
  | _ :: ns => .cons (.str _) (rp_strs18 ns)
theorem sn_sortedS {K : PySem.W.Frag} : SN K (rSrtS K) fSortedS := by
  intro cs own Q hq B θ F H vs gg rs Qv k
  unfold fSortedS at hq
  split at hq
  · obtain ⟨v, rfl, r⟩ := paired1 rs
    obtain ⟨ns, e, hl, hq⟩ := of_mt hq
    obtain ⟨a, rfl, h⟩ := seq_strs2 gg r e
    exact ⟨a, ns, rfl, h, hl, fun ys p hp1 hs hp => k.new (d := .list (ys.map .str)) gg hp (hq ys hp1 hs) fun F' e hF => .lst hF (rp_strs18 ys)⟩
  · exact hq.elim
theorem br_sortedS {X : Cx} {K : PySem.W.Frag} (hK : X.K = K := by first | rfl | exact kB | exact kB.trans kB) : BR X (.builtin "sorted") (rSrtS K) fSortedS := by
  subst hK
  exact ⟨cr_srtS, sn_sortedS⟩
/-! ### sorted texts that are alike but for their order are one -/
theorem perm_sorted {α : Type} {R : α → α → Prop} (anti : ∀ a b, R a b → R b a → a = b) : ∀ {xs ys : List α}, xs.Perm ys → xs.Pairwise R → ys.Pairwise R → xs = ys
  | [], ys, p, _, _ => (List.nil_perm.mp p).symm ▸ rfl
  | x :: xs, [], p, _, _ => absurd p.length_eq (by simp)
  | x :: xs, y :: ys, p, h1, h2 => by
    obtain ⟨h1a, h1b⟩ := List.pairwise_cons.mp h1
    obtain ⟨h2a, h2b⟩ := List.pairwise_cons.mp h2
    have e : x = y := by
      rcases List.mem_cons.mp (p.mem_iff.mp (List.mem_cons_self (a := x) (l := xs))) with e | hx
      · exact e
      · rcases List.mem_cons.mp (p.mem_iff.mpr (List.mem_cons_self (a := y) (l := ys))) with e | hy
        · exact e.symm
        · exact anti _ _ (h1a _ hy) (h2a _ hx)
    subst e
    rw [perm_sorted anti (List.Perm.cons_inv p) h1b h2b]
def leS (a b : Str) : Prop := ¬ b.cps.toList < a.cps.toList
theorem leS_anti (a b : Str) (h1 : leS a b) (h2 : leS b a) : a = b := by
  have : a.cps.toList = b.cps.toList := List.le_antisymm (show a.cps.toList ≤ b.cps.toList from h1) h2
  obtain ⟨a⟩ := a
  obtain ⟨b⟩ := b
  exact congrArg Str.mk (Array.toList_inj.mp this)
theorem leS_trans (a b c : Str) (h1 : leS a b) (h2 : leS b c) : leS a c := List.le_trans h1 h2
theorem rising_pw : ∀ (p : Str) (l : List Str), risingS p l = true → (p :: l).Pairwise leS
  | p, [], _ => List.pairwise_singleton _ _
  | p, x :: r, h => by
    unfold risingS at h
    rw [Bool.and_eq_true, ltCps_eq] at h
    have ih := rising_pw x r h.2
    have hx : leS p x := by
      have := h.1
      simpa [leS] using this
    refine List.pairwise_cons.mpr ⟨fun y hy => ?_, ih⟩
    rcases List.mem_cons.mp hy with rfl | hy
    · exact hx
    · exact leS_trans _ _ _ hx ((List.pairwise_cons.mp ih).1 y hy)
theorem srt_pw {l : List Str} (h : sortedS l = true) : l.Pairwise leS := by
  cases l with
  | nil => exact .nil
  | cons x r => exact rising_pw x r h
theorem srt_eq {xs ys : List Str} (p : xs.Perm ys) (h1 : sortedS xs = true) (h2 : sortedS ys = true) : xs = ys := perm_sorted leS_anti p (srt_pw h1) (srt_pw h2)
end Zd

/-! Zx19: a list in hand extended by a tuple. -/
namespace Zd
open PySem PySem.Spec PyProof.Rows L2 RZ RT
theorem ext_tup (l : Addr) (us : Array Value) (n : Nat) (b : Addr) (vs : Array Value) (h1 : ¬(!us.isEmpty && Builtin.List.listTooLong (us.size + vs.size)) = true) (h2 : us.size ≤ sizeLine) (h3 : us.size + vs.size ≤ sizeLine + 1) :
    Meets (Builtin.«list.extend» ⟨[.ref l, .ref b], []⟩) (fun _ R s => s.heap.get? l = some { cls := .type "list", dict := none, data := .seq us n, slots := #[] } ∧ s.heap.IsTuple b vs ∧ R (.ok (.ret Value.none)) { s with heap := s.heap.update l (Obj.mapSeq fun x => x ++ vs), toks := s.toks }) :=
  .of_wp fun prog w A R s h => by
    obtain ⟨g1, ⟨ob, g2, g3, m, g4⟩, g5⟩ := h
    unfold Builtin.«list.extend»
    refine wpAny_bind (wpAny_pure ?_)
    refine (?_ : wpAny _ _ (Builtin.List.listExtendWith (.ref l) (.ref b) .none) _ _ _)
    unfold Builtin.List.listExtendWith
    refine wpAny_bind (wpAny_typeOf (T := "tuple") ⟨ob, g2, g3⟩ ?_)
    have h6 : (Value.type "tuple" == Value.type "tuple") = true := by rfl
    rw [if_pos (by rw [h6]; simp)]
    refine wpAny_bind (listItems_at g2 g4 (wpAny_bind (listItems_at (xs := us) (n := n) g1 rfl ?_)))
    rw [if_neg h1]
    refine wpAny_bind (listUpdate_at (xs := us) (n := n) g1 rfl (wpAny_pure ⟨_, rfl, g5⟩) h2 (by rw [Array.size_append]; exact h3))
def rExtT (K : PySem.W.Frag) : V → List V → Hp → VK → Prop := fun x vs H Q => ∃ l b xs zs, x = .ref l ∧ vs = [.ref b] ∧ H l = some (.lst xs) ∧ SqT K H b zs ∧ xs.length + zs.length ≤ sizeLine ∧ Q .non (upd H l (.lst (xs ++ zs)))
theorem mt_extT {X : Cx} : MtR X "list.extend" (rExtT X.K) := by
  intro pins s σ H x vs v us Q I rx rv h
  obtain ⟨l, b, xs, zs, rfl, rfl, hH, hB, hz, q⟩ := h
  cases rx
  obtain ⟨u, rfl, ru⟩ := rv.one
  cases ru
  obtain ⟨_, its, n, r, hl, e⟩ := I.lstM hH
  obtain ⟨its2, r2, ht, _⟩ := I.tuple hB
  have l2 := r2.length
  have n1 : its.toArray.size + its2.toArray.size ≤ sizeLine := by rw [List.size_toArray, List.size_toArray]; omega
  have n2 : ¬(!its.toArray.isEmpty && Builtin.List.listTooLong (its.toArray.size + its2.toArray.size)) = true := by
    rw [notLongL n1, Bool.and_false]
    exact Bool.false_ne_true
  refine call_meets F.slot_list_extend ⟨_, e, rfl⟩ F.entry_list_extend (F.args_list_extend_2 _ _) (ext_tup l its.toArray n b its2.toArray n2 (by omega) (by omega)) ⟨e, (show s.heap.IsTuple b its2.toArray from ht), ?_⟩
  refine ⟨.non, _, I.lset (its' := its ++ its2) hH e (by simp) (r.append r2) ?_, rfl, q⟩
  rw [List.length_append]
  omega
def fExtendT : FM := fun c cs own Q => match c, cs with
  | .hd h, [.fr (.tuple ds)] => (match own[h]? with
    | some (.lst xs) => xs.length + ds.length ≤ SZ ∧ Q (.fr .none) (own.set h (.lst (xs ++ ds.map C.fr)))
    | _ => False)
  | _, _ => False
theorem sm_extT {K : PySem.W.Frag} : SM K (rExtT K) fExtendT := by
  intro c cs own Q hq B θ F H v vs g r rs Qv k
  unfold fExtendT at hq
  split at hq
  · rename_i h ds
    obtain ⟨a, ha, rfl⟩ := r
    obtain ⟨u, rfl, ru⟩ := paired1 rs
    obtain ⟨b, zs, rfl, h1, h2⟩ := cr_tup ru
    split at hq
    · rename_i xs e
      obtain ⟨hn, ws, hv, rv⟩ := g.mo h a _ ha e
      obtain ⟨g1, t1⟩ := g.write (o := .lst (ws ++ zs)) (m := .lst (xs ++ ds.map C.fr)) ha hn ⟨hn, _, upd_same, paired_app rv (paired_rpAll h2)⟩
      exact ⟨a, b, ws, zs, rfl, rfl, hv, same_t g.ex h1, by rw [paired_len rv, rpAll_len h2]; exact szl hq.1, k _ _ _ _ _ (.fr .none) g1 t1 .non hq.2⟩
    · exact hq.elim
  · exact hq.elim
end Zd

/-! Zx20: a for over a list in hand, which stays in hand (and may change, but for its length). -/
namespace Zd
open PySem PySem.Spec PyProof.Rows L2 RZ RT
def wForH (we : WE) (g : WG) (wb : WS) : WS := fun E ss own => we ss own fun c o1 => match c with
  | .hd h => ∃ (n : Nat) (P : Nat → Sl → Ts → Prop), P 0 ss o1 ∧ (∀ i ss' own', i ≤ n → P i ss' own' → ∃ cs, own'[h]? = some (.lst cs) ∧ cs.length = n ∧
      ∀ d, cs[i]? = some d → g (res own' d) ss' own' fun ss2 own2 => wb { E with nx := P (i + 1), ct := P (i + 1), bk := E.nx } ss2 own2) ∧ ∀ ss' own', P n ss' own' → E.nx ss' own'
  | _ => False
section
variable {K : PySem.W.Frag} {te : TE} {we : WE} {tb : TS} {wb : WS}
theorem ss_forH {js : List Nat} {tg : TG} {wg : WG} (he : SE K te we) (hg : SG K js tg wg) (hb : SS K tb wb) : SS K (tFor (iSeq K te) tg tb) (wForH we wg wb) := by
  intro E ss own hw B θ F H σ g s D k
  refine he ss own _ hw B θ F H σ g s _ fun θ1 own1 F1 H1 v c g1 t1 r1 q1 => ?_
  dsimp only at q1
  split at q1
  · rename_i h
    obtain ⟨a, ha, rfl⟩ := r1
    obtain ⟨n, P, p0, ps, pd⟩ := q1
    obtain ⟨cs0, e0, l0, _⟩ := ps 0 ss own1 (Nat.zero_le _) p0
    obtain ⟨hn, ws, hv, rv⟩ := g1.mo h a _ ha e0
    refine .inl ⟨a, ws, rfl, SqL.of hv, ?_⟩
    refine ⟨fun i m σ' H' => m = n - i ∧ i ≤ n ∧ ∃ θ' own' F' ss', Ga K B θ' own' F' H' ∧ Tr B θ1 F1 H1 θ' F' H' ∧ Zd.SlR K θ' F' σ' ss' ∧ P i ss' own', ⟨n, by simp, Nat.zero_le _, θ1, own1, F1, ss, g1, Tr.refl, s.up t1, p0⟩, ?_⟩
    rintro i m σ' H' ⟨rfl, hi, θ', own', F', ss', g', t', s', p⟩
    obtain ⟨cs, e1, l1, hs⟩ := ps i ss' own' hi p
    have ha' : θ'[h]? = some a := by
      obtain ⟨r, rfl⟩ := t'.th
      rw [List.getElem?_append_left (List.getElem?_eq_some_iff.mp ha).1]
      exact ha
    obtain ⟨hn', ws', hv', rv'⟩ := g'.mo h a _ ha' e1
    have hl := paired_len rv'
    by_cases hlt : i < n
    · have hil : i < cs.length := by omega
      obtain ⟨x0, ex0, rx0⟩ := paired_getL rv' (List.getElem?_eq_getElem hil)
      refine .inr ⟨⟨ws', x0, SqL.of hv', ex0⟩, fun σ2 H2 => i + 1 ≤ n ∧ ∃ θ' own' F' ss', Ga K B θ' own' F' H2 ∧ Tr B θ1 F1 H1 θ' F' H2 ∧ Zd.SlR K θ' F' σ2 ss' ∧ P (i + 1) ss' own', fun σ2 H2 ⟨z1, z⟩ => ⟨n - (i + 1), by omega, rfl, z1, z⟩, fun x H2 y => ?_⟩
      obtain ⟨rfl, yx⟩ := y
      have ex : x = x0 := Option.some.inj ((yx ws' (SqL.of hv')).symm.trans ex0)
      subst ex
      refine hg _ ss' own' _ (hs _ (List.getElem?_eq_getElem hil)) B θ' F' H2 σ' x g' s' (rx0.res g') _ fun θ3 own3 F3 H3 σ3 ss3 g3 t3 s3 _ q3 => ?_
      have t13 := t'.trans t3
      refine hb _ ss3 own3 q3 B θ3 F3 H3 σ3 g3 s3 _ ⟨?_, (k.up (t1.trans t13)).rt, ?_, ?_⟩
      · exact fun θ4 own4 F4 H4 σ4 ss4 g4 t4 s4 q4 => ⟨by omega, θ4, own4, F4, ss4, g4, t13.trans t4, s4, q4⟩
      · exact fun θ4 own4 F4 H4 σ4 ss4 g4 t4 s4 q4 => k.nx _ _ _ _ _ _ g4 ((t1.trans t13).trans t4) s4 q4
      · exact fun θ4 own4 F4 H4 σ4 ss4 g4 t4 s4 q4 => ⟨by omega, θ4, own4, F4, ss4, g4, t13.trans t4, s4, q4⟩
    · have e : i = n := by omega
      subst e
      exact .inl ⟨⟨ws', SqL.of hv', by omega⟩, k.nx _ _ _ _ _ _ g' (t1.trans t') s' (pd ss' own' p)⟩
  · exact q1.elim
end
/-- the list is of data and does not change -/
theorem forH_inv {i h : Nat} {g : WG} {wb : WS} {E : En} {ss : Sl} {own : Ts} (ds : List D) (P : Nat → Sl → Ts → Prop) (hv : ss[i]? = some (some (.hd h))) (h0 : P 0 ss own) (hk : ∀ j ss' own', P j ss' own' → own'[h]? = some (.lst (ds.map C.fr)))
    (hs : ∀ (j : Nat) d ss' own', ds[j]? = some d → P j ss' own' → g (.fr d) ss' own' fun ss2 own2 => wb { E with nx := P (j + 1), ct := P (j + 1), bk := E.nx } ss2 own2) (he : ∀ ss' own', P ds.length ss' own' → E.nx ss' own') : wForH (wVar i) g wb E ss own := by
  unfold wForH wVar
  rw [hv]
  dsimp only
  have e : res own (.hd h) = .hd h := by
    show (match own[h]? with
      | some (.frz d) => C.fr d
      | _ => .hd h) = _
    rw [hk _ _ _ h0]
  rw [e]
  refine ⟨ds.length, P, h0, fun j ss' own' hj p => ⟨ds.map C.fr, hk _ _ _ p, List.length_map _, fun d hd => ?_⟩, he⟩
  rw [List.getElem?_map] at hd
  cases ed : ds[j]? with
  | none => rw [ed] at hd; cases hd
  | some x =>
    rw [ed] at hd
    cases hd
    exact hs j x ss' own' ed p
theorem as_forH {K : PySem.W.Frag} {X : Cx} {tg it : Expr} {te : TE} {we : WE} {js : List Nat} {gt : TG} {gw : WG} {t : TS} {w : WS} {pos : Pos} {body : List Stmt} (hi : AE X it te we) (hg : AG X tg js gt gw) (hb : ASs X body t w) (hp : PassesOwn (model X.prog X.w) X.A X.env X.xe := by exact PassesOwn.never) (hc : X.calm = true := by rfl) (hs : ∀ x, foldedSetIterable it X.env x = pure x := by intro _; rfl) (hK : X.K = K := by first | rfl | exact kB | exact kB.trans kB) :
    AS X (.For tg it body [] pos) (tFor (iSeq K te) gt t) (wForH we gw w) := by
  subst hK
  exact ⟨ps_for hp hc (pi_seq hi.p) hg.p hb.p hs, ss_forH hi.s hg.s hb.s⟩
end Zd

/-! Zb1: proofs by data: tables with one hole, promises of pure and of drawing defs. -/
namespace Zd
open PySem L2

/-! ### tables: what stood ahead, the object in hand, what stood behind it, what was made since -/
def Tb (pre : Ts) (m : MO) (post r : Ts) : Ts := pre ++ m :: (post ++ r)
def hb (pre post : Ts) (k : Nat) : Nat := pre.length + 1 + post.length + k
def T0 (own r : Ts) : Ts := own ++ r
def h0 (own : Ts) (k : Nat) : Nat := own.length + k
section
variable {pre post r own : Ts} {m m' x : MO} {k : Nat}
theorem tb_h : (Tb pre m post r)[pre.length]? = some m := by simp [Tb]
theorem tb_k : (Tb pre m post r)[hb pre post k]? = r[k]? := by
  unfold Tb hb
  rw [List.getElem?_append_right (by omega), List.getElem?_cons, if_neg (by omega), List.getElem?_append_right (by omega)]
  congr 1
  omega
theorem tb_seth : (Tb pre m post r).set pre.length m' = Tb pre m' post r := by simp [Tb]
theorem tb_setk : (Tb pre m post r).set (hb pre post k) x = Tb pre m post (r.set k x) := by
  unfold Tb hb
  rw [List.set_append_right _ _ (by omega), show pre.length + 1 + post.length + k - pre.length = (post.length + k) + 1 by omega, List.set_cons_succ, List.set_append_right _ _ (by omega)]
  congr 4
  omega
theorem tb_app : Tb pre m post r ++ [x] = Tb pre m post (r ++ [x]) := by simp [Tb]
theorem tb_len : (Tb pre m post r).length = hb pre post r.length := by simp [Tb, hb]; omega
theorem tb_take : (Tb pre m post r).take (hb pre post 0) = Tb pre m post [] := by
  unfold Tb hb
  rw [List.append_nil, show pre ++ m :: (post ++ r) = (pre ++ m :: post) ++ r by simp]
  exact List.take_left' (by simp; omega)
theorem tb_nil : Tb pre m post [] = pre ++ m :: post := by simp [Tb]
theorem t0_k : (T0 own r)[h0 own k]? = r[k]? := by
  unfold T0 h0
  rw [List.getElem?_append_right (by omega)]
  congr 1
  omega
theorem t0_setk : (T0 own r).set (h0 own k) x = T0 own (r.set k x) := by
  unfold T0 h0
  rw [List.set_append_right _ _ (by omega)]
  congr 2
  omega
theorem t0_app : T0 own r ++ [x] = T0 own (r ++ [x]) := by simp [T0]
theorem t0_len : (T0 own r).length = h0 own r.length := by simp [T0, h0]
theorem t0_take : (T0 own r).take (h0 own 0) = own := by simp [T0, h0]
theorem t0_nil : T0 own [] = own := by simp [T0]
end
theorem atI0 {α : Type} {a : α} {l : List α} : atI (a :: l) 0 = some a := by simp [atI, ixN]
theorem atI1 {α : Type} {a b : α} {l : List α} : atI (a :: b :: l) 1 = some b := by unfold atI ixN; rw [if_pos (by decide), if_pos (by simp only [List.length_cons]; omega)]; rfl
theorem atI2 {α : Type} {a b c : α} {l : List α} : atI (a :: b :: c :: l) 2 = some c := by unfold atI ixN; rw [if_pos (by decide), if_pos (by simp only [List.length_cons]; omega)]; rfl
theorem atI3 {α : Type} {a b c d : α} {l : List α} : atI (a :: b :: c :: d :: l) 3 = some d := by unfold atI ixN; rw [if_pos (by decide), if_pos (by simp only [List.length_cons]; omega)]; rfl
theorem atI4 {α : Type} {a b c d e : α} {l : List α} : atI (a :: b :: c :: d :: e :: l) 4 = some e := by unfold atI ixN; rw [if_pos (by decide), if_pos (by simp only [List.length_cons]; omega)]; rfl
theorem atI5 {α : Type} {a b c d e f : α} {l : List α} : atI (a :: b :: c :: d :: e :: f :: l) 5 = some f := by unfold atI ixN; rw [if_pos (by decide), if_pos (by simp only [List.length_cons]; omega)]; rfl
theorem setI0 {a v : C} {l : List C} : setI (a :: l) 0 v = some (v :: l) := by simp [setI, ixN]
theorem setI1 {a b v : C} {l : List C} : setI (a :: b :: l) 1 v = some (a :: v :: l) := by unfold setI ixN; rw [if_pos (by decide), if_pos (by simp only [List.length_cons]; omega)]; rfl
theorem setI2 {a b c v : C} {l : List C} : setI (a :: b :: c :: l) 2 v = some (a :: b :: v :: l) := by unfold setI ixN; rw [if_pos (by decide), if_pos (by simp only [List.length_cons]; omega)]; rfl
theorem setI3 {a b c d v : C} {l : List C} : setI (a :: b :: c :: d :: l) 3 v = some (a :: b :: c :: v :: l) := by unfold setI ixN; rw [if_pos (by decide), if_pos (by simp only [List.length_cons]; omega)]; rfl
/-- a drawn state -/
structure Drw where
  cells : List Int
  a : Int
  b : Int
  c : Int
  h : 0 ≤ a
def drM (x : Drw) : MO := .lst [.fr (.list (x.cells.map PyData.int)), .fr (.int x.a), .fr (.int x.b), .fr (.int x.c)]
def resO (o : Option MO) (h : Nat) : C := match o with
  | some (.frz d) => .fr d
  | _ => .hd h
theorem res_fr {own : Ts} {d : D} : res own (.fr d) = .fr d := rfl
theorem res_sc {own : Ts} {d : List Int} : res own (.sc d) = .sc d := rfl
theorem res_hd {own : Ts} {h : Nat} : res own (.hd h) = resO own[h]? h := rfl
theorem resO_frz {d : D} {h : Nat} : resO (some (.frz d)) h = .fr d := rfl
theorem resO_lst {d : List C} {h : Nat} : resO (some (.lst d)) h = .hd h := rfl
theorem resO_ins {a : Str} {d : List (Str × C)} {h : Nat} : resO (some (.ins a d)) h = .hd h := rfl
theorem resO_dk {d : List (Key × C)} {h : Nat} : resO (some (.dk d)) h = .hd h := rfl
theorem resO_dr {x : Drw} {h : Nat} : resO (some (drM x)) h = .hd h := rfl
theorem range_get {i n : Nat} {a : Int} {d : D} (h : (rangeD a n)[i]? = some d) : i < n ∧ d = .int (a + i) := by
  unfold rangeD at h
  rw [List.getElem?_map] at h
  by_cases hi : i < n
  · rw [List.getElem?_range hi] at h
    exact ⟨hi, (Option.some.inj h).symm⟩
  · rw [List.getElem?_eq_none (by simpa using hi)] at h
    cases h
theorem range_len {n : Nat} {a : Int} : (rangeD a n).length = n := by simp [rangeD]
theorem eqv_ii (i j : Int) : PyData.eqv (.int i) (.int j) = decide (i = j) := by first | rfl | (unfold PyData.eqv; rfl)
theorem eqv_ss (i j : Str) : PyData.eqv (.str i) (.str j) = decide (i = j) := by first | rfl | (unfold PyData.eqv; rfl)
theorem eqv_bb (i j : Bool) : PyData.eqv (.bool i) (.bool j) = decide (i = j) := by cases i <;> cases j <;> first | rfl | decide
theorem shp_i (i : Int) : SeqAt.shaped (.int i) = true := by rfl
theorem shp_s (i : Str) : SeqAt.shaped (.str i) = PyData.strOk i := by
  unfold SeqAt.shaped PyData.canLay0 PyData.depth
  simp
theorem shp_b (i : Bool) : SeqAt.shaped (.bool i) = true := by rfl
theorem shp_n : SeqAt.shaped .none = true := by rfl
theorem ex_lst {xs : List C} : (∃ cs, some (MO.lst xs) = some (MO.lst cs)) = True := eq_true ⟨xs, rfl⟩
local macro_rules | `(tactic| walk_at "zs") => `(tactic| simp only [SZ, seqD, Option.bind_some, Bool.not_true, Bool.not_false, eqv_ii, eqv_ss, eqv_bb, shp_i, shp_s, shp_b, shp_n, eq_self, Int.toNat_natCast, range_len, Itf, itb_t, itb_f, optP, opb_some, Cal, wLc, wLcH, wYes, decide_true, decide_false,  ex_lst, List.length_map, Nat.zero_le, Nat.reduceLeDiff, Nat.reduceAdd, wNext, wBreak, wCont, wAsg, wRet, wRetN, wDrop, wIfS, wAug, wPar, wPar3, wTupRev, wSet, wAugS, fSet, fGet, wVar, wFrz, frzC, wC, wOp, wUn, res_fr, res_sc, res_hd, resO_frz, resO_lst, resO_ins, resO_dk, resO_dr, frs_map, fI, fIC, fAdd, fSub, fMul, fDiv, fMod, fPow, fShl, fShr, fAnd, fNeg, fLt, fLe, fGt, fGe, fEq, fNe, fIn, fNotIn, fIsB, fNotB, fIx,
  wSl, fSl, fSlH, wPart, wNoPart, wNil, wCons, wTup, wLst, wLstH, frs, Option.map_some, wTest, wNot, wAnd, wOr, wChain, wIf, wAndV, wOrV, wNotV, wIsN, wNotN, wCB, fLen, fInt, fAbs, fMax2, fMin2, fSum, fSumH, hdD, fMinL, fMinT, fStrI, fJoin, fMaxL, fAll, fAny, fTupleOf, fListOf, fSortedI, fSortedS, fListOfH, wIsi, gname_eq, gnil_eq, gcons_eq, gtup_eq, wiSeq, itemsOf, wiR1, wiR2, wiZip, wiZip3, wiRev, wipeS,
  wBL, wBS, isLst, isStr, fAppend, fPopAt, fPop, fCountI, fExtend, fExtendT, fIndexS, fInsert, fMulT, fAddH, fAddM, wListRg, wListRgH, wFld, wSFld, wFn, wCallF, wT3, fInSg, fInM, fNotInM, wMake, wMeth, InsAt, wDNew, wDPut, fDIn, fDNotIn, fDGet, wDGet1, wDGet2, dkD, keyC, wCall, tb_h, tb_k, tb_seth, tb_setk, tb_app, tb_len, t0_k, t0_setk, t0_app, t0_len, List.getElem?_cons_zero, List.getElem?_cons_succ, List.getElem?_nil, List.set_cons_zero, List.set_cons_succ, List.cons_append, List.nil_append, List.length_cons, List.length_nil, List.map_cons, List.map_nil, Nat.zero_add, if_true, if_false, Bool.false_eq_true, true_and, and_true,
  atI0, atI1, atI2, atI3, atI4, atI5, setI0, setI1, setI2, setI3, decide_eq_true_eq])
local macro_rules | `(tactic| walk_at "zx") => `(tactic| simp -implicitDefEqProofs only [SZ, seqD, Option.bind_some, Bool.not_true, Bool.not_false, eqv_ii, eqv_ss, eqv_bb, shp_i, shp_s, shp_b, shp_n, eq_self, Int.toNat_natCast, range_len, Itf, itb_t, itb_f, optP, opb_some, Cal, wLc, wLcH, wYes, decide_true, decide_false,  ex_lst, List.length_map, Nat.zero_le, Nat.reduceLeDiff, Nat.reduceAdd, wNext, wBreak, wCont, wAsg, wRet, wRetN, wDrop, wIfS, wAug, wPar, wPar3, wTupRev, wSet, wAugS, fSet, fGet, wVar, wFrz, frzC, wC, wOp, wUn, res_fr, res_sc, res_hd, resO_frz, resO_lst, resO_ins, resO_dk, resO_dr, frs_map, fI, fIC, fAdd, fSub, fMul, fDiv, fMod, fPow, fShl, fShr, fAnd, fNeg, fLt, fLe, fGt, fGe, fEq, fNe, fIn, fNotIn, fIsB, fNotB, fIx,
  wSl, fSl, fSlH, wPart, wNoPart, wNil, wCons, wTup, wLst, wLstH, frs, Option.map_some, wTest, wNot, wAnd, wOr, wChain, wIf, wAndV, wOrV, wNotV, wIsN, wNotN, wCB, fLen, fInt, fAbs, fMax2, fMin2, fSum, fSumH, hdD, fMinL, fMinT, fStrI, fJoin, fMaxL, fAll, fAny, fTupleOf, fListOf, fSortedI, fSortedS, fListOfH, wIsi, gname_eq, gnil_eq, gcons_eq, gtup_eq, wiSeq, itemsOf, wiR1, wiR2, wiZip, wiZip3, wiRev, wipeS,
  wBL, wBS, isLst, isStr, fAppend, fPopAt, fPop, fCountI, fExtend, fExtendT, fIndexS, fInsert, fMulT, fAddH, fAddM, wListRg, wListRgH, wFld, wSFld, wFn, wCallF, wT3, fInSg, fInM, fNotInM, wMake, wMeth, InsAt, wDNew, wDPut, fDIn, fDNotIn, fDGet, wDGet1, wDGet2, dkD, keyC, wCall, tb_h, tb_k, tb_seth, tb_setk, tb_app, tb_len, t0_k, t0_setk, t0_app, t0_len, List.getElem?_cons_zero, List.getElem?_cons_succ, List.getElem?_nil, List.set_cons_zero, List.set_cons_succ, List.cons_append, List.nil_append, List.length_cons, List.length_nil, List.map_cons, List.map_nil, Nat.zero_add, if_true, if_false, Bool.false_eq_true, true_and, and_true,
  atI0, atI1, atI2, atI3, atI4, atI5, setI0, setI1, setI2, setI3, decide_eq_true_eq])
local macro_rules | `(tactic| walk_at "z1") => `(tactic| (refine seq1 ?_; try walk_at "zs"))
local macro_rules | `(tactic| walk_at "zy") => `(tactic| (refine seq1 ?_; try walk_at "zx"))
local macro_rules | `(tactic| walk_at "nw") => `(tactic| refine ⟨by decide +kernel, by decide +kernel, itd' (fun e => absurd e (by decide +kernel)) (fun _ => ?_)⟩)
local macro_rules | `(tactic| walk_at "iw") => `(tactic| refine ⟨by decide +kernel, by decide +kernel, ?_⟩)
local macro_rules | `(tactic| walk_at "ni") => `(tactic| (simp only [strsD, Option.map_some]; walk_at "zs"; refine itd' (fun e => absurd e (by decide +kernel)) (fun _ => ?_)))
local macro_rules | `(tactic| walk_at "yi") => `(tactic| (simp only [strsD, Option.map_some]; walk_at "zs"; refine itd' (fun _ => ?_) (fun e => absurd (by decide +kernel) e)))
/-! ### promises -/
/-- a def that draws: its first argument is the drawn state -/
def fDr (A : List C → Prop) (R : List C → D → Prop) : FA := fun cs own Q => ∃ pre x post as, cs = .hd pre.length :: as ∧ own = pre ++ drM x :: post ∧ A as ∧ ∀ d x', R as d → Q (.fr d) (pre ++ drM x' :: post)
/-- a def that changes nothing -/
def fPu (A : List C → Prop) (R : List C → D → Prop) : FA := fun cs own Q => A cs ∧ ∀ d, R cs d → Q (.fr d) own
section
variable {A : List C → Prop} {R : List C → D → Prop} {pre post r own : Ts} {m : MO} {as cs : List C} {Q : KC}
theorem dr_use {x : Drw} (ha : A as) (k : ∀ d x', R as d → Q (.fr d) (Tb pre (drM x') post r)) : fDr A R (.hd pre.length :: as) (Tb pre (drM x) post r) Q := ⟨pre, x, post ++ r, as, rfl, rfl, ha, k⟩
theorem pu_use (ha : A cs) (k : ∀ d, R cs d → Q (.fr d) own) : fPu A R cs own Q := ⟨ha, k⟩
theorem Cl.hole {m' : MO} (h : Cl (pre ++ m :: post)) (hm : m'.refs = []) : Cl (pre ++ m' :: post) := fun x hx j hj => by
  have e : (pre ++ m' :: post).length = (pre ++ m :: post).length := by simp
  rw [e]
  rcases List.mem_append.mp hx with hx | hx
  · exact h x (List.mem_append_left _ hx) j hj
  · rcases List.mem_cons.mp hx with rfl | hx
    · rw [hm] at hj; cases hj
    · exact h x (List.mem_append_right _ (List.mem_cons_of_mem _ hx)) j hj
/-- the body of a drawing def -/
theorem dr_body {w : WS} {N : List Str} {n : Nat} (h : ∀ pre x post as (Q : KC), A as → (∀ d x' r, R as d → Q (.fr d) (Tb pre (drM x') post r)) →
      w { nx := fun _ o => Q (.fr .none) o, rt := Q } (startS N (.hd pre.length :: as)) (Tb pre (drM x) post [])) :
    ∀ cs own Q, Cl own → cs.length = n → fDr A R cs own Q → w (enF own.length Q) (startS N cs) own := by
  rintro cs own Q hc _ ⟨pre, x, post, as, rfl, rfl, ha, k⟩
  have e : (pre ++ drM x :: post).length = hb pre post 0 := by simp [hb]; omega
  rw [← tb_nil]
  refine h pre x post as _ ha fun d x' r hr => ?_
  rw [tb_nil, e]
  refine ⟨hb pre post 0, Nat.le_refl _, (fun j hj => nomatch hj), ?_, ?_⟩
  · rw [tb_take, tb_nil]
    exact hc.hole rfl
  · rw [tb_take, tb_nil]
    exact k d x' hr
theorem pu_body {w : WS} {N : List Str} {n : Nat} (h : ∀ own cs (Q : KC), A cs → (∀ d r, R cs d → Q (.fr d) (T0 own r)) → w { nx := fun _ o => Q (.fr .none) o, rt := Q } (startS N cs) (T0 own [])) :
    ∀ cs own Q, Cl own → cs.length = n → fPu A R cs own Q → w (enF own.length Q) (startS N cs) own := by
  rintro cs own Q hc _ ⟨ha, k⟩
  have e : own.length = h0 own 0 := rfl
  have z := h own cs (EndQ own.length Q) ha fun d r hr => ?_
  · rw [t0_nil] at z
    exact z
  · refine ⟨h0 own 0, Nat.le_refl _, (fun j hj => nomatch hj), ?_, ?_⟩
    · rw [t0_take]; exact hc
    · rw [t0_take]; exact k d hr
end

/-! ### comprehensions: what is so far -/
theorem take_get {α : Type} {l : List α} {i : Nat} {x : α} (h : l[i]? = some x) : l.take (i + 1) = l.take i ++ [x] := by
  rw [List.take_add_one, h]
  rfl
theorem lt_of_get {α : Type} {l : List α} {i : Nat} {x : α} (h : l[i]? = some x) : i < l.length := (List.getElem?_eq_some_iff.mp h).1
theorem get_map {α β : Type} {f : α → β} {xs : List α} {i : Nat} {y : β} (h : (xs.map f)[i]? = some y) : ∃ x, xs[i]? = some x ∧ y = f x := by
  rw [List.getElem?_map] at h
  cases e : xs[i]? with
  | none => rw [e] at h; cases h
  | some x => rw [e] at h; exact ⟨x, rfl, (Option.some.inj h).symm⟩
theorem for_inv {wi : WI} {g : WG} {wb : WS} {E : En} {ss : Sl} {own : Ts} (items : List D) (o : Ts) (P : Nat → Sl → Ts → Prop) (hi : wi ss own fun its o1 => its = items ∧ o1 = o) (h0 : P 0 ss o)
    (hs : ∀ (i : Nat) d ss' own', items[i]? = some d → P i ss' own' → g (.fr d) ss' own' fun ss2 own2 => wb { E with nx := P (i + 1), ct := P (i + 1), bk := E.nx } ss2 own2) (he : ∀ ss' own', P items.length ss' own' → E.nx ss' own') : wFor wi g wb E ss own :=
  ⟨_, hi, fun its o1 h => by
    obtain ⟨rfl, rfl⟩ := h
    exact ⟨P, h0, hs, he⟩⟩
theorem for_cut {wi : WI} {g : WG} {wb : WS} {E : En} {ss : Sl} {own : Ts} (I : List D → Ts → Prop) (hi : wi ss own I) (k : ∀ items o, I items o → ∃ P : Nat → Sl → Ts → Prop, P 0 ss o ∧
    (∀ (i : Nat) d ss' own', items[i]? = some d → P i ss' own' → g (.fr d) ss' own' fun ss2 own2 => wb { E with nx := P (i + 1), ct := P (i + 1), bk := E.nx } ss2 own2) ∧ ∀ ss' own', P items.length ss' own' → E.nx ss' own') : wFor wi g wb E ss own := ⟨I, hi, k⟩
theorem while_inv {wt : WT} {wb : WS} {E : En} {ss : Sl} {own : Ts} (P : Nat → Sl → Ts → Prop) (m : Nat) (h0 : P m ss own) (hs : ∀ m ss' own', P m ss' own' → wt ss' own' fun b o1 => Itf b (wb { E with nx := fun s2 o2 => ∃ m', m' < m ∧ P m' s2 o2, ct := fun s2 o2 => ∃ m', m' < m ∧ P m' s2 o2, bk := E.nx } ss' o1) (E.nx ss' o1)) : wWhile wt wb E ss own := ⟨P, ⟨m, h0⟩, hs⟩
section
variable {wi : WI} {wg : WG} {wt : WT} {we : WE} {vs : List Nat} {ss : Sl} {own : Ts} {Q : Hd KC}
theorem lc_inv (items : List D) (o : Ts) (P : Nat → List C → Ts → Prop) (hi : wi ss own fun its o1 => its = items ∧ o1 = o) (h0 : P 0 [] o)
    (hs : ∀ (i : Nat) d acc own', items[i]? = some d → P i acc own' → wg (.fr d) (wipeS ss vs) own' fun ss2 own2 => wt ss2 own2 fun b own3 => Itf b (we ss2 own3 fun c own4 => acc.length < SZ ∧ P (i + 1) (acc ++ [c]) own4) (P (i + 1) acc own3))
    (he : ∀ acc own', P items.length acc own' → finL acc own' Q.v) : @LcB wi wg wt we vs ss own Q :=
  ⟨_, hi, fun its o1 h => by
    obtain ⟨rfl, rfl⟩ := h
    exact ⟨P, h0, hs, he⟩⟩
theorem lc_cut (I : List D → Ts → Prop) (hi : wi ss own I) (k : ∀ items o, I items o → @LcB (fun _ _ R => R items o) wg wt we vs ss own Q) : @LcB wi wg wt we vs ss own Q :=
  ⟨I, hi, fun its o h => by
    obtain ⟨J, j1, j2⟩ := k its o h
    exact j2 its o j1⟩
/-- those that pass p, by f -/
theorem lc_fil {α : Type} (xs : List α) (g f : α → D) (p : α → Bool) (o : Ts) (hi : wi ss own fun its o1 => its = xs.map g ∧ o1 = o) (hn : xs.length ≤ SZ)
    (hs : ∀ (i : Nat) a (R : C → Ts → Prop) (S : Ts → Prop), xs[i]? = some a → (p a = true → R (.fr (f a)) o) → (p a = false → S o) → wg (.fr (g a)) (wipeS ss vs) o fun ss2 own2 => wt ss2 own2 fun b own3 => Itf b (we ss2 own3 R) (S own3))
    (k : Q.v (.fr (.list ((xs.filter p).map f))) o) : @LcB wi wg wt we vs ss own Q := by
  refine lc_inv _ _ (fun i acc own' => own' = o ∧ acc = (((xs.take i).filter p).map f).map C.fr) hi ⟨rfl, rfl⟩ ?_ ?_
  · rintro i d acc own' hd ⟨rfl, rfl⟩
    obtain ⟨a, ha, rfl⟩ := get_map hd
    have hl := lt_of_get ha
    have hf := List.length_filter_le p (xs.take i)
    rw [List.length_take] at hf
    refine hs i a (fun c own4 => (((((xs.take i).filter p).map f).map C.fr).length < SZ ∧ own4 = own' ∧ (((xs.take i).filter p).map f).map C.fr ++ [c] = (((xs.take (i + 1)).filter p).map f).map C.fr)) (fun own3 => own3 = own' ∧ (((xs.take i).filter p).map f).map C.fr = (((xs.take (i + 1)).filter p).map f).map C.fr) ha (fun hp => ⟨?_, rfl, ?_⟩) (fun hp => ⟨rfl, ?_⟩)
    · simp only [List.length_map]
      omega
    · rw [take_get ha, List.filter_append, List.filter_cons, if_pos hp]
      simp
    · rw [take_get ha, List.filter_append, List.filter_cons, if_neg (by rw [hp]; decide)]
      simp
  · rintro acc own' ⟨rfl, rfl⟩
    rw [List.length_map, List.take_length]
    unfold finL
    rw [frs_map]
    exact k
/-- each item by f -/
theorem lc_map {α : Type} (xs : List α) (g f : α → D) (o : Ts) (hi : wi ss own fun its o1 => its = xs.map g ∧ o1 = o) (hn : xs.length ≤ SZ)
    (hs : ∀ (i : Nat) a (R : C → Ts → Prop) (S : Ts → Prop), xs[i]? = some a → R (.fr (f a)) o → wg (.fr (g a)) (wipeS ss vs) o fun ss2 own2 => wt ss2 own2 fun b own3 => Itf b (we ss2 own3 R) (S own3))
    (k : Q.v (.fr (.list (xs.map f))) o) : @LcB wi wg wt we vs ss own Q :=
  lc_fil xs g f (fun _ => true) o hi hn (fun i a R S h r _ => hs i a R S h (r rfl)) (by rw [List.filter_eq_self.mpr (fun _ _ => rfl)]; exact k)
end
/-- one to one -/
def All2 {α β : Type} (R : α → β → Prop) (xs : List α) (ys : List β) : Prop := ys.length = xs.length ∧ ∀ (j : Nat) a b, xs[j]? = some a → ys[j]? = some b → R a b
theorem All2.at {α β : Type} {R : α → β → Prop} {xs : List α} {ys : List β} (h : All2 R xs ys) {y : β} (hy : y ∈ ys) : ∃ x ∈ xs, R x y := by
  obtain ⟨j, hj⟩ := List.mem_iff_getElem?.mp hy
  have := lt_of_get hj
  obtain ⟨x, hx⟩ : ∃ x, xs[j]? = some x := ⟨_, List.getElem?_eq_getElem (by rw [← h.1]; exact this)⟩
  exact ⟨x, List.mem_of_getElem? hx, h.2 j x y hx hj⟩
/-- each item by what is drawn -/
theorem lc_dr {α β : Type} {wi : WI} {wg : WG} {wt : WT} {we : WE} {vs : List Nat} {ss : Sl} {own : Ts} {Q : Hd KC} (xs : List α) (g : α → D) (e : β → D) (R : α → β → Prop) (pre post r : Ts) (x : Drw) (hi : wi ss own fun its o1 => its = xs.map g ∧ o1 = Tb pre (drM x) post r) (hn : xs.length ≤ SZ)
    (hs : ∀ (i : Nat) a x' (T : C → Ts → Prop) (S : Ts → Prop), xs[i]? = some a → (∀ b x'', R a b → T (.fr (e b)) (Tb pre (drM x'') post r)) → wg (.fr (g a)) (wipeS ss vs) (Tb pre (drM x') post r) fun ss2 own2 => wt ss2 own2 fun b own3 => Itf b (we ss2 own3 T) (S own3))
    (k : ∀ bs x', All2 R xs bs → Q.v (.fr (.list (bs.map e))) (Tb pre (drM x') post r)) : @LcB wi wg wt we vs ss own Q := by
  refine lc_inv _ _ (fun i acc own' => ∃ (x' : Drw) (bs : List β), own' = Tb pre (drM x') post r ∧ acc = (bs.map e).map C.fr ∧ All2 R (xs.take i) bs) hi ⟨x, [], rfl, rfl, by simp [All2]⟩ ?_ ?_
  · rintro i d acc own' hd ⟨x', bs, rfl, rfl, hb, hr⟩
    obtain ⟨a, ha, rfl⟩ := get_map hd
    have hl := lt_of_get ha
    rw [List.length_take] at hb
    refine hs i a x' (fun c own4 => ((bs.map e).map C.fr).length < SZ ∧ ∃ (x' : Drw) (bs' : List β), own4 = Tb pre (drM x') post r ∧ (bs.map e).map C.fr ++ [c] = (bs'.map e).map C.fr ∧ All2 R (xs.take (i + 1)) bs') _ ha fun b x'' rab => ⟨by simp only [List.length_map]; omega, x'', bs ++ [b], rfl, by simp, ?_⟩
    refine ⟨by simp only [List.length_append, List.length_take, List.length_cons, List.length_nil]; omega, fun j a' b' h1 h2 => ?_⟩
    by_cases hj : j < bs.length
    · rw [List.getElem?_append_left hj] at h2
      refine hr j a' b' ?_ h2
      rw [List.getElem?_take] at h1 ⊢
      rw [if_pos (by omega)] at h1 ⊢
      exact h1
    · rw [List.getElem?_append_right (by omega)] at h2
      have := lt_of_get h2
      simp at this
      have e1 : j = i := by omega
      subst e1
      rw [List.getElem?_take, if_pos (by omega), ha] at h1
      cases h1
      have e2 : j - bs.length = 0 := by omega
      rw [e2] at h2
      cases h2
      exact rab
  · rintro acc own' ⟨x', bs, rfl, rfl, hb⟩
    rw [List.length_map, List.take_length] at hb
    unfold finL
    rw [frs_map]
    exact k bs x' hb
theorem cutD_map {α β : Type} (f : α → β) (xs : List α) (lo hi : Option Int) : cutD (xs.map f) lo hi = (cutD xs lo hi).map f := by
  unfold cutD
  rw [List.length_map, ← List.map_drop, ← List.map_take]
theorem cutD_len_le {α : Type} (xs : List α) (lo hi : Option Int) : (cutD xs lo hi).length ≤ xs.length := by
  unfold cutD
  rw [List.length_take, List.length_drop]
  omega
theorem cutD_to {α : Type} (xs : List α) (n : Nat) : cutD xs none (some (n : Int)) = xs.take n := by
  unfold cutD
  rw [HT.sIx_none, HT.sIx_nat, List.drop_zero, Nat.sub_zero]
  by_cases h : n ≤ xs.length
  · rw [Nat.min_eq_left h]
  · rw [Nat.min_eq_right (by omega), List.take_length, List.take_of_length_le (by omega)]
theorem cutD_from {α : Type} (xs : List α) (n : Nat) : cutD xs (some (n : Int)) none = xs.drop n := by
  unfold cutD
  rw [HT.sIx_none, HT.sIx_nat]
  by_cases h : n ≤ xs.length
  · rw [Nat.min_eq_left h]
    exact List.take_of_length_le (by rw [List.length_drop]; omega)
  · rw [Nat.min_eq_right (by omega), Nat.sub_self, List.take_zero, List.drop_of_length_le (by omega)]
theorem atI_ofNat {α : Type} {xs : List α} {j : Nat} {v : α} (h : xs[j]? = some v) : atI xs (j : Int) = some v := atI_nat h
theorem atI_int {α : Type} {xs : List α} {i : Int} (h : 0 ≤ i) : atI xs i = xs[i.toNat]? := by
  unfold atI ixN
  rw [if_pos h]
  by_cases hi : i < xs.length
  · rw [if_pos hi]; rfl
  · rw [if_neg hi, List.getElem?_eq_none (by omega)]; rfl

theorem mulR {i j : Int} (h : -(2 ^ 64) < j ∧ j < 2 ^ 64) : CMul i j := .inr h
theorem mulL {i j : Int} (h : -(2 ^ 64) < i ∧ i < 2 ^ 64) : CMul i j := .inl h
theorem divP {i j : Int} (h : 0 < j ∧ j < 1073741824) : CDiv i j := h

/-! ### the drawn numbers -/
def f__law_begin : FA := fun cs own Q => ∃ ns, cs = [.sc ns] ∧ ∀ x, Q (.hd own.length) (own ++ [drM x])
/-- a sequence as a value -/
inductive SeqC : C → List D → Prop
  | l (ds : List D) : SeqC (.fr (.list ds)) ds
  | t (ds : List D) : SeqC (.fr (.tuple ds)) ds
  | s (z : Str) : SeqC (.fr (.str z)) (z.cps.toList.map fun x => .str ⟨#[x]⟩)
def f__law_draw : FA := fDr (fun as => ∃ i, as = [.fr (.int i)] ∧ 0 < i ∧ i < 1073741824) fun as d => ∀ i, as = [.fr (.int i)] → ∃ v, d = .int v ∧ 0 ≤ v ∧ v < i
def f__law_rare : FA := fDr (fun as => ∃ i, as = [.fr (.int i)] ∧ 0 < i ∧ i < 1073741824) fun as d => ∃ b, d = .bool b
def f__law_pick : FA := fDr (fun as => ∃ c ds, as = [c] ∧ SeqC c ds ∧ 0 < ds.length ∧ ds.length ≤ SZ) fun as d => ∀ c ds, as = [c] → SeqC c ds → d ∈ ds
def f__law_shuffled : FA := fDr (fun as => ∃ c ds, as = [c] ∧ (c = .fr (.list ds) ∨ c = .fr (.tuple ds)) ∧ ds.length ≤ SZ) fun as d => ∀ ds, (as = [.fr (.list ds)] ∨ as = [.fr (.tuple ds)]) → ∃ es, d = .list es ∧ es.Perm ds
section
variable {pre post r own : Ts} {x : Drw} {Q : Hd KC} {A : List C → Prop} {R : List C → D → Prop} {as cs : List C}
theorem dr_at {f : FA} (hf : f = fDr A R) {x : Drw} (ha : A as) (k : ∀ d x', R as d → Q.v (.fr d) (Tb pre (drM x') post r)) : @CalB f (.hd pre.length :: as) (Tb pre (drM x) post r) Q := by
  subst hf
  exact ⟨pre, x, post ++ r, as, rfl, rfl, ha, k⟩
theorem draw_use {i : Int} (h1 : 0 < i) (h2 : i < 1073741824) (k : ∀ v x', 0 ≤ v → v < i → Q.v (.fr (.int v)) (Tb pre (drM x') post r)) : @CalB f__law_draw [.hd pre.length, .fr (.int i)] (Tb pre (drM x) post r) Q := by
  refine dr_at rfl ⟨i, rfl, h1, h2⟩ fun d x' h => ?_
  obtain ⟨v, rfl, l1, l2⟩ := h i rfl
  exact k v x' l1 l2
theorem rare_use {i : Int} (h1 : 0 < i) (h2 : i < 1073741824) (k : ∀ b x', Q.v (.fr (.bool b)) (Tb pre (drM x') post r)) : @CalB f__law_rare [.hd pre.length, .fr (.int i)] (Tb pre (drM x) post r) Q := by
  refine dr_at rfl ⟨i, rfl, h1, h2⟩ fun d x' h => ?_
  obtain ⟨b, rfl⟩ := h
  exact k b x'
theorem pick_use {c : C} {ds : List D} (hs : SeqC c ds) (h1 : 0 < ds.length) (h2 : ds.length ≤ SZ) (k : ∀ d x', d ∈ ds → Q.v (.fr d) (Tb pre (drM x') post r)) : @CalB f__law_pick [.hd pre.length, c] (Tb pre (drM x) post r) Q :=
  dr_at rfl ⟨c, ds, rfl, hs, h1, h2⟩ fun d x' h => k d x' (h c ds rfl hs)
theorem shuffled_useL {ds : List D} (h2 : ds.length ≤ SZ) (k : ∀ es x', es.Perm ds → Q.v (.fr (.list es)) (Tb pre (drM x') post r)) : @CalB f__law_shuffled [.hd pre.length, .fr (.list ds)] (Tb pre (drM x) post r) Q := by
  refine dr_at rfl ⟨_, ds, rfl, .inl rfl, h2⟩ fun d x' h => ?_
  obtain ⟨es, rfl, p⟩ := h ds (.inl rfl)
  exact k es x' p
theorem shuffled_useT {ds : List D} (h2 : ds.length ≤ SZ) (k : ∀ es x', es.Perm ds → Q.v (.fr (.list es)) (Tb pre (drM x') post r)) : @CalB f__law_shuffled [.hd pre.length, .fr (.tuple ds)] (Tb pre (drM x) post r) Q := by
  refine dr_at rfl ⟨_, ds, rfl, .inr rfl, h2⟩ fun d x' h => ?_
  obtain ⟨es, rfl, p⟩ := h ds (.inr rfl)
  exact k es x' p
end
def N__law_begin : List Str := ["script", "cell"]
def w__law_begin : WS := (wRet (wLstH (wCons (wLc (wiSeq (wSl fSl (wVar 0) wNoPart (wPart (wC (.int 63))))) (wName 1) wYes (wCB fInt (wCons (wVar 1) wNil)) [1]) (wCons (wC (.int 0)) (wCons (wC (.int 0)) (wCons (wC (.int 7)) wNil))))))
theorem d__law_begin : ∀ cs own Q, Cl own → cs.length = 1 → f__law_begin cs own Q → w__law_begin (enF own.length Q) (startS N__law_begin cs) own := by
  rintro cs own Q hc _ ⟨ns, rfl, k⟩
  show w__law_begin (enF own.length Q) [some (.sc ns), none] own
  unfold w__law_begin
  walk_at "zs"
  refine lc_map (ns.take 63) .int .int own (by
    walk_at "zs"
    rw [cutD_map, show (63 : Int) = ((63 : Nat) : Int) from rfl, cutD_to]
    ) (by simp [SZ]; omega) (fun i a R S _ hR => by
      walk_at "zs"
      exact hR) ?_
  walk_at "zs"
  refine ⟨own.length + 1, Nat.le_succ _, fun j hj => ?_, ?_, ?_⟩
  · have : j = own.length := by simpa [C.refs] using hj
    omega
  · rw [List.take_of_length_le (by simp)]
    exact hc.app fun j hj => by simp [MO.refs, C.refs] at hj
  · rw [List.take_of_length_le (by simp)]
    exact k ⟨ns.take 63, 0, 0, 7, Int.le_refl _⟩
def N__law_draw : List Str := ["d", "many", "size", "found", "cell"]
def w__law_draw : WS := (wSeq (wIfS (wTest (wOp fGt (wOp fIx (wVar 0) (wC (.int 2))) (wC (.int 0)))) (wSeq (wAsg (wOp fIx (wVar 0) (wC (.int 2))) (wName 3))
  (wSeq (wAsg (wOp fDiv (wVar 3) (wVar 1)) (wSet (wVar 0) (wC (.int 2))))
  (wRet (wOp fMod (wCB fInt (wCons (wVar 3) wNil)) (wVar 1))))) wNext)
  (wSeq (wAsg (wC (.int 0)) (wName 2))
  (wSeq (wIfS (wTest (wOp fLt (wOp fIx (wVar 0) (wC (.int 1))) (wCB fLen (wCons (wOp fIx (wVar 0) (wC (.int 0))) wNil)))) (wSeq (wAsg (wOp fIx (wOp fIx (wVar 0) (wC (.int 0))) (wOp fIx (wVar 0) (wC (.int 1)))) (wName 4))
  (wAsg (wOp fAdd (wOp fMul (wC (.int 2)) (wCB fAbs (wCons (wVar 4) wNil))) (wCB fInt (wCons (wOp fLt (wVar 4) (wC (.int 0))) wNil))) (wName 2))) wNext)
  (wSeq (wAugS (fI fun i j => .int (i + j)) (wVar 0) (wC (.int 1)) (wC (.int 1)))
  (wSeq (wIfS (wTest (wOp fGe (wVar 2) (wOp fMul (wC (.int 2)) (wOp fPow (wC (.int 10)) (wC (.int 18)))))) (wSeq (wAsg (wOp fMod (wCB fInt (wCons (wOp fDiv (wVar 2) (wC (.int 2))) wNil)) (wOp fShl (wC (.int 1)) (wC (.int 6000)))) (wName 3))
  (wSeq (wAsg (wOp fDiv (wVar 3) (wVar 1)) (wSet (wVar 0) (wC (.int 2))))
  (wRet (wOp fMod (wCB fInt (wCons (wVar 3) wNil)) (wVar 1))))) wNext)
  (wSeq (wAsg (wOp fMod (wCB fInt (wCons (wOp fAdd (wOp fAdd (wOp fAdd (wOp fMul (wOp fIx (wVar 0) (wC (.int 3))) (wC (.int 48271))) (wOp fMul (wOp fMod (wCB fInt (wCons (wVar 2) wNil)) (wC (.int 2147483629))) (wC (.int 16807)))) (wOp fMul (wOp fIx (wVar 0) (wC (.int 1))) (wC (.int 69621)))) (wC (.int 11))) wNil)) (wC (.int 2147483647))) (wSet (wVar 0) (wC (.int 3))))
  (wRet (wOp fMod (wCB fInt (wCons (wOp fDiv (wOp fIx (wVar 0) (wC (.int 3))) (wC (.int 16))) wNil)) (wVar 1)))))))))
theorem d__law_draw : ∀ cs own Q, Cl own → cs.length = 2 → f__law_draw cs own Q → w__law_draw (enF own.length Q) (startS N__law_draw cs) own := by
  refine dr_body fun pre x post as Q ⟨i, e, h1, h2⟩ k => ?_
  subst e
  have k2 : ∀ v x', 0 ≤ v → v < i → Q (.fr (.int v)) (Tb pre (drM x') post []) := fun v x' l1 l2 => k _ _ _ fun j e => by
    have e : i = j := by injection e with e _; injection e with e; injection e
    subst e
    exact ⟨v, rfl, l1, l2⟩
  obtain ⟨cells, a, b, c, ha⟩ := x
  show w__law_draw _ [some (.hd pre.length), some (.fr (.int i)), none, none, none] (Tb pre (.lst [.fr (.list (cells.map PyData.int)), .fr (.int a), .fr (.int b), .fr (.int c)]) post [])
  unfold w__law_draw
  walk_at "z1"
  refine itd' (fun hb => ?_) (fun hb => ?_)
  · walk_at "z1"
    walk_at "z1"
    exact ⟨⟨h1, h2⟩, h1, k2 _ ⟨cells, a, b / i, c, ha⟩ (Int.emod_nonneg _ (by omega)) (Int.emod_lt_of_pos _ h1)⟩
  · walk_at "z1"
    refine seq_cut (fun ss o => o = Tb pre (.lst [.fr (.list (cells.map .int)), .fr (.int a), .fr (.int b), .fr (.int c)]) post [] ∧ ∃ size x y, ss = [some (.hd pre.length), some (.fr (.int i)), some (.fr (.int size)), x, y]) ?_ ?_
    · walk_at "zs"
      refine itd' (fun h => ?_) (fun h => ?_) <;> walk_at "zs"
      rotate_left
      · exact ⟨0, none, none, rfl⟩
      have ea : atI (cells.map PyData.int) a = some (.int (cells.getD a.toNat 0)) := by
        rw [atI_int ha, List.getElem?_map]
        have : a.toNat < cells.length := by omega
        simp [List.getElem?_eq_getElem this, List.getD]
      refine seq1 ?_
      walk_at "zs"
      rw [ea]
      walk_at "zs"
      generalize cells.getD a.toNat 0 = z
      exact ⟨.inl (by decide), _, _, _, rfl⟩
    · rintro ss o ⟨rfl, size, x, y, rfl⟩
      walk_at "z1"
      walk_at "z1"
      refine ⟨⟨by decide, by decide, by decide⟩, mulL ⟨by decide, by decide⟩, itd (fun h => ?_) (fun h => ?_)⟩
      · walk_at "z1"
        refine ⟨⟨by decide, by decide⟩, ⟨by decide, by decide, by decide⟩, by rw [Int.one_mul]; exact Int.pow_pos (by decide), ?_⟩
        walk_at "z1"
        exact ⟨⟨h1, h2⟩, h1, k2 _ ⟨cells, a + 1, _, c, by omega⟩ (Int.emod_nonneg _ (by omega)) (Int.emod_lt_of_pos _ h1)⟩
      · walk_at "z1"
        exact ⟨mulR ⟨by decide, by decide⟩, by decide, mulR ⟨by decide, by decide⟩, mulR ⟨by decide, by decide⟩, by decide, ⟨by decide, by decide⟩, h1,
          k2 _ ⟨cells, a + 1, b, _, by omega⟩ (Int.emod_nonneg _ (by omega)) (Int.emod_lt_of_pos _ h1)⟩
def N__law_pick : List Str := ["d", "row"]
def w__law_pick : WS := (wRet (wOp fIx (wVar 1) (wCall 2 f__law_draw (wCons (wVar 0) (wCons (wCB fLen (wCons (wVar 1) wNil)) wNil)))))
theorem d__law_pick : ∀ cs own Q, Cl own → cs.length = 2 → f__law_pick cs own Q → w__law_pick (enF own.length Q) (startS N__law_pick cs) own := by
  refine dr_body fun pre x post as Q ⟨c, ds, e, hs, h1, h3⟩ k => ?_
  subst e
  unfold SZ at h3
  have k2 : ∀ d x', d ∈ ds → Q (.fr d) (Tb pre (drM x') post []) := fun d x' hd => k _ _ _ fun c' ds' e hs' => by
    cases e
    cases hs <;> cases hs' <;> exact hd
  show w__law_pick _ [some (.hd pre.length), some c] _
  unfold w__law_pick
  cases hs with
  | l =>
    walk_at "zs"
    refine draw_use (by omega) (by omega) fun v x' l1 l2 => ?_
    have hv : v.toNat < ds.length := by omega
    refine opb_of (by rw [atI_int l1, List.getElem?_eq_getElem hv]) ?_
    walk_at "zs"
    exact k2 _ _ (List.getElem_mem hv)
  | t =>
    walk_at "zs"
    refine draw_use (by omega) (by omega) fun v x' l1 l2 => ?_
    have hv : v.toNat < ds.length := by omega
    refine opb_of (by rw [atI_int l1, List.getElem?_eq_getElem hv]) ?_
    walk_at "zs"
    exact k2 _ _ (List.getElem_mem hv)
  | s z =>
    have hl : (z.cps.toList.map fun x => PyData.str ⟨#[x]⟩).length = z.length := by rw [List.length_map, Array.length_toList]; rfl
    rw [hl] at h1 h3
    walk_at "zs"
    refine ⟨h3, ?_⟩
    refine draw_use (by omega) (by omega) fun v x' l1 l2 => ?_
    have hv : v.toNat < z.cps.toList.length := by rw [Array.length_toList]; show v.toNat < z.length; omega
    refine ⟨h3, opb_of (by rw [atI_int l1, List.getElem?_eq_getElem hv]) ?_⟩
    walk_at "zs"
    exact k2 _ _ (List.mem_map.mpr ⟨_, List.getElem_mem hv, rfl⟩)
def N__law_rare : List Str := ["d", "many"]
def w__law_rare : WS := (wRet (wOp fEq (wCall 2 f__law_draw (wCons (wVar 0) (wCons (wVar 1) wNil))) (wOp fDiv (wVar 1) (wC (.int 2)))))
theorem d__law_rare : ∀ cs own Q, Cl own → cs.length = 2 → f__law_rare cs own Q → w__law_rare (enF own.length Q) (startS N__law_rare cs) own := by
  refine dr_body fun pre x post as Q ⟨i, e, h1, h2⟩ k => ?_
  subst e
  show w__law_rare _ [some (.hd pre.length), some (.fr (.int i))] _
  unfold w__law_rare
  walk_at "zs"
  refine draw_use h1 h2 fun v x' l1 l2 => ?_
  exact ⟨⟨by decide, by decide⟩, rfl, rfl, k _ _ _ ⟨_, rfl⟩⟩
end Zd

/-! Zb2: the laws' shared helpers: shuffled, names, is_int. -/
namespace Zd
open PySem L2
local macro_rules | `(tactic| walk_at "zs") => `(tactic| simp only [SZ, seqD, Option.bind_some, Bool.not_true, Bool.not_false, eqv_ii, eqv_ss, eqv_bb, shp_i, shp_s, shp_b, shp_n, eq_self, Int.toNat_natCast, range_len, Itf, itb_t, itb_f, optP, opb_some, Cal, wLc, wLcH, wYes, decide_true, decide_false,  ex_lst, List.length_map, Nat.zero_le, Nat.reduceLeDiff, Nat.reduceAdd, wNext, wBreak, wCont, wAsg, wRet, wRetN, wDrop, wIfS, wAug, wPar, wPar3, wTupRev, wSet, wAugS, fSet, fGet, wVar, wFrz, frzC, wC, wOp, wUn, res_fr, res_sc, res_hd, resO_frz, resO_lst, resO_ins, resO_dk, resO_dr, frs_map, fI, fIC, fAdd, fSub, fMul, fDiv, fMod, fPow, fShl, fShr, fAnd, fNeg, fLt, fLe, fGt, fGe, fEq, fNe, fIn, fNotIn, fIsB, fNotB, fIx,
  wSl, fSl, fSlH, wPart, wNoPart, wNil, wCons, wTup, wLst, wLstH, frs, Option.map_some, wTest, wNot, wAnd, wOr, wChain, wIf, wAndV, wOrV, wNotV, wIsN, wNotN, wCB, fLen, fInt, fAbs, fMax2, fMin2, fSum, fSumH, hdD, fMinL, fMinT, fStrI, fJoin, fMaxL, fAll, fAny, fTupleOf, fListOf, fSortedI, fSortedS, fListOfH, wIsi, gname_eq, gnil_eq, gcons_eq, gtup_eq, wiSeq, itemsOf, wiR1, wiR2, wiZip, wiZip3, wiRev, wipeS,
  wBL, wBS, isLst, isStr, fAppend, fPopAt, fPop, fCountI, fExtend, fExtendT, fIndexS, fInsert, fMulT, fAddH, fAddM, wListRg, wListRgH, wFld, wSFld, wFn, wCallF, wT3, fInSg, fInM, fNotInM, wMake, wMeth, InsAt, wDNew, wDPut, fDIn, fDNotIn, fDGet, wDGet1, wDGet2, dkD, keyC, wCall, tb_h, tb_k, tb_seth, tb_setk, tb_app, tb_len, t0_k, t0_setk, t0_app, t0_len, List.getElem?_cons_zero, List.getElem?_cons_succ, List.getElem?_nil, List.set_cons_zero, List.set_cons_succ, List.cons_append, List.nil_append, List.length_cons, List.length_nil, List.map_cons, List.map_nil, Nat.zero_add, if_true, if_false, Bool.false_eq_true, true_and, and_true,
  atI0, atI1, atI2, atI3, atI4, atI5, setI0, setI1, setI2, setI3, decide_eq_true_eq])
local macro_rules | `(tactic| walk_at "zx") => `(tactic| simp -implicitDefEqProofs only [SZ, seqD, Option.bind_some, Bool.not_true, Bool.not_false, eqv_ii, eqv_ss, eqv_bb, shp_i, shp_s, shp_b, shp_n, eq_self, Int.toNat_natCast, range_len, Itf, itb_t, itb_f, optP, opb_some, Cal, wLc, wLcH, wYes, decide_true, decide_false,  ex_lst, List.length_map, Nat.zero_le, Nat.reduceLeDiff, Nat.reduceAdd, wNext, wBreak, wCont, wAsg, wRet, wRetN, wDrop, wIfS, wAug, wPar, wPar3, wTupRev, wSet, wAugS, fSet, fGet, wVar, wFrz, frzC, wC, wOp, wUn, res_fr, res_sc, res_hd, resO_frz, resO_lst, resO_ins, resO_dk, resO_dr, frs_map, fI, fIC, fAdd, fSub, fMul, fDiv, fMod, fPow, fShl, fShr, fAnd, fNeg, fLt, fLe, fGt, fGe, fEq, fNe, fIn, fNotIn, fIsB, fNotB, fIx,
  wSl, fSl, fSlH, wPart, wNoPart, wNil, wCons, wTup, wLst, wLstH, frs, Option.map_some, wTest, wNot, wAnd, wOr, wChain, wIf, wAndV, wOrV, wNotV, wIsN, wNotN, wCB, fLen, fInt, fAbs, fMax2, fMin2, fSum, fSumH, hdD, fMinL, fMinT, fStrI, fJoin, fMaxL, fAll, fAny, fTupleOf, fListOf, fSortedI, fSortedS, fListOfH, wIsi, gname_eq, gnil_eq, gcons_eq, gtup_eq, wiSeq, itemsOf, wiR1, wiR2, wiZip, wiZip3, wiRev, wipeS,
  wBL, wBS, isLst, isStr, fAppend, fPopAt, fPop, fCountI, fExtend, fExtendT, fIndexS, fInsert, fMulT, fAddH, fAddM, wListRg, wListRgH, wFld, wSFld, wFn, wCallF, wT3, fInSg, fInM, fNotInM, wMake, wMeth, InsAt, wDNew, wDPut, fDIn, fDNotIn, fDGet, wDGet1, wDGet2, dkD, keyC, wCall, tb_h, tb_k, tb_seth, tb_setk, tb_app, tb_len, t0_k, t0_setk, t0_app, t0_len, List.getElem?_cons_zero, List.getElem?_cons_succ, List.getElem?_nil, List.set_cons_zero, List.set_cons_succ, List.cons_append, List.nil_append, List.length_cons, List.length_nil, List.map_cons, List.map_nil, Nat.zero_add, if_true, if_false, Bool.false_eq_true, true_and, and_true,
  atI0, atI1, atI2, atI3, atI4, atI5, setI0, setI1, setI2, setI3, decide_eq_true_eq])
local macro_rules | `(tactic| walk_at "z1") => `(tactic| (refine seq1 ?_; try walk_at "zs"))
local macro_rules | `(tactic| walk_at "zy") => `(tactic| (refine seq1 ?_; try walk_at "zx"))
local macro_rules | `(tactic| walk_at "nw") => `(tactic| refine ⟨by decide +kernel, by decide +kernel, itd' (fun e => absurd e (by decide +kernel)) (fun _ => ?_)⟩)
local macro_rules | `(tactic| walk_at "iw") => `(tactic| refine ⟨by decide +kernel, by decide +kernel, ?_⟩)
local macro_rules | `(tactic| walk_at "ni") => `(tactic| (simp only [strsD, Option.map_some]; walk_at "zs"; refine itd' (fun e => absurd e (by decide +kernel)) (fun _ => ?_)))
local macro_rules | `(tactic| walk_at "yi") => `(tactic| (simp only [strsD, Option.map_some]; walk_at "zs"; refine itd' (fun _ => ?_) (fun e => absurd (by decide +kernel) e)))
def N__law_shuffled : List Str := ["d", "row", "left", "found", "k"]
def w__law_shuffled : WS := (wSeq (wAsg (wCB fListOfH (wCons (wVar 1) wNil)) (wName 2))
  (wSeq (wAsg (wLstH wNil) (wName 3))
  (wSeq (wFor (wiR1 (wCons (wCB fLen (wCons (wVar 2) wNil)) wNil)) (wName 4) (wDrop (wBL fAppend (wVar 3) (wCons (wBL fPopAt (wVar 2) (wCons (wCall 2 f__law_draw (wCons (wVar 0) (wCons (wCB fLen (wCons (wVar 2) wNil)) wNil))) wNil)) wNil))))
  (wRet (wFrz (wVar 3))))))
theorem perm_pop {α : Type} {fs es ds : List α} {k : Nat} (hk : k < es.length) (p : (fs ++ es).Perm ds) : ((fs ++ [es[k]]) ++ es.eraseIdx k).Perm ds := by
  refine List.Perm.trans ?_ p
  rw [List.append_assoc]
  refine List.Perm.append_left _ ?_
  show (es[k] :: es.eraseIdx k).Perm es
  clear p
  induction es generalizing k with
  | nil => simp at hk
  | cons e es ih =>
    cases k with
    | zero => exact List.Perm.refl _
    | succ k =>
      have hk' : k < es.length := by simpa using hk
      simp only [List.getElem_cons_succ, List.eraseIdx_cons_succ]
      exact (List.Perm.swap _ _ _).trans ((ih hk').cons _)
theorem ixN_nat {n : Nat} {i : Int} (h0 : 0 ≤ i) (h1 : i < n) : ixN n i = some i.toNat := by
  unfold ixN
  rw [if_pos h0, if_pos h1]
theorem era_map {α β : Type} (f : α → β) : ∀ (l : List α) (k : Nat), (l.map f).eraseIdx k = (l.eraseIdx k).map f
  | [], _ => rfl
  | _ :: _, 0 => rfl
  | a :: l, k + 1 => congrArg (f a :: ·) (era_map f l k)
theorem frs_fr (ds : List D) : frs (ds.map C.fr) = some ds := frs_map ds
theorem shuffled_core {pre post : Ts} {x : Drw} {c : C} {ds : List D} {Q : KC} (hn : ds.length ≤ SZ) (k : ∀ es x' r, es.Perm ds → Q (.fr (.list es)) (Tb pre (drM x') post r)) (E : En) (hE : E.rt = Q) :
    (wSeq (wAsg (wLstH wNil) (wName 3))
  (wSeq (wFor (wiR1 (wCons (wCB fLen (wCons (wVar 2) wNil)) wNil)) (wName 4) (wDrop (wBL fAppend (wVar 3) (wCons (wBL fPopAt (wVar 2) (wCons (wCall 2 f__law_draw (wCons (wVar 0) (wCons (wCB fLen (wCons (wVar 2) wNil)) wNil))) wNil)) wNil))))
  (wRet (wFrz (wVar 3))))) E [some (.hd pre.length), some c, some (.hd (hb pre post 0)), none, none] (Tb pre (drM x) post [.lst (ds.map C.fr)]) := by
  unfold SZ at hn
  walk_at "z1"
  walk_at "z1"
  refine for_inv (rangeD 0 ds.length) _ (fun k ss own => ∃ (x : Drw) (es fs : List D) (z : Option C), own = Tb pre (drM x) post [.lst (es.map C.fr), .lst (fs.map C.fr)] ∧ ss = [some (.hd pre.length), some c, some (.hd (hb pre post 0)), some (.hd (hb pre post 1)), z] ∧ es.length + k = ds.length ∧ fs.length = k ∧ (fs ++ es).Perm ds) (by
    walk_at "zs"
    exact ⟨⟨by omega, by omega⟩, rfl⟩) ?_ ?_ ?_
  · exact ⟨x, ds, [], none, rfl, rfl, rfl, rfl, List.Perm.refl _⟩
  · rintro i d ss own hi ⟨x, es, fs, z, rfl, rfl, hl, hf, hp⟩
    have hi2 : i < ds.length := by
      have := lt_of_get hi
      simpa [rangeD] using this
    walk_at "zs"
    refine draw_use (by omega) (by omega) fun v x' l1 l2 => ?_
    have hv : v.toNat < es.length := by omega
    walk_at "zs"
    refine ⟨by omega, v.toNat, .fr es[v.toNat], ixN_nat l1 l2, by rw [List.getElem?_map, List.getElem?_eq_getElem hv]; rfl, ?_⟩
    walk_at "zs"
    refine ⟨by omega, x', es.eraseIdx v.toNat, fs ++ [es[v.toNat]], some (.fr d), ?_, rfl, ?_, by simp [hf], perm_pop hv hp⟩
    · rw [List.map_append, era_map]
      rfl
    · rw [List.length_eraseIdx_of_lt hv]
      omega
  · rintro ss own ⟨x, es, fs, z, rfl, rfl, hl, hf, hp⟩
    have e0 : es = [] := by
      rw [range_len] at hl
      exact List.eq_nil_of_length_eq_zero (by omega)
    subst e0
    rw [List.append_nil] at hp
    walk_at "zs"
    rw [hE]
    exact k fs x _ hp
theorem d__law_shuffled : ∀ cs own Q, Cl own → cs.length = 2 → f__law_shuffled cs own Q → w__law_shuffled (enF own.length Q) (startS N__law_shuffled cs) own := by
  refine dr_body fun pre x post as Q ⟨c, ds, e, hc, hn⟩ k => ?_
  subst e
  have k2 : ∀ es x' r, es.Perm ds → Q (.fr (.list es)) (Tb pre (drM x') post r) := fun es x' r hp => k _ _ _ fun ds' e => by
    have : ds' = ds := by
      rcases hc with rfl | rfl <;> rcases e with e | e <;> first | (cases e; rfl) | cases e
    subst this
    exact ⟨es, rfl, hp⟩
  show w__law_shuffled _ [some (.hd pre.length), some c, none, none, none] _
  unfold w__law_shuffled
  rcases hc with rfl | rfl
  · walk_at "z1"
    exact shuffled_core hn k2 _ rfl
  · walk_at "z1"
    exact shuffled_core hn k2 _ rfl
end Zd

/-! Zb3: names, is_int. -/
namespace Zd
open PySem L2
local macro_rules | `(tactic| walk_at "zs") => `(tactic| simp only [SZ, seqD, Option.bind_some, Bool.not_true, Bool.not_false, eqv_ii, eqv_ss, eqv_bb, shp_i, shp_s, shp_b, shp_n, eq_self, Int.toNat_natCast, range_len, Itf, itb_t, itb_f, optP, opb_some, Cal, wLc, wLcH, wYes, decide_true, decide_false,  ex_lst, List.length_map, Nat.zero_le, Nat.reduceLeDiff, Nat.reduceAdd, wNext, wBreak, wCont, wAsg, wRet, wRetN, wDrop, wIfS, wAug, wPar, wPar3, wTupRev, wSet, wAugS, fSet, fGet, wVar, wFrz, frzC, wC, wOp, wUn, res_fr, res_sc, res_hd, resO_frz, resO_lst, resO_ins, resO_dk, resO_dr, frs_map, fI, fIC, fAdd, fSub, fMul, fDiv, fMod, fPow, fShl, fShr, fAnd, fNeg, fLt, fLe, fGt, fGe, fEq, fNe, fIn, fNotIn, fIsB, fNotB, fIx,
  wSl, fSl, fSlH, wPart, wNoPart, wNil, wCons, wTup, wLst, wLstH, frs, Option.map_some, wTest, wNot, wAnd, wOr, wChain, wIf, wAndV, wOrV, wNotV, wIsN, wNotN, wCB, fLen, fInt, fAbs, fMax2, fMin2, fSum, fSumH, hdD, fMinL, fMinT, fStrI, fJoin, fMaxL, fAll, fAny, fTupleOf, fListOf, fSortedI, fSortedS, fListOfH, wIsi, gname_eq, gnil_eq, gcons_eq, gtup_eq, wiSeq, itemsOf, wiR1, wiR2, wiZip, wiZip3, wiRev, wipeS,
  wBL, wBS, isLst, isStr, fAppend, fPopAt, fPop, fCountI, fExtend, fExtendT, fIndexS, fInsert, fMulT, fAddH, fAddM, wListRg, wListRgH, wFld, wSFld, wFn, wCallF, wT3, fInSg, fInM, fNotInM, wMake, wMeth, InsAt, wDNew, wDPut, fDIn, fDNotIn, fDGet, wDGet1, wDGet2, dkD, keyC, wCall, tb_h, tb_k, tb_seth, tb_setk, tb_app, tb_len, t0_k, t0_setk, t0_app, t0_len, List.getElem?_cons_zero, List.getElem?_cons_succ, List.getElem?_nil, List.set_cons_zero, List.set_cons_succ, List.cons_append, List.nil_append, List.length_cons, List.length_nil, List.map_cons, List.map_nil, Nat.zero_add, if_true, if_false, Bool.false_eq_true, true_and, and_true,
  atI0, atI1, atI2, atI3, atI4, atI5, setI0, setI1, setI2, setI3, decide_eq_true_eq])
local macro_rules | `(tactic| walk_at "zx") => `(tactic| simp -implicitDefEqProofs only [SZ, seqD, Option.bind_some, Bool.not_true, Bool.not_false, eqv_ii, eqv_ss, eqv_bb, shp_i, shp_s, shp_b, shp_n, eq_self, Int.toNat_natCast, range_len, Itf, itb_t, itb_f, optP, opb_some, Cal, wLc, wLcH, wYes, decide_true, decide_false,  ex_lst, List.length_map, Nat.zero_le, Nat.reduceLeDiff, Nat.reduceAdd, wNext, wBreak, wCont, wAsg, wRet, wRetN, wDrop, wIfS, wAug, wPar, wPar3, wTupRev, wSet, wAugS, fSet, fGet, wVar, wFrz, frzC, wC, wOp, wUn, res_fr, res_sc, res_hd, resO_frz, resO_lst, resO_ins, resO_dk, resO_dr, frs_map, fI, fIC, fAdd, fSub, fMul, fDiv, fMod, fPow, fShl, fShr, fAnd, fNeg, fLt, fLe, fGt, fGe, fEq, fNe, fIn, fNotIn, fIsB, fNotB, fIx,
  wSl, fSl, fSlH, wPart, wNoPart, wNil, wCons, wTup, wLst, wLstH, frs, Option.map_some, wTest, wNot, wAnd, wOr, wChain, wIf, wAndV, wOrV, wNotV, wIsN, wNotN, wCB, fLen, fInt, fAbs, fMax2, fMin2, fSum, fSumH, hdD, fMinL, fMinT, fStrI, fJoin, fMaxL, fAll, fAny, fTupleOf, fListOf, fSortedI, fSortedS, fListOfH, wIsi, gname_eq, gnil_eq, gcons_eq, gtup_eq, wiSeq, itemsOf, wiR1, wiR2, wiZip, wiZip3, wiRev, wipeS,
  wBL, wBS, isLst, isStr, fAppend, fPopAt, fPop, fCountI, fExtend, fExtendT, fIndexS, fInsert, fMulT, fAddH, fAddM, wListRg, wListRgH, wFld, wSFld, wFn, wCallF, wT3, fInSg, fInM, fNotInM, wMake, wMeth, InsAt, wDNew, wDPut, fDIn, fDNotIn, fDGet, wDGet1, wDGet2, dkD, keyC, wCall, tb_h, tb_k, tb_seth, tb_setk, tb_app, tb_len, t0_k, t0_setk, t0_app, t0_len, List.getElem?_cons_zero, List.getElem?_cons_succ, List.getElem?_nil, List.set_cons_zero, List.set_cons_succ, List.cons_append, List.nil_append, List.length_cons, List.length_nil, List.map_cons, List.map_nil, Nat.zero_add, if_true, if_false, Bool.false_eq_true, true_and, and_true,
  atI0, atI1, atI2, atI3, atI4, atI5, setI0, setI1, setI2, setI3, decide_eq_true_eq])
local macro_rules | `(tactic| walk_at "z1") => `(tactic| (refine seq1 ?_; try walk_at "zs"))
local macro_rules | `(tactic| walk_at "zy") => `(tactic| (refine seq1 ?_; try walk_at "zx"))
local macro_rules | `(tactic| walk_at "nw") => `(tactic| refine ⟨by decide +kernel, by decide +kernel, itd' (fun e => absurd e (by decide +kernel)) (fun _ => ?_)⟩)
local macro_rules | `(tactic| walk_at "iw") => `(tactic| refine ⟨by decide +kernel, by decide +kernel, ?_⟩)
local macro_rules | `(tactic| walk_at "ni") => `(tactic| (simp only [strsD, Option.map_some]; walk_at "zs"; refine itd' (fun e => absurd e (by decide +kernel)) (fun _ => ?_)))
local macro_rules | `(tactic| walk_at "yi") => `(tactic| (simp only [strsD, Option.map_some]; walk_at "zs"; refine itd' (fun _ => ?_) (fun e => absurd (by decide +kernel) e)))
/-- the law's letters, its tails -/
def ABC : Str := "abcdefghijklmnopqrstuvwxyz"
def TLS : List Str := ["", "", "q", "ab", "zz", "longer", "abcdefghijk"]
def hdS (z : Str) : Nat := z.cps.toList.headD 0
/-- a letter and a tail -/
def NmOk (z : Str) : Prop := ∃ x t, t ∈ TLS ∧ 97 ≤ x ∧ x < 123 ∧ z = (⟨#[x]⟩ : Str) ++ t
def f__law_names : FA := fDr (fun as => ∃ i : Nat, as = [.fr (.int i)] ∧ i ≤ 26) fun as d => ∀ i : Nat, as = [.fr (.int i)] → ∃ zs : List Str, d = .list (zs.map .str) ∧ zs.length = i ∧ zs.Nodup ∧ ∀ z ∈ zs, NmOk z
theorem names_use {pre post r : Ts} {x : Drw} {Q : Hd KC} {i : Nat} (h : i ≤ 26) (k : ∀ (zs : List Str) x', zs.length = i → zs.Nodup → (∀ z ∈ zs, NmOk z) → Q.v (.fr (.list (zs.map .str))) (Tb pre (drM x') post r)) : @CalB f__law_names [.hd pre.length, .fr (.int i)] (Tb pre (drM x) post r) Q := by
  refine dr_at rfl ⟨i, rfl, h⟩ fun d x' hr => ?_
  obtain ⟨zs, rfl, h1, h2, h3⟩ := hr i rfl
  exact k zs x' h1 h2 h3
def N__law_names : List Str := ["d", "many", "letters", "tails", "step", "found", "k"]
def w__law_names : WS := (wSeq (wAsg (wC (.str "abcdefghijklmnopqrstuvwxyz")) (wName 2))
  (wSeq (wAsg (wLst (wCons (wC (.str "")) (wCons (wC (.str "")) (wCons (wC (.str "q")) (wCons (wC (.str "ab")) (wCons (wC (.str "zz")) (wCons (wC (.str "longer")) (wCons (wC (.str "abcdefghijk")) wNil)))))))) (wName 3))
  (wSeq (wAsg (wOp fDiv (wC (.int 26)) (wCB fMax2 (wCons (wC (.int 1)) (wCons (wVar 1) wNil)))) (wName 4))
  (wSeq (wAsg (wLstH wNil) (wName 5))
  (wSeq (wFor (wiR1 (wCons (wVar 1) wNil)) (wName 6) (wDrop (wBL fAppend (wVar 5) (wCons (wOp fAdd (wOp fIx (wVar 2) (wOp fAdd (wOp fMul (wVar 6) (wVar 4)) (wCall 2 f__law_draw (wCons (wVar 0) (wCons (wVar 4) wNil))))) (wCall 2 f__law_pick (wCons (wVar 0) (wCons (wVar 3) wNil)))) wNil))))
  (wRet (wCall 2 f__law_shuffled (wCons (wVar 0) (wCons (wFrz (wVar 5)) wNil)))))))))
theorem abc_get {j : Nat} (h : j < 26) : (ABC.cps.toList)[j]? = some (97 + j) := by
  have e : ABC.cps.toList = (List.range 26).map (97 + ·) := by decide +kernel
  rw [e, List.getElem?_map, List.getElem?_range h]
  rfl
theorem abc_len : ABC.length = 26 := by decide +kernel
theorem tls_len : ∀ t ∈ TLS, t.length ≤ 11 := by decide +kernel
theorem str_cat_len (x y : Str) : (x ++ y).length = x.length + y.length := by
  show (x.cps ++ y.cps).size = _
  rw [Array.size_append]
  rfl
theorem hd_cat (x : Nat) (t : Str) : hdS ((⟨#[x]⟩ : Str) ++ t) = x := by
  show ((#[x] : Array Nat) ++ t.cps).toList.headD 0 = x
  rw [Array.toList_append]
  rfl
theorem pw_nodup {zs : List Str} (h : zs.Pairwise fun a b => hdS a < hdS b) : zs.Nodup := h.imp fun {a b} h e => by
  subst e
  omega
theorem mem_strs {d : D} {zs : List Str} (h : d ∈ zs.map PyData.str) : ∃ z ∈ zs, d = .str z := by
  obtain ⟨z, hz, e⟩ := List.mem_map.mp h
  exact ⟨z, hz, e.symm⟩
theorem perm_map_inv {α β : Type} {f : α → β} {ys : List β} : ∀ {xs : List α}, ys.Perm (xs.map f) → ∃ ws : List α, ys = ws.map f ∧ ws.Perm xs := by
  intro xs h
  generalize e : xs.map f = zs at h
  induction h generalizing xs with
  | nil => exact ⟨[], rfl, by rw [List.map_eq_nil_iff.mp e]⟩
  | cons a _ ih =>
    cases xs with
    | nil => cases e
    | cons b xs =>
      simp only [List.map_cons, List.cons.injEq] at e
      obtain ⟨ws, rfl, hw⟩ := ih e.2
      exact ⟨b :: ws, by rw [List.map_cons, e.1], hw.cons b⟩
  | swap a b l =>
    match xs, e with
    | c :: d :: xs, e =>
      simp only [List.map_cons, List.cons.injEq] at e
      obtain ⟨rfl, rfl, rfl⟩ := e
      exact ⟨d :: c :: xs, rfl, List.Perm.swap _ _ _⟩
  | trans _ _ ih1 ih2 =>
    obtain ⟨ws, rfl, hw⟩ := ih2 e
    obtain ⟨us, rfl, hu⟩ := ih1 rfl
    exact ⟨us, rfl, hu.trans hw⟩
theorem d__law_names : ∀ cs own Q, Cl own → cs.length = 2 → f__law_names cs own Q → w__law_names (enF own.length Q) (startS N__law_names cs) own := by
  refine dr_body fun pre x post as Q ⟨n, e, hn⟩ k => ?_
  subst e
  have k2 : ∀ (zs : List Str) x' r, zs.length = n → zs.Nodup → (∀ z ∈ zs, NmOk z) → Q (.fr (.list (zs.map .str))) (Tb pre (drM x') post r) := fun zs x' r h1 h2 h3 => k _ _ _ fun j e => by
    have : n = j := by
      injection e with e _
      injection e with e
      injection e with e
      omega
    subst this
    exact ⟨zs, rfl, h1, h2, h3⟩
  clear k
  show w__law_names _ [some (.hd pre.length), some (.fr (.int n)), none, none, none, none, none] _
  unfold w__law_names
  walk_at "z1"
  walk_at "z1"
  walk_at "z1"
  refine ⟨⟨by split <;> omega, by split <;> omega⟩, ?_⟩
  walk_at "z1"
  walk_at "z1"
  have hst : ∃ st : Nat, (26 : Int) / (if (n : Int) > 1 then (n : Int) else 1) = st ∧ 1 ≤ st ∧ st ≤ 26 ∧ n * st ≤ 26 := by
    by_cases h1 : (n : Int) > 1
    · rw [if_pos h1]
      refine ⟨26 / n, rfl, ?_, Nat.div_le_self _ _, Nat.mul_div_le 26 n⟩
      exact Nat.div_pos hn (by omega)
    · rw [if_neg h1]
      refine ⟨26, by decide, by decide, by decide, by omega⟩
  obtain ⟨st, est, s1, s2, s3⟩ := hst
  rw [est]
  clear est
  refine for_inv (rangeD 0 n) _ (fun k ss own => ∃ (x : Drw) (zs : List Str) (z : Option C), own = Tb pre (drM x) post [.lst ((zs.map PyData.str).map C.fr)] ∧ ss = [some (.hd pre.length), some (.fr (.int n)), some (.fr (.str ABC)), some (.fr (.list (TLS.map .str))), some (.fr (.int st)), some (.hd (hb pre post 0)), z] ∧ zs.length = k ∧ zs.Pairwise (fun a b => hdS a < hdS b) ∧ (∀ z ∈ zs, hdS z < 97 + k * st) ∧ ∀ z ∈ zs, NmOk z) (by
    walk_at "zs"
    exact ⟨⟨by omega, by omega⟩, rfl⟩) ?_ ?_ ?_
  · exact ⟨x, [], none, rfl, rfl, rfl, List.Pairwise.nil, (by simp), (by simp)⟩
  · rintro i d ss own hi ⟨x, zs, z, rfl, rfl, hl, hp, hb, hk⟩
    obtain ⟨hi2, rfl⟩ := range_get hi
    walk_at "zs"
    refine ⟨mulR ⟨by omega, by omega⟩, ?_⟩
    refine draw_use (by omega) (by omega) fun v x' l1 l2 => ?_
    walk_at "zs"
    rw [abc_len]
    have m1 : i * st + v.toNat < 26 := by
      have h1 : (i + 1) * st ≤ n * st := Nat.mul_le_mul_right st hi2
      have h2 : (i + 1) * st = i * st + st := Nat.succ_mul i st
      omega
    have m2 : (0 + (i : Int)) * (st : Int) + v = ((i * st + v.toNat : Nat) : Int) := by
      rw [Int.zero_add, Int.natCast_add, Int.natCast_mul]
      omega
    refine ⟨by decide, opb_of (by rw [m2, atI_nat (abc_get m1)]) ?_⟩
    walk_at "zs"
    refine pick_use (.l _) (by decide) (by decide) fun d x'' hd => ?_
    obtain ⟨t, ht, rfl⟩ := mem_strs hd
    walk_at "zs"
    have tl := tls_len t ht
    have hz : (⟨#[97 + (i * st + v.toNat)]⟩ : Str).length = 1 := rfl
    refine ⟨by rw [hz]; omega, by omega, x'', zs ++ [(⟨#[97 + (i * st + v.toNat)]⟩ : Str) ++ t], some (.fr (.int (0 + (i : Int)))), by simp, rfl, by simp [hl], ?_, ?_, ?_⟩
    · refine List.pairwise_append.mpr ⟨hp, List.pairwise_singleton _ _, fun a ha b hb2 => ?_⟩
      have := List.mem_singleton.mp hb2
      subst this
      rw [hd_cat]
      have := hb a ha
      omega
    · intro z hz2
      rcases List.mem_append.mp hz2 with h | h
      · have h1 := hb z h
        have h2 : (i + 1) * st = i * st + st := Nat.succ_mul i st
        omega
      · have := List.mem_singleton.mp h
        subst this
        rw [hd_cat]
        have h2 : (i + 1) * st = i * st + st := Nat.succ_mul i st
        omega
    · intro z hz2
      rcases List.mem_append.mp hz2 with h | h
      · exact hk z h
      · exact List.mem_singleton.mp h ▸ ⟨_, t, ht, by omega, by omega, rfl⟩
  · rintro ss own ⟨x, zs, z, rfl, rfl, hl, hp, hb, hk⟩
    rw [range_len] at hl
    walk_at "zs"
    refine shuffled_useL (by rw [List.length_map]; unfold SZ; omega) fun es x' hp2 => ?_
    obtain ⟨ws, rfl, hw⟩ := perm_map_inv hp2
    exact k2 ws x' _ (hw.length_eq.trans hl) (hw.nodup_iff.mpr (pw_nodup hp)) fun z hz => hk z (hw.mem_iff.mp hz)
end Zd

/-! Zb4: pure defs, defs that change an object, the law's own body. -/
namespace Zd
open PySem L2
local macro_rules | `(tactic| walk_at "zs") => `(tactic| simp only [SZ, seqD, Option.bind_some, Bool.not_true, Bool.not_false, eqv_ii, eqv_ss, eqv_bb, shp_i, shp_s, shp_b, shp_n, eq_self, Int.toNat_natCast, range_len, Itf, itb_t, itb_f, optP, opb_some, Cal, wLc, wLcH, wYes, decide_true, decide_false,  ex_lst, List.length_map, Nat.zero_le, Nat.reduceLeDiff, Nat.reduceAdd, wNext, wBreak, wCont, wAsg, wRet, wRetN, wDrop, wIfS, wAug, wPar, wPar3, wTupRev, wSet, wAugS, fSet, fGet, wVar, wFrz, frzC, wC, wOp, wUn, res_fr, res_sc, res_hd, resO_frz, resO_lst, resO_ins, resO_dk, resO_dr, frs_map, fI, fIC, fAdd, fSub, fMul, fDiv, fMod, fPow, fShl, fShr, fAnd, fNeg, fLt, fLe, fGt, fGe, fEq, fNe, fIn, fNotIn, fIsB, fNotB, fIx,
  wSl, fSl, fSlH, wPart, wNoPart, wNil, wCons, wTup, wLst, wLstH, frs, Option.map_some, wTest, wNot, wAnd, wOr, wChain, wIf, wAndV, wOrV, wNotV, wIsN, wNotN, wCB, fLen, fInt, fAbs, fMax2, fMin2, fSum, fSumH, hdD, fMinL, fMinT, fStrI, fJoin, fMaxL, fAll, fAny, fTupleOf, fListOf, fSortedI, fSortedS, fListOfH, wIsi, gname_eq, gnil_eq, gcons_eq, gtup_eq, wiSeq, itemsOf, wiR1, wiR2, wiZip, wiZip3, wiRev, wipeS,
  wBL, wBS, isLst, isStr, fAppend, fPopAt, fPop, fCountI, fExtend, fExtendT, fIndexS, fInsert, fMulT, fAddH, fAddM, wListRg, wListRgH, wFld, wSFld, wFn, wCallF, wT3, fInSg, fInM, fNotInM, wMake, wMeth, InsAt, wDNew, wDPut, fDIn, fDNotIn, fDGet, wDGet1, wDGet2, dkD, keyC, wCall, tb_h, tb_k, tb_seth, tb_setk, tb_app, tb_len, t0_k, t0_setk, t0_app, t0_len, List.getElem?_cons_zero, List.getElem?_cons_succ, List.getElem?_nil, List.set_cons_zero, List.set_cons_succ, List.cons_append, List.nil_append, List.length_cons, List.length_nil, List.map_cons, List.map_nil, Nat.zero_add, if_true, if_false, Bool.false_eq_true, true_and, and_true,
  atI0, atI1, atI2, atI3, atI4, atI5, setI0, setI1, setI2, setI3, decide_eq_true_eq])
local macro_rules | `(tactic| walk_at "zx") => `(tactic| simp -implicitDefEqProofs only [SZ, seqD, Option.bind_some, Bool.not_true, Bool.not_false, eqv_ii, eqv_ss, eqv_bb, shp_i, shp_s, shp_b, shp_n, eq_self, Int.toNat_natCast, range_len, Itf, itb_t, itb_f, optP, opb_some, Cal, wLc, wLcH, wYes, decide_true, decide_false,  ex_lst, List.length_map, Nat.zero_le, Nat.reduceLeDiff, Nat.reduceAdd, wNext, wBreak, wCont, wAsg, wRet, wRetN, wDrop, wIfS, wAug, wPar, wPar3, wTupRev, wSet, wAugS, fSet, fGet, wVar, wFrz, frzC, wC, wOp, wUn, res_fr, res_sc, res_hd, resO_frz, resO_lst, resO_ins, resO_dk, resO_dr, frs_map, fI, fIC, fAdd, fSub, fMul, fDiv, fMod, fPow, fShl, fShr, fAnd, fNeg, fLt, fLe, fGt, fGe, fEq, fNe, fIn, fNotIn, fIsB, fNotB, fIx,
  wSl, fSl, fSlH, wPart, wNoPart, wNil, wCons, wTup, wLst, wLstH, frs, Option.map_some, wTest, wNot, wAnd, wOr, wChain, wIf, wAndV, wOrV, wNotV, wIsN, wNotN, wCB, fLen, fInt, fAbs, fMax2, fMin2, fSum, fSumH, hdD, fMinL, fMinT, fStrI, fJoin, fMaxL, fAll, fAny, fTupleOf, fListOf, fSortedI, fSortedS, fListOfH, wIsi, gname_eq, gnil_eq, gcons_eq, gtup_eq, wiSeq, itemsOf, wiR1, wiR2, wiZip, wiZip3, wiRev, wipeS,
  wBL, wBS, isLst, isStr, fAppend, fPopAt, fPop, fCountI, fExtend, fExtendT, fIndexS, fInsert, fMulT, fAddH, fAddM, wListRg, wListRgH, wFld, wSFld, wFn, wCallF, wT3, fInSg, fInM, fNotInM, wMake, wMeth, InsAt, wDNew, wDPut, fDIn, fDNotIn, fDGet, wDGet1, wDGet2, dkD, keyC, wCall, tb_h, tb_k, tb_seth, tb_setk, tb_app, tb_len, t0_k, t0_setk, t0_app, t0_len, List.getElem?_cons_zero, List.getElem?_cons_succ, List.getElem?_nil, List.set_cons_zero, List.set_cons_succ, List.cons_append, List.nil_append, List.length_cons, List.length_nil, List.map_cons, List.map_nil, Nat.zero_add, if_true, if_false, Bool.false_eq_true, true_and, and_true,
  atI0, atI1, atI2, atI3, atI4, atI5, setI0, setI1, setI2, setI3, decide_eq_true_eq])
local macro_rules | `(tactic| walk_at "z1") => `(tactic| (refine seq1 ?_; try walk_at "zs"))
local macro_rules | `(tactic| walk_at "zy") => `(tactic| (refine seq1 ?_; try walk_at "zx"))
local macro_rules | `(tactic| walk_at "nw") => `(tactic| refine ⟨by decide +kernel, by decide +kernel, itd' (fun e => absurd e (by decide +kernel)) (fun _ => ?_)⟩)
local macro_rules | `(tactic| walk_at "iw") => `(tactic| refine ⟨by decide +kernel, by decide +kernel, ?_⟩)
local macro_rules | `(tactic| walk_at "ni") => `(tactic| (simp only [strsD, Option.map_some]; walk_at "zs"; refine itd' (fun e => absurd e (by decide +kernel)) (fun _ => ?_)))
local macro_rules | `(tactic| walk_at "yi") => `(tactic| (simp only [strsD, Option.map_some]; walk_at "zs"; refine itd' (fun _ => ?_) (fun e => absurd (by decide +kernel) e)))
/-- a pure def: A tells its answers -/
def fEx (A : List C → D → Prop) : FA := fun cs own Q => ∃ d, A cs d ∧ Q (.fr d) own
theorem ex_at {A : List C → D → Prop} {f : FA} (hf : f = fEx A) {cs : List C} {own : Ts} {Q : Hd KC} {d : D} (ha : A cs d) (k : Q.v (.fr d) own) : @CalB f cs own Q := by
  subst hf
  exact ⟨d, ha, k⟩
theorem ex_body {w : WS} {N : List Str} {n : Nat} {A : List C → D → Prop} (h : ∀ own cs d (Q : KC), A cs d → (∀ r, Q (.fr d) (T0 own r)) → w { nx := fun _ o => Q (.fr .none) o, rt := Q } (startS N cs) (T0 own [])) :
    ∀ cs own Q, Cl own → cs.length = n → fEx A cs own Q → w (enF own.length Q) (startS N cs) own := by
  rintro cs own Q hc _ ⟨d, ha, k⟩
  have z := h own cs d (EndQ own.length Q) ha fun r => ?_
  · rw [t0_nil] at z
    exact z
  · refine ⟨h0 own 0, Nat.le_refl _, (fun j hj => nomatch hj), ?_, ?_⟩
    · rw [t0_take]; exact hc
    · rw [t0_take]; exact k
/-- an object in the table -/
theorem ho_split {own : Ts} {h : Nat} {m : MO} (e : own[h]? = some m) : ∃ pre post, own = pre ++ m :: post ∧ h = pre.length := by
  have hl := lt_of_get e
  refine ⟨own.take h, own.drop (h + 1), ?_, by rw [List.length_take]; omega⟩
  rw [List.getElem?_eq_getElem hl] at e
  rw [← Option.some.inj e, List.getElem_cons_drop, List.take_append_drop]
theorem ho_end {pre post r : Ts} {m m' : MO} {d : D} {Q : KC} (hc : Cl (pre ++ m :: post)) (hm : m'.refs = []) (k : Q (.fr d) (pre ++ m' :: post)) : EndQ (pre ++ m :: post).length Q (.fr d) (Tb pre m' post r) := by
  have e : (pre ++ m :: post).length = hb pre post 0 := by simp [hb]; omega
  rw [e]
  refine ⟨hb pre post 0, Nat.le_refl _, (fun j hj => nomatch hj), ?_, ?_⟩
  · rw [tb_take, tb_nil]
    exact hc.hole hm
  · rw [tb_take, tb_nil]
    exact k
theorem tb_set' {pre post : Ts} {m m' : MO} : (pre ++ m :: post).set pre.length m' = pre ++ m' :: post := by simp
/-- a def that changes the object at its argument number j: P before -/
def fMu (j : Nat) (P : List C → MO → Prop) (R : List C → MO → D → MO → Prop) : FA := fun cs own Q => ∃ h m, cs[j]? = some (.hd h) ∧ own[h]? = some m ∧ P cs m ∧ ∀ d m', R cs m d m' → Q (.fr d) (own.set h m')
theorem mu_at {j : Nat} {P : List C → MO → Prop} {R : List C → MO → D → MO → Prop} {f : FA} (hf : f = fMu j P R) {cs : List C} {own : Ts} {Q : Hd KC} {h : Nat} {m : MO} (hj : cs[j]? = some (.hd h)) (ho : own[h]? = some m) (hp : P cs m) (k : ∀ d m', R cs m d m' → Q.v (.fr d) (own.set h m')) : @CalB f cs own Q := by
  subst hf
  exact ⟨h, m, hj, ho, hp, k⟩
theorem mu_body {w : WS} {N : List Str} {n j : Nat} {P : List C → MO → Prop} {R : List C → MO → D → MO → Prop} (hr : ∀ cs m d m', R cs m d m' → m'.refs = [])
    (h : ∀ pre m post cs (Q : KC), cs[j]? = some (.hd pre.length) → P cs m → (∀ d m' r, R cs m d m' → Q (.fr d) (Tb pre m' post r)) → w { nx := fun _ o => Q (.fr .none) o, rt := Q } (startS N cs) (Tb pre m post [])) :
    ∀ cs own Q, Cl own → cs.length = n → fMu j P R cs own Q → w (enF own.length Q) (startS N cs) own := by
  rintro cs own Q hc _ ⟨hh, m, hj, ho, hp, k⟩
  obtain ⟨pre, post, rfl, rfl⟩ := ho_split ho
  rw [← tb_nil]
  refine h pre m post cs _ hj hp fun d m' r hR => ?_
  rw [tb_nil]
  refine ho_end hc (hr _ _ _ _ hR) ?_
  have := k d m' hR
  rw [tb_set'] at this
  exact this
/-- the law's own body -/
theorem law_body {w : WS} {N : List Str} (h : ∀ (E : En) (ns : List Int), ns.length ≤ 63 → (∀ o, E.rt (.fr (.bool true)) o) → w E (startS N [.sc ns]) []) :
    ∀ cs own Q, Cl own → cs.length = 1 → f_law cs own Q → w (enF own.length Q) (startS N cs) own := by
  rintro cs own Q hc _ ⟨⟨ns, rfl, hn⟩, rfl, k⟩
  refine h _ ns hn fun o => ⟨0, Nat.le_refl _, (fun j hj => nomatch hj), ?_, k _⟩
  rw [List.take_zero]
  exact fun m hm => nomatch hm
theorem begin_use {ns : List Int} {Q : Hd KC} (k : ∀ (pre : Ts) x, Q.v (.hd pre.length) (Tb pre (drM x) [] [])) : @CalB f__law_begin [.sc ns] [] Q := by
  refine ⟨ns, rfl, fun x => ?_⟩
  have := k [] x
  rw [tb_nil] at this
  exact this
/-! is_int -/
def isI : D → Bool
  | .int _ => true
  | _ => false
def plain : D → Bool
  | .dict _ => false
  | _ => true
def f__law_is_int : FA := fEx fun cs d => ∃ x, cs = [.fr x] ∧ plain x = true ∧ d = .bool (isI x)
def N__law_is_int : List Str := ["thing"]
def w__law_is_int : WS := (wRet (wAndV (wIsi "int" (wVar 0)) (wNotV (wIsi "bool" (wVar 0)))))
theorem d__law_is_int : ∀ cs own Q, Cl own → cs.length = 1 → f__law_is_int cs own Q → w__law_is_int (enF own.length Q) (startS N__law_is_int cs) own := by
  refine ex_body fun own cs d Q ⟨x, e, hp, e2⟩ k => ?_
  subst e e2
  show w__law_is_int _ [some (.fr x)] _
  unfold w__law_is_int
  cases x with
  | dict _ => cases hp
  | _ =>
    walk_at "zs"
    simp only [isT, show kitB "NoneType" "int" = some false by decide +kernel, show kitB "bool" "int" = some true by decide +kernel, show kitB "int" "int" = some true by decide +kernel, show kitB "str" "int" = some false by decide +kernel, show kitB "list" "int" = some false by decide +kernel, show kitB "tuple" "int" = some false by decide +kernel, show kitB "bool" "bool" = some true by decide +kernel, show kitB "int" "bool" = some false by decide +kernel]
    walk_at "zs"
    try simp only [isT, show kitB "bool" "bool" = some true by decide +kernel, show kitB "int" "bool" = some false by decide +kernel]
    exact k []
theorem isint_use {x : D} {own : Ts} {Q : Hd KC} (hp : plain x = true) (k : Q.v (.fr (.bool (isI x))) own) : @CalB f__law_is_int [.fr x] own Q := ex_at rfl ⟨x, rfl, hp, rfl⟩ k
theorem ok_cat {x y : Str} (hx : PyData.strOk x = true) (hy : PyData.strOk y = true) : PyData.strOk (x ++ y) = true := by
  unfold PyData.strOk at *
  show ((x.cps ++ y.cps).all _) = true
  rw [Array.all_append, hx, hy]
  rfl
theorem nm_ok {z : Str} (h : NmOk z) : PyData.strOk z = true := by
  obtain ⟨x, t, ht, h1, h2, rfl⟩ := h
  refine ok_cat ?_ ?_
  · unfold PyData.strOk
    simp
    omega
  · have : ∀ t ∈ TLS, PyData.strOk t = true := by decide +kernel
    exact this t ht
theorem intsD_map {α : Type} (f : α → Int) : ∀ xs : List α, intsD (xs.map fun x => .int (f x)) = some (xs.map f)
  | [] => rfl
  | x :: xs => by
    show (intsD (xs.map fun x => .int (f x))).map (f x :: ·) = _
    rw [intsD_map f xs]
    rfl
theorem t0_end {own r : Ts} {d : D} {Q : KC} (hc : Cl own) (k : Q (.fr d) own) : EndQ own.length Q (.fr d) (T0 own r) := by
  refine ⟨h0 own 0, Nat.le_refl _, (fun j hj => nomatch hj), ?_, ?_⟩
  · rw [t0_take]; exact hc
  · rw [t0_take]; exact k
theorem tb_t0 {pre post r : Ts} {m : MO} : Tb pre m post r = T0 pre (m :: (post ++ r)) := rfl
theorem tb_back {pre post : Ts} {m x : MO} : Tb pre m post [x] = Tb pre m (post ++ [x]) [] := by simp [Tb]
theorem dr_start {pre post : Ts} {x : Drw} {w : WS} {ss : Sl} {Q : KC} (hc : Cl (pre ++ drM x :: post))
    (h : ∀ E : En, (∀ d x' r, Q (.fr d) (pre ++ drM x' :: post) → E.rt (.fr d) (Tb pre (drM x') post r)) → w E ss (Tb pre (drM x) post [])) : w (enF (pre ++ drM x :: post).length Q) ss (pre ++ drM x :: post) := by
  have := h (enF (pre ++ drM x :: post).length Q) fun d x' r k => ho_end hc rfl k
  rw [tb_nil] at this
  exact this
theorem range_get0 {i n : Nat} {d : D} (h : (rangeD 0 n)[i]? = some d) : i < n ∧ d = .int i := by
  obtain ⟨h1, h2⟩ := range_get h
  rw [Int.zero_add] at h2
  exact ⟨h1, h2⟩
end Zd

/-! Zb5: comprehensions that make an owned list. -/
namespace Zd
open PySem L2
section
variable {wi : WI} {wg : WG} {wt : WT} {we : WE} {vs : List Nat} {ss : Sl} {own : Ts} {Q : Hd KC}
theorem lch_inv (items : List D) (o : Ts) (P : Nat → List C → Ts → Prop) (hi : wi ss own fun its o1 => its = items ∧ o1 = o) (h0 : P 0 [] o)
    (hs : ∀ (i : Nat) d acc own', items[i]? = some d → P i acc own' → wg (.fr d) (wipeS ss vs) own' fun ss2 own2 => wt ss2 own2 fun b own3 => Itf b (we ss2 own3 fun c own4 => acc.length < SZ ∧ P (i + 1) (acc ++ [c]) own4) (P (i + 1) acc own3))
    (he : ∀ acc own', P items.length acc own' → Q.v (.hd own'.length) (own' ++ [.lst acc])) : @LcHB wi wg wt we vs ss own Q :=
  ⟨_, hi, fun its o1 h => by
    obtain ⟨rfl, rfl⟩ := h
    exact ⟨P, h0, hs, he⟩⟩
theorem lch_cut (I : List D → Ts → Prop) (hi : wi ss own I) (k : ∀ items o, I items o → @LcHB (fun _ _ R => R items o) wg wt we vs ss own Q) : @LcHB wi wg wt we vs ss own Q :=
  ⟨I, hi, fun its o h => by
    obtain ⟨J, j1, j2⟩ := k its o h
    exact j2 its o j1⟩
/-- each item by what is drawn -/
theorem lch_dr {α β : Type} (xs : List α) (g : α → D) (e : β → D) (R : α → β → Prop) (pre post r : Ts) (x : Drw) (hi : wi ss own fun its o1 => its = xs.map g ∧ o1 = Tb pre (drM x) post r) (hn : xs.length ≤ SZ)
    (hs : ∀ (i : Nat) a x' (T : C → Ts → Prop) (S : Ts → Prop), xs[i]? = some a → (∀ b x'', R a b → T (.fr (e b)) (Tb pre (drM x'') post r)) → wg (.fr (g a)) (wipeS ss vs) (Tb pre (drM x') post r) fun ss2 own2 => wt ss2 own2 fun b own3 => Itf b (we ss2 own3 T) (S own3))
    (k : ∀ bs x', All2 R xs bs → Q.v (.hd (hb pre post r.length)) (Tb pre (drM x') post (r ++ [.lst ((bs.map e).map C.fr)]))) : @LcHB wi wg wt we vs ss own Q := by
  refine lch_inv _ _ (fun i acc own' => ∃ (x' : Drw) (bs : List β), own' = Tb pre (drM x') post r ∧ acc = (bs.map e).map C.fr ∧ All2 R (xs.take i) bs) hi ⟨x, [], rfl, rfl, by simp [All2]⟩ ?_ ?_
  · rintro i d acc own' hd ⟨x', bs, rfl, rfl, hb, hr⟩
    obtain ⟨a, ha, rfl⟩ := get_map hd
    have hl := lt_of_get ha
    rw [List.length_take] at hb
    refine hs i a x' (fun c own4 => ((bs.map e).map C.fr).length < SZ ∧ ∃ (x' : Drw) (bs' : List β), own4 = Tb pre (drM x') post r ∧ (bs.map e).map C.fr ++ [c] = (bs'.map e).map C.fr ∧ All2 R (xs.take (i + 1)) bs') _ ha fun b x'' rab => ⟨by simp only [List.length_map]; omega, x'', bs ++ [b], rfl, by simp, ?_⟩
    refine ⟨by simp only [List.length_append, List.length_take, List.length_cons, List.length_nil]; omega, fun j a' b' h1 h2 => ?_⟩
    by_cases hj : j < bs.length
    · rw [List.getElem?_append_left hj] at h2
      refine hr j a' b' ?_ h2
      rw [List.getElem?_take] at h1 ⊢
      rw [if_pos (by omega)] at h1 ⊢
      exact h1
    · rw [List.getElem?_append_right (by omega)] at h2
      have := lt_of_get h2
      simp at this
      have e1 : j = i := by omega
      subst e1
      rw [List.getElem?_take, if_pos (by omega), ha] at h1
      cases h1
      have e2 : j - bs.length = 0 := by omega
      rw [e2] at h2
      cases h2
      exact rab
  · rintro acc own' ⟨x', bs, rfl, rfl, hb⟩
    rw [List.length_map, List.take_length] at hb
    rw [tb_len, tb_app]
    exact k bs x' hb
end
theorem boolsD_t {α : Type} : ∀ xs : List α, boolsD (xs.map fun _ => .bool true) = some (xs.map fun _ => true)
  | [] => rfl
  | x :: xs => by
    show (boolsD (xs.map fun _ => .bool true)).map (true :: ·) = _
    rw [boolsD_t xs]
    rfl
theorem all_t {α : Type} (xs : List α) : (xs.map fun _ => true).all id = true := by
  rw [List.all_eq_true]
  intro x hx
  obtain ⟨_, _, rfl⟩ := List.mem_map.mp hx
  rfl
theorem all2_map {α β : Type} {R : α → β → Prop} {xs : List α} {ys : List β} {f : β → α} (h : All2 R xs ys) (hR : ∀ a b, R a b → f b = a) : ys.map f = xs := by
  apply List.ext_getElem?
  intro j
  rw [List.getElem?_map]
  by_cases hj : j < ys.length
  · have hj2 : j < xs.length := by rw [← h.1]; exact hj
    have e1 := List.getElem?_eq_getElem hj
    have e2 := List.getElem?_eq_getElem hj2
    rw [e1, e2]
    exact congrArg some (hR _ _ (h.2 j _ _ e2 e1))
  · rw [List.getElem?_eq_none (by omega), List.getElem?_eq_none (by rw [← h.1]; omega)]
    rfl
end Zd

/-! Zb6: equal rows of ints. -/
namespace Zd
open PySem L2
theorem eqvAll_ints : ∀ xs ys : List Int, PyData.eqvAll (xs.map .int) (ys.map .int) = decide (xs = ys)
  | [], [] => by unfold PyData.eqvAll; simp
  | [], _ :: _ => by unfold PyData.eqvAll; simp
  | _ :: _, [] => by unfold PyData.eqvAll; simp
  | x :: xs, y :: ys => by
    rw [List.map_cons, List.map_cons]
    unfold PyData.eqvAll
    rw [eqvAll_ints xs ys, eqv_ii]
    by_cases h1 : x = y <;> by_cases h2 : xs = ys <;> simp [h1, h2]
theorem eqv_iL (xs ys : List Int) : PyData.eqv (.list (xs.map .int)) (.list (ys.map .int)) = decide (xs = ys) := by
  unfold PyData.eqv
  exact eqvAll_ints xs ys
theorem eqv_iT (xs ys : List Int) : PyData.eqv (.tuple (xs.map .int)) (.tuple (ys.map .int)) = decide (xs = ys) := by
  unfold PyData.eqv
  exact eqvAll_ints xs ys
theorem lay_ints : ∀ xs : List Int, PyData.canLayAll0 (xs.map .int) = true ∧ PyData.depthAll (xs.map .int) = 0
  | [] => by unfold PyData.canLayAll0 PyData.depthAll; exact ⟨rfl, rfl⟩
  | x :: xs => by
    obtain ⟨h1, h2⟩ := lay_ints xs
    rw [List.map_cons]
    unfold PyData.canLayAll0 PyData.depthAll
    rw [h1, h2]
    unfold PyData.canLay0 PyData.depth
    exact ⟨rfl, rfl⟩
theorem shp_iL (xs : List Int) : SeqAt.shaped (.list (xs.map .int)) = true := by
  obtain ⟨h1, h2⟩ := lay_ints xs
  unfold SeqAt.shaped PyData.canLay0 PyData.depth
  rw [h1, h2]
  rfl
theorem shp_iT (xs : List Int) : SeqAt.shaped (.tuple (xs.map .int)) = true := by
  obtain ⟨h1, h2⟩ := lay_ints xs
  unfold SeqAt.shaped PyData.canLay0 PyData.depth
  rw [h1, h2]
  rfl
end Zd

/-! Zt1: houses as typed data; passers. -/
namespace Zd
open PySem L2
local macro_rules | `(tactic| walk_at "zs") => `(tactic| simp only [SZ, seqD, Option.bind_some, Bool.not_true, Bool.not_false, eqv_ii, eqv_ss, eqv_bb, shp_i, shp_s, shp_b, shp_n, eq_self, Int.toNat_natCast, range_len, Itf, itb_t, itb_f, optP, opb_some, Cal, wLc, wLcH, wYes, decide_true, decide_false,  ex_lst, List.length_map, Nat.zero_le, Nat.reduceLeDiff, Nat.reduceAdd, wNext, wBreak, wCont, wAsg, wRet, wRetN, wDrop, wIfS, wAug, wPar, wPar3, wTupRev, wSet, wAugS, fSet, fGet, wVar, wFrz, frzC, wC, wOp, wUn, res_fr, res_sc, res_hd, resO_frz, resO_lst, resO_ins, resO_dk, resO_dr, frs_map, fI, fIC, fAdd, fSub, fMul, fDiv, fMod, fPow, fShl, fShr, fAnd, fNeg, fLt, fLe, fGt, fGe, fEq, fNe, fIn, fNotIn, fIsB, fNotB, fIx,
  wSl, fSl, fSlH, wPart, wNoPart, wNil, wCons, wTup, wLst, wLstH, frs, Option.map_some, wTest, wNot, wAnd, wOr, wChain, wIf, wAndV, wOrV, wNotV, wIsN, wNotN, wCB, fLen, fInt, fAbs, fMax2, fMin2, fSum, fSumH, hdD, fMinL, fMinT, fStrI, fJoin, fMaxL, fAll, fAny, fTupleOf, fListOf, fSortedI, fSortedS, fListOfH, wIsi, gname_eq, gnil_eq, gcons_eq, gtup_eq, wiSeq, itemsOf, wiR1, wiR2, wiZip, wiZip3, wiRev, wipeS,
  wBL, wBS, isLst, isStr, fAppend, fPopAt, fPop, fCountI, fExtend, fExtendT, fIndexS, fInsert, fMulT, fAddH, fAddM, wListRg, wListRgH, wFld, wSFld, wFn, wCallF, wT3, fInSg, fInM, fNotInM, wMake, wMeth, InsAt, wDNew, wDPut, fDIn, fDNotIn, fDGet, wDGet1, wDGet2, dkD, keyC, wCall, tb_h, tb_k, tb_seth, tb_setk, tb_app, tb_len, t0_k, t0_setk, t0_app, t0_len, List.getElem?_cons_zero, List.getElem?_cons_succ, List.getElem?_nil, List.set_cons_zero, List.set_cons_succ, List.cons_append, List.nil_append, List.length_cons, List.length_nil, List.map_cons, List.map_nil, Nat.zero_add, if_true, if_false, Bool.false_eq_true, true_and, and_true,
  atI0, atI1, atI2, atI3, atI4, atI5, setI0, setI1, setI2, setI3, decide_eq_true_eq])
local macro_rules | `(tactic| walk_at "zx") => `(tactic| simp -implicitDefEqProofs only [SZ, seqD, Option.bind_some, Bool.not_true, Bool.not_false, eqv_ii, eqv_ss, eqv_bb, shp_i, shp_s, shp_b, shp_n, eq_self, Int.toNat_natCast, range_len, Itf, itb_t, itb_f, optP, opb_some, Cal, wLc, wLcH, wYes, decide_true, decide_false,  ex_lst, List.length_map, Nat.zero_le, Nat.reduceLeDiff, Nat.reduceAdd, wNext, wBreak, wCont, wAsg, wRet, wRetN, wDrop, wIfS, wAug, wPar, wPar3, wTupRev, wSet, wAugS, fSet, fGet, wVar, wFrz, frzC, wC, wOp, wUn, res_fr, res_sc, res_hd, resO_frz, resO_lst, resO_ins, resO_dk, resO_dr, frs_map, fI, fIC, fAdd, fSub, fMul, fDiv, fMod, fPow, fShl, fShr, fAnd, fNeg, fLt, fLe, fGt, fGe, fEq, fNe, fIn, fNotIn, fIsB, fNotB, fIx,
  wSl, fSl, fSlH, wPart, wNoPart, wNil, wCons, wTup, wLst, wLstH, frs, Option.map_some, wTest, wNot, wAnd, wOr, wChain, wIf, wAndV, wOrV, wNotV, wIsN, wNotN, wCB, fLen, fInt, fAbs, fMax2, fMin2, fSum, fSumH, hdD, fMinL, fMinT, fStrI, fJoin, fMaxL, fAll, fAny, fTupleOf, fListOf, fSortedI, fSortedS, fListOfH, wIsi, gname_eq, gnil_eq, gcons_eq, gtup_eq, wiSeq, itemsOf, wiR1, wiR2, wiZip, wiZip3, wiRev, wipeS,
  wBL, wBS, isLst, isStr, fAppend, fPopAt, fPop, fCountI, fExtend, fExtendT, fIndexS, fInsert, fMulT, fAddH, fAddM, wListRg, wListRgH, wFld, wSFld, wFn, wCallF, wT3, fInSg, fInM, fNotInM, wMake, wMeth, InsAt, wDNew, wDPut, fDIn, fDNotIn, fDGet, wDGet1, wDGet2, dkD, keyC, wCall, tb_h, tb_k, tb_seth, tb_setk, tb_app, tb_len, t0_k, t0_setk, t0_app, t0_len, List.getElem?_cons_zero, List.getElem?_cons_succ, List.getElem?_nil, List.set_cons_zero, List.set_cons_succ, List.cons_append, List.nil_append, List.length_cons, List.length_nil, List.map_cons, List.map_nil, Nat.zero_add, if_true, if_false, Bool.false_eq_true, true_and, and_true,
  atI0, atI1, atI2, atI3, atI4, atI5, setI0, setI1, setI2, setI3, decide_eq_true_eq])
local macro_rules | `(tactic| walk_at "z1") => `(tactic| (refine seq1 ?_; try walk_at "zs"))
local macro_rules | `(tactic| walk_at "zy") => `(tactic| (refine seq1 ?_; try walk_at "zx"))
local macro_rules | `(tactic| walk_at "nw") => `(tactic| refine ⟨by decide +kernel, by decide +kernel, itd' (fun e => absurd e (by decide +kernel)) (fun _ => ?_)⟩)
local macro_rules | `(tactic| walk_at "iw") => `(tactic| refine ⟨by decide +kernel, by decide +kernel, ?_⟩)
local macro_rules | `(tactic| walk_at "ni") => `(tactic| (simp only [strsD, Option.map_some]; walk_at "zs"; refine itd' (fun e => absurd e (by decide +kernel)) (fun _ => ?_)))
local macro_rules | `(tactic| walk_at "yi") => `(tactic| (simp only [strsD, Option.map_some]; walk_at "zs"; refine itd' (fun _ => ?_) (fun e => absurd (by decide +kernel) e)))
theorem opb_map {α : Type} {xs : List α} {f : α → D} {i : Nat} {x : α} {P : Hd (D → Prop)} (h : xs[i]? = some x) (k : P.v (f x)) : @OpB D (atI (xs.map f) (i : Int)) P :=
  opb_of (atI_nat (by rw [List.getElem?_map, h]; rfl)) k
structure HopT where
  st : Str
  beh : Int
  lo : Int
  hi : Int
  due : Int
  gate : Str
structure FlowT where
  nm : Str
  wins : List (Int × Int)
  hops : List HopT
inductive RuleT where
  | due | come
  | ranks (ns : List Str)
  | turns (ts : List (Str × Nat))
  | slots (cs : List (List Str))
structure StaT where
  nm : Str
  hours : List Int
  stop : Option (Int × Int)
  rule : RuleT
def ipD (p : Int × Int) : D := .tuple [.int p.1, .int p.2]
def npD (p : Nat × Nat) : D := .tuple [.int p.1, .int p.2]
def hopD (h : HopT) : D := .tuple [.str h.st, .int h.beh, .int h.lo, .int h.hi, .int h.due, .str h.gate]
def winsD (ws : List (Int × Int)) : D := .tuple (ws.map ipD)
def flD (f : FlowT) : D := .tuple [.str f.nm, winsD f.wins, .tuple (f.hops.map hopD)]
def flsD (fs : List FlowT) : D := .tuple (fs.map flD)
def tnD (t : Str × Nat) : D := .tuple [.str t.1, .int t.2]
def strsT (zs : List Str) : D := .tuple (zs.map .str)
def ruleD : RuleT → D
  | .due => .tuple [.str "due"]
  | .come => .tuple [.str "come"]
  | .ranks ns => .tuple [.str "ranks", strsT ns]
  | .turns ts => .tuple [.str "turns", .tuple (ts.map tnD)]
  | .slots cs => .tuple [.str "slots", .tuple (cs.map strsT)]
def stopD : Option (Int × Int) → D
  | none => .none
  | some p => ipD p
def hoursD (hs : List Int) : D := .tuple (hs.map .int)
def staD (s : StaT) : D := .tuple [.str s.nm, hoursD s.hours, stopD s.stop, ruleD s.rule]
structure HouT where
  stas : List StaT
  flows : List FlowT
def houD (h : HouT) : D := .tuple [.tuple (h.stas.map staD), flsD h.flows]
/-- texts within bounds, sizes -/
structure HopOk (h : HopT) : Prop where
  st : PyData.strOk h.st = true
  gate : PyData.strOk h.gate = true
structure FlOk (f : FlowT) : Prop where
  nm : PyData.strOk f.nm = true
  hops : ∀ h ∈ f.hops, HopOk h
  len : f.hops.length ≤ 1000
structure FlsOk (fs : List FlowT) : Prop where
  ok : ∀ f ∈ fs, FlOk f
  len : fs.length ≤ 1000
def hopsOf (f : FlowT) (st : Str) (n : Nat) : List Nat := (List.range n).filter fun h => decide ((f.hops[h]?.map (·.st)) = some st)
def passR (fs : List FlowT) (st : Str) (n : Nat) : List (Nat × Nat) := (List.range n).flatMap fun k => (fs[k]?.map fun f => (hopsOf f st f.hops.length).map fun h => (k, h)).getD []
def passF (fs : List FlowT) (st : Str) : List (Nat × Nat) := passR fs st fs.length
theorem hopsOf_succ (f : FlowT) (st : Str) (n : Nat) : hopsOf f st (n + 1) = hopsOf f st n ++ (if (f.hops[n]?.map (·.st)) = some st then [n] else []) := by
  unfold hopsOf
  rw [List.range_succ, List.filter_append]
  congr 1
  by_cases h : (f.hops[n]?.map (·.st)) = some st
  · rw [if_pos h, List.filter_cons, if_pos (by rw [decide_eq_true h])]
    rfl
  · rw [if_neg h, List.filter_cons, if_neg (by rw [decide_eq_false h]; decide)]
    rfl
theorem hopsOf_len (f : FlowT) (st : Str) (n : Nat) : (hopsOf f st n).length ≤ n := by
  have := List.length_filter_le (fun h => decide ((f.hops[h]?.map (·.st)) = some st)) (List.range n)
  rw [List.length_range] at this
  exact this
theorem passR_succ {fs : List FlowT} {st : Str} {n : Nat} {f : FlowT} (h : fs[n]? = some f) : passR fs st (n + 1) = passR fs st n ++ (hopsOf f st f.hops.length).map fun h => (n, h) := by
  unfold passR
  rw [List.range_succ, List.flatMap_append]
  simp [h]
theorem passR_len {fs : List FlowT} {st : Str} (ok : FlsOk fs) : ∀ n, n ≤ fs.length → (passR fs st n).length ≤ n * 1000
  | 0, _ => by simp [passR]
  | n + 1, h => by
    have hf : n < fs.length := by omega
    rw [passR_succ (List.getElem?_eq_getElem hf), List.length_append, List.length_map]
    have h1 := passR_len (st := st) ok n (by omega)
    have h2 := hopsOf_len fs[n] st fs[n].hops.length
    have h3 := (ok.ok _ (List.getElem_mem hf)).len
    omega
def f__law_passers : FA := fEx fun cs d => ∃ (s0 : D) (fs : List FlowT) (st : Str), cs = [.fr (.tuple [s0, flsD fs]), .fr (.str st)] ∧ FlsOk fs ∧ PyData.strOk st = true ∧ d = .list ((passF fs st).map npD)
theorem passers_use {s0 : D} {fs : List FlowT} {st : Str} {own : Ts} {Q : Hd KC} (h1 : FlsOk fs) (h2 : PyData.strOk st = true) (k : Q.v (.fr (.list ((passF fs st).map npD))) own) : @CalB f__law_passers [.fr (.tuple [s0, flsD fs]), .fr (.str st)] own Q := ex_at rfl ⟨s0, fs, st, rfl, h1, h2, rfl⟩ k
def N__law_passers : List Str := ["house", "station", "found", "k", "h"]
def w__law_passers : WS := (wSeq (wAsg (wLstH wNil) (wName 2))
  (wSeq (wFor (wiR1 (wCons (wCB fLen (wCons (wOp fIx (wVar 0) (wC (.int 1))) wNil)) wNil)) (wName 3) (wFor (wiR1 (wCons (wCB fLen (wCons (wOp fIx (wOp fIx (wOp fIx (wVar 0) (wC (.int 1))) (wVar 3)) (wC (.int 2))) wNil)) wNil)) (wName 4) (wIfS (wTest (wOp fEq (wOp fIx (wOp fIx (wOp fIx (wOp fIx (wOp fIx (wVar 0) (wC (.int 1))) (wVar 3)) (wC (.int 2))) (wVar 4)) (wC (.int 0))) (wVar 1))) (wDrop (wBL fAppend (wVar 2) (wCons (wTup (wCons (wVar 3) (wCons (wVar 4) wNil))) wNil))) wNext)))
  (wRet (wFrz (wVar 2)))))
theorem d__law_passers : ∀ cs own Q, Cl own → cs.length = 2 → f__law_passers cs own Q → w__law_passers (enF own.length Q) (startS N__law_passers cs) own := by
  refine ex_body fun own cs d Q ⟨s0, fs, st, e, ok, os, e2⟩ k => ?_
  subst e e2
  show w__law_passers _ [some (.fr (.tuple [s0, flsD fs])), some (.fr (.str st)), none, none, none] _
  unfold w__law_passers
  have hl := ok.len
  have hle := passR_len (st := st) ok
  walk_at "z1"
  refine seq1 ?_
  refine for_inv (rangeD 0 fs.length) (T0 own [.lst []]) (fun k ss o => ∃ z3 z4, o = T0 own [.lst ((passR fs st k).map npD |>.map C.fr)] ∧ ss = [some (.fr (.tuple [s0, flsD fs])), some (.fr (.str st)), some (.hd (h0 own 0)), z3, z4]) ?_ ?_ ?_ ?_
  · unfold flsD
    walk_at "zs"
    exact ⟨by omega, by omega⟩
  · exact ⟨none, none, rfl, rfl⟩
  · rintro k d ss o hk ⟨z3, z4, rfl, rfl⟩
    obtain ⟨hk2, rfl⟩ := range_get hk
    rw [Int.zero_add]
    have hf := List.getElem?_eq_getElem hk2
    have okf := ok.ok _ (List.getElem_mem hk2)
    have okl := okf.len
    walk_at "zs"
    refine for_inv (rangeD 0 fs[k].hops.length) (T0 own [.lst ((passR fs st k).map npD |>.map C.fr)]) (fun j ss o => ∃ z4, o = T0 own [.lst ((passR fs st k ++ (hopsOf fs[k] st j).map fun h => (k, h)).map npD |>.map C.fr)] ∧ ss = [some (.fr (.tuple [s0, flsD fs])), some (.fr (.str st)), some (.hd (h0 own 0)), some (.fr (.int k)), z4]) ?_ ?_ ?_ ?_
    · unfold flsD
      walk_at "zs"
      refine opb_map hf ?_
      unfold flD
      walk_at "zs"
      exact ⟨by omega, by omega⟩
    · exact ⟨z4, by simp [hopsOf], rfl⟩
    · rintro j d ss o hj ⟨z4, rfl, rfl⟩
      obtain ⟨hj2, rfl⟩ := range_get hj
      rw [Int.zero_add]
      have hh := List.getElem?_eq_getElem hj2
      have okh := okf.hops _ (List.getElem_mem hj2)
      have hle2 := hle k (by omega)
      have hle3 := hopsOf_len fs[k] st j
      unfold flsD
      walk_at "zs"
      refine opb_map hf ?_
      unfold flD
      walk_at "zs"
      refine opb_map hh ?_
      unfold hopD
      walk_at "zs"
      refine ⟨okh.st, os, itd' (fun e => ?_) (fun e => ?_)⟩
      · walk_at "zs"
        refine ⟨by simp only [List.length_append, List.length_map]; omega, some (.fr (.int j)), ?_, rfl⟩
        rw [hopsOf_succ, hh, if_pos (by rw [Option.map_some, e])]
        simp [npD]
      · walk_at "zs"
        refine ⟨some (.fr (.int j)), ?_, rfl⟩
        rw [hopsOf_succ, hh, if_neg (by rw [Option.map_some]; exact fun h => e (Option.some.inj h))]
        simp
    · rintro ss o ⟨z4, rfl, rfl⟩
      walk_at "zs"
      refine ⟨_, _, ?_, rfl⟩
      rw [passR_succ hf]
  · rintro ss o ⟨z3, z4, rfl, rfl⟩
    rw [range_len]
    walk_at "zs"
    exact k _
end Zd

/-! Zt2: passer names, rules, with. -/
namespace Zd
open PySem L2
local macro_rules | `(tactic| walk_at "zs") => `(tactic| simp only [SZ, seqD, Option.bind_some, Bool.not_true, Bool.not_false, eqv_ii, eqv_ss, eqv_bb, shp_i, shp_s, shp_b, shp_n, eq_self, Int.toNat_natCast, range_len, Itf, itb_t, itb_f, optP, opb_some, Cal, wLc, wLcH, wYes, decide_true, decide_false,  ex_lst, List.length_map, Nat.zero_le, Nat.reduceLeDiff, Nat.reduceAdd, wNext, wBreak, wCont, wAsg, wRet, wRetN, wDrop, wIfS, wAug, wPar, wPar3, wTupRev, wSet, wAugS, fSet, fGet, wVar, wFrz, frzC, wC, wOp, wUn, res_fr, res_sc, res_hd, resO_frz, resO_lst, resO_ins, resO_dk, resO_dr, frs_map, fI, fIC, fAdd, fSub, fMul, fDiv, fMod, fPow, fShl, fShr, fAnd, fNeg, fLt, fLe, fGt, fGe, fEq, fNe, fIn, fNotIn, fIsB, fNotB, fIx,
  wSl, fSl, fSlH, wPart, wNoPart, wNil, wCons, wTup, wLst, wLstH, frs, Option.map_some, wTest, wNot, wAnd, wOr, wChain, wIf, wAndV, wOrV, wNotV, wIsN, wNotN, wCB, fLen, fInt, fAbs, fMax2, fMin2, fSum, fSumH, hdD, fMinL, fMinT, fStrI, fJoin, fMaxL, fAll, fAny, fTupleOf, fListOf, fSortedI, fSortedS, fListOfH, wIsi, gname_eq, gnil_eq, gcons_eq, gtup_eq, wiSeq, itemsOf, wiR1, wiR2, wiZip, wiZip3, wiRev, wipeS,
  wBL, wBS, isLst, isStr, fAppend, fPopAt, fPop, fCountI, fExtend, fExtendT, fIndexS, fInsert, fMulT, fAddH, fAddM, wListRg, wListRgH, wFld, wSFld, wFn, wCallF, wT3, fInSg, fInM, fNotInM, wMake, wMeth, InsAt, wDNew, wDPut, fDIn, fDNotIn, fDGet, wDGet1, wDGet2, dkD, keyC, wCall, tb_h, tb_k, tb_seth, tb_setk, tb_app, tb_len, t0_k, t0_setk, t0_app, t0_len, List.getElem?_cons_zero, List.getElem?_cons_succ, List.getElem?_nil, List.set_cons_zero, List.set_cons_succ, List.cons_append, List.nil_append, List.length_cons, List.length_nil, List.map_cons, List.map_nil, Nat.zero_add, if_true, if_false, Bool.false_eq_true, true_and, and_true,
  atI0, atI1, atI2, atI3, atI4, atI5, setI0, setI1, setI2, setI3, decide_eq_true_eq])
local macro_rules | `(tactic| walk_at "zx") => `(tactic| simp -implicitDefEqProofs only [SZ, seqD, Option.bind_some, Bool.not_true, Bool.not_false, eqv_ii, eqv_ss, eqv_bb, shp_i, shp_s, shp_b, shp_n, eq_self, Int.toNat_natCast, range_len, Itf, itb_t, itb_f, optP, opb_some, Cal, wLc, wLcH, wYes, decide_true, decide_false,  ex_lst, List.length_map, Nat.zero_le, Nat.reduceLeDiff, Nat.reduceAdd, wNext, wBreak, wCont, wAsg, wRet, wRetN, wDrop, wIfS, wAug, wPar, wPar3, wTupRev, wSet, wAugS, fSet, fGet, wVar, wFrz, frzC, wC, wOp, wUn, res_fr, res_sc, res_hd, resO_frz, resO_lst, resO_ins, resO_dk, resO_dr, frs_map, fI, fIC, fAdd, fSub, fMul, fDiv, fMod, fPow, fShl, fShr, fAnd, fNeg, fLt, fLe, fGt, fGe, fEq, fNe, fIn, fNotIn, fIsB, fNotB, fIx,
  wSl, fSl, fSlH, wPart, wNoPart, wNil, wCons, wTup, wLst, wLstH, frs, Option.map_some, wTest, wNot, wAnd, wOr, wChain, wIf, wAndV, wOrV, wNotV, wIsN, wNotN, wCB, fLen, fInt, fAbs, fMax2, fMin2, fSum, fSumH, hdD, fMinL, fMinT, fStrI, fJoin, fMaxL, fAll, fAny, fTupleOf, fListOf, fSortedI, fSortedS, fListOfH, wIsi, gname_eq, gnil_eq, gcons_eq, gtup_eq, wiSeq, itemsOf, wiR1, wiR2, wiZip, wiZip3, wiRev, wipeS,
  wBL, wBS, isLst, isStr, fAppend, fPopAt, fPop, fCountI, fExtend, fExtendT, fIndexS, fInsert, fMulT, fAddH, fAddM, wListRg, wListRgH, wFld, wSFld, wFn, wCallF, wT3, fInSg, fInM, fNotInM, wMake, wMeth, InsAt, wDNew, wDPut, fDIn, fDNotIn, fDGet, wDGet1, wDGet2, dkD, keyC, wCall, tb_h, tb_k, tb_seth, tb_setk, tb_app, tb_len, t0_k, t0_setk, t0_app, t0_len, List.getElem?_cons_zero, List.getElem?_cons_succ, List.getElem?_nil, List.set_cons_zero, List.set_cons_succ, List.cons_append, List.nil_append, List.length_cons, List.length_nil, List.map_cons, List.map_nil, Nat.zero_add, if_true, if_false, Bool.false_eq_true, true_and, and_true,
  atI0, atI1, atI2, atI3, atI4, atI5, setI0, setI1, setI2, setI3, decide_eq_true_eq])
local macro_rules | `(tactic| walk_at "z1") => `(tactic| (refine seq1 ?_; try walk_at "zs"))
local macro_rules | `(tactic| walk_at "zy") => `(tactic| (refine seq1 ?_; try walk_at "zx"))
local macro_rules | `(tactic| walk_at "nw") => `(tactic| refine ⟨by decide +kernel, by decide +kernel, itd' (fun e => absurd e (by decide +kernel)) (fun _ => ?_)⟩)
local macro_rules | `(tactic| walk_at "iw") => `(tactic| refine ⟨by decide +kernel, by decide +kernel, ?_⟩)
local macro_rules | `(tactic| walk_at "ni") => `(tactic| (simp only [strsD, Option.map_some]; walk_at "zs"; refine itd' (fun e => absurd e (by decide +kernel)) (fun _ => ?_)))
local macro_rules | `(tactic| walk_at "yi") => `(tactic| (simp only [strsD, Option.map_some]; walk_at "zs"; refine itd' (fun _ => ?_) (fun e => absurd (by decide +kernel) e)))
theorem intsD_ints : ∀ hs : List Int, intsD (hs.map .int) = some hs
  | [] => rfl
  | h :: hs => by
    show (intsD (hs.map .int)).map (h :: ·) = _
    rw [intsD_ints hs]
    rfl
def pnF (fs : List FlowT) (st : Str) : List Str := (passF fs st).map fun p => (fs[p.1]?.map (·.nm)).getD default
theorem passF_lt {fs : List FlowT} {st : Str} {p : Nat × Nat} (h : p ∈ passF fs st) : p.1 < fs.length := by
  unfold passF passR at h
  obtain ⟨k, hk, h⟩ := List.mem_flatMap.mp h
  have hk := List.mem_range.mp hk
  rw [List.getElem?_eq_getElem hk] at h
  simp at h
  obtain ⟨j, _, e⟩ := h
  rw [← e]
  exact hk
theorem passF_len {fs : List FlowT} {st : Str} (ok : FlsOk fs) : (passF fs st).length ≤ 1000000 := by
  have h1 := passR_len (st := st) ok fs.length (Nat.le_refl _)
  have h2 := ok.len
  unfold passF
  omega
def f__law_passer_names : FA := fEx fun cs d => ∃ (s0 : D) (fs : List FlowT) (st : Str), cs = [.fr (.tuple [s0, flsD fs]), .fr (.str st)] ∧ FlsOk fs ∧ PyData.strOk st = true ∧ d = .list ((pnF fs st).map .str)
theorem pnames_use {s0 : D} {fs : List FlowT} {st : Str} {own : Ts} {Q : Hd KC} (h1 : FlsOk fs) (h2 : PyData.strOk st = true) (k : Q.v (.fr (.list ((pnF fs st).map .str))) own) : @CalB f__law_passer_names [.fr (.tuple [s0, flsD fs]), .fr (.str st)] own Q := ex_at rfl ⟨s0, fs, st, rfl, h1, h2, rfl⟩ k
def N__law_passer_names : List Str := ["house", "station", "k", "h"]
def w__law_passer_names : WS := (wRet (wLc (wiSeq (wCall 2 f__law_passers (wCons (wVar 0) (wCons (wVar 1) wNil)))) (wGTup 2 (wGCons (wName 2) (wGCons (wName 3) wGNil))) wYes (wOp fIx (wOp fIx (wOp fIx (wVar 0) (wC (.int 1))) (wVar 2)) (wC (.int 0))) [2, 3]))
theorem d__law_passer_names : ∀ cs own Q, Cl own → cs.length = 2 → f__law_passer_names cs own Q → w__law_passer_names (enF own.length Q) (startS N__law_passer_names cs) own := by
  refine ex_body fun own cs d Q ⟨s0, fs, st, e, ok, os, e2⟩ k => ?_
  subst e e2
  show w__law_passer_names _ [some (.fr (.tuple [s0, flsD fs])), some (.fr (.str st)), none, none] _
  unfold w__law_passer_names
  have hp := passF_len (st := st) ok
  walk_at "zs"
  refine lc_map (passF fs st) npD (fun p => .str ((fs[p.1]?.map (·.nm)).getD default)) (T0 own []) ?_ (by unfold SZ; omega) (fun i p R S hi h => ?_) ?_
  · walk_at "zs"
    refine passers_use ok os ?_
    walk_at "zs"
  · have hl := passF_lt (List.mem_of_getElem? hi)
    have hf := List.getElem?_eq_getElem hl
    rw [hf] at h
    unfold npD flsD
    walk_at "zs"
    refine opb_map hf ?_
    unfold flD
    walk_at "zs"
    exact h
  · walk_at "zs"
    have e : (passF fs st).map (fun p => PyData.str ((fs[p.1]?.map (·.nm)).getD default)) = (pnF fs st).map .str := by
      unfold pnF
      rw [List.map_map]
      rfl
    rw [e]
    exact k _
/-! ### with -/
def withF {α : Type} (xs : List α) (n : Nat) (x : α) : List α := xs.take n ++ [x] ++ xs.drop (n + 1)
def f__law_with : FA := fEx fun cs d => ∃ (xs : List D) (n : Nat) (x : D), (cs = [.fr (.tuple xs), .fr (.int n), .fr x] ∨ cs = [.fr (.list xs), .fr (.int n), .fr x]) ∧ xs.length ≤ 1000000 ∧ d = .tuple (withF xs n x)
theorem with_use {xs : List D} {n : Nat} {x : D} {own : Ts} {Q : Hd KC} (h : xs.length ≤ 1000000) (k : Q.v (.fr (.tuple (withF xs n x))) own) : @CalB f__law_with [.fr (.tuple xs), .fr (.int n), .fr x] own Q := ex_at rfl ⟨xs, n, x, .inl rfl, h, rfl⟩ k
theorem with_map {α : Type} (g : α → D) (xs : List α) (n : Nat) (x : α) : withF (xs.map g) n (g x) = (withF xs n x).map g := by
  unfold withF
  simp [List.map_take, List.map_drop]
def N__law_with : List Str := ["items", "number", "item"]
def w__law_with : WS := (wRet (wCB fTupleOf (wCons (wOp fAdd (wOp fAdd (wCB fListOf (wCons (wSl fSl (wVar 0) wNoPart (wPart (wVar 1))) wNil)) (wLst (wCons (wVar 2) wNil))) (wCB fListOf (wCons (wSl fSl (wVar 0) (wPart (wOp fAdd (wVar 1) (wC (.int 1)))) wNoPart) wNil))) wNil)))
theorem d__law_with : ∀ cs own Q, Cl own → cs.length = 3 → f__law_with cs own Q → w__law_with (enF own.length Q) (startS N__law_with cs) own := by
  refine ex_body fun own cs d Q ⟨xs, n, x, e, hl, e2⟩ k => ?_
  subst e2
  have l1 : (cutD xs none (some (n : Int))).length ≤ xs.length := cutD_len_le _ _ _
  have l2 : (cutD xs (some ((n + 1 : Nat) : Int)) none).length ≤ xs.length := cutD_len_le _ _ _
  have e3 : (n : Int) + 1 = ((n + 1 : Nat) : Int) := rfl
  have e4 : withF xs n x = cutD xs none (some (n : Int)) ++ [x] ++ cutD xs (some ((n + 1 : Nat) : Int)) none := by
    rw [cutD_to, cutD_from]
    rfl
  rw [e4] at k
  rcases e with rfl | rfl
  · show w__law_with _ [some (.fr (.tuple xs)), some (.fr (.int n)), some (.fr x)] _
    unfold w__law_with
    walk_at "zs"
    rw [e3]
    refine ⟨by omega, by simp only [List.length_append, List.length_cons, List.length_nil]; omega, ?_⟩
    exact k _
  · show w__law_with _ [some (.fr (.list xs)), some (.fr (.int n)), some (.fr x)] _
    unfold w__law_with
    walk_at "zs"
    rw [e3]
    refine ⟨by omega, by simp only [List.length_append, List.length_cons, List.length_nil]; omega, ?_⟩
    exact k _
end Zd

/-! Zt3: drawn rules. -/
namespace Zd
open PySem L2
local macro_rules | `(tactic| walk_at "zs") => `(tactic| simp only [SZ, seqD, Option.bind_some, Bool.not_true, Bool.not_false, eqv_ii, eqv_ss, eqv_bb, shp_i, shp_s, shp_b, shp_n, eq_self, Int.toNat_natCast, range_len, Itf, itb_t, itb_f, optP, opb_some, Cal, wLc, wLcH, wYes, decide_true, decide_false,  ex_lst, List.length_map, Nat.zero_le, Nat.reduceLeDiff, Nat.reduceAdd, wNext, wBreak, wCont, wAsg, wRet, wRetN, wDrop, wIfS, wAug, wPar, wPar3, wTupRev, wSet, wAugS, fSet, fGet, wVar, wFrz, frzC, wC, wOp, wUn, res_fr, res_sc, res_hd, resO_frz, resO_lst, resO_ins, resO_dk, resO_dr, frs_map, fI, fIC, fAdd, fSub, fMul, fDiv, fMod, fPow, fShl, fShr, fAnd, fNeg, fLt, fLe, fGt, fGe, fEq, fNe, fIn, fNotIn, fIsB, fNotB, fIx,
  wSl, fSl, fSlH, wPart, wNoPart, wNil, wCons, wTup, wLst, wLstH, frs, Option.map_some, wTest, wNot, wAnd, wOr, wChain, wIf, wAndV, wOrV, wNotV, wIsN, wNotN, wCB, fLen, fInt, fAbs, fMax2, fMin2, fSum, fSumH, hdD, fMinL, fMinT, fStrI, fJoin, fMaxL, fAll, fAny, fTupleOf, fListOf, fSortedI, fSortedS, fListOfH, wIsi, gname_eq, gnil_eq, gcons_eq, gtup_eq, wiSeq, itemsOf, wiR1, wiR2, wiZip, wiZip3, wiRev, wipeS,
  wBL, wBS, isLst, isStr, fAppend, fPopAt, fPop, fCountI, fExtend, fExtendT, fIndexS, fInsert, fMulT, fAddH, fAddM, wListRg, wListRgH, wFld, wSFld, wFn, wCallF, wT3, fInSg, fInM, fNotInM, wMake, wMeth, InsAt, wDNew, wDPut, fDIn, fDNotIn, fDGet, wDGet1, wDGet2, dkD, keyC, wCall, tb_h, tb_k, tb_seth, tb_setk, tb_app, tb_len, t0_k, t0_setk, t0_app, t0_len, List.getElem?_cons_zero, List.getElem?_cons_succ, List.getElem?_nil, List.set_cons_zero, List.set_cons_succ, List.cons_append, List.nil_append, List.length_cons, List.length_nil, List.map_cons, List.map_nil, Nat.zero_add, if_true, if_false, Bool.false_eq_true, true_and, and_true,
  atI0, atI1, atI2, atI3, atI4, atI5, setI0, setI1, setI2, setI3, decide_eq_true_eq])
local macro_rules | `(tactic| walk_at "zx") => `(tactic| simp -implicitDefEqProofs only [SZ, seqD, Option.bind_some, Bool.not_true, Bool.not_false, eqv_ii, eqv_ss, eqv_bb, shp_i, shp_s, shp_b, shp_n, eq_self, Int.toNat_natCast, range_len, Itf, itb_t, itb_f, optP, opb_some, Cal, wLc, wLcH, wYes, decide_true, decide_false,  ex_lst, List.length_map, Nat.zero_le, Nat.reduceLeDiff, Nat.reduceAdd, wNext, wBreak, wCont, wAsg, wRet, wRetN, wDrop, wIfS, wAug, wPar, wPar3, wTupRev, wSet, wAugS, fSet, fGet, wVar, wFrz, frzC, wC, wOp, wUn, res_fr, res_sc, res_hd, resO_frz, resO_lst, resO_ins, resO_dk, resO_dr, frs_map, fI, fIC, fAdd, fSub, fMul, fDiv, fMod, fPow, fShl, fShr, fAnd, fNeg, fLt, fLe, fGt, fGe, fEq, fNe, fIn, fNotIn, fIsB, fNotB, fIx,
  wSl, fSl, fSlH, wPart, wNoPart, wNil, wCons, wTup, wLst, wLstH, frs, Option.map_some, wTest, wNot, wAnd, wOr, wChain, wIf, wAndV, wOrV, wNotV, wIsN, wNotN, wCB, fLen, fInt, fAbs, fMax2, fMin2, fSum, fSumH, hdD, fMinL, fMinT, fStrI, fJoin, fMaxL, fAll, fAny, fTupleOf, fListOf, fSortedI, fSortedS, fListOfH, wIsi, gname_eq, gnil_eq, gcons_eq, gtup_eq, wiSeq, itemsOf, wiR1, wiR2, wiZip, wiZip3, wiRev, wipeS,
  wBL, wBS, isLst, isStr, fAppend, fPopAt, fPop, fCountI, fExtend, fExtendT, fIndexS, fInsert, fMulT, fAddH, fAddM, wListRg, wListRgH, wFld, wSFld, wFn, wCallF, wT3, fInSg, fInM, fNotInM, wMake, wMeth, InsAt, wDNew, wDPut, fDIn, fDNotIn, fDGet, wDGet1, wDGet2, dkD, keyC, wCall, tb_h, tb_k, tb_seth, tb_setk, tb_app, tb_len, t0_k, t0_setk, t0_app, t0_len, List.getElem?_cons_zero, List.getElem?_cons_succ, List.getElem?_nil, List.set_cons_zero, List.set_cons_succ, List.cons_append, List.nil_append, List.length_cons, List.length_nil, List.map_cons, List.map_nil, Nat.zero_add, if_true, if_false, Bool.false_eq_true, true_and, and_true,
  atI0, atI1, atI2, atI3, atI4, atI5, setI0, setI1, setI2, setI3, decide_eq_true_eq])
local macro_rules | `(tactic| walk_at "z1") => `(tactic| (refine seq1 ?_; try walk_at "zs"))
local macro_rules | `(tactic| walk_at "zy") => `(tactic| (refine seq1 ?_; try walk_at "zx"))
local macro_rules | `(tactic| walk_at "nw") => `(tactic| refine ⟨by decide +kernel, by decide +kernel, itd' (fun e => absurd e (by decide +kernel)) (fun _ => ?_)⟩)
local macro_rules | `(tactic| walk_at "iw") => `(tactic| refine ⟨by decide +kernel, by decide +kernel, ?_⟩)
local macro_rules | `(tactic| walk_at "ni") => `(tactic| (simp only [strsD, Option.map_some]; walk_at "zs"; refine itd' (fun e => absurd e (by decide +kernel)) (fun _ => ?_)))
local macro_rules | `(tactic| walk_at "yi") => `(tactic| (simp only [strsD, Option.map_some]; walk_at "zs"; refine itd' (fun _ => ?_) (fun e => absurd (by decide +kernel) e)))
/-- a right rule for these passers and hours -/
def RuleOk (names : List Str) (hs : List Int) : RuleT → Prop
  | .due => True
  | .come => True
  | .ranks ns => ns.Perm names
  | .turns ts => (ts.map (·.1)).Perm names ∧ ∀ t ∈ ts, 1 ≤ t.2 ∧ t.2 ≤ 3
  | .slots cs => names ≠ [] ∧ cs.length = hs.length ∧ (∀ (i : Nat) c h, cs[i]? = some c → hs[i]? = some h → (c.length : Int) = h) ∧ (∀ n ∈ names, n ∈ cs.flatten) ∧ ∀ n ∈ cs.flatten, n ∈ names
structure HrsOk (hs : List Int) : Prop where
  pos : ∀ h ∈ hs, 0 ≤ h
  len : hs.length ≤ 1000
  sum : hs.sum ≤ 100000
def f__law_rule : FA := fun cs own Q => ∃ (pre post : Ts) (x : Drw) (names : List Str) (hs : List Int), cs = [.hd pre.length, .fr (.list (names.map .str)), .fr (hoursD hs)] ∧ own = pre ++ drM x :: post ∧ names.length ≤ 1000000 ∧ HrsOk hs ∧ ∀ r x', RuleOk names hs r → Q (.fr (ruleD r)) (pre ++ drM x' :: post)
theorem rule_use {pre post r : Ts} {x : Drw} {Q : Hd KC} {names : List Str} {hs : List Int} (h1 : names.length ≤ 1000000) (h2 : HrsOk hs) (k : ∀ u x', RuleOk names hs u → Q.v (.fr (ruleD u)) (Tb pre (drM x') post r)) : @CalB f__law_rule [.hd pre.length, .fr (.list (names.map .str)), .fr (hoursD hs)] (Tb pre (drM x) post r) Q := ⟨pre, post ++ r, x, names, hs, rfl, rfl, h1, h2, k⟩
theorem perm_strs {es : List D} {zs : List Str} (h : es.Perm (zs.map .str)) : ∃ ws : List Str, es = ws.map .str ∧ ws.Perm zs := perm_map_inv h
theorem sum_drop_cons {hs : List Int} {i : Nat} {h : Int} (e : hs[i]? = some h) : (hs.drop i).sum = h + (hs.drop (i + 1)).sum := by
  have hl := lt_of_get e
  rw [List.drop_eq_getElem_cons hl, List.sum_cons]
  rw [List.getElem?_eq_getElem hl] at e
  rw [Option.some.inj e]
theorem sum_pos {hs : List Int} (h : ∀ x ∈ hs, 0 ≤ x) : 0 ≤ hs.sum := by
  induction hs with
  | nil => simp
  | cons a hs ih =>
    rw [List.sum_cons]
    have h1 := h a (List.mem_cons_self ..)
    have h2 := ih fun x hx => h x (List.mem_cons_of_mem _ hx)
    omega
def N__law_rule : List Str := ["d", "names", "hours", "mode", "row", "cut", "many", "k", "name"]
def w__law_rule : WS := (wSeq (wAsg (wCall 2 f__law_draw (wCons (wVar 0) (wCons (wC (.int 5)) wNil))) (wName 3))
  (wSeq (wIfS (wTest (wOp fEq (wVar 3) (wC (.int 1)))) (wRet (wTup (wCons (wC (.str "come")) wNil))) wNext)
  (wSeq (wIfS (wTest (wOp fEq (wVar 3) (wC (.int 2)))) (wRet (wTup (wCons (wC (.str "ranks")) (wCons (wCB fTupleOf (wCons (wCall 2 f__law_shuffled (wCons (wVar 0) (wCons (wVar 1) wNil))) wNil)) wNil)))) wNext)
  (wSeq (wIfS (wTest (wOp fEq (wVar 3) (wC (.int 3)))) (wRet (wTup (wCons (wC (.str "turns")) (wCons (wCB fTupleOf (wCons (wLc (wiSeq (wCall 2 f__law_shuffled (wCons (wVar 0) (wCons (wVar 1) wNil)))) (wName 8) wYes (wTup (wCons (wVar 8) (wCons (wOp fAdd (wC (.int 1)) (wCall 2 f__law_draw (wCons (wVar 0) (wCons (wC (.int 3)) wNil)))) wNil))) [8]) wNil)) wNil)))) wNext)
  (wSeq (wIfS (wAnd (wTest (wOp fEq (wVar 3) (wC (.int 4)))) (wAnd (wTest (wOp fGt (wCB fLen (wCons (wVar 1) wNil)) (wC (.int 0)))) (wTest (wOp fGe (wCB fSum (wCons (wVar 2) wNil)) (wCB fLen (wCons (wVar 1) wNil)))))) (wSeq (wAsg (wOp fAdd (wCB fListOf (wCons (wVar 1) wNil)) (wLc (wiR1 (wCons (wOp fSub (wCB fSum (wCons (wVar 2) wNil)) (wCB fLen (wCons (wVar 1) wNil))) wNil)) (wName 7) wYes (wCall 2 f__law_pick (wCons (wVar 0) (wCons (wVar 1) wNil))) [7])) (wName 4))
  (wSeq (wAsg (wCall 2 f__law_shuffled (wCons (wVar 0) (wCons (wVar 4) wNil))) (wName 4))
  (wSeq (wAsg (wLstH wNil) (wName 5))
  (wSeq (wFor (wiSeq (wVar 2)) (wName 6) (wSeq (wDrop (wBL fAppend (wVar 5) (wCons (wCB fTupleOf (wCons (wSl fSl (wVar 4) wNoPart (wPart (wVar 6))) wNil)) wNil)))
  (wAsg (wSl fSl (wVar 4) (wPart (wVar 6)) wNoPart) (wName 4))))
  (wRet (wTup (wCons (wC (.str "slots")) (wCons (wCB fTupleOf (wCons (wFrz (wVar 5)) wNil)) wNil)))))))) wNext)
  (wRet (wTup (wCons (wC (.str "due")) wNil))))))))
theorem d__law_rule : ∀ cs own Q, Cl own → cs.length = 3 → f__law_rule cs own Q → w__law_rule (enF own.length Q) (startS N__law_rule cs) own := by
  rintro cs own Q hc _ ⟨pre, post, x, names, hs, rfl, rfl, hn, ho, k⟩
  refine dr_start hc fun E hE => ?_
  replace hE := fun u x' r h => hE _ x' r (k u x' h)
  clear k hc
  have ho1 := ho.len
  have ho2 := ho.sum
  have ho3 := sum_pos ho.pos
  have lnm : (names.map PyData.str).length = names.length := List.length_map _
  show w__law_rule E [some (.hd pre.length), some (.fr (.list (names.map .str))), some (.fr (hoursD hs)), none, none, none, none, none, none] _
  unfold w__law_rule
  walk_at "z1"
  refine draw_use (by decide) (by decide) fun v x l1 l2 => ?_
  walk_at "zs"
  walk_at "z1"
  refine itd' (fun e1 => ?_) (fun e1 => ?_)
  · walk_at "zs"
    exact hE .come _ _ trivial
  walk_at "z1"
  refine itd' (fun e2 => ?_) (fun e2 => ?_)
  · walk_at "zs"
    refine shuffled_useL (by rw [lnm]; unfold SZ; omega) fun es x hes => ?_
    obtain ⟨ws, rfl, hw⟩ := perm_strs hes
    walk_at "zs"
    exact hE (.ranks ws) _ _ hw
  walk_at "z1"
  refine itd' (fun e3 => ?_) (fun e3 => ?_)
  · walk_at "zs"
    refine lc_cut (fun its o => ∃ (ws : List Str) (x : Drw), its = ws.map .str ∧ o = Tb pre (drM x) post [] ∧ ws.Perm names) ?_ ?_
    · walk_at "zs"
      refine shuffled_useL (by rw [lnm]; unfold SZ; omega) fun es x hes => ?_
      obtain ⟨ws, rfl, hw⟩ := perm_strs hes
      walk_at "zs"
      exact ⟨ws, x, rfl, rfl, hw⟩
    · rintro its o ⟨ws, x, rfl, rfl, hw⟩
      have hwl := hw.length_eq
      refine lc_dr ws .str tnD (fun z t => t.1 = z ∧ 1 ≤ t.2 ∧ t.2 ≤ 3) pre post [] x (by walk_at "zs") (by unfold SZ; omega) (fun i z x' T S hz hT => ?_) fun ts x hts => ?_
      · walk_at "zs"
        refine draw_use (by decide) (by decide) fun v x2 l1 l2 => ?_
        obtain ⟨j, rfl⟩ := Int.eq_ofNat_of_zero_le l1
        walk_at "zs"
        exact hT (z, 1 + j) x2 ⟨rfl, by omega, by omega⟩
      · walk_at "zs"
        refine hE (.turns ts) _ _ ⟨?_, fun t ht => (hts.at ht).elim fun z h => h.2.2⟩
        have : ts.map (·.1) = ws := by
          apply List.ext_getElem?
          intro j
          rw [List.getElem?_map]
          by_cases hj : j < ts.length
          · have hj2 : j < ws.length := by rw [← hts.1]; exact hj
            have e1 := List.getElem?_eq_getElem hj
            have e2 := List.getElem?_eq_getElem hj2
            rw [e1, e2]
            exact congrArg some (hts.2 j _ _ e2 e1).1
          · rw [List.getElem?_eq_none (by omega), List.getElem?_eq_none (by rw [← hts.1]; omega)]
            rfl
        rw [this]
        exact hw
  refine seq_cut (fun ss o => ∃ (x : Drw) (r : Ts) (z4 z5 z6 z7 z8 : Option C), o = Tb pre (drM x) post r ∧ ss = [some (.hd pre.length), some (.fr (.list (names.map .str))), some (.fr (hoursD hs)), some (.fr (.int v)), z4, z5, z6, z7, z8]) ?_ ?_
  · walk_at "zs"
    refine itd' (fun e4 => ?_) (fun e4 => ?_)
    rotate_left
    · walk_at "zs"
      exact ⟨x, _, _, _, _, _, _, rfl, rfl⟩
    walk_at "zs"
    refine itd' (fun e5 => ?_) (fun e5 => ?_)
    rotate_left
    · walk_at "zs"
      exact ⟨x, _, _, _, _, _, _, rfl, rfl⟩
    unfold hoursD
    walk_at "zs"
    rw [intsD_ints]
    walk_at "zs"
    refine itd' (fun e6 => ?_) (fun e6 => ?_)
    rotate_left
    · walk_at "zs"
      exact ⟨x, _, _, _, _, _, _, rfl, rfl⟩
    walk_at "z1"
    have lr : (rangeD 0 (hs.sum - names.length).toNat).length = (hs.sum - names.length).toNat := range_len
    refine lc_dr (List.range (hs.sum - names.length).toNat) (fun k => .int (0 + (k : Nat))) .str (fun _ z => z ∈ names) pre post [] x ?_ (by rw [List.length_range]; unfold SZ; omega) (fun i z x' T S hz hT => ?_) fun ps x hps => ?_
    · walk_at "zs"
      rw [intsD_ints]
      walk_at "zs"
      exact ⟨⟨by omega, by omega⟩, rfl⟩
    · walk_at "zs"
      refine pick_use (.l _) (by omega) (by unfold SZ; omega) fun d x2 hd => ?_
      obtain ⟨t, ht, rfl⟩ := mem_strs hd
      walk_at "zs"
      exact hT t x2 ht
    have hpl := hps.1
    rw [List.length_range] at hpl
    have hpm : ∀ z ∈ ps, z ∈ names := fun z hz => (hps.at hz).elim fun _ h => h.2
    walk_at "zs"
    refine ⟨by omega, ?_⟩
    rw [← List.map_append]
    walk_at "z1"
    refine shuffled_useL (by simp only [List.length_map, List.length_append]; unfold SZ; omega) fun es x hes => ?_
    obtain ⟨row, rfl, hrow⟩ := perm_strs hes
    have hrl := hrow.length_eq
    rw [List.length_append] at hrl
    walk_at "zs"
    walk_at "z1"
    refine seq1 ?_
    refine for_inv (hs.map .int) (Tb pre (drM x) post [.lst []]) (fun i ss o => ∃ (cs : List (List Str)) (rest : List Str) (z6 z7 z8 : Option C), o = Tb pre (drM x) post [.lst ((cs.map strsT).map C.fr)] ∧ ss = [some (.hd pre.length), some (.fr (.list (names.map .str))), some (.fr (hoursD hs)), some (.fr (.int v)), some (.fr (.list (rest.map .str))), some (.hd (hb pre post 0)), z6, z7, z8] ∧ cs.length = i ∧ cs.flatten ++ rest = row ∧ (rest.length : Int) = (hs.drop i).sum ∧ ∀ (j : Nat) c h, cs[j]? = some c → hs[j]? = some h → (c.length : Int) = h) ?_ ?_ ?_ ?_
    · walk_at "zs"
    · exact ⟨[], row, _, _, _, rfl, rfl, rfl, rfl, by rw [List.drop_zero]; omega, fun j c h e => by simp at e⟩
    · rintro i d ss o hi ⟨cs, rest, z6, z7, z8, rfl, rfl, c1, c2, c3, c4⟩
      obtain ⟨h, hh, rfl⟩ := get_map hi
      have hp := ho.pos _ (List.mem_of_getElem? hh)
      obtain ⟨m, rfl⟩ := Int.eq_ofNat_of_zero_le hp
      have hil := lt_of_get hh
      have hsd := sum_drop_cons hh
      have hps2 : 0 ≤ (hs.drop (i + 1)).sum := sum_pos fun y hy => ho.pos y (List.mem_of_mem_drop hy)
      walk_at "z1"
      rw [cutD_map, cutD_to, cutD_map, cutD_from]
      refine ⟨by omega, cs ++ [rest.take m], rest.drop m, _, _, _, ?_, rfl, by simp [c1], ?_, ?_, ?_⟩
      · rw [List.map_append, List.map_append]
        rfl
      · rw [List.flatten_append, List.append_assoc]
        simp
        exact c2
      · rw [List.length_drop]
        omega
      · intro j c h' e1 e2
        by_cases hj : j < cs.length
        · rw [List.getElem?_append_left hj] at e1
          exact c4 j c h' e1 e2
        · rw [List.getElem?_append_right (by omega)] at e1
          have := lt_of_get e1
          simp at this
          have ej : j = i := by omega
          subst ej
          have e0 : j - cs.length = 0 := by omega
          rw [e0] at e1
          cases e1
          rw [hh] at e2
          cases e2
          rw [List.length_take]
          omega
    · rintro ss o ⟨cs, rest, z6, z7, z8, rfl, rfl, c1, c2, c3, c4⟩
      rw [List.length_map] at c1 c3
      rw [List.drop_length, List.sum_nil] at c3
      have e0 : rest = [] := List.eq_nil_of_length_eq_zero (by omega)
      subst e0
      rw [List.append_nil] at c2
      walk_at "zs"
      refine hE (.slots cs) _ _ ⟨?_, c1, c4, fun n hnn => ?_, fun n hnn => ?_⟩
      · intro e
        rw [e] at e5
        simp at e5
      · rw [c2]
        exact hrow.mem_iff.mpr (List.mem_append_left _ hnn)
      · rw [c2] at hnn
        rcases List.mem_append.mp (hrow.mem_iff.mp hnn) with h | h
        · exact h
        · exact hpm n h
  · rintro ss o ⟨x, r, z4, z5, z6, z7, z8, rfl, rfl⟩
    walk_at "zs"
    exact hE .due _ _ trivial
end Zd

/-! Zt4: lookups in houses. -/
namespace Zd
open PySem L2
local macro_rules | `(tactic| walk_at "zs") => `(tactic| simp only [SZ, seqD, Option.bind_some, Bool.not_true, Bool.not_false, eqv_ii, eqv_ss, eqv_bb, shp_i, shp_s, shp_b, shp_n, eq_self, Int.toNat_natCast, range_len, Itf, itb_t, itb_f, optP, opb_some, Cal, wLc, wLcH, wYes, decide_true, decide_false,  ex_lst, List.length_map, Nat.zero_le, Nat.reduceLeDiff, Nat.reduceAdd, wNext, wBreak, wCont, wAsg, wRet, wRetN, wDrop, wIfS, wAug, wPar, wPar3, wTupRev, wSet, wAugS, fSet, fGet, wVar, wFrz, frzC, wC, wOp, wUn, res_fr, res_sc, res_hd, resO_frz, resO_lst, resO_ins, resO_dk, resO_dr, frs_map, fI, fIC, fAdd, fSub, fMul, fDiv, fMod, fPow, fShl, fShr, fAnd, fNeg, fLt, fLe, fGt, fGe, fEq, fNe, fIn, fNotIn, fIsB, fNotB, fIx,
  wSl, fSl, fSlH, wPart, wNoPart, wNil, wCons, wTup, wLst, wLstH, frs, Option.map_some, wTest, wNot, wAnd, wOr, wChain, wIf, wAndV, wOrV, wNotV, wIsN, wNotN, wCB, fLen, fInt, fAbs, fMax2, fMin2, fSum, fSumH, hdD, fMinL, fMinT, fStrI, fJoin, fMaxL, fAll, fAny, fTupleOf, fListOf, fSortedI, fSortedS, fListOfH, wIsi, gname_eq, gnil_eq, gcons_eq, gtup_eq, wiSeq, itemsOf, wiR1, wiR2, wiZip, wiZip3, wiRev, wipeS,
  wBL, wBS, isLst, isStr, fAppend, fPopAt, fPop, fCountI, fExtend, fExtendT, fIndexS, fInsert, fMulT, fAddH, fAddM, wListRg, wListRgH, wFld, wSFld, wFn, wCallF, wT3, fInSg, fInM, fNotInM, wMake, wMeth, InsAt, wDNew, wDPut, fDIn, fDNotIn, fDGet, wDGet1, wDGet2, dkD, keyC, wCall, tb_h, tb_k, tb_seth, tb_setk, tb_app, tb_len, t0_k, t0_setk, t0_app, t0_len, List.getElem?_cons_zero, List.getElem?_cons_succ, List.getElem?_nil, List.set_cons_zero, List.set_cons_succ, List.cons_append, List.nil_append, List.length_cons, List.length_nil, List.map_cons, List.map_nil, Nat.zero_add, if_true, if_false, Bool.false_eq_true, true_and, and_true,
  atI0, atI1, atI2, atI3, atI4, atI5, setI0, setI1, setI2, setI3, decide_eq_true_eq])
local macro_rules | `(tactic| walk_at "zx") => `(tactic| simp -implicitDefEqProofs only [SZ, seqD, Option.bind_some, Bool.not_true, Bool.not_false, eqv_ii, eqv_ss, eqv_bb, shp_i, shp_s, shp_b, shp_n, eq_self, Int.toNat_natCast, range_len, Itf, itb_t, itb_f, optP, opb_some, Cal, wLc, wLcH, wYes, decide_true, decide_false,  ex_lst, List.length_map, Nat.zero_le, Nat.reduceLeDiff, Nat.reduceAdd, wNext, wBreak, wCont, wAsg, wRet, wRetN, wDrop, wIfS, wAug, wPar, wPar3, wTupRev, wSet, wAugS, fSet, fGet, wVar, wFrz, frzC, wC, wOp, wUn, res_fr, res_sc, res_hd, resO_frz, resO_lst, resO_ins, resO_dk, resO_dr, frs_map, fI, fIC, fAdd, fSub, fMul, fDiv, fMod, fPow, fShl, fShr, fAnd, fNeg, fLt, fLe, fGt, fGe, fEq, fNe, fIn, fNotIn, fIsB, fNotB, fIx,
  wSl, fSl, fSlH, wPart, wNoPart, wNil, wCons, wTup, wLst, wLstH, frs, Option.map_some, wTest, wNot, wAnd, wOr, wChain, wIf, wAndV, wOrV, wNotV, wIsN, wNotN, wCB, fLen, fInt, fAbs, fMax2, fMin2, fSum, fSumH, hdD, fMinL, fMinT, fStrI, fJoin, fMaxL, fAll, fAny, fTupleOf, fListOf, fSortedI, fSortedS, fListOfH, wIsi, gname_eq, gnil_eq, gcons_eq, gtup_eq, wiSeq, itemsOf, wiR1, wiR2, wiZip, wiZip3, wiRev, wipeS,
  wBL, wBS, isLst, isStr, fAppend, fPopAt, fPop, fCountI, fExtend, fExtendT, fIndexS, fInsert, fMulT, fAddH, fAddM, wListRg, wListRgH, wFld, wSFld, wFn, wCallF, wT3, fInSg, fInM, fNotInM, wMake, wMeth, InsAt, wDNew, wDPut, fDIn, fDNotIn, fDGet, wDGet1, wDGet2, dkD, keyC, wCall, tb_h, tb_k, tb_seth, tb_setk, tb_app, tb_len, t0_k, t0_setk, t0_app, t0_len, List.getElem?_cons_zero, List.getElem?_cons_succ, List.getElem?_nil, List.set_cons_zero, List.set_cons_succ, List.cons_append, List.nil_append, List.length_cons, List.length_nil, List.map_cons, List.map_nil, Nat.zero_add, if_true, if_false, Bool.false_eq_true, true_and, and_true,
  atI0, atI1, atI2, atI3, atI4, atI5, setI0, setI1, setI2, setI3, decide_eq_true_eq])
local macro_rules | `(tactic| walk_at "z1") => `(tactic| (refine seq1 ?_; try walk_at "zs"))
local macro_rules | `(tactic| walk_at "zy") => `(tactic| (refine seq1 ?_; try walk_at "zx"))
local macro_rules | `(tactic| walk_at "nw") => `(tactic| refine ⟨by decide +kernel, by decide +kernel, itd' (fun e => absurd e (by decide +kernel)) (fun _ => ?_)⟩)
local macro_rules | `(tactic| walk_at "iw") => `(tactic| refine ⟨by decide +kernel, by decide +kernel, ?_⟩)
local macro_rules | `(tactic| walk_at "ni") => `(tactic| (simp only [strsD, Option.map_some]; walk_at "zs"; refine itd' (fun e => absurd e (by decide +kernel)) (fun _ => ?_)))
local macro_rules | `(tactic| walk_at "yi") => `(tactic| (simp only [strsD, Option.map_some]; walk_at "zs"; refine itd' (fun _ => ?_) (fun e => absurd (by decide +kernel) e)))
theorem ex_start {w : WS} {ss : Sl} {own : Ts} {Q : KC} (hc : Cl own) (h : ∀ E : En, (∀ d r, Q (.fr d) own → E.rt (.fr d) (T0 own r)) → w E ss (T0 own [])) : w (enF own.length Q) ss own := by
  have := h (enF own.length Q) fun d r k => t0_end hc k
  rw [t0_nil] at this
  exact this
/-- the first place of it, -1 where there is none -/
def NumAt (zs : List Str) (nm : Str) (v : Int) : Prop := (∃ i : Nat, v = i ∧ zs[i]? = some nm ∧ ∀ j : Nat, j < i → zs[j]? ≠ some nm) ∨ (v = -1 ∧ ∀ j : Nat, zs[j]? ≠ some nm)
def keyD : D → Option Str
  | .tuple (.str z :: _) => some z
  | _ => none
theorem key_of {d : D} {z : Str} (h : keyD d = some z) : ∃ r, d = .tuple (.str z :: r) := by
  unfold keyD at h
  split at h
  · cases h; exact ⟨_, rfl⟩
  · cases h
def f_number_in : FA := fun cs own Q => ∃ (ds : List D) (zs : List Str) (nm : Str), cs = [.fr (.tuple ds), .fr (.str nm)] ∧ ds.map keyD = zs.map some ∧ ds.length ≤ 100000 ∧ (∀ z ∈ zs, PyData.strOk z = true) ∧ PyData.strOk nm = true ∧ ∀ v, NumAt zs nm v → Q (.fr (.int v)) own
theorem number_use {ds : List D} {zs : List Str} {nm : Str} {own : Ts} {Q : Hd KC} (h1 : ds.map keyD = zs.map some) (h2 : ds.length ≤ 100000) (h3 : ∀ z ∈ zs, PyData.strOk z = true) (h4 : PyData.strOk nm = true) (k : ∀ v, NumAt zs nm v → Q.v (.fr (.int v)) own) : @CalB f_number_in [.fr (.tuple ds), .fr (.str nm)] own Q := ⟨ds, zs, nm, rfl, h1, h2, h3, h4, k⟩
def N_number_in : List Str := ["items", "name", "number"]
def w_number_in : WS := (wSeq (wFor (wiR1 (wCons (wCB fLen (wCons (wVar 0) wNil)) wNil)) (wName 2) (wIfS (wTest (wOp fEq (wOp fIx (wOp fIx (wVar 0) (wVar 2)) (wC (.int 0))) (wVar 1))) (wRet (wVar 2)) wNext))
  (wRet (wUn fNeg (wC (.int 1)))))
theorem d_number_in : ∀ cs own Q, Cl own → cs.length = 2 → f_number_in cs own Q → w_number_in (enF own.length Q) (startS N_number_in cs) own := by
  rintro cs own Q hc _ ⟨ds, zs, nm, rfl, hk, hl, ho, hn, k⟩
  refine ex_start hc fun E hE => ?_
  replace hE := fun v r h => hE _ r (k v h)
  clear k hc
  have hzl : zs.length = ds.length := by
    have := congrArg List.length hk
    simpa using this.symm
  show w_number_in E [some (.fr (.tuple ds)), some (.fr (.str nm)), none] _
  unfold w_number_in
  refine seq1 ?_
  refine for_inv (rangeD 0 ds.length) (T0 own []) (fun k ss o => ∃ z, o = T0 own [] ∧ ss = [some (.fr (.tuple ds)), some (.fr (.str nm)), z] ∧ ∀ j : Nat, j < k → zs[j]? ≠ some nm) ?_ ?_ ?_ ?_
  · walk_at "zs"
    exact ⟨by omega, by omega⟩
  · exact ⟨none, rfl, rfl, fun j hj => absurd hj (Nat.not_lt_zero _)⟩
  · rintro i d ss o hi ⟨z, rfl, rfl, hf⟩
    obtain ⟨hi2, rfl⟩ := range_get0 hi
    have hd := List.getElem?_eq_getElem hi2
    have hz := List.getElem?_eq_getElem (show i < zs.length by omega)
    obtain ⟨r, hr⟩ : ∃ r, ds[i] = .tuple (.str zs[i] :: r) := by
      refine key_of ?_
      have := congrArg (fun l => l[i]?) hk
      simp only [List.getElem?_map, hd, hz, Option.map_some, Option.some.injEq] at this
      exact this
    rw [hr] at hd
    walk_at "zs"
    refine opb_of (atI_nat hd) ?_
    walk_at "zs"
    refine ⟨ho _ (List.getElem_mem _), hn, itd' (fun e => ?_) (fun e => ?_)⟩
    · walk_at "zs"
      exact hE _ _ (.inl ⟨i, rfl, by rw [hz, e], hf⟩)
    · walk_at "zs"
      refine ⟨_, rfl, fun j hj => ?_⟩
      by_cases h : j = i
      · subst h
        rw [hz]
        exact fun h => e (Option.some.inj h)
      · exact hf j (by omega)
  · rintro ss o ⟨z, rfl, rfl, hf⟩
    rw [range_len] at hf
    walk_at "zs"
    refine hE _ _ (.inr ⟨rfl, fun j h => ?_⟩)
    have := lt_of_get h
    exact hf j (by omega) h
/-- a house's flows by name -/
def FlowAt (fs : List FlowT) (nm : Str) (i : Nat) (f : FlowT) : Prop := fs[i]? = some f ∧ f.nm = nm
theorem fl_keys (fs : List FlowT) : (fs.map flD).map keyD = (fs.map (·.nm)).map some := by
  rw [List.map_map, List.map_map]
  rfl
theorem nd_get {α : Type} {zs : List α} (h : zs.Nodup) {i j : Nat} {x : α} (hi : zs[i]? = some x) (hj : zs[j]? = some x) : i = j := by
  have h1 := lt_of_get hi
  have h2 := lt_of_get hj
  rw [List.getElem?_eq_getElem h1] at hi
  rw [List.getElem?_eq_getElem h2] at hj
  have e := (Option.some.inj hi).trans (Option.some.inj hj).symm
  have hp := List.pairwise_iff_getElem.mp h
  rcases Nat.lt_trichotomy i j with hlt | heq | hgt
  · exact absurd e (hp i j h1 h2 hlt)
  · exact heq
  · exact absurd e.symm (hp j i h2 h1 hgt)
theorem num_at {zs : List Str} {nm : Str} {v : Int} {i : Nat} (h : NumAt zs nm v) (hd : zs.Nodup) (hi : zs[i]? = some nm) : v = i := by
  rcases h with ⟨j, rfl, hj, _⟩ | ⟨_, h⟩
  · rw [nd_get hd hj hi]
  · exact absurd hi (h i)
def f_flow_number : FA := fEx fun cs d => ∃ (s0 : D) (fs : List FlowT) (i : Nat) (f : FlowT), cs = [.fr (.tuple [s0, flsD fs]), .fr (.str f.nm)] ∧ FlsOk fs ∧ (fs.map (·.nm)).Nodup ∧ fs[i]? = some f ∧ d = .int i
def N_flow_number : List Str := ["house", "name"]
def w_flow_number : WS := (wRet (wCall 2 f_number_in (wCons (wOp fIx (wVar 0) (wC (.int 1))) (wCons (wVar 1) wNil))))
theorem d_flow_number : ∀ cs own Q, Cl own → cs.length = 2 → f_flow_number cs own Q → w_flow_number (enF own.length Q) (startS N_flow_number cs) own := by
  refine ex_body fun own cs d Q ⟨s0, fs, i, f, e, ok, hd, hf, e2⟩ k => ?_
  subst e e2
  show w_flow_number _ [some (.fr (.tuple [s0, flsD fs])), some (.fr (.str f.nm))] _
  unfold w_flow_number flsD
  have hl := ok.len
  walk_at "zs"
  refine number_use (fl_keys fs) (by simp only [List.length_map]; omega) (fun z hz => ?_) (ok.ok _ (List.mem_of_getElem? hf)).nm fun v hv => ?_
  · obtain ⟨g, hg, rfl⟩ := List.mem_map.mp hz
    exact (ok.ok g hg).nm
  · rw [num_at hv hd (by rw [List.getElem?_map, hf]; rfl)]
    walk_at "zs"
    exact k _
def f_flow_of : FA := fEx fun cs d => ∃ (s0 : D) (fs : List FlowT) (i : Nat) (f : FlowT), cs = [.fr (.tuple [s0, flsD fs]), .fr (.str f.nm)] ∧ FlsOk fs ∧ (fs.map (·.nm)).Nodup ∧ fs[i]? = some f ∧ d = flD f
theorem flow_use {s0 : D} {fs : List FlowT} {i : Nat} {f : FlowT} {own : Ts} {Q : Hd KC} (h1 : FlsOk fs) (h2 : (fs.map (·.nm)).Nodup) (h3 : fs[i]? = some f) (k : Q.v (.fr (flD f)) own) : @CalB f_flow_of [.fr (.tuple [s0, flsD fs]), .fr (.str f.nm)] own Q := ex_at rfl ⟨s0, fs, i, f, rfl, h1, h2, h3, rfl⟩ k
def N_flow_of : List Str := ["house", "name"]
def w_flow_of : WS := (wRet (wOp fIx (wOp fIx (wVar 0) (wC (.int 1))) (wCall 2 f_flow_number (wCons (wVar 0) (wCons (wVar 1) wNil)))))
theorem d_flow_of : ∀ cs own Q, Cl own → cs.length = 2 → f_flow_of cs own Q → w_flow_of (enF own.length Q) (startS N_flow_of cs) own := by
  refine ex_body fun own cs d Q ⟨s0, fs, i, f, e, ok, hd, hf, e2⟩ k => ?_
  subst e e2
  show w_flow_of _ [some (.fr (.tuple [s0, flsD fs])), some (.fr (.str f.nm))] _
  unfold w_flow_of
  walk_at "zs"
  refine ex_at rfl ⟨s0, fs, i, f, rfl, ok, hd, hf, rfl⟩ ?_
  unfold flsD
  walk_at "zs"
  refine opb_map hf ?_
  exact k _
/-! ### the hop at a station -/
def f_hop_at : FA := fun cs own Q => ∃ (f : FlowT) (st : Str), cs = [.fr (flD f), .fr (.str st)] ∧ FlOk f ∧ PyData.strOk st = true ∧ ∀ v, NumAt (f.hops.map (·.st)) st v → Q (.fr (.int v)) own
theorem hopat_use {f : FlowT} {st : Str} {own : Ts} {Q : Hd KC} (h1 : FlOk f) (h2 : PyData.strOk st = true) (k : ∀ v, NumAt (f.hops.map (·.st)) st v → Q.v (.fr (.int v)) own) : @CalB f_hop_at [.fr (flD f), .fr (.str st)] own Q := ⟨f, st, rfl, h1, h2, k⟩
def N_hop_at : List Str := ["flow", "station", "number"]
def w_hop_at : WS := (wSeq (wFor (wiR1 (wCons (wCB fLen (wCons (wOp fIx (wVar 0) (wC (.int 2))) wNil)) wNil)) (wName 2) (wIfS (wTest (wOp fEq (wOp fIx (wOp fIx (wOp fIx (wVar 0) (wC (.int 2))) (wVar 2)) (wC (.int 0))) (wVar 1))) (wRet (wVar 2)) wNext))
  (wRet (wUn fNeg (wC (.int 1)))))
theorem d_hop_at : ∀ cs own Q, Cl own → cs.length = 2 → f_hop_at cs own Q → w_hop_at (enF own.length Q) (startS N_hop_at cs) own := by
  rintro cs own Q hc _ ⟨f, st, rfl, ok, hs, k⟩
  refine ex_start hc fun E hE => ?_
  replace hE := fun v r h => hE _ r (k v h)
  clear k hc
  have hl := ok.len
  show w_hop_at E [some (.fr (flD f)), some (.fr (.str st)), none] _
  unfold w_hop_at
  refine seq1 ?_
  refine for_inv (rangeD 0 f.hops.length) (T0 own []) (fun k ss o => ∃ z, o = T0 own [] ∧ ss = [some (.fr (flD f)), some (.fr (.str st)), z] ∧ ∀ j : Nat, j < k → (f.hops.map (·.st))[j]? ≠ some st) ?_ ?_ ?_ ?_
  · unfold flD
    walk_at "zs"
    exact ⟨by omega, by omega⟩
  · exact ⟨none, rfl, rfl, fun j hj => absurd hj (Nat.not_lt_zero _)⟩
  · rintro i d ss o hi ⟨z, rfl, rfl, hf⟩
    obtain ⟨hi2, rfl⟩ := range_get0 hi
    have hd := List.getElem?_eq_getElem hi2
    unfold flD
    walk_at "zs"
    refine opb_map hd ?_
    unfold hopD
    walk_at "zs"
    refine ⟨(ok.hops _ (List.getElem_mem _)).st, hs, itd' (fun e => ?_) (fun e => ?_)⟩
    · walk_at "zs"
      exact hE _ _ (.inl ⟨i, rfl, by rw [List.getElem?_map, hd, Option.map_some, e], hf⟩)
    · walk_at "zs"
      refine ⟨_, rfl, fun j hj => ?_⟩
      by_cases h : j = i
      · subst h
        rw [List.getElem?_map, hd]
        exact fun h => e (Option.some.inj h)
      · exact hf j (by omega)
  · rintro ss o ⟨z, rfl, rfl, hf⟩
    rw [range_len] at hf
    walk_at "zs"
    refine hE _ _ (.inr ⟨rfl, fun j h => ?_⟩)
    have := lt_of_get h
    rw [List.length_map] at this
    exact hf j this h
/-- routes pass each station once -/
def Once (fs : List FlowT) : Prop := ∀ f ∈ fs, (f.hops.map (·.st)).Nodup
theorem hopsOf_num {f : FlowT} {st : Str} {v : Int} (hd : (f.hops.map (·.st)).Nodup) (h : NumAt (f.hops.map (·.st)) st v) : (∃ i : Nat, v = i ∧ hopsOf f st f.hops.length = [i]) ∨ (v = -1 ∧ hopsOf f st f.hops.length = []) := by
  rcases h with ⟨i, rfl, hi, _⟩ | ⟨rfl, h⟩
  · refine .inl ⟨i, rfl, ?_⟩
    have hl := lt_of_get hi
    rw [List.length_map] at hl
    have key : ∀ n, n ≤ f.hops.length → hopsOf f st n = if i < n then [i] else [] := by
      intro n
      induction n with
      | zero => intro _; simp [hopsOf]
      | succ n ih =>
        intro hn
        rw [hopsOf_succ, ih (by omega)]
        by_cases e : n = i
        · subst e
          rw [List.getElem?_map] at hi
          rw [if_pos hi, if_neg (by omega), if_pos (by omega)]
          rfl
        · have : ¬ (Option.map (·.st) f.hops[n]? = some st) := fun e2 => e (nd_get hd (by rw [List.getElem?_map]; exact e2) hi)
          rw [if_neg this, List.append_nil]
          by_cases h1 : i < n
          · rw [if_pos h1, if_pos (by omega)]
          · rw [if_neg h1, if_neg (by omega)]
    rw [key _ (Nat.le_refl _), if_pos hl]
  · refine .inr ⟨rfl, ?_⟩
    unfold hopsOf
    rw [List.filter_eq_nil_iff]
    intro j _ e
    have := of_decide_eq_true e
    rw [← List.getElem?_map] at this
    exact h j this
def f_flow_passers : FA := fEx fun cs d => ∃ (s0 : D) (fs : List FlowT) (st : Str), cs = [.fr (.tuple [s0, flsD fs]), .fr (.str st)] ∧ FlsOk fs ∧ Once fs ∧ PyData.strOk st = true ∧ d = .tuple ((passF fs st).map npD)
theorem fpassers_use {s0 : D} {fs : List FlowT} {st : Str} {own : Ts} {Q : Hd KC} (h1 : FlsOk fs) (h2 : Once fs) (h3 : PyData.strOk st = true) (k : Q.v (.fr (.tuple ((passF fs st).map npD))) own) : @CalB f_flow_passers [.fr (.tuple [s0, flsD fs]), .fr (.str st)] own Q := ex_at rfl ⟨s0, fs, st, rfl, h1, h2, h3, rfl⟩ k
def N_flow_passers : List Str := ["house", "station", "found", "number", "hop"]
def w_flow_passers : WS := (wSeq (wAsg (wLstH wNil) (wName 2))
  (wSeq (wFor (wiR1 (wCons (wCB fLen (wCons (wOp fIx (wVar 0) (wC (.int 1))) wNil)) wNil)) (wName 3) (wSeq (wAsg (wCall 2 f_hop_at (wCons (wOp fIx (wOp fIx (wVar 0) (wC (.int 1))) (wVar 3)) (wCons (wVar 1) wNil))) (wName 4))
  (wIfS (wTest (wOp fGe (wVar 4) (wC (.int 0)))) (wDrop (wBL fAppend (wVar 2) (wCons (wTup (wCons (wVar 3) (wCons (wVar 4) wNil))) wNil))) wNext)))
  (wRet (wCB fTupleOf (wCons (wFrz (wVar 2)) wNil)))))
theorem d_flow_passers : ∀ cs own Q, Cl own → cs.length = 2 → f_flow_passers cs own Q → w_flow_passers (enF own.length Q) (startS N_flow_passers cs) own := by
  refine ex_body fun own cs d Q ⟨s0, fs, st, e, ok, on, os, e2⟩ k => ?_
  subst e e2
  show w_flow_passers _ [some (.fr (.tuple [s0, flsD fs])), some (.fr (.str st)), none, none, none] _
  unfold w_flow_passers
  have hl := ok.len
  have hle := passR_len (st := st) ok
  walk_at "z1"
  refine seq1 ?_
  refine for_inv (rangeD 0 fs.length) (T0 own [.lst []]) (fun k ss o => ∃ z3 z4, o = T0 own [.lst ((passR fs st k).map npD |>.map C.fr)] ∧ ss = [some (.fr (.tuple [s0, flsD fs])), some (.fr (.str st)), some (.hd (h0 own 0)), z3, z4]) ?_ ?_ ?_ ?_
  · unfold flsD
    walk_at "zs"
    exact ⟨by omega, by omega⟩
  · exact ⟨none, none, rfl, rfl⟩
  · rintro i d ss o hi ⟨z3, z4, rfl, rfl⟩
    obtain ⟨hi2, rfl⟩ := range_get0 hi
    have hf := List.getElem?_eq_getElem hi2
    have hle2 := hle i (by omega)
    unfold flsD
    walk_at "z1"
    refine opb_map hf ?_
    walk_at "zs"
    refine hopat_use (ok.ok _ (List.getElem_mem hi2)) os fun v hv => ?_
    walk_at "zs"
    rcases hopsOf_num (on _ (List.getElem_mem hi2)) hv with ⟨j, rfl, hj⟩ | ⟨rfl, hj⟩
    · rw [decide_eq_true (by omega)]
      walk_at "zs"
      refine ⟨by omega, _, _, ?_, rfl⟩
      rw [passR_succ hf, hj]
      simp [npD]
    · rw [decide_eq_false (by omega)]
      walk_at "zs"
      refine ⟨_, _, ?_, rfl⟩
      rw [passR_succ hf, hj]
      simp
  · rintro ss o ⟨z3, z4, rfl, rfl⟩
    rw [range_len]
    walk_at "zs"
    exact k _
def f_passers : FA := f_flow_passers
def N_passers : List Str := ["house", "station"]
def w_passers : WS := (wRet (wCall 2 f_flow_passers (wCons (wVar 0) (wCons (wVar 1) wNil))))
theorem d_passers : ∀ cs own Q, Cl own → cs.length = 2 → f_passers cs own Q → w_passers (enF own.length Q) (startS N_passers cs) own := by
  refine ex_body fun own cs d Q ⟨s0, fs, st, e, ok, on, os, e2⟩ k => ?_
  subst e e2
  show w_passers _ [some (.fr (.tuple [s0, flsD fs])), some (.fr (.str st))] _
  unfold w_passers
  walk_at "zs"
  refine fpassers_use ok on os ?_
  walk_at "zs"
  exact k _
end Zd

/-! Zt5: ways, paths, followers. -/
namespace Zd
open PySem L2
local macro_rules | `(tactic| walk_at "zs") => `(tactic| simp only [SZ, seqD, Option.bind_some, Bool.not_true, Bool.not_false, eqv_ii, eqv_ss, eqv_bb, shp_i, shp_s, shp_b, shp_n, eq_self, Int.toNat_natCast, range_len, Itf, itb_t, itb_f, optP, opb_some, Cal, wLc, wLcH, wYes, decide_true, decide_false,  ex_lst, List.length_map, Nat.zero_le, Nat.reduceLeDiff, Nat.reduceAdd, wNext, wBreak, wCont, wAsg, wRet, wRetN, wDrop, wIfS, wAug, wPar, wPar3, wTupRev, wSet, wAugS, fSet, fGet, wVar, wFrz, frzC, wC, wOp, wUn, res_fr, res_sc, res_hd, resO_frz, resO_lst, resO_ins, resO_dk, resO_dr, frs_map, fI, fIC, fAdd, fSub, fMul, fDiv, fMod, fPow, fShl, fShr, fAnd, fNeg, fLt, fLe, fGt, fGe, fEq, fNe, fIn, fNotIn, fIsB, fNotB, fIx,
  wSl, fSl, fSlH, wPart, wNoPart, wNil, wCons, wTup, wLst, wLstH, frs, Option.map_some, wTest, wNot, wAnd, wOr, wChain, wIf, wAndV, wOrV, wNotV, wIsN, wNotN, wCB, fLen, fInt, fAbs, fMax2, fMin2, fSum, fSumH, hdD, fMinL, fMinT, fStrI, fJoin, fMaxL, fAll, fAny, fTupleOf, fListOf, fSortedI, fSortedS, fListOfH, wIsi, gname_eq, gnil_eq, gcons_eq, gtup_eq, wiSeq, itemsOf, wiR1, wiR2, wiZip, wiZip3, wiRev, wipeS,
  wBL, wBS, isLst, isStr, fAppend, fPopAt, fPop, fCountI, fExtend, fExtendT, fIndexS, fInsert, fMulT, fAddH, fAddM, wListRg, wListRgH, wFld, wSFld, wFn, wCallF, wT3, fInSg, fInM, fNotInM, wMake, wMeth, InsAt, wDNew, wDPut, fDIn, fDNotIn, fDGet, wDGet1, wDGet2, dkD, keyC, wCall, tb_h, tb_k, tb_seth, tb_setk, tb_app, tb_len, t0_k, t0_setk, t0_app, t0_len, List.getElem?_cons_zero, List.getElem?_cons_succ, List.getElem?_nil, List.set_cons_zero, List.set_cons_succ, List.cons_append, List.nil_append, List.length_cons, List.length_nil, List.map_cons, List.map_nil, Nat.zero_add, if_true, if_false, Bool.false_eq_true, true_and, and_true,
  atI0, atI1, atI2, atI3, atI4, atI5, setI0, setI1, setI2, setI3, decide_eq_true_eq])
local macro_rules | `(tactic| walk_at "zx") => `(tactic| simp -implicitDefEqProofs only [SZ, seqD, Option.bind_some, Bool.not_true, Bool.not_false, eqv_ii, eqv_ss, eqv_bb, shp_i, shp_s, shp_b, shp_n, eq_self, Int.toNat_natCast, range_len, Itf, itb_t, itb_f, optP, opb_some, Cal, wLc, wLcH, wYes, decide_true, decide_false,  ex_lst, List.length_map, Nat.zero_le, Nat.reduceLeDiff, Nat.reduceAdd, wNext, wBreak, wCont, wAsg, wRet, wRetN, wDrop, wIfS, wAug, wPar, wPar3, wTupRev, wSet, wAugS, fSet, fGet, wVar, wFrz, frzC, wC, wOp, wUn, res_fr, res_sc, res_hd, resO_frz, resO_lst, resO_ins, resO_dk, resO_dr, frs_map, fI, fIC, fAdd, fSub, fMul, fDiv, fMod, fPow, fShl, fShr, fAnd, fNeg, fLt, fLe, fGt, fGe, fEq, fNe, fIn, fNotIn, fIsB, fNotB, fIx,
  wSl, fSl, fSlH, wPart, wNoPart, wNil, wCons, wTup, wLst, wLstH, frs, Option.map_some, wTest, wNot, wAnd, wOr, wChain, wIf, wAndV, wOrV, wNotV, wIsN, wNotN, wCB, fLen, fInt, fAbs, fMax2, fMin2, fSum, fSumH, hdD, fMinL, fMinT, fStrI, fJoin, fMaxL, fAll, fAny, fTupleOf, fListOf, fSortedI, fSortedS, fListOfH, wIsi, gname_eq, gnil_eq, gcons_eq, gtup_eq, wiSeq, itemsOf, wiR1, wiR2, wiZip, wiZip3, wiRev, wipeS,
  wBL, wBS, isLst, isStr, fAppend, fPopAt, fPop, fCountI, fExtend, fExtendT, fIndexS, fInsert, fMulT, fAddH, fAddM, wListRg, wListRgH, wFld, wSFld, wFn, wCallF, wT3, fInSg, fInM, fNotInM, wMake, wMeth, InsAt, wDNew, wDPut, fDIn, fDNotIn, fDGet, wDGet1, wDGet2, dkD, keyC, wCall, tb_h, tb_k, tb_seth, tb_setk, tb_app, tb_len, t0_k, t0_setk, t0_app, t0_len, List.getElem?_cons_zero, List.getElem?_cons_succ, List.getElem?_nil, List.set_cons_zero, List.set_cons_succ, List.cons_append, List.nil_append, List.length_cons, List.length_nil, List.map_cons, List.map_nil, Nat.zero_add, if_true, if_false, Bool.false_eq_true, true_and, and_true,
  atI0, atI1, atI2, atI3, atI4, atI5, setI0, setI1, setI2, setI3, decide_eq_true_eq])
local macro_rules | `(tactic| walk_at "z1") => `(tactic| (refine seq1 ?_; try walk_at "zs"))
local macro_rules | `(tactic| walk_at "zy") => `(tactic| (refine seq1 ?_; try walk_at "zx"))
local macro_rules | `(tactic| walk_at "nw") => `(tactic| refine ⟨by decide +kernel, by decide +kernel, itd' (fun e => absurd e (by decide +kernel)) (fun _ => ?_)⟩)
local macro_rules | `(tactic| walk_at "iw") => `(tactic| refine ⟨by decide +kernel, by decide +kernel, ?_⟩)
local macro_rules | `(tactic| walk_at "ni") => `(tactic| (simp only [strsD, Option.map_some]; walk_at "zs"; refine itd' (fun e => absurd e (by decide +kernel)) (fun _ => ?_)))
local macro_rules | `(tactic| walk_at "yi") => `(tactic| (simp only [strsD, Option.map_some]; walk_at "zs"; refine itd' (fun _ => ?_) (fun e => absurd (by decide +kernel) e)))
structure WayT where
  a : Int
  b : Int
  c : Int
  e : Int
  f : Int
  g : Int
def wayD (w : WayT) : D := .tuple [.int w.a, .int w.b, .int w.c, .int w.e, .int w.f, .int w.g]
def way0 : WayT := ⟨0, 0, 0, 0, 0, 0⟩
/-- how it leaves: earliest, latest, slip -/
def outW (h : HopT) (a b c : Int) : Int × Int × Int :=
  if h.gate = "hold" then (b + h.due - 1, b + h.due - 1, 0) else if h.gate = "shape" then (a, b + h.due - 1, 0) else (a, b + h.due - 1, c + h.due - 1)
def wayB (h : HopT) (w : WayT) : WayT :=
  let a := w.e + h.lo
  let b := w.f + h.hi
  let c := w.g + h.hi - h.lo
  let o := outW h a b c
  ⟨a, b, c, o.1, o.2.1, o.2.2⟩
def ahW (ws : List WayT) (b : Int) : WayT := if b < 0 then way0 else (ws[b.toNat]?).getD way0
def waysR (hs : List HopT) : Nat → List WayT
  | 0 => []
  | n + 1 => match hs[n]? with
    | some h => waysR hs n ++ [wayB h (ahW (waysR hs n) h.beh)]
    | none => waysR hs n
def waysF (f : FlowT) : List WayT := waysR f.hops f.hops.length
theorem waysR_succ {hs : List HopT} {n : Nat} {h : HopT} (e : hs[n]? = some h) : waysR hs (n + 1) = waysR hs n ++ [wayB h (ahW (waysR hs n) h.beh)] := by
  show (match hs[n]? with
    | some h => waysR hs n ++ [wayB h (ahW (waysR hs n) h.beh)]
    | none => waysR hs n) = _
  rw [e]
theorem waysR_len {hs : List HopT} : ∀ n, n ≤ hs.length → (waysR hs n).length = n
  | 0, _ => rfl
  | n + 1, h => by
    rw [waysR_succ (List.getElem?_eq_getElem (show n < hs.length by omega)), List.length_append, waysR_len n (by omega)]
    rfl
/-- behind an earlier hop, or the source -/
def BehOk (hs : List HopT) : Prop := ∀ (i : Nat) h, hs[i]? = some h → -1 ≤ h.beh ∧ h.beh < i
def f_way_out : FA := fEx fun cs d => ∃ (h : HopT) (a b c : Int), cs = [.fr (hopD h), .fr (.int a), .fr (.int b), .fr (.int c)] ∧ HopOk h ∧ d = .tuple [.int (outW h a b c).1, .int (outW h a b c).2.1, .int (outW h a b c).2.2]
def N_way_out : List Str := ["hop", "least", "greatest", "slip", "late"]
def w_way_out : WS := (wSeq (wAsg (wOp fSub (wOp fAdd (wVar 2) (wOp fIx (wVar 0) (wC (.int 4)))) (wC (.int 1))) (wName 4))
  (wSeq (wIfS (wTest (wOp fEq (wOp fIx (wVar 0) (wC (.int 5))) (wC (.str "hold")))) (wRet (wTup (wCons (wVar 4) (wCons (wVar 4) (wCons (wC (.int 0)) wNil))))) wNext)
  (wSeq (wIfS (wTest (wOp fEq (wOp fIx (wVar 0) (wC (.int 5))) (wC (.str "shape")))) (wRet (wTup (wCons (wVar 1) (wCons (wVar 4) (wCons (wC (.int 0)) wNil))))) wNext)
  (wRet (wTup (wCons (wVar 1) (wCons (wVar 4) (wCons (wOp fSub (wOp fAdd (wVar 3) (wOp fIx (wVar 0) (wC (.int 4)))) (wC (.int 1))) wNil))))))))
theorem d_way_out : ∀ cs own Q, Cl own → cs.length = 4 → f_way_out cs own Q → w_way_out (enF own.length Q) (startS N_way_out cs) own := by
  refine ex_body fun own cs d Q ⟨h, a, b, c, e, ok, e2⟩ k => ?_
  subst e e2
  show w_way_out _ [some (.fr (hopD h)), some (.fr (.int a)), some (.fr (.int b)), some (.fr (.int c)), none] _
  unfold w_way_out hopD
  unfold outW at k
  walk_at "z1"
  walk_at "z1"
  refine ⟨ok.gate, by decide +kernel, itd' (fun e1 => ?_) (fun e1 => ?_)⟩
  · rw [if_pos e1] at k
    walk_at "zs"
    exact k _
  rw [if_neg e1] at k
  walk_at "z1"
  refine ⟨ok.gate, by decide +kernel, itd' (fun e1 => ?_) (fun e1 => ?_)⟩
  · rw [if_pos e1] at k
    walk_at "zs"
    exact k _
  rw [if_neg e1] at k
  walk_at "zs"
  exact k _
def f_way_behind : FA := fEx fun cs d => ∃ (h : HopT) (w : WayT), cs = [.fr (hopD h), .fr (wayD w)] ∧ HopOk h ∧ d = wayD (wayB h w)
theorem wayb_use {h : HopT} {w : WayT} {own : Ts} {Q : Hd KC} (h1 : HopOk h) (k : Q.v (.fr (wayD (wayB h w))) own) : @CalB f_way_behind [.fr (hopD h), .fr (wayD w)] own Q := ex_at rfl ⟨h, w, rfl, h1, rfl⟩ k
def N_way_behind : List Str := ["hop", "ahead", "least", "greatest", "slip"]
def w_way_behind : WS := (wSeq (wAsg (wOp fAdd (wOp fIx (wVar 1) (wC (.int 3))) (wOp fIx (wVar 0) (wC (.int 2)))) (wName 2))
  (wSeq (wAsg (wOp fAdd (wOp fIx (wVar 1) (wC (.int 4))) (wOp fIx (wVar 0) (wC (.int 3)))) (wName 3))
  (wSeq (wAsg (wOp fSub (wOp fAdd (wOp fIx (wVar 1) (wC (.int 5))) (wOp fIx (wVar 0) (wC (.int 3)))) (wOp fIx (wVar 0) (wC (.int 2)))) (wName 4))
  (wRet (wOp fAdd (wTup (wCons (wVar 2) (wCons (wVar 3) (wCons (wVar 4) wNil)))) (wCall 4 f_way_out (wCons (wVar 0) (wCons (wVar 2) (wCons (wVar 3) (wCons (wVar 4) wNil))))))))))
theorem d_way_behind : ∀ cs own Q, Cl own → cs.length = 2 → f_way_behind cs own Q → w_way_behind (enF own.length Q) (startS N_way_behind cs) own := by
  refine ex_body fun own cs d Q ⟨h, w, e, ok, e2⟩ k => ?_
  subst e e2
  show w_way_behind _ [some (.fr (hopD h)), some (.fr (wayD w)), none, none, none] _
  unfold w_way_behind hopD wayD
  walk_at "z1"
  walk_at "z1"
  walk_at "z1"
  refine ex_at rfl ⟨h, _, _, _, rfl, ok, rfl⟩ ?_
  walk_at "zs"
  exact k _
def k_SOURCE : D := .tuple [.int 0, .int 0, .int 0, .int 0, .int 0, .int 0]
def f_ways_of : FA := fEx fun cs d => ∃ f : FlowT, cs = [.fr (flD f)] ∧ FlOk f ∧ BehOk f.hops ∧ d = .tuple ((waysF f).map wayD)
theorem ways_use {f : FlowT} {own : Ts} {Q : Hd KC} (h1 : FlOk f) (h2 : BehOk f.hops) (k : Q.v (.fr (.tuple ((waysF f).map wayD))) own) : @CalB f_ways_of [.fr (flD f)] own Q := ex_at rfl ⟨f, rfl, h1, h2, rfl⟩ k
def N_ways_of : List Str := ["flow", "found", "hop", "ahead"]
def w_ways_of : WS := (wSeq (wAsg (wLstH wNil) (wName 1))
  (wSeq (wFor (wiSeq (wOp fIx (wVar 0) (wC (.int 2)))) (wName 2) (wSeq (wAsg (wIf (wTest (wOp fLt (wOp fIx (wVar 2) (wC (.int 1))) (wC (.int 0)))) (wC k_SOURCE) (wOp fIx (wVar 1) (wOp fIx (wVar 2) (wC (.int 1))))) (wName 3))
  (wDrop (wBL fAppend (wVar 1) (wCons (wCall 2 f_way_behind (wCons (wVar 2) (wCons (wVar 3) wNil))) wNil)))))
  (wRet (wCB fTupleOf (wCons (wFrz (wVar 1)) wNil)))))
theorem d_ways_of : ∀ cs own Q, Cl own → cs.length = 1 → f_ways_of cs own Q → w_ways_of (enF own.length Q) (startS N_ways_of cs) own := by
  refine ex_body fun own cs d Q ⟨f, e, ok, hb, e2⟩ k => ?_
  subst e e2
  show w_ways_of _ [some (.fr (flD f)), none, none, none] _
  unfold w_ways_of
  have hl := ok.len
  walk_at "z1"
  refine seq1 ?_
  refine for_inv (f.hops.map hopD) (T0 own [.lst []]) (fun k ss o => ∃ z2 z3, o = T0 own [.lst ((waysR f.hops k).map wayD |>.map C.fr)] ∧ ss = [some (.fr (flD f)), some (.hd (h0 own 0)), z2, z3]) ?_ ?_ ?_ ?_
  · unfold flD
    walk_at "zs"
  · exact ⟨none, none, rfl, rfl⟩
  · rintro i d ss o hi ⟨z2, z3, rfl, rfl⟩
    obtain ⟨h, hh, rfl⟩ := get_map hi
    have hil := lt_of_get hh
    obtain ⟨b1, b2⟩ := hb i h hh
    have okh := ok.hops _ (List.mem_of_getElem? hh)
    have wl := waysR_len (hs := f.hops) i (by omega)
    refine seq_cut (fun ss o => o = T0 own [.lst ((waysR f.hops i).map wayD |>.map C.fr)] ∧ ss = [some (.fr (flD f)), some (.hd (h0 own 0)), some (.fr (hopD h)), some (.fr (wayD (ahW (waysR f.hops i) h.beh)))]) ?_ ?_
    · unfold hopD
      walk_at "zs"
      refine itd' (fun e => ?_) (fun e => ?_)
      · walk_at "zs"
        unfold ahW
        rw [if_pos e]
        rfl
      · walk_at "zs"
        obtain ⟨b, eb⟩ := Int.eq_ofNat_of_zero_le (show 0 ≤ h.beh by omega)
        have hbl : b < (waysR f.hops i).length := by omega
        rw [eb]
        refine opb_of (atI_nat (v := C.fr (wayD (waysR f.hops i)[b])) (by rw [List.getElem?_map, List.getElem?_map, List.getElem?_eq_getElem hbl]; rfl)) ?_
        walk_at "zs"
        unfold ahW
        rw [if_neg (by omega), Int.toNat_natCast, List.getElem?_eq_getElem hbl]
        rfl
    · rintro ss o ⟨rfl, rfl⟩
      walk_at "zs"
      refine wayb_use okh ?_
      walk_at "zs"
      refine ⟨by omega, _, _, ?_, rfl⟩
      rw [waysR_succ hh, List.map_append, List.map_append]
      rfl
  · rintro ss o ⟨z2, z3, rfl, rfl⟩
    rw [List.length_map]
    walk_at "zs"
    exact k _
structure HsOk (fs : List FlowT) : Prop where
  ok : FlsOk fs
  nd : (fs.map (·.nm)).Nodup
  beh : ∀ f ∈ fs, BehOk f.hops
def f_flow_ways : FA := fEx fun cs d => ∃ (s0 : D) (fs : List FlowT) (i : Nat) (f : FlowT), cs = [.fr (.tuple [s0, flsD fs]), .fr (.str f.nm)] ∧ HsOk fs ∧ fs[i]? = some f ∧ d = .tuple ((waysF f).map wayD)
def N_flow_ways : List Str := ["house", "name"]
def w_flow_ways : WS := (wRet (wCall 1 f_ways_of (wCons (wCall 2 f_flow_of (wCons (wVar 0) (wCons (wVar 1) wNil))) wNil)))
theorem d_flow_ways : ∀ cs own Q, Cl own → cs.length = 2 → f_flow_ways cs own Q → w_flow_ways (enF own.length Q) (startS N_flow_ways cs) own := by
  refine ex_body fun own cs d Q ⟨s0, fs, i, f, e, ok, hf, e2⟩ k => ?_
  subst e e2
  show w_flow_ways _ [some (.fr (.tuple [s0, flsD fs])), some (.fr (.str f.nm))] _
  unfold w_flow_ways
  have hm := List.mem_of_getElem? hf
  walk_at "zs"
  refine flow_use ok.ok ok.nd hf ?_
  walk_at "zs"
  refine ways_use (ok.ok.ok f hm) (ok.beh f hm) ?_
  walk_at "zs"
  exact k _
/-! ### followers, ends -/
def folF (hs : List HopT) (v : Int) : List Nat := (List.range hs.length).filter fun k => decide ((hs[k]?.map (·.beh)) = some v)
def endsF (hs : List HopT) : List Nat := (List.range hs.length).filter fun k => decide (folF hs k = [])
def nD (n : Nat) : D := .int n
def f_followers : FA := fEx fun cs d => ∃ (f : FlowT) (v : Int), cs = [.fr (flD f), .fr (.int v)] ∧ FlOk f ∧ d = .tuple ((folF f.hops v).map nD)
theorem fol_use {f : FlowT} {v : Int} {own : Ts} {Q : Hd KC} (h1 : FlOk f) (k : Q.v (.fr (.tuple ((folF f.hops v).map nD))) own) : @CalB f_followers [.fr (flD f), .fr (.int v)] own Q := ex_at rfl ⟨f, v, rfl, h1, rfl⟩ k
theorem range_map (n : Nat) : rangeD 0 n = (List.range n).map nD := by
  unfold rangeD nD
  refine List.map_congr_left fun k _ => ?_
  rw [Int.zero_add]
def N_followers : List Str := ["flow", "hop", "number"]
def w_followers : WS := (wRet (wCB fTupleOf (wCons (wLc (wiR1 (wCons (wCB fLen (wCons (wOp fIx (wVar 0) (wC (.int 2))) wNil)) wNil)) (wName 2) (wTest (wOp fEq (wOp fIx (wOp fIx (wOp fIx (wVar 0) (wC (.int 2))) (wVar 2)) (wC (.int 1))) (wVar 1))) (wVar 2) [2]) wNil)))
theorem d_followers : ∀ cs own Q, Cl own → cs.length = 2 → f_followers cs own Q → w_followers (enF own.length Q) (startS N_followers cs) own := by
  refine ex_body fun own cs d Q ⟨f, v, e, ok, e2⟩ k => ?_
  subst e e2
  show w_followers _ [some (.fr (flD f)), some (.fr (.int v)), none] _
  unfold w_followers flD
  have hl := ok.len
  walk_at "zs"
  refine lc_fil (List.range f.hops.length) nD nD (fun k => decide ((f.hops[k]?.map (·.beh)) = some v)) (T0 own []) ?_ (by rw [List.length_range]; unfold SZ; omega) (fun i a R S ha h1 h2 => ?_) ?_
  · walk_at "zs"
    exact ⟨⟨by omega, by omega⟩, range_map _⟩
  · have hal := List.mem_range.mp (List.mem_of_getElem? ha)
    have hh := List.getElem?_eq_getElem hal
    rw [hh] at h1 h2
    unfold nD at *
    walk_at "zs"
    refine opb_map hh ?_
    unfold hopD
    walk_at "zs"
    refine itd' (fun e => ?_) (fun e => ?_)
    · walk_at "zs"
      exact h1 (decide_eq_true (by rw [Option.map_some, e]))
    · exact h2 (decide_eq_false fun e2 => e (Option.some.inj e2))
  · walk_at "zs"
    exact k _
def f_ends_of_flow : FA := fEx fun cs d => ∃ (f : FlowT), cs = [.fr (flD f)] ∧ FlOk f ∧ d = .tuple ((endsF f.hops).map nD)
theorem endsf_use {f : FlowT} {own : Ts} {Q : Hd KC} (h1 : FlOk f) (k : Q.v (.fr (.tuple ((endsF f.hops).map nD))) own) : @CalB f_ends_of_flow [.fr (flD f)] own Q := ex_at rfl ⟨f, rfl, h1, rfl⟩ k
def N_ends_of_flow : List Str := ["flow", "hop"]
def w_ends_of_flow : WS := (wRet (wCB fTupleOf (wCons (wLc (wiR1 (wCons (wCB fLen (wCons (wOp fIx (wVar 0) (wC (.int 2))) wNil)) wNil)) (wName 1) (wTest (wOp fEq (wCB fLen (wCons (wCall 2 f_followers (wCons (wVar 0) (wCons (wVar 1) wNil))) wNil)) (wC (.int 0)))) (wVar 1) [1]) wNil)))
theorem d_ends_of_flow : ∀ cs own Q, Cl own → cs.length = 1 → f_ends_of_flow cs own Q → w_ends_of_flow (enF own.length Q) (startS N_ends_of_flow cs) own := by
  refine ex_body fun own cs d Q ⟨f, e, ok, e2⟩ k => ?_
  subst e e2
  show w_ends_of_flow _ [some (.fr (flD f)), none] _
  unfold w_ends_of_flow
  have hl := ok.len
  walk_at "zs"
  refine lc_fil (List.range f.hops.length) nD nD (fun k => decide (folF f.hops k = [])) (T0 own []) ?_ (by rw [List.length_range]; unfold SZ; omega) (fun i a R S ha h1 h2 => ?_) ?_
  · unfold flD
    walk_at "zs"
    exact ⟨⟨by omega, by omega⟩, range_map _⟩
  · unfold nD at *
    walk_at "zs"
    refine fol_use ok ?_
    walk_at "zs"
    refine itd' (fun e => ?_) (fun e => ?_)
    · walk_at "zs"
      exact h1 (decide_eq_true (List.eq_nil_of_length_eq_zero (by omega)))
    · refine h2 (decide_eq_false fun e2 => e ?_)
      rw [e2]
      rfl
  · walk_at "zs"
    exact k _
def f_ends_of : FA := fEx fun cs d => ∃ (s0 : D) (fs : List FlowT) (i : Nat) (f : FlowT), cs = [.fr (.tuple [s0, flsD fs]), .fr (.str f.nm)] ∧ HsOk fs ∧ fs[i]? = some f ∧ d = .tuple ((endsF f.hops).map nD)
def N_ends_of : List Str := ["house", "name"]
def w_ends_of : WS := (wRet (wCall 1 f_ends_of_flow (wCons (wCall 2 f_flow_of (wCons (wVar 0) (wCons (wVar 1) wNil))) wNil)))
theorem d_ends_of : ∀ cs own Q, Cl own → cs.length = 2 → f_ends_of cs own Q → w_ends_of (enF own.length Q) (startS N_ends_of cs) own := by
  refine ex_body fun own cs d Q ⟨s0, fs, i, f, e, ok, hf, e2⟩ k => ?_
  subst e e2
  show w_ends_of _ [some (.fr (.tuple [s0, flsD fs])), some (.fr (.str f.nm))] _
  unfold w_ends_of
  have hm := List.mem_of_getElem? hf
  walk_at "zs"
  refine flow_use ok.ok ok.nd hf ?_
  walk_at "zs"
  refine endsf_use (ok.ok.ok f hm) ?_
  walk_at "zs"
  exact k _
end Zd

/-! Zk05a: houses with faults, names, hours, stops. -/
namespace Zd.K05
open PySem L2
local macro_rules | `(tactic| walk_at "zs") => `(tactic| simp only [SZ, seqD, Option.bind_some, Bool.not_true, Bool.not_false, eqv_ii, eqv_ss, eqv_bb, shp_i, shp_s, shp_b, shp_n, eq_self, Int.toNat_natCast, range_len, Itf, itb_t, itb_f, optP, opb_some, Cal, wLc, wLcH, wYes, decide_true, decide_false,  ex_lst, List.length_map, Nat.zero_le, Nat.reduceLeDiff, Nat.reduceAdd, wNext, wBreak, wCont, wAsg, wRet, wRetN, wDrop, wIfS, wAug, wPar, wPar3, wTupRev, wSet, wAugS, fSet, fGet, wVar, wFrz, frzC, wC, wOp, wUn, res_fr, res_sc, res_hd, resO_frz, resO_lst, resO_ins, resO_dk, resO_dr, frs_map, fI, fIC, fAdd, fSub, fMul, fDiv, fMod, fPow, fShl, fShr, fAnd, fNeg, fLt, fLe, fGt, fGe, fEq, fNe, fIn, fNotIn, fIsB, fNotB, fIx,
  wSl, fSl, fSlH, wPart, wNoPart, wNil, wCons, wTup, wLst, wLstH, frs, Option.map_some, wTest, wNot, wAnd, wOr, wChain, wIf, wAndV, wOrV, wNotV, wIsN, wNotN, wCB, fLen, fInt, fAbs, fMax2, fMin2, fSum, fSumH, hdD, fMinL, fMinT, fStrI, fJoin, fMaxL, fAll, fAny, fTupleOf, fListOf, fSortedI, fSortedS, fListOfH, wIsi, gname_eq, gnil_eq, gcons_eq, gtup_eq, wiSeq, itemsOf, wiR1, wiR2, wiZip, wiZip3, wiRev, wipeS,
  wBL, wBS, isLst, isStr, fAppend, fPopAt, fPop, fCountI, fExtend, fExtendT, fIndexS, fInsert, fMulT, fAddH, fAddM, wListRg, wListRgH, wFld, wSFld, wFn, wCallF, wT3, fInSg, fInM, fNotInM, wMake, wMeth, InsAt, wDNew, wDPut, fDIn, fDNotIn, fDGet, wDGet1, wDGet2, dkD, keyC, wCall, tb_h, tb_k, tb_seth, tb_setk, tb_app, tb_len, t0_k, t0_setk, t0_app, t0_len, List.getElem?_cons_zero, List.getElem?_cons_succ, List.getElem?_nil, List.set_cons_zero, List.set_cons_succ, List.cons_append, List.nil_append, List.length_cons, List.length_nil, List.map_cons, List.map_nil, Nat.zero_add, if_true, if_false, Bool.false_eq_true, true_and, and_true,
  atI0, atI1, atI2, atI3, atI4, atI5, setI0, setI1, setI2, setI3, decide_eq_true_eq])
local macro_rules | `(tactic| walk_at "zx") => `(tactic| simp -implicitDefEqProofs only [SZ, seqD, Option.bind_some, Bool.not_true, Bool.not_false, eqv_ii, eqv_ss, eqv_bb, shp_i, shp_s, shp_b, shp_n, eq_self, Int.toNat_natCast, range_len, Itf, itb_t, itb_f, optP, opb_some, Cal, wLc, wLcH, wYes, decide_true, decide_false,  ex_lst, List.length_map, Nat.zero_le, Nat.reduceLeDiff, Nat.reduceAdd, wNext, wBreak, wCont, wAsg, wRet, wRetN, wDrop, wIfS, wAug, wPar, wPar3, wTupRev, wSet, wAugS, fSet, fGet, wVar, wFrz, frzC, wC, wOp, wUn, res_fr, res_sc, res_hd, resO_frz, resO_lst, resO_ins, resO_dk, resO_dr, frs_map, fI, fIC, fAdd, fSub, fMul, fDiv, fMod, fPow, fShl, fShr, fAnd, fNeg, fLt, fLe, fGt, fGe, fEq, fNe, fIn, fNotIn, fIsB, fNotB, fIx,
  wSl, fSl, fSlH, wPart, wNoPart, wNil, wCons, wTup, wLst, wLstH, frs, Option.map_some, wTest, wNot, wAnd, wOr, wChain, wIf, wAndV, wOrV, wNotV, wIsN, wNotN, wCB, fLen, fInt, fAbs, fMax2, fMin2, fSum, fSumH, hdD, fMinL, fMinT, fStrI, fJoin, fMaxL, fAll, fAny, fTupleOf, fListOf, fSortedI, fSortedS, fListOfH, wIsi, gname_eq, gnil_eq, gcons_eq, gtup_eq, wiSeq, itemsOf, wiR1, wiR2, wiZip, wiZip3, wiRev, wipeS,
  wBL, wBS, isLst, isStr, fAppend, fPopAt, fPop, fCountI, fExtend, fExtendT, fIndexS, fInsert, fMulT, fAddH, fAddM, wListRg, wListRgH, wFld, wSFld, wFn, wCallF, wT3, fInSg, fInM, fNotInM, wMake, wMeth, InsAt, wDNew, wDPut, fDIn, fDNotIn, fDGet, wDGet1, wDGet2, dkD, keyC, wCall, tb_h, tb_k, tb_seth, tb_setk, tb_app, tb_len, t0_k, t0_setk, t0_app, t0_len, List.getElem?_cons_zero, List.getElem?_cons_succ, List.getElem?_nil, List.set_cons_zero, List.set_cons_succ, List.cons_append, List.nil_append, List.length_cons, List.length_nil, List.map_cons, List.map_nil, Nat.zero_add, if_true, if_false, Bool.false_eq_true, true_and, and_true,
  atI0, atI1, atI2, atI3, atI4, atI5, setI0, setI1, setI2, setI3, decide_eq_true_eq])
local macro_rules | `(tactic| walk_at "z1") => `(tactic| (refine seq1 ?_; try walk_at "zs"))
local macro_rules | `(tactic| walk_at "zy") => `(tactic| (refine seq1 ?_; try walk_at "zx"))
local macro_rules | `(tactic| walk_at "nw") => `(tactic| refine ⟨by decide +kernel, by decide +kernel, itd' (fun e => absurd e (by decide +kernel)) (fun _ => ?_)⟩)
local macro_rules | `(tactic| walk_at "iw") => `(tactic| refine ⟨by decide +kernel, by decide +kernel, ?_⟩)
local macro_rules | `(tactic| walk_at "ni") => `(tactic| (simp only [strsD, Option.map_some]; walk_at "zs"; refine itd' (fun e => absurd e (by decide +kernel)) (fun _ => ?_)))
local macro_rules | `(tactic| walk_at "yi") => `(tactic| (simp only [strsD, Option.map_some]; walk_at "zs"; refine itd' (fun _ => ?_) (fun e => absurd (by decide +kernel) e)))
inductive RuleX where
  | bare (w : Str)
  | ranks (ns : List Str)
  | turns (ts : List (Str × Int))
  | slots (cs : List (List Str))
structure StaX where
  nm : Str
  hrs : List Int
  stop : Option (Int × Int)
  rule : RuleX
structure HouX where
  stas : List StaX
  flows : List FlowT
def siD (t : Str × Int) : D := .tuple [.str t.1, .int t.2]
def ruleX : RuleX → D
  | .bare w => .tuple [.str w]
  | .ranks ns => .tuple [.str "ranks", strsT ns]
  | .turns ts => .tuple [.str "turns", .tuple (ts.map siD)]
  | .slots cs => .tuple [.str "slots", .tuple (cs.map strsT)]
def staX (s : StaX) : D := .tuple [.str s.nm, hoursD s.hrs, stopD s.stop, ruleX s.rule]
def houX (h : HouX) : D := .tuple [.tuple (h.stas.map staX), flsD h.flows]
theorem houX_eq (h : HouX) : houX h = .tuple [.tuple (h.stas.map staX), flsD h.flows] := rfl
theorem staX_eq (s : StaX) : staX s = .tuple [.str s.nm, hoursD s.hrs, stopD s.stop, ruleX s.rule] := rfl
theorem flD_eq (f : FlowT) : flD f = .tuple [.str f.nm, winsD f.wins, .tuple (f.hops.map hopD)] := rfl
theorem hopD_eq (h : HopT) : hopD h = .tuple [.str h.st, .int h.beh, .int h.lo, .int h.hi, .int h.due, .str h.gate] := rfl
theorem hoursD_eq (hs : List Int) : hoursD hs = .tuple (hs.map .int) := rfl
theorem winsD_eq (ws : List (Int × Int)) : winsD ws = .tuple (ws.map ipD) := rfl
theorem ipD_eq (p : Int × Int) : ipD p = .tuple [.int p.1, .int p.2] := rfl
theorem flsD_eq (fs : List FlowT) : flsD fs = .tuple (fs.map flD) := rfl
/-- texts in hand -/
def NmX (z : Str) : Prop := z.length ≤ 10000 ∧ PyData.strOk z = true
structure StaK (s : StaX) : Prop where
  nm : NmX s.nm
  hl : s.hrs.length ≤ 1000
structure FlowK (f : FlowT) : Prop where
  nm : NmX f.nm
  wl : f.wins.length ≤ 1000
  hl : f.hops.length ≤ 1000
  hs : ∀ h ∈ f.hops, NmX h.st ∧ PyData.strOk h.gate = true
structure HouK (h : HouX) : Prop where
  ss : ∀ s ∈ h.stas, StaK s
  sl : h.stas.length ≤ 1000
  fs : ∀ f ∈ h.flows, FlowK f
  fl : h.flows.length ≤ 1000
/-! ### what is asked of the parts -/
def inB (i lo hi : Int) : Bool := decide (lo ≤ i) && decide (i ≤ hi)
def nmB (z : Str) : Bool := inB z.length 1 12 && z.cps.toList.all fun x => decide (x ∈ ABC.cps.toList)
def newB (zs : List Str) (i : Nat) (z : Str) : Bool := nmB z && !decide (z ∈ zs.take i)
def hrsB (hs : List Int) : Bool := inB hs.length 1 8 && (hs.all fun h => inB h 0 6) && decide (0 < hs.sum)
def stopB : Option (Int × Int) → Bool
  | none => true
  | some p => inB p.1 1 4 && inB p.2 1 12
def winsB (ws : List (Int × Int)) : Bool := inB ws.length 1 3 && ws.all fun w => inB w.1 1 9 && inB w.2 1 12
abbrev FT := Str × List Nat
def faultD : Option FT → D
  | none => .none
  | some p => .tuple [.str p.1, .tuple (p.2.map nD)]
def staF (h : HouX) (i : Nat) : Option FT := match h.stas[i]? with
  | none => none
  | some s => if newB (h.stas.map (·.nm)) i s.nm = false then some ("station name", [i]) else if hrsB s.hrs = false then some ("hours", [i]) else if stopB s.stop = false then some ("stop", [i]) else none
theorem boolsD_f {α : Type} (f : α → Bool) : ∀ xs : List α, boolsD (xs.map fun x => .bool (f x)) = some (xs.map f)
  | [] => rfl
  | x :: xs => by
    show (boolsD (xs.map fun x => .bool (f x))).map (f x :: ·) = _
    rw [boolsD_f f xs]
    rfl
theorem strsD_ss : ∀ ns : List Str, strsD (ns.map .str) = some ns
  | [] => rfl
  | x :: xs => by
    show (strsD (xs.map PyData.str)).map (x :: ·) = _
    rw [strsD_ss xs]
    rfl
theorem all_map {α : Type} (f : α → Bool) (xs : List α) : (xs.map f).all id = xs.all f := by
  rw [List.all_map]
  rfl
/-! ### the small defs -/
def f_is_in : FA := fEx fun cs d => ∃ i lo hi : Int, cs = [.fr (.int i), .fr (.int lo), .fr (.int hi)] ∧ d = .bool (inB i lo hi)
theorem isin_use {i lo hi : Int} {own : Ts} {Q : Hd KC} (k : Q.v (.fr (.bool (inB i lo hi))) own) : @CalB f_is_in [.fr (.int i), .fr (.int lo), .fr (.int hi)] own Q := ex_at rfl ⟨i, lo, hi, rfl, rfl⟩ k
def N_is_in : List Str := ["number", "low", "high"]
def w_is_in : WS := (wRet (wChain fLe fLe (wVar 1) (wVar 0) (wVar 2)))
theorem d_is_in : ∀ cs own Q, Cl own → cs.length = 3 → f_is_in cs own Q → w_is_in (enF own.length Q) (startS N_is_in cs) own := by
  refine ex_body fun own cs d Q ⟨i, lo, hi, e, e2⟩ k => ?_
  subst e e2
  show w_is_in _ [some (.fr (.int i)), some (.fr (.int lo)), some (.fr (.int hi))] _
  unfold w_is_in
  unfold inB at k
  walk_at "zx"
  refine itd' (fun e => ?_) (fun e => ?_)
  · rw [decide_eq_true e, Bool.true_and] at k
    exact k []
  · rw [decide_eq_false e, Bool.false_and] at k
    walk_at "zx"
    exact k []
def f_is_name : FA := fEx fun cs d => ∃ z, cs = [.fr (.str z)] ∧ z.length ≤ 10000 ∧ d = .bool (nmB z)
theorem isname_use {z : Str} {own : Ts} {Q : Hd KC} (h : z.length ≤ 10000) (k : Q.v (.fr (.bool (nmB z))) own) : @CalB f_is_name [.fr (.str z)] own Q := ex_at rfl ⟨z, rfl, h, rfl⟩ k
def k_LETTERS : D := (.str "abcdefghijklmnopqrstuvwxyz")
def N_is_name : List Str := ["word", "sign"]
def w_is_name : WS := (wRet (wAndV (wChain fLe fLe (wC (.int 1)) (wCB fLen (wCons (wVar 0) wNil)) (wC (.int 12))) (wCB fAll (wCons (wLc (wiSeq (wVar 0)) (wName 1) wYes (wOp fInSg (wVar 1) (wC k_LETTERS)) [1]) wNil))))
theorem d_is_name : ∀ cs own Q, Cl own → cs.length = 1 → f_is_name cs own Q → w_is_name (enF own.length Q) (startS N_is_name cs) own := by
  refine ex_body fun own cs d Q ⟨z, e, hl, e2⟩ k => ?_
  subst e e2
  have hzl : z.cps.toList.length = z.length := by rw [Array.length_toList]; rfl
  show w_is_name _ [some (.fr (.str z)), none] _
  unfold w_is_name
  unfold nmB inB at k
  walk_at "zx"
  refine ⟨by omega, itd' (fun e1 => ?_) (fun e1 => ?_)⟩
  · rw [decide_eq_true e1, Bool.true_and] at k
    walk_at "zx"
    cases e2 : decide ((z.length : Int) ≤ 12) with
    | true =>
      rw [e2, Bool.true_and] at k
      walk_at "zx"
      refine lc_map z.cps.toList (fun x => .str ⟨#[x]⟩) (fun x => .bool (decide (x ∈ ABC.cps.toList))) (T0 own []) (by walk_at "zx") (by unfold SZ; omega) (fun i x R S hq h => ?_) ?_
      · unfold k_LETTERS
        walk_at "zx"
        exact ⟨rfl, h⟩
      walk_at "zx"
      rw [boolsD_f]
      walk_at "zx"
      rw [all_map]
      exact k []
    | false =>
      rw [e2, Bool.false_and] at k
      walk_at "zx"
      exact k []
  · rw [decide_eq_false e1, Bool.false_and] at k
    walk_at "zx"
    exact k []
/-- names of stations, flows, hops -/
def f_names_of : FA := fEx fun cs d => ∃ (ds : List D) (zs : List Str), cs = [.fr (.tuple ds)] ∧ ds.map keyD = zs.map some ∧ ds.length ≤ 100000 ∧ d = .tuple (zs.map .str)
theorem names_of_use {ds : List D} {zs : List Str} {own : Ts} {Q : Hd KC} (h1 : ds.map keyD = zs.map some) (h2 : ds.length ≤ 100000) (k : Q.v (.fr (.tuple (zs.map .str))) own) : @CalB f_names_of [.fr (.tuple ds)] own Q := ex_at rfl ⟨ds, zs, rfl, h1, h2, rfl⟩ k
theorem key_map {α : Type} {f : α → D} {g : α → Str} (h : ∀ a, keyD (f a) = some (g a)) (xs : List α) : (xs.map f).map keyD = (xs.map g).map some := by
  rw [List.map_map, List.map_map]
  exact List.map_congr_left fun a _ => h a
theorem key_sta (xs : List StaX) : (xs.map staX).map keyD = (xs.map (·.nm)).map some := key_map (fun _ => rfl) xs
theorem key_fl (xs : List FlowT) : (xs.map flD).map keyD = (xs.map (·.nm)).map some := key_map (fun _ => rfl) xs
theorem key_hop (xs : List HopT) : (xs.map hopD).map keyD = (xs.map (·.st)).map some := key_map (fun _ => rfl) xs
def N_names_of : List Str := ["items", "item"]
def w_names_of : WS := (wRet (wCB fTupleOf (wCons (wLc (wiSeq (wVar 0)) (wName 1) wYes (wOp fIx (wVar 1) (wC (.int 0))) [1]) wNil)))
theorem d_names_of : ∀ cs own Q, Cl own → cs.length = 1 → f_names_of cs own Q → w_names_of (enF own.length Q) (startS N_names_of cs) own := by
  refine ex_body fun own cs d Q ⟨ds, zs, e, hk, hl, e2⟩ k => ?_
  subst e e2
  have hlen : ds.length = zs.length := by simpa using congrArg List.length hk
  show w_names_of _ [some (.fr (.tuple ds)), none] _
  unfold w_names_of
  walk_at "zx"
  refine lc_map (List.range ds.length) (fun i => ds.getD i .none) (fun i => .str (zs.getD i "")) (T0 own []) ?_ (by rw [List.length_range]; unfold SZ; omega) (fun i j R S hq h => ?_) ?_
  · walk_at "zx"
    refine List.ext_getElem? fun i => ?_
    rw [List.getElem?_map]
    by_cases hi : i < ds.length
    · rw [List.getElem?_range hi, List.getElem?_eq_getElem hi]
      simp [List.getD, List.getElem?_eq_getElem hi]
    · rw [List.getElem?_eq_none (by omega), List.getElem?_eq_none (by simp; omega)]
      rfl
  · have hj := List.mem_range.mp (List.mem_of_getElem? hq)
    have e1 : (ds.map keyD)[j]? = (zs.map some)[j]? := by rw [hk]
    rw [List.getElem?_map, List.getElem?_map, List.getElem?_eq_getElem hj, List.getElem?_eq_getElem (show j < zs.length by omega)] at e1
    obtain ⟨r, er⟩ := key_of (Option.some.inj e1)
    have e2 : ds.getD j .none = .tuple (.str zs[j] :: r) := by simp [List.getD, List.getElem?_eq_getElem hj, er]
    have e3 : zs.getD j "" = zs[j] := by simp [List.getD, List.getElem?_eq_getElem (show j < zs.length by omega)]
    rw [e3] at h
    rw [e2]
    walk_at "zx"
    exact h
  walk_at "zx"
  have e4 : (List.range ds.length).map (fun i => PyData.str (zs.getD i "")) = zs.map .str := by
    refine List.ext_getElem? fun i => ?_
    rw [List.getElem?_map, List.getElem?_map]
    by_cases hi : i < ds.length
    · rw [List.getElem?_range hi, List.getElem?_eq_getElem (show i < zs.length by omega)]
      simp [List.getD, List.getElem?_eq_getElem (show i < zs.length by omega)]
    · rw [List.getElem?_eq_none (by simp; omega), List.getElem?_eq_none (by omega)]
      rfl
  rw [e4]
  exact k []
def f_is_new_name : FA := fEx fun cs d => ∃ (ds : List D) (zs : List Str) (i : Nat) (z : Str), cs = [.fr (.tuple ds), .fr (.int i)] ∧ ds.map keyD = zs.map some ∧ ds.length ≤ 100000 ∧ zs[i]? = some z ∧ z.length ≤ 10000 ∧ d = .bool (newB zs i z)
theorem isnew_use {ds : List D} {zs : List Str} {i : Nat} {z : Str} {own : Ts} {Q : Hd KC} (h1 : ds.map keyD = zs.map some) (h2 : ds.length ≤ 100000) (h3 : zs[i]? = some z) (h4 : z.length ≤ 10000) (k : Q.v (.fr (.bool (newB zs i z))) own) : @CalB f_is_new_name [.fr (.tuple ds), .fr (.int i)] own Q := ex_at rfl ⟨ds, zs, i, z, rfl, h1, h2, h3, h4, rfl⟩ k
def N_is_new_name : List Str := ["items", "place", "name"]
def w_is_new_name : WS := (wSeq (wAsg (wOp fIx (wOp fIx (wVar 0) (wVar 1)) (wC (.int 0))) (wName 2))
  (wRet (wAndV (wCall 1 f_is_name (wCons (wVar 2) wNil)) (wOp fNotIn (wVar 2) (wCall 1 f_names_of (wCons (wSl fSl (wVar 0) wNoPart (wPart (wVar 1))) wNil))))))
theorem d_is_new_name : ∀ cs own Q, Cl own → cs.length = 2 → f_is_new_name cs own Q → w_is_new_name (enF own.length Q) (startS N_is_new_name cs) own := by
  refine ex_body fun own cs d Q ⟨ds, zs, i, z, e, hk, hl, hz, hzl, e2⟩ k => ?_
  subst e e2
  have hlen : ds.length = zs.length := by simpa using congrArg List.length hk
  have il := lt_of_get hz
  have e1 : (ds.map keyD)[i]? = (zs.map some)[i]? := by rw [hk]
  have hdi := List.getElem?_eq_getElem (show i < ds.length by omega)
  rw [List.getElem?_map, List.getElem?_map, hdi, hz] at e1
  obtain ⟨r, er⟩ := key_of (Option.some.inj e1)
  rw [er] at hdi
  show w_is_new_name _ [some (.fr (.tuple ds)), some (.fr (.int i)), none] _
  unfold w_is_new_name
  unfold newB at k
  walk_at "zy"
  refine opb_of (atI_nat hdi) ?_
  walk_at "zx"
  refine isname_use hzl ?_
  cases e2 : nmB z with
  | false =>
    rw [e2, Bool.false_and] at k
    walk_at "zx"
    exact k []
  | true =>
    rw [e2, Bool.true_and] at k
    walk_at "zx"
    rw [cutD_to]
    refine names_of_use (zs := zs.take i) (by rw [List.map_take, hk, List.map_take]) (by rw [List.length_take]; omega) ?_
    walk_at "zx"
    rw [strsD_ss]
    walk_at "zx"
    exact k []
def f_are_hours : FA := fEx fun cs d => ∃ hs : List Int, cs = [.fr (hoursD hs)] ∧ hs.length ≤ 1000 ∧ d = .bool (hrsB hs)
theorem arehrs_use {hs : List Int} {own : Ts} {Q : Hd KC} (h : hs.length ≤ 1000) (k : Q.v (.fr (.bool (hrsB hs))) own) : @CalB f_are_hours [.fr (hoursD hs)] own Q := ex_at rfl ⟨hs, rfl, h, rfl⟩ k
def N_are_hours : List Str := ["hours", "many"]
def w_are_hours : WS := (wSeq (wIfS (wOr (wNot (wTest (wCall 3 f_is_in (wCons (wCB fLen (wCons (wVar 0) wNil)) (wCons (wC (.int 1)) (wCons (wC (.int 8)) wNil)))))) (wNot (wTest (wCB fAll (wCons (wLc (wiSeq (wVar 0)) (wName 1) wYes (wCall 3 f_is_in (wCons (wVar 1) (wCons (wC (.int 0)) (wCons (wC (.int 6)) wNil)))) [1]) wNil))))) (wRet (wC (.bool false))) wNext)
  (wRet (wOp fGt (wCB fSum (wCons (wVar 0) wNil)) (wC (.int 0)))))
theorem d_are_hours : ∀ cs own Q, Cl own → cs.length = 1 → f_are_hours cs own Q → w_are_hours (enF own.length Q) (startS N_are_hours cs) own := by
  refine ex_body fun own cs d Q ⟨hs, e, hl, e2⟩ k => ?_
  subst e e2
  show w_are_hours _ [some (.fr (hoursD hs)), none] _
  unfold w_are_hours hoursD
  unfold hrsB at k
  walk_at "zy"
  refine isin_use ?_
  cases e2 : inB hs.length 1 8 with
  | false =>
    rw [e2, Bool.false_and, Bool.false_and] at k
    walk_at "zx"
    exact k []
  | true =>
    rw [e2, Bool.true_and] at k
    walk_at "zx"
    refine lc_map hs .int (fun h => .bool (inB h 0 6)) (T0 own []) (by walk_at "zx") (by unfold SZ; omega) (fun i x R S hq h => ?_) ?_
    · walk_at "zx"
      exact isin_use h
    walk_at "zx"
    rw [boolsD_f]
    walk_at "zx"
    rw [all_map]
    cases e3 : hs.all fun h => inB h 0 6 with
    | false =>
      rw [e3, Bool.false_and] at k
      walk_at "zx"
      exact k []
    | true =>
      rw [e3, Bool.true_and] at k
      walk_at "zx"
      rw [intsD_ints]
      walk_at "zx"
      exact k []
def f_is_stop : FA := fEx fun cs d => ∃ s, cs = [.fr (stopD s)] ∧ d = .bool (stopB s)
theorem isstop_use {s : Option (Int × Int)} {own : Ts} {Q : Hd KC} (k : Q.v (.fr (.bool (stopB s))) own) : @CalB f_is_stop [.fr (stopD s)] own Q := ex_at rfl ⟨s, rfl, rfl⟩ k
def N_is_stop : List Str := ["stop"]
def w_is_stop : WS := (wRet (wOrV (wIsN (wVar 0)) (wAndV (wCall 3 f_is_in (wCons (wOp fIx (wVar 0) (wC (.int 0))) (wCons (wC (.int 1)) (wCons (wC (.int 4)) wNil)))) (wCall 3 f_is_in (wCons (wOp fIx (wVar 0) (wC (.int 1))) (wCons (wC (.int 1)) (wCons (wC (.int 12)) wNil)))))))
theorem d_is_stop : ∀ cs own Q, Cl own → cs.length = 1 → f_is_stop cs own Q → w_is_stop (enF own.length Q) (startS N_is_stop cs) own := by
  refine ex_body fun own cs d Q ⟨s, e, e2⟩ k => ?_
  subst e e2
  show w_is_stop _ [some (.fr (stopD s))] _
  unfold w_is_stop
  cases s with
  | none =>
    unfold stopD
    walk_at "zx"
    exact k []
  | some p =>
    have k := k
    rw [show stopB (some p) = (inB p.1 1 4 && inB p.2 1 12) from rfl] at k
    rw [show stopD (some p) = .tuple [.int p.1, .int p.2] from rfl]
    walk_at "zx"
    refine isin_use ?_
    cases e2 : inB p.1 1 4 with
    | false =>
      rw [e2, Bool.false_and] at k
      walk_at "zx"
      exact k []
    | true =>
      rw [e2, Bool.true_and] at k
      walk_at "zx"
      refine isin_use ?_
      exact k []
def f_station_fault : FA := fEx fun cs d => ∃ (h : HouX) (i : Nat) (s : StaX), cs = [.fr (houX h), .fr (.int i)] ∧ HouK h ∧ h.stas[i]? = some s ∧ d = faultD (staF h i)
theorem stafault_use {h : HouX} {i : Nat} {s : StaX} {own : Ts} {Q : Hd KC} (h1 : HouK h) (h2 : h.stas[i]? = some s) (k : Q.v (.fr (faultD (staF h i))) own) : @CalB f_station_fault [.fr (houX h), .fr (.int i)] own Q := ex_at rfl ⟨h, i, s, rfl, h1, h2, rfl⟩ k
def N_station_fault : List Str := ["house", "place", "item"]
def w_station_fault : WS := (wSeq (wAsg (wOp fIx (wOp fIx (wVar 0) (wC (.int 0))) (wVar 1)) (wName 2))
  (wSeq (wIfS (wNot (wTest (wCall 2 f_is_new_name (wCons (wOp fIx (wVar 0) (wC (.int 0))) (wCons (wVar 1) wNil))))) (wRet (wTup (wCons (wC (.str "station name")) (wCons (wTup (wCons (wVar 1) wNil)) wNil)))) wNext)
  (wSeq (wIfS (wNot (wTest (wCall 1 f_are_hours (wCons (wOp fIx (wVar 2) (wC (.int 1))) wNil)))) (wRet (wTup (wCons (wC (.str "hours")) (wCons (wTup (wCons (wVar 1) wNil)) wNil)))) wNext)
  (wSeq (wIfS (wNot (wTest (wCall 1 f_is_stop (wCons (wOp fIx (wVar 2) (wC (.int 2))) wNil)))) (wRet (wTup (wCons (wC (.str "stop")) (wCons (wTup (wCons (wVar 1) wNil)) wNil)))) wNext)
  (wRet (wC .none))))))
theorem d_station_fault : ∀ cs own Q, Cl own → cs.length = 2 → f_station_fault cs own Q → w_station_fault (enF own.length Q) (startS N_station_fault cs) own := by
  refine ex_body fun own cs d Q ⟨h, i, s, e, hk, hs, e2⟩ k => ?_
  subst e e2
  have sk := hk.ss s (List.mem_of_getElem? hs)
  have sl := hk.sl
  show w_station_fault _ [some (.fr (houX h)), some (.fr (.int i)), none] _
  unfold w_station_fault
  rw [houX_eq]
  have k2 : ∀ r, Q (.fr (faultD (if newB (h.stas.map (·.nm)) i s.nm = false then some ("station name", [i]) else if hrsB s.hrs = false then some ("hours", [i]) else if stopB s.stop = false then some ("stop", [i]) else none))) (T0 own r) := fun r => by
    have := k r
    unfold staF at this
    rw [hs] at this
    exact this
  clear k
  walk_at "zy"
  refine opb_map hs ?_
  rw [staX_eq]
  walk_at "zx"
  walk_at "zy"
  refine isnew_use (key_sta h.stas) (by rw [List.length_map]; omega) (by rw [List.getElem?_map, hs]; rfl) sk.nm.1 ?_
  cases e1 : newB (h.stas.map (·.nm)) i s.nm with
  | false =>
    rw [e1, if_pos rfl] at k2
    walk_at "zx"
    exact k2 []
  | true =>
    rw [e1, if_neg (by decide)] at k2
    walk_at "zx"
    walk_at "zy"
    refine arehrs_use sk.hl ?_
    cases e2 : hrsB s.hrs with
    | false =>
      rw [e2, if_pos rfl] at k2
      walk_at "zx"
      exact k2 []
    | true =>
      rw [e2, if_neg (by decide)] at k2
      walk_at "zx"
      walk_at "zy"
      refine isstop_use ?_
      cases e3 : stopB s.stop with
      | false =>
        rw [e3, if_pos rfl] at k2
        walk_at "zx"
        exact k2 []
      | true =>
        rw [e3, if_neg (by decide)] at k2
        walk_at "zx"
        exact k2 []
end Zd.K05

/-! Zk05b: windows, hops, flows. -/
namespace Zd.K05
open PySem L2
local macro_rules | `(tactic| walk_at "zs") => `(tactic| simp only [SZ, seqD, Option.bind_some, Bool.not_true, Bool.not_false, eqv_ii, eqv_ss, eqv_bb, shp_i, shp_s, shp_b, shp_n, eq_self, Int.toNat_natCast, range_len, Itf, itb_t, itb_f, optP, opb_some, Cal, wLc, wLcH, wYes, decide_true, decide_false,  ex_lst, List.length_map, Nat.zero_le, Nat.reduceLeDiff, Nat.reduceAdd, wNext, wBreak, wCont, wAsg, wRet, wRetN, wDrop, wIfS, wAug, wPar, wPar3, wTupRev, wSet, wAugS, fSet, fGet, wVar, wFrz, frzC, wC, wOp, wUn, res_fr, res_sc, res_hd, resO_frz, resO_lst, resO_ins, resO_dk, resO_dr, frs_map, fI, fIC, fAdd, fSub, fMul, fDiv, fMod, fPow, fShl, fShr, fAnd, fNeg, fLt, fLe, fGt, fGe, fEq, fNe, fIn, fNotIn, fIsB, fNotB, fIx,
  wSl, fSl, fSlH, wPart, wNoPart, wNil, wCons, wTup, wLst, wLstH, frs, Option.map_some, wTest, wNot, wAnd, wOr, wChain, wIf, wAndV, wOrV, wNotV, wIsN, wNotN, wCB, fLen, fInt, fAbs, fMax2, fMin2, fSum, fSumH, hdD, fMinL, fMinT, fStrI, fJoin, fMaxL, fAll, fAny, fTupleOf, fListOf, fSortedI, fSortedS, fListOfH, wIsi, gname_eq, gnil_eq, gcons_eq, gtup_eq, wiSeq, itemsOf, wiR1, wiR2, wiZip, wiZip3, wiRev, wipeS,
  wBL, wBS, isLst, isStr, fAppend, fPopAt, fPop, fCountI, fExtend, fExtendT, fIndexS, fInsert, fMulT, fAddH, fAddM, wListRg, wListRgH, wFld, wSFld, wFn, wCallF, wT3, fInSg, fInM, fNotInM, wMake, wMeth, InsAt, wDNew, wDPut, fDIn, fDNotIn, fDGet, wDGet1, wDGet2, dkD, keyC, wCall, tb_h, tb_k, tb_seth, tb_setk, tb_app, tb_len, t0_k, t0_setk, t0_app, t0_len, List.getElem?_cons_zero, List.getElem?_cons_succ, List.getElem?_nil, List.set_cons_zero, List.set_cons_succ, List.cons_append, List.nil_append, List.length_cons, List.length_nil, List.map_cons, List.map_nil, Nat.zero_add, if_true, if_false, Bool.false_eq_true, true_and, and_true,
  atI0, atI1, atI2, atI3, atI4, atI5, setI0, setI1, setI2, setI3, decide_eq_true_eq])
local macro_rules | `(tactic| walk_at "zx") => `(tactic| simp -implicitDefEqProofs only [SZ, seqD, Option.bind_some, Bool.not_true, Bool.not_false, eqv_ii, eqv_ss, eqv_bb, shp_i, shp_s, shp_b, shp_n, eq_self, Int.toNat_natCast, range_len, Itf, itb_t, itb_f, optP, opb_some, Cal, wLc, wLcH, wYes, decide_true, decide_false,  ex_lst, List.length_map, Nat.zero_le, Nat.reduceLeDiff, Nat.reduceAdd, wNext, wBreak, wCont, wAsg, wRet, wRetN, wDrop, wIfS, wAug, wPar, wPar3, wTupRev, wSet, wAugS, fSet, fGet, wVar, wFrz, frzC, wC, wOp, wUn, res_fr, res_sc, res_hd, resO_frz, resO_lst, resO_ins, resO_dk, resO_dr, frs_map, fI, fIC, fAdd, fSub, fMul, fDiv, fMod, fPow, fShl, fShr, fAnd, fNeg, fLt, fLe, fGt, fGe, fEq, fNe, fIn, fNotIn, fIsB, fNotB, fIx,
  wSl, fSl, fSlH, wPart, wNoPart, wNil, wCons, wTup, wLst, wLstH, frs, Option.map_some, wTest, wNot, wAnd, wOr, wChain, wIf, wAndV, wOrV, wNotV, wIsN, wNotN, wCB, fLen, fInt, fAbs, fMax2, fMin2, fSum, fSumH, hdD, fMinL, fMinT, fStrI, fJoin, fMaxL, fAll, fAny, fTupleOf, fListOf, fSortedI, fSortedS, fListOfH, wIsi, gname_eq, gnil_eq, gcons_eq, gtup_eq, wiSeq, itemsOf, wiR1, wiR2, wiZip, wiZip3, wiRev, wipeS,
  wBL, wBS, isLst, isStr, fAppend, fPopAt, fPop, fCountI, fExtend, fExtendT, fIndexS, fInsert, fMulT, fAddH, fAddM, wListRg, wListRgH, wFld, wSFld, wFn, wCallF, wT3, fInSg, fInM, fNotInM, wMake, wMeth, InsAt, wDNew, wDPut, fDIn, fDNotIn, fDGet, wDGet1, wDGet2, dkD, keyC, wCall, tb_h, tb_k, tb_seth, tb_setk, tb_app, tb_len, t0_k, t0_setk, t0_app, t0_len, List.getElem?_cons_zero, List.getElem?_cons_succ, List.getElem?_nil, List.set_cons_zero, List.set_cons_succ, List.cons_append, List.nil_append, List.length_cons, List.length_nil, List.map_cons, List.map_nil, Nat.zero_add, if_true, if_false, Bool.false_eq_true, true_and, and_true,
  atI0, atI1, atI2, atI3, atI4, atI5, setI0, setI1, setI2, setI3, decide_eq_true_eq])
local macro_rules | `(tactic| walk_at "z1") => `(tactic| (refine seq1 ?_; try walk_at "zs"))
local macro_rules | `(tactic| walk_at "zy") => `(tactic| (refine seq1 ?_; try walk_at "zx"))
local macro_rules | `(tactic| walk_at "nw") => `(tactic| refine ⟨by decide +kernel, by decide +kernel, itd' (fun e => absurd e (by decide +kernel)) (fun _ => ?_)⟩)
local macro_rules | `(tactic| walk_at "iw") => `(tactic| refine ⟨by decide +kernel, by decide +kernel, ?_⟩)
local macro_rules | `(tactic| walk_at "ni") => `(tactic| (simp only [strsD, Option.map_some]; walk_at "zs"; refine itd' (fun e => absurd e (by decide +kernel)) (fun _ => ?_)))
local macro_rules | `(tactic| walk_at "yi") => `(tactic| (simp only [strsD, Option.map_some]; walk_at "zs"; refine itd' (fun _ => ?_) (fun e => absurd (by decide +kernel) e)))
def f_are_windows : FA := fEx fun cs d => ∃ ws, cs = [.fr (winsD ws)] ∧ ws.length ≤ 1000 ∧ d = .bool (winsB ws)
theorem arewins_use {ws : List (Int × Int)} {own : Ts} {Q : Hd KC} (h : ws.length ≤ 1000) (k : Q.v (.fr (.bool (winsB ws))) own) : @CalB f_are_windows [.fr (winsD ws)] own Q := ex_at rfl ⟨ws, rfl, h, rfl⟩ k
def N_are_windows : List Str := ["windows", "most", "span"]
def w_are_windows : WS := (wSeq (wIfS (wNot (wTest (wCall 3 f_is_in (wCons (wCB fLen (wCons (wVar 0) wNil)) (wCons (wC (.int 1)) (wCons (wC (.int 3)) wNil)))))) (wRet (wC (.bool false))) wNext)
  (wRet (wCB fAll (wCons (wLc (wiSeq (wVar 0)) (wGTup 2 (wGCons (wName 1) (wGCons (wName 2) wGNil))) wYes (wAndV (wCall 3 f_is_in (wCons (wVar 1) (wCons (wC (.int 1)) (wCons (wC (.int 9)) wNil)))) (wCall 3 f_is_in (wCons (wVar 2) (wCons (wC (.int 1)) (wCons (wC (.int 12)) wNil))))) [1, 2]) wNil))))
theorem d_are_windows : ∀ cs own Q, Cl own → cs.length = 1 → f_are_windows cs own Q → w_are_windows (enF own.length Q) (startS N_are_windows cs) own := by
  refine ex_body fun own cs d Q ⟨ws, e, hl, e2⟩ k => ?_
  subst e e2
  show w_are_windows _ [some (.fr (winsD ws)), none, none] _
  unfold w_are_windows
  rw [winsD_eq]
  unfold winsB at k
  walk_at "zy"
  refine isin_use ?_
  cases e2 : inB ws.length 1 3 with
  | false =>
    rw [e2, Bool.false_and] at k
    walk_at "zx"
    exact k []
  | true =>
    rw [e2, Bool.true_and] at k
    walk_at "zx"
    refine lc_map ws ipD (fun w => .bool (inB w.1 1 9 && inB w.2 1 12)) (T0 own []) (by walk_at "zx") (by unfold SZ; omega) (fun i w R S hq h => ?_) ?_
    · rw [ipD_eq]
      walk_at "zx"
      refine isin_use ?_
      cases e3 : inB w.1 1 9 with
      | false =>
        rw [e3, Bool.false_and] at h
        walk_at "zx"
        exact h
      | true =>
        rw [e3, Bool.true_and] at h
        walk_at "zx"
        exact isin_use h
    walk_at "zx"
    rw [boolsD_f]
    walk_at "zx"
    rw [all_map]
    exact k []
/-! ### hops -/
def newStB (h : HouX) (f : FlowT) (j : Nat) (z : Str) : Bool := decide (z ∈ h.stas.map (·.nm)) && !decide (z ∈ (f.hops.map (·.st)).take j)
def linkB (lo hi : Int) : Bool := decide (1 ≤ lo) && (decide (lo ≤ hi) && decide (hi ≤ 6))
def GTX : List Str := ["free", "hold", "shape"]
def hopP (h : HouX) (f : FlowT) (j : Nat) (p : HopT) : Option Str :=
  if newStB h f j p.st = false then some "station" else if inB p.beh (-1) (j - 1) = false then some "behind" else if linkB p.lo p.hi = false then some "link" else if inB p.due 1 20 = false then some "due" else if decide (p.gate ∈ GTX) = false then some "gate" else none
def hopF (h : HouX) (f : FlowT) (j : Nat) : Option Str := match f.hops[j]? with
  | none => none
  | some p => hopP h f j p
def oStr : Option Str → D
  | none => .none
  | some z => .str z
def f_is_new_station : FA := fEx fun cs d => ∃ (h : HouX) (f : FlowT) (j : Nat) (p : HopT), cs = [.fr (houX h), .fr (flD f), .fr (.int j)] ∧ HouK h ∧ FlowK f ∧ f.hops[j]? = some p ∧ d = .bool (newStB h f j p.st)
theorem newst_use {h : HouX} {f : FlowT} {j : Nat} {p : HopT} {own : Ts} {Q : Hd KC} (h1 : HouK h) (h2 : FlowK f) (h3 : f.hops[j]? = some p) (k : Q.v (.fr (.bool (newStB h f j p.st))) own) : @CalB f_is_new_station [.fr (houX h), .fr (flD f), .fr (.int j)] own Q := ex_at rfl ⟨h, f, j, p, rfl, h1, h2, h3, rfl⟩ k
def N_is_new_station : List Str := ["house", "flow", "hop", "name"]
def w_is_new_station : WS := (wSeq (wAsg (wOp fIx (wOp fIx (wOp fIx (wVar 1) (wC (.int 2))) (wVar 2)) (wC (.int 0))) (wName 3))
  (wRet (wAndV (wOp fIn (wVar 3) (wCall 1 f_names_of (wCons (wOp fIx (wVar 0) (wC (.int 0))) wNil))) (wOp fNotIn (wVar 3) (wCall 1 f_names_of (wCons (wSl fSl (wOp fIx (wVar 1) (wC (.int 2))) wNoPart (wPart (wVar 2))) wNil))))))
theorem d_is_new_station : ∀ cs own Q, Cl own → cs.length = 3 → f_is_new_station cs own Q → w_is_new_station (enF own.length Q) (startS N_is_new_station cs) own := by
  refine ex_body fun own cs d Q ⟨h, f, j, p, e, hk, fk, hp, e2⟩ k => ?_
  subst e e2
  have sl := hk.sl
  have hl := fk.hl
  show w_is_new_station _ [some (.fr (houX h)), some (.fr (flD f)), some (.fr (.int j)), none] _
  unfold w_is_new_station
  rw [houX_eq, flD_eq]
  unfold newStB at k
  walk_at "zy"
  refine opb_map hp ?_
  rw [hopD_eq]
  walk_at "zx"
  refine names_of_use (key_sta h.stas) (by rw [List.length_map]; omega) ?_
  walk_at "zx"
  rw [strsD_ss]
  walk_at "zx"
  cases e2 : decide (p.st ∈ h.stas.map (·.nm)) with
  | false =>
    rw [e2, Bool.false_and] at k
    walk_at "zx"
    exact k []
  | true =>
    rw [e2, Bool.true_and] at k
    walk_at "zx"
    rw [cutD_to]
    refine names_of_use (zs := (f.hops.map (·.st)).take j) (by rw [List.map_take, key_hop, List.map_take]) (by rw [List.length_take, List.length_map]; omega) ?_
    walk_at "zx"
    rw [strsD_ss]
    walk_at "zx"
    exact k []
def f_is_behind : FA := fEx fun cs d => ∃ (f : FlowT) (j : Nat) (p : HopT), cs = [.fr (flD f), .fr (.int j)] ∧ f.hops[j]? = some p ∧ d = .bool (inB p.beh (-1) (j - 1))
theorem isbeh_use {f : FlowT} {j : Nat} {p : HopT} {own : Ts} {Q : Hd KC} (h3 : f.hops[j]? = some p) (k : Q.v (.fr (.bool (inB p.beh (-1) (j - 1)))) own) : @CalB f_is_behind [.fr (flD f), .fr (.int j)] own Q := ex_at rfl ⟨f, j, p, rfl, h3, rfl⟩ k
def N_is_behind : List Str := ["flow", "hop", "behind"]
def w_is_behind : WS := (wSeq (wAsg (wOp fIx (wOp fIx (wOp fIx (wVar 0) (wC (.int 2))) (wVar 1)) (wC (.int 1))) (wName 2))
  (wRet (wCall 3 f_is_in (wCons (wVar 2) (wCons (wUn fNeg (wC (.int 1))) (wCons (wOp fSub (wVar 1) (wC (.int 1))) wNil))))))
theorem d_is_behind : ∀ cs own Q, Cl own → cs.length = 2 → f_is_behind cs own Q → w_is_behind (enF own.length Q) (startS N_is_behind cs) own := by
  refine ex_body fun own cs d Q ⟨f, j, p, e, hp, e2⟩ k => ?_
  subst e e2
  show w_is_behind _ [some (.fr (flD f)), some (.fr (.int j)), none] _
  unfold w_is_behind
  rw [flD_eq]
  walk_at "zy"
  refine opb_map hp ?_
  rw [hopD_eq]
  walk_at "zx"
  refine isin_use ?_
  exact k []
def k_GATES : D := (.tuple [(.str "free"), (.str "hold"), (.str "shape")])
def f_hop_fault : FA := fEx fun cs d => ∃ (h : HouX) (f : FlowT) (j : Nat) (p : HopT), cs = [.fr (houX h), .fr (flD f), .fr (.int j)] ∧ HouK h ∧ FlowK f ∧ f.hops[j]? = some p ∧ d = oStr (hopP h f j p)
theorem hopfault_use {h : HouX} {f : FlowT} {j : Nat} {p : HopT} {own : Ts} {Q : Hd KC} (h1 : HouK h) (h2 : FlowK f) (h3 : f.hops[j]? = some p) (k : Q.v (.fr (oStr (hopP h f j p))) own) : @CalB f_hop_fault [.fr (houX h), .fr (flD f), .fr (.int j)] own Q := ex_at rfl ⟨h, f, j, p, rfl, h1, h2, h3, rfl⟩ k
theorem gates_eq : k_GATES = .tuple (GTX.map .str) := rfl
def N_hop_fault : List Str := ["house", "flow", "hop", "station", "behind", "least", "greatest", "due", "gate"]
def w_hop_fault : WS := (wSeq (wAsg (wOp fIx (wOp fIx (wVar 1) (wC (.int 2))) (wVar 2)) (wGTup 6 (wGCons (wName 3) (wGCons (wName 4) (wGCons (wName 5) (wGCons (wName 6) (wGCons (wName 7) (wGCons (wName 8) wGNil))))))))
  (wSeq (wIfS (wNot (wTest (wCall 3 f_is_new_station (wCons (wVar 0) (wCons (wVar 1) (wCons (wVar 2) wNil)))))) (wRet (wC (.str "station"))) wNext)
  (wSeq (wIfS (wNot (wTest (wCall 2 f_is_behind (wCons (wVar 1) (wCons (wVar 2) wNil))))) (wRet (wC (.str "behind"))) wNext)
  (wSeq (wIfS (wNot (wT3 fLe fLe fLe (wC (.int 1)) (wVar 5) (wVar 6) (wC (.int 6)))) (wRet (wC (.str "link"))) wNext)
  (wSeq (wIfS (wNot (wTest (wCall 3 f_is_in (wCons (wVar 7) (wCons (wC (.int 1)) (wCons (wC (.int 20)) wNil)))))) (wRet (wC (.str "due"))) wNext)
  (wSeq (wIfS (wTest (wOp fNotIn (wVar 8) (wC k_GATES))) (wRet (wC (.str "gate"))) wNext)
  (wRet (wC .none))))))))
theorem d_hop_fault : ∀ cs own Q, Cl own → cs.length = 3 → f_hop_fault cs own Q → w_hop_fault (enF own.length Q) (startS N_hop_fault cs) own := by
  refine ex_body fun own cs d Q ⟨h, f, j, p, e, hk, fk, hp, e2⟩ k => ?_
  subst e e2
  show w_hop_fault _ [some (.fr (houX h)), some (.fr (flD f)), some (.fr (.int j)), none, none, none, none, none, none] _
  unfold w_hop_fault
  unfold hopP at k
  refine seq1 ?_
  rw [flD_eq]
  walk_at "zs"
  refine opb_map hp ?_
  rw [hopD_eq]
  walk_at "zs"
  rw [← flD_eq]
  walk_at "zy"
  refine newst_use hk fk hp ?_
  cases e1 : newStB h f j p.st with
  | false =>
    rw [e1, if_pos rfl] at k
    walk_at "zx"
    exact k []
  | true =>
  rw [e1, if_neg (by decide)] at k
  walk_at "zx"
  walk_at "zy"
  refine isbeh_use hp ?_
  cases e2 : inB p.beh (-1) (j - 1) with
  | false =>
    rw [e2, if_pos rfl] at k
    walk_at "zx"
    exact k []
  | true =>
  rw [e2, if_neg (by decide)] at k
  walk_at "zx"
  refine seq_cut (fun ss o => linkB p.lo p.hi = true ∧ o = T0 own [] ∧ ss = [some (.fr (houX h)), some (.fr (flD f)), some (.fr (.int j)), some (.fr (.str p.st)), some (.fr (.int p.beh)), some (.fr (.int p.lo)), some (.fr (.int p.hi)), some (.fr (.int p.due)), some (.fr (.str p.gate))]) ?_ ?_
  · have bad : linkB p.lo p.hi = false → Q (.fr (.str "link")) (T0 own []) := fun e3 => by
      rw [e3, if_pos rfl] at k
      exact k []
    walk_at "zx"
    refine itd' (fun a1 => ?_) (fun a1 => ?_)
    · walk_at "zx"
      refine itd' (fun a2 => ?_) (fun a2 => ?_)
      · walk_at "zx"
        cases a3 : decide (p.hi ≤ 6) with
        | true =>
          walk_at "zx"
          unfold linkB
          rw [decide_eq_true a1, decide_eq_true a2, a3]
          rfl
        | false =>
          walk_at "zx"
          refine bad ?_
          unfold linkB
          rw [a3, Bool.and_false, Bool.and_false]
      · walk_at "zx"
        refine bad ?_
        unfold linkB
        rw [decide_eq_false a2, Bool.false_and, Bool.and_false]
    · walk_at "zx"
      refine bad ?_
      unfold linkB
      rw [decide_eq_false a1, Bool.false_and]
  rintro ss o ⟨e3, rfl, rfl⟩
  rw [e3, if_neg (by decide)] at k
  walk_at "zy"
  refine isin_use ?_
  cases e4 : inB p.due 1 20 with
  | false =>
    rw [e4, if_pos rfl] at k
    walk_at "zx"
    exact k []
  | true =>
  rw [e4, if_neg (by decide)] at k
  walk_at "zx"
  walk_at "zy"
  rw [gates_eq]
  walk_at "zx"
  rw [strsD_ss]
  walk_at "zx"
  cases e5 : decide (p.gate ∈ GTX) with
  | false =>
    rw [e5, if_pos rfl] at k
    walk_at "zx"
    exact k []
  | true =>
    rw [e5, if_neg (by decide)] at k
    walk_at "zx"
    exact k []
/-! ### flows -/
def hopsF (h : HouX) (f : FlowT) (k : Nat) : Nat → Option FT
  | 0 => none
  | n + 1 => match hopsF h f k n with
    | some x => some x
    | none => (hopF h f n).map fun w => (w, [k, n])
def flowF (h : HouX) (k : Nat) : Option FT := match h.flows[k]? with
  | none => none
  | some f => if newB (h.flows.map (·.nm)) k f.nm = false then some ("flow name", [k]) else if winsB f.wins = false then some ("windows", [k]) else if inB f.hops.length 1 8 = false then some ("hops", [k]) else hopsF h f k f.hops.length
theorem hopsF_some {h : HouX} {f : FlowT} {k : Nat} {x : FT} : ∀ {n m : Nat}, hopsF h f k n = some x → n ≤ m → hopsF h f k m = some x
  | n, m, e, hl => by
    induction m with
    | zero =>
      have : n = 0 := by omega
      subst this
      exact e
    | succ m ih =>
      by_cases hn : n = m + 1
      · rw [hn] at e
        exact e
      · show (match hopsF h f k m with | some x => some x | none => _) = _
        rw [ih (by omega)]
def f_flow_fault : FA := fEx fun cs d => ∃ (h : HouX) (k : Nat) (f : FlowT), cs = [.fr (houX h), .fr (.int k)] ∧ HouK h ∧ h.flows[k]? = some f ∧ d = faultD (flowF h k)
theorem flowfault_use {h : HouX} {k : Nat} {f : FlowT} {own : Ts} {Q : Hd KC} (h1 : HouK h) (h2 : h.flows[k]? = some f) (kk : Q.v (.fr (faultD (flowF h k))) own) : @CalB f_flow_fault [.fr (houX h), .fr (.int k)] own Q := ex_at rfl ⟨h, k, f, rfl, h1, h2, rfl⟩ kk
def N_flow_fault : List Str := ["house", "place", "flow", "hop", "fault"]
def w_flow_fault : WS := (wSeq (wAsg (wOp fIx (wOp fIx (wVar 0) (wC (.int 1))) (wVar 1)) (wName 2))
  (wSeq (wIfS (wNot (wTest (wCall 2 f_is_new_name (wCons (wOp fIx (wVar 0) (wC (.int 1))) (wCons (wVar 1) wNil))))) (wRet (wTup (wCons (wC (.str "flow name")) (wCons (wTup (wCons (wVar 1) wNil)) wNil)))) wNext)
  (wSeq (wIfS (wNot (wTest (wCall 1 f_are_windows (wCons (wOp fIx (wVar 2) (wC (.int 1))) wNil)))) (wRet (wTup (wCons (wC (.str "windows")) (wCons (wTup (wCons (wVar 1) wNil)) wNil)))) wNext)
  (wSeq (wIfS (wNot (wTest (wCall 3 f_is_in (wCons (wCB fLen (wCons (wOp fIx (wVar 2) (wC (.int 2))) wNil)) (wCons (wC (.int 1)) (wCons (wC (.int 8)) wNil)))))) (wRet (wTup (wCons (wC (.str "hops")) (wCons (wTup (wCons (wVar 1) wNil)) wNil)))) wNext)
  (wSeq (wFor (wiR1 (wCons (wCB fLen (wCons (wOp fIx (wVar 2) (wC (.int 2))) wNil)) wNil)) (wName 3) (wSeq (wAsg (wCall 3 f_hop_fault (wCons (wVar 0) (wCons (wVar 2) (wCons (wVar 3) wNil)))) (wName 4))
  (wIfS (wTest (wNotN (wVar 4))) (wRet (wTup (wCons (wVar 4) (wCons (wTup (wCons (wVar 1) (wCons (wVar 3) wNil))) wNil)))) wNext)))
  (wRet (wC .none)))))))
theorem d_flow_fault : ∀ cs own Q, Cl own → cs.length = 2 → f_flow_fault cs own Q → w_flow_fault (enF own.length Q) (startS N_flow_fault cs) own := by
  refine ex_body fun own cs d Q ⟨h, i, f, e, hk, hf, e2⟩ k => ?_
  subst e e2
  have fk := hk.fs f (List.mem_of_getElem? hf)
  have fl := hk.fl
  have hl := fk.hl
  have k2 : ∀ r, Q (.fr (faultD (if newB (h.flows.map (·.nm)) i f.nm = false then some ("flow name", [i]) else if winsB f.wins = false then some ("windows", [i]) else if inB f.hops.length 1 8 = false then some ("hops", [i]) else hopsF h f i f.hops.length))) (T0 own r) := fun r => by
    have := k r
    unfold flowF at this
    rw [hf] at this
    exact this
  clear k
  show w_flow_fault _ [some (.fr (houX h)), some (.fr (.int i)), none, none, none] _
  unfold w_flow_fault
  refine seq1 ?_
  rw [houX_eq, flsD_eq]
  walk_at "zs"
  refine opb_map hf ?_
  rw [flD_eq]
  walk_at "zx"
  walk_at "zy"
  refine isnew_use (key_fl h.flows) (by rw [List.length_map]; omega) (by rw [List.getElem?_map, hf]; rfl) fk.nm.1 ?_
  cases e1 : newB (h.flows.map (·.nm)) i f.nm with
  | false =>
    rw [e1, if_pos rfl] at k2
    walk_at "zx"
    exact k2 []
  | true =>
  rw [e1, if_neg (by decide)] at k2
  walk_at "zx"
  walk_at "zy"
  refine arewins_use fk.wl ?_
  cases e2 : winsB f.wins with
  | false =>
    rw [e2, if_pos rfl] at k2
    walk_at "zx"
    exact k2 []
  | true =>
  rw [e2, if_neg (by decide)] at k2
  walk_at "zx"
  walk_at "zy"
  refine isin_use ?_
  cases e3 : inB f.hops.length 1 8 with
  | false =>
    rw [e3, if_pos rfl] at k2
    walk_at "zx"
    exact k2 []
  | true =>
  rw [e3, if_neg (by decide)] at k2
  walk_at "zx"
  rw [← flsD_eq, ← houX_eq, ← flD_eq]
  refine seq1 ?_
  refine for_inv (rangeD 0 f.hops.length) (T0 own []) (fun n ss o => ∃ z3 z4, hopsF h f i n = none ∧ o = T0 own [] ∧ ss = [some (.fr (houX h)), some (.fr (.int i)), some (.fr (flD f)), z3, z4]) ?_ ?_ ?_ ?_
  · rw [flD_eq]
    walk_at "zx"
    exact ⟨by omega, by omega⟩
  · exact ⟨none, none, rfl, rfl, rfl⟩
  · rintro n d ss o hi ⟨z3, z4, hn, rfl, rfl⟩
    obtain ⟨hnl, rfl⟩ := range_get0 hi
    have hp := List.getElem?_eq_getElem hnl
    have es : hopsF h f i (n + 1) = (hopP h f n f.hops[n]).map fun w => (w, [i, n]) := by
      show (match hopsF h f i n with | some x => some x | none => (hopF h f n).map fun w => (w, [i, n])) = _
      rw [hn]
      unfold hopF
      rw [hp]
    walk_at "zx"
    walk_at "zy"
    refine hopfault_use hk fk hp ?_
    cases eo : hopP h f n f.hops[n] with
    | none =>
      rw [eo] at es
      unfold oStr
      walk_at "zx"
      exact ⟨_, _, es, rfl⟩
    | some w =>
      rw [eo] at es
      unfold oStr
      walk_at "zx"
      rw [hopsF_some es (by omega)] at k2
      exact k2 []
  · rintro ss o ⟨z3, z4, hn, rfl, rfl⟩
    rw [range_len] at hn
    rw [hn] at k2
    walk_at "zx"
    exact k2 []
end Zd.K05

/-! Zk05c: rules, the first fault. -/
namespace Zd.K05
open PySem L2
local macro_rules | `(tactic| walk_at "zs") => `(tactic| simp only [SZ, seqD, Option.bind_some, Bool.not_true, Bool.not_false, eqv_ii, eqv_ss, eqv_bb, shp_i, shp_s, shp_b, shp_n, eq_self, Int.toNat_natCast, range_len, Itf, itb_t, itb_f, optP, opb_some, Cal, wLc, wLcH, wYes, decide_true, decide_false,  ex_lst, List.length_map, Nat.zero_le, Nat.reduceLeDiff, Nat.reduceAdd, wNext, wBreak, wCont, wAsg, wRet, wRetN, wDrop, wIfS, wAug, wPar, wPar3, wTupRev, wSet, wAugS, fSet, fGet, wVar, wFrz, frzC, wC, wOp, wUn, res_fr, res_sc, res_hd, resO_frz, resO_lst, resO_ins, resO_dk, resO_dr, frs_map, fI, fIC, fAdd, fSub, fMul, fDiv, fMod, fPow, fShl, fShr, fAnd, fNeg, fLt, fLe, fGt, fGe, fEq, fNe, fIn, fNotIn, fIsB, fNotB, fIx,
  wSl, fSl, fSlH, wPart, wNoPart, wNil, wCons, wTup, wLst, wLstH, frs, Option.map_some, wTest, wNot, wAnd, wOr, wChain, wIf, wAndV, wOrV, wNotV, wIsN, wNotN, wCB, fLen, fInt, fAbs, fMax2, fMin2, fSum, fSumH, hdD, fMinL, fMinT, fStrI, fJoin, fMaxL, fAll, fAny, fTupleOf, fListOf, fSortedI, fSortedS, fListOfH, wIsi, gname_eq, gnil_eq, gcons_eq, gtup_eq, wiSeq, itemsOf, wiR1, wiR2, wiZip, wiZip3, wiRev, wipeS,
  wBL, wBS, isLst, isStr, fAppend, fPopAt, fPop, fCountI, fExtend, fExtendT, fIndexS, fInsert, fMulT, fAddH, fAddM, wListRg, wListRgH, wFld, wSFld, wFn, wCallF, wT3, fInSg, fInM, fNotInM, wMake, wMeth, InsAt, wDNew, wDPut, fDIn, fDNotIn, fDGet, wDGet1, wDGet2, dkD, keyC, wCall, tb_h, tb_k, tb_seth, tb_setk, tb_app, tb_len, t0_k, t0_setk, t0_app, t0_len, List.getElem?_cons_zero, List.getElem?_cons_succ, List.getElem?_nil, List.set_cons_zero, List.set_cons_succ, List.cons_append, List.nil_append, List.length_cons, List.length_nil, List.map_cons, List.map_nil, Nat.zero_add, if_true, if_false, Bool.false_eq_true, true_and, and_true,
  atI0, atI1, atI2, atI3, atI4, atI5, setI0, setI1, setI2, setI3, decide_eq_true_eq])
local macro_rules | `(tactic| walk_at "zx") => `(tactic| simp -implicitDefEqProofs only [SZ, seqD, Option.bind_some, Bool.not_true, Bool.not_false, eqv_ii, eqv_ss, eqv_bb, shp_i, shp_s, shp_b, shp_n, eq_self, Int.toNat_natCast, range_len, Itf, itb_t, itb_f, optP, opb_some, Cal, wLc, wLcH, wYes, decide_true, decide_false,  ex_lst, List.length_map, Nat.zero_le, Nat.reduceLeDiff, Nat.reduceAdd, wNext, wBreak, wCont, wAsg, wRet, wRetN, wDrop, wIfS, wAug, wPar, wPar3, wTupRev, wSet, wAugS, fSet, fGet, wVar, wFrz, frzC, wC, wOp, wUn, res_fr, res_sc, res_hd, resO_frz, resO_lst, resO_ins, resO_dk, resO_dr, frs_map, fI, fIC, fAdd, fSub, fMul, fDiv, fMod, fPow, fShl, fShr, fAnd, fNeg, fLt, fLe, fGt, fGe, fEq, fNe, fIn, fNotIn, fIsB, fNotB, fIx,
  wSl, fSl, fSlH, wPart, wNoPart, wNil, wCons, wTup, wLst, wLstH, frs, Option.map_some, wTest, wNot, wAnd, wOr, wChain, wIf, wAndV, wOrV, wNotV, wIsN, wNotN, wCB, fLen, fInt, fAbs, fMax2, fMin2, fSum, fSumH, hdD, fMinL, fMinT, fStrI, fJoin, fMaxL, fAll, fAny, fTupleOf, fListOf, fSortedI, fSortedS, fListOfH, wIsi, gname_eq, gnil_eq, gcons_eq, gtup_eq, wiSeq, itemsOf, wiR1, wiR2, wiZip, wiZip3, wiRev, wipeS,
  wBL, wBS, isLst, isStr, fAppend, fPopAt, fPop, fCountI, fExtend, fExtendT, fIndexS, fInsert, fMulT, fAddH, fAddM, wListRg, wListRgH, wFld, wSFld, wFn, wCallF, wT3, fInSg, fInM, fNotInM, wMake, wMeth, InsAt, wDNew, wDPut, fDIn, fDNotIn, fDGet, wDGet1, wDGet2, dkD, keyC, wCall, tb_h, tb_k, tb_seth, tb_setk, tb_app, tb_len, t0_k, t0_setk, t0_app, t0_len, List.getElem?_cons_zero, List.getElem?_cons_succ, List.getElem?_nil, List.set_cons_zero, List.set_cons_succ, List.cons_append, List.nil_append, List.length_cons, List.length_nil, List.map_cons, List.map_nil, Nat.zero_add, if_true, if_false, Bool.false_eq_true, true_and, and_true,
  atI0, atI1, atI2, atI3, atI4, atI5, setI0, setI1, setI2, setI3, decide_eq_true_eq])
local macro_rules | `(tactic| walk_at "z1") => `(tactic| (refine seq1 ?_; try walk_at "zs"))
local macro_rules | `(tactic| walk_at "zy") => `(tactic| (refine seq1 ?_; try walk_at "zx"))
local macro_rules | `(tactic| walk_at "nw") => `(tactic| refine ⟨by decide +kernel, by decide +kernel, itd' (fun e => absurd e (by decide +kernel)) (fun _ => ?_)⟩)
local macro_rules | `(tactic| walk_at "iw") => `(tactic| refine ⟨by decide +kernel, by decide +kernel, ?_⟩)
local macro_rules | `(tactic| walk_at "ni") => `(tactic| (simp only [strsD, Option.map_some]; walk_at "zs"; refine itd' (fun e => absurd e (by decide +kernel)) (fun _ => ?_)))
local macro_rules | `(tactic| walk_at "yi") => `(tactic| (simp only [strsD, Option.map_some]; walk_at "zs"; refine itd' (fun _ => ?_) (fun e => absurd (by decide +kernel) e)))
theorem eqvAll_strs : ∀ xs ys : List Str, PyData.eqvAll (xs.map .str) (ys.map .str) = decide (xs = ys)
  | [], [] => by unfold PyData.eqvAll; simp
  | [], _ :: _ => by unfold PyData.eqvAll; simp
  | _ :: _, [] => by unfold PyData.eqvAll; simp
  | x :: xs, y :: ys => by
    rw [List.map_cons, List.map_cons]
    unfold PyData.eqvAll
    rw [eqvAll_strs xs ys, eqv_ss]
    by_cases h1 : x = y <;> by_cases h2 : xs = ys <;> simp [h1, h2]
theorem eqv_sL (xs ys : List Str) : PyData.eqv (.list (xs.map .str)) (.list (ys.map .str)) = decide (xs = ys) := by
  unfold PyData.eqv
  exact eqvAll_strs xs ys
theorem lay_strs : ∀ xs : List Str, (∀ x ∈ xs, PyData.strOk x = true) → PyData.canLayAll0 (xs.map .str) = true ∧ PyData.depthAll (xs.map .str) = 0
  | [], _ => by unfold PyData.canLayAll0 PyData.depthAll; exact ⟨rfl, rfl⟩
  | x :: xs, h => by
    obtain ⟨h1, h2⟩ := lay_strs xs fun y hy => h y (List.mem_cons_of_mem _ hy)
    rw [List.map_cons]
    unfold PyData.canLayAll0 PyData.depthAll
    rw [h1, h2]
    unfold PyData.canLay0 PyData.depth
    rw [h x List.mem_cons_self]
    exact ⟨rfl, rfl⟩
theorem shp_sL {xs : List Str} (h : ∀ x ∈ xs, PyData.strOk x = true) : SeqAt.shaped (.list (xs.map .str)) = true := by
  obtain ⟨h1, h2⟩ := lay_strs xs h
  unfold SeqAt.shaped PyData.canLay0 PyData.depth
  rw [h1, h2]
  rfl
/-- texts that can be sorted -/
def SrtK (zs : List Str) : Prop := zs.length < 64 ∧ ∀ z ∈ zs, PyData.strOk z = true
theorem srtk_perm {xs ys : List Str} (h : SrtK xs) (p : ys.Perm xs) : ∀ z ∈ ys, PyData.strOk z = true := fun z hz => h.2 z (p.mem_iff.mp hz)
theorem srt_dec {as bs xs ys : List Str} (h1 : as.Perm xs) (h2 : bs.Perm ys) (s1 : PyProof.Rows.sortedS as = true) (s2 : PyProof.Rows.sortedS bs = true) : decide (as = bs) = xs.isPerm ys := by
  by_cases e : as = bs
  · subst e
    rw [decide_eq_true rfl]
    exact (List.isPerm_iff.mpr (h1.symm.trans h2)).symm
  · rw [decide_eq_false e]
    refine (Bool.eq_false_iff.mpr fun p => e ?_).symm
    exact srt_eq (h1.trans ((List.isPerm_iff.mp p).trans h2.symm)) s1 s2
def f_are_all : FA := fEx fun cs d => ∃ (c : C) (told ns : List Str), cs = [c, .fr (strsT ns)] ∧ (c = .fr (strsT told) ∨ c = .fr (.list (told.map .str))) ∧ SrtK told ∧ SrtK ns ∧ d = .bool (told.isPerm ns)
theorem areall_useT {told ns : List Str} {own : Ts} {Q : Hd KC} (h1 : SrtK told) (h2 : SrtK ns) (k : Q.v (.fr (.bool (told.isPerm ns))) own) : @CalB f_are_all [.fr (strsT told), .fr (strsT ns)] own Q := ex_at rfl ⟨_, told, ns, rfl, .inl rfl, h1, h2, rfl⟩ k
theorem areall_useL {told ns : List Str} {own : Ts} {Q : Hd KC} (h1 : SrtK told) (h2 : SrtK ns) (k : Q.v (.fr (.bool (told.isPerm ns))) own) : @CalB f_are_all [.fr (.list (told.map .str)), .fr (strsT ns)] own Q := ex_at rfl ⟨_, told, ns, rfl, .inr rfl, h1, h2, rfl⟩ k
theorem strsT_eq (zs : List Str) : strsT zs = .tuple (zs.map .str) := rfl
def N_are_all : List Str := ["told", "names"]
def w_are_all : WS := (wRet (wOp fEq (wCB fSortedS (wCons (wVar 0) wNil)) (wCB fSortedS (wCons (wVar 1) wNil))))
theorem d_are_all : ∀ cs own Q, Cl own → cs.length = 2 → f_are_all cs own Q → w_are_all (enF own.length Q) (startS N_are_all cs) own := by
  refine ex_body fun own cs d Q ⟨c, told, ns, e, hc, h1, h2, e2⟩ k => ?_
  subst e e2
  show w_are_all _ [some c, some (.fr (strsT ns))] _
  unfold w_are_all
  rw [strsT_eq]
  rcases hc with rfl | rfl
  · rw [strsT_eq]
    walk_at "zx"
    rw [strsD_ss]
    walk_at "zx"
    refine ⟨h1.1, fun as p1 s1 => ?_⟩
    rw [strsD_ss]
    walk_at "zx"
    refine ⟨h2.1, fun bs p2 s2 => ?_⟩
    rw [eqv_sL, srt_dec p1 p2 s1 s2]
    exact ⟨shp_sL (srtk_perm h1 p1), shp_sL (srtk_perm h2 p2), k []⟩
  · walk_at "zx"
    rw [strsD_ss]
    walk_at "zx"
    refine ⟨h1.1, fun as p1 s1 => ?_⟩
    rw [strsD_ss]
    walk_at "zx"
    refine ⟨h2.1, fun bs p2 s2 => ?_⟩
    rw [eqv_sL, srt_dec p1 p2 s1 s2]
    exact ⟨shp_sL (srtk_perm h1 p1), shp_sL (srtk_perm h2 p2), k []⟩
/-- sizes of slots -/
def SltK (cs : List (List Str)) : Prop := cs.length ≤ 1000 ∧ ∀ c ∈ cs, c.length ≤ 1000
def slB (cs : List (List Str)) (hs : List Int) (ns : List Str) : Bool :=
  decide (cs.length = hs.length) && (((hs.zip cs).all fun p => decide ((p.2.length : Int) = p.1)) && ((cs.flatten.all fun z => decide (z ∈ ns)) && ns.all fun z => decide (z ∈ cs.flatten)))
def f_are_slots : FA := fEx fun s d => ∃ (cs : List (List Str)) (hs : List Int) (ns : List Str), s = [.fr (.tuple (cs.map strsT)), .fr (hoursD hs), .fr (strsT ns)] ∧ SltK cs ∧ ns.length ≤ 1000 ∧ d = .bool (slB cs hs ns)
theorem areslots_use {cs : List (List Str)} {hs : List Int} {ns : List Str} {own : Ts} {Q : Hd KC} (h1 : SltK cs) (h2 : ns.length ≤ 1000) (k : Q.v (.fr (.bool (slB cs hs ns))) own) : @CalB f_are_slots [.fr (.tuple (cs.map strsT)), .fr (hoursD hs), .fr (strsT ns)] own Q := ex_at rfl ⟨cs, hs, ns, rfl, h1, h2, rfl⟩ k
theorem flat_len : ∀ {ps : List (Int × List Str)}, (∀ p ∈ ps, p.2.length ≤ 1000) → (ps.flatMap (·.2)).length ≤ ps.length * 1000
  | [], _ => Nat.zero_le _
  | p :: ps, h => by
    have h1 := h p List.mem_cons_self
    have h2 := flat_len (ps := ps) fun q hq => h q (List.mem_cons_of_mem _ hq)
    rw [List.flatMap_cons, List.length_append, List.length_cons, Nat.succ_mul]
    omega
theorem zip_flat {hs : List Int} {cs : List (List Str)} (h : cs.length = hs.length) : (hs.zip cs).flatMap (·.2) = cs.flatten := by
  rw [List.flatMap_def, List.map_snd_zip (by omega)]
def N_are_slots : List Str := ["slots", "hours", "names", "taken", "many", "row", "name"]
def w_are_slots : WS := (wSeq (wIfS (wTest (wOp fNe (wCB fLen (wCons (wVar 0) wNil)) (wCB fLen (wCons (wVar 1) wNil)))) (wRet (wC (.bool false))) wNext)
  (wSeq (wAsg (wLstH wNil) (wName 3))
  (wSeq (wFor (wiZip (wCons (wVar 1) (wCons (wVar 0) wNil))) (wGTup 2 (wGCons (wName 4) (wGCons (wName 5) wGNil))) (wSeq (wIfS (wTest (wOp fNe (wCB fLen (wCons (wVar 5) wNil)) (wVar 4))) (wRet (wC (.bool false))) wNext)
  (wDrop (wBL fExtendT (wVar 3) (wCons (wVar 5) wNil)))))
  (wRet (wAndV (wCB fAll (wCons (wLc (wiSeq (wFrz (wVar 3))) (wName 6) wYes (wOp fIn (wVar 6) (wVar 2)) [6]) wNil)) (wCB fAll (wCons (wLc (wiSeq (wVar 2)) (wName 6) wYes (wOp fIn (wVar 6) (wFrz (wVar 3))) [6]) wNil)))))))
theorem d_are_slots : ∀ cs own Q, Cl own → cs.length = 3 → f_are_slots cs own Q → w_are_slots (enF own.length Q) (startS N_are_slots cs) own := by
  refine ex_body fun own s d Q ⟨cs, hs, ns, e, hk, hn, e2⟩ k => ?_
  subst e e2
  obtain ⟨k1, k2⟩ := hk
  unfold slB at k
  show w_are_slots _ [some (.fr (.tuple (cs.map strsT))), some (.fr (hoursD hs)), some (.fr (strsT ns)), none, none, none, none] _
  unfold w_are_slots
  rw [strsT_eq, hoursD_eq]
  walk_at "zy"
  cases e1 : decide (cs.length = hs.length) with
  | false =>
    have n1 := of_decide_eq_false e1
    rw [e1, Bool.false_and] at k
    refine itb (fun _ => ?_) (fun e => absurd (show (cs.length : Int) = hs.length by simpa using e) (by omega))
    walk_at "zx"
    exact k []
  | true =>
  have n1 := of_decide_eq_true e1
  rw [e1, Bool.true_and] at k
  refine itb (fun e => absurd (show ¬ (cs.length : Int) = hs.length by simpa using e) (by omega)) (fun _ => ?_)
  walk_at "zx"
  walk_at "zy"
  refine seq1 ?_
  refine for_inv ((hs.zip cs).map fun p => .tuple [.int p.1, strsT p.2]) (T0 own [.lst []]) (fun i ss o => ∃ z4 z5 : Option C, (∀ p ∈ (hs.zip cs).take i, decide ((p.2.length : Int) = p.1) = true) ∧ o = T0 own [.lst (((((hs.zip cs).take i).flatMap (·.2)).map PyData.str).map C.fr)] ∧ ss = [some (.fr (.tuple (cs.map strsT))), some (.fr (.tuple (hs.map .int))), some (.fr (.tuple (ns.map .str))), some (.hd (h0 own 0)), z4, z5, none]) ?_ ?_ ?_ ?_
  · walk_at "zx"
    rw [List.zip_map]
    simp [Function.comp_def]
  · exact ⟨none, none, (fun p hp => by cases hp), rfl, rfl⟩
  · rintro i d ss o hi ⟨z4, z5, hg, rfl, rfl⟩
    obtain ⟨p, hp, rfl⟩ := get_map hi
    have il := lt_of_get hp
    have pm := List.mem_of_getElem? hp
    have pl := k2 _ (List.of_mem_zip pm).2
    have zl : (hs.zip cs).length ≤ 1000 := by rw [List.length_zip]; omega
    have fl := flat_len (ps := (hs.zip cs).take i) fun q hq => k2 _ (List.of_mem_zip (List.mem_of_mem_take hq)).2
    have tl : ((hs.zip cs).take i).length ≤ i := by rw [List.length_take]; omega
    have fl2 : (((hs.zip cs).take i).flatMap (·.2)).length ≤ 1000000 := by omega
    rw [take_get hp, List.flatMap_append, List.flatMap_singleton]
    have hg2 : decide ((p.2.length : Int) = p.1) = true → ∀ q ∈ (hs.zip cs).take i ++ [p], decide ((q.2.length : Int) = q.1) = true := fun e q hq => by
      rcases List.mem_append.mp hq with hq | hq
      · exact hg q hq
      · rw [List.mem_singleton.mp hq]; exact e
    generalize ((hs.zip cs).take i).flatMap (·.2) = G at *
    rw [strsT_eq]
    walk_at "zx"
    walk_at "zy"
    cases e3 : decide ((p.2.length : Int) = p.1) with
    | false =>
      walk_at "zx"
      have : ((hs.zip cs).all fun p => decide ((p.2.length : Int) = p.1)) = false := Bool.eq_false_iff.mpr fun e => by
        have := List.all_eq_true.mp e p pm
        rw [e3] at this
        cases this
      rw [this, Bool.false_and] at k
      exact k _
    | true =>
    walk_at "zx"
    refine ⟨by omega, _, _, (fun q hq => of_decide_eq_true (hg2 e3 q hq)), ?_, rfl⟩
    simp
  · rintro ss o ⟨z4, z5, hg, rfl, rfl⟩
    rw [List.length_map, List.take_length] at hg ⊢
    rw [zip_flat n1]
    rw [show ((hs.zip cs).all fun p => decide ((p.2.length : Int) = p.1)) = true from List.all_eq_true.mpr hg, Bool.true_and] at k
    have fl := flat_len (ps := hs.zip cs) fun q hq => k2 _ (List.of_mem_zip hq).2
    rw [zip_flat n1, List.length_zip] at fl
    walk_at "zx"
    refine lc_map cs.flatten .str (fun z => .bool (decide (z ∈ ns))) (T0 own [.frz (.list (cs.flatten.map .str))]) ?_ (by unfold SZ; omega) (fun i z R S hq hR => ?_) ?_
    · walk_at "zx"
    · walk_at "zx"
      rw [strsD_ss]
      walk_at "zx"
      exact hR
    walk_at "zx"
    rw [boolsD_f]
    walk_at "zx"
    rw [all_map]
    cases e4 : cs.flatten.all fun z => decide (z ∈ ns) with
    | false =>
      rw [e4, Bool.false_and] at k
      walk_at "zx"
      exact k _
    | true =>
    rw [e4, Bool.true_and] at k
    walk_at "zx"
    refine lc_map ns .str (fun z => .bool (decide (z ∈ cs.flatten))) (T0 own [.frz (.list (cs.flatten.map .str))]) (by walk_at "zx") (by unfold SZ; omega) (fun i z R S hq hR => ?_) ?_
    · walk_at "zx"
      rw [strsD_ss]
      walk_at "zx"
      exact hR
    walk_at "zx"
    rw [boolsD_f]
    walk_at "zx"
    rw [all_map]
    exact k _
/-! ### rules -/
def DCX : List Str := ["due", "come"]
def ruleB : RuleX → List Int → List Str → Bool
  | .bare w, _, _ => decide (w ∈ DCX)
  | .ranks told, _, ns => told.isPerm ns
  | .turns ts, _, ns => (ts.all fun t => inB t.2 1 4) && (ts.map (·.1)).isPerm ns
  | .slots cs, hs, ns => slB cs hs ns
def RuleFit : RuleX → Prop
  | .bare w => PyData.strOk w = true
  | .ranks ns => SrtK ns
  | .turns ts => SrtK (ts.map (·.1))
  | .slots cs => SltK cs
def f_is_rule : FA := fEx fun cs d => ∃ (r : RuleX) (hs : List Int) (ns : List Str), cs = [.fr (ruleX r), .fr (hoursD hs), .fr (strsT ns)] ∧ RuleFit r ∧ SrtK ns ∧ d = .bool (ruleB r hs ns)
theorem isrule_use {r : RuleX} {hs : List Int} {ns : List Str} {own : Ts} {Q : Hd KC} (h : RuleFit r) (h2 : SrtK ns) (k : Q.v (.fr (.bool (ruleB r hs ns))) own) : @CalB f_is_rule [.fr (ruleX r), .fr (hoursD hs), .fr (strsT ns)] own Q := ex_at rfl ⟨r, hs, ns, rfl, h, h2, rfl⟩ k
theorem siD_eq (t : Str × Int) : siD t = .tuple [.str t.1, .int t.2] := rfl
theorem nin1 : ¬ ("ranks" : Str) ∈ DCX := by decide +kernel
theorem nin2 : ¬ ("turns" : Str) ∈ DCX := by decide +kernel
theorem nin3 : ¬ ("slots" : Str) ∈ DCX := by decide +kernel
theorem nok1 : PyData.strOk ("ranks" : Str) = true := by decide +kernel
theorem nok2 : PyData.strOk ("turns" : Str) = true := by decide +kernel
theorem nok3 : PyData.strOk ("slots" : Str) = true := by decide +kernel
theorem ne21 : ¬ ("turns" : Str) = "ranks" := by decide +kernel
theorem ne31 : ¬ ("slots" : Str) = "ranks" := by decide +kernel
theorem ne32 : ¬ ("slots" : Str) = "turns" := by decide +kernel
def N_is_rule : List Str := ["rule", "hours", "names", "are_credits", "name", "credit"]
def w_is_rule : WS := (wSeq (wIfS (wTest (wOp fIn (wOp fIx (wVar 0) (wC (.int 0))) (wTup (wCons (wC (.str "due")) (wCons (wC (.str "come")) wNil))))) (wRet (wOp fEq (wCB fLen (wCons (wVar 0) wNil)) (wC (.int 1)))) wNext)
  (wSeq (wIfS (wTest (wOp fNe (wCB fLen (wCons (wVar 0) wNil)) (wC (.int 2)))) (wRet (wC (.bool false))) wNext)
  (wSeq (wIfS (wTest (wOp fEq (wOp fIx (wVar 0) (wC (.int 0))) (wC (.str "ranks")))) (wRet (wCall 2 f_are_all (wCons (wOp fIx (wVar 0) (wC (.int 1))) (wCons (wVar 2) wNil)))) wNext)
  (wSeq (wIfS (wTest (wOp fEq (wOp fIx (wVar 0) (wC (.int 0))) (wC (.str "turns")))) (wSeq (wAsg (wCB fAll (wCons (wLc (wiSeq (wOp fIx (wVar 0) (wC (.int 1)))) (wGTup 2 (wGCons (wName 4) (wGCons (wName 5) wGNil))) wYes (wCall 3 f_is_in (wCons (wVar 5) (wCons (wC (.int 1)) (wCons (wC (.int 4)) wNil)))) [4, 5]) wNil)) (wName 3))
  (wRet (wAndV (wVar 3) (wCall 2 f_are_all (wCons (wLc (wiSeq (wOp fIx (wVar 0) (wC (.int 1)))) (wGTup 2 (wGCons (wName 4) (wGCons (wName 5) wGNil))) wYes (wVar 4) [4, 5]) (wCons (wVar 2) wNil)))))) wNext)
  (wRet (wAndV (wOp fEq (wOp fIx (wVar 0) (wC (.int 0))) (wC (.str "slots"))) (wCall 3 f_are_slots (wCons (wOp fIx (wVar 0) (wC (.int 1))) (wCons (wVar 1) (wCons (wVar 2) wNil))))))))))
theorem d_is_rule : ∀ cs own Q, Cl own → cs.length = 3 → f_is_rule cs own Q → w_is_rule (enF own.length Q) (startS N_is_rule cs) own := by
  refine ex_body fun own cs d Q ⟨r, hs, ns, e, hr, hn, e2⟩ k => ?_
  subst e e2
  cases r with
  | bare w =>
    rw [show ruleB (.bare w) hs ns = decide (w ∈ DCX) from rfl] at k
    show w_is_rule _ [some (.fr (ruleX (.bare w))), some (.fr (hoursD hs)), some (.fr (strsT ns)), none, none, none] _
    unfold w_is_rule
    rw [show ruleX (.bare w) = .tuple [.str w] from rfl]
    walk_at "zy"
    refine opb_of (x := DCX) rfl ?_
    walk_at "zx"
    cases e : decide (w ∈ DCX) with
    | true =>
      rw [e] at k
      walk_at "zx"
      exact k []
    | false =>
      rw [e] at k
      walk_at "zx"
      walk_at "zy"
      exact k []
  | ranks told =>
    show w_is_rule _ [some (.fr (ruleX (.ranks told))), some (.fr (hoursD hs)), some (.fr (strsT ns)), none, none, none] _
    unfold w_is_rule
    rw [show ruleX (.ranks told) = .tuple [.str "ranks", strsT told] from rfl]
    walk_at "zy"
    refine opb_of (x := DCX) rfl ?_
    walk_at "zx"
    refine itd' (fun e => absurd e nin1) (fun _ => ?_)
    walk_at "zx"
    walk_at "zy"
    refine itb (fun e => absurd e (by decide)) (fun _ => ?_)
    walk_at "zx"
    walk_at "zy"
    exact ⟨nok1, nok1, areall_useT hr hn (k [])⟩
  | turns ts =>
    show w_is_rule _ [some (.fr (ruleX (.turns ts))), some (.fr (hoursD hs)), some (.fr (strsT ns)), none, none, none] _
    unfold w_is_rule
    rw [show ruleX (.turns ts) = .tuple [.str "turns", .tuple (ts.map siD)] from rfl]
    walk_at "zy"
    refine opb_of (x := DCX) rfl ?_
    walk_at "zx"
    refine itd' (fun e => absurd e nin2) (fun _ => ?_)
    walk_at "zx"
    walk_at "zy"
    refine itb (fun e => absurd e (by decide)) (fun _ => ?_)
    walk_at "zx"
    walk_at "zy"
    refine ⟨nok2, nok1, itd' (fun e => absurd e ne21) (fun _ => ?_)⟩
    rw [show ruleB (.turns ts) hs ns = ((ts.all fun t => inB t.2 1 4) && (ts.map (·.1)).isPerm ns) from rfl] at k
    have tl : ts.length < 64 := by have := hr.1; rwa [List.length_map] at this
    walk_at "zx"
    walk_at "zy"
    refine ⟨nok2, nok2, ?_⟩
    walk_at "zy"
    refine lc_map ts siD (fun t => .bool (inB t.2 1 4)) (T0 own []) (by walk_at "zx") (by unfold SZ; omega) (fun i t R S hq hR => ?_) ?_
    · rw [siD_eq]
      walk_at "zx"
      exact isin_use hR
    walk_at "zx"
    rw [boolsD_f]
    walk_at "zx"
    rw [all_map]
    cases e : ts.all fun t => inB t.2 1 4 with
    | false =>
      rw [e, Bool.false_and] at k
      walk_at "zx"
      exact k []
    | true =>
    rw [e, Bool.true_and] at k
    walk_at "zx"
    refine lc_map ts siD (fun t => .str t.1) (T0 own []) (by walk_at "zx") (by unfold SZ; omega) (fun i t R S hq hR => ?_) ?_
    · rw [siD_eq]
      walk_at "zx"
      exact hR
    walk_at "zx"
    rw [show ts.map (fun t => PyData.str t.1) = (ts.map (·.1)).map .str by rw [List.map_map]; rfl]
    exact areall_useL hr hn (k [])
  | slots cs =>
    show w_is_rule _ [some (.fr (ruleX (.slots cs))), some (.fr (hoursD hs)), some (.fr (strsT ns)), none, none, none] _
    unfold w_is_rule
    rw [show ruleX (.slots cs) = .tuple [.str "slots", .tuple (cs.map strsT)] from rfl]
    walk_at "zy"
    refine opb_of (x := DCX) rfl ?_
    walk_at "zx"
    refine itd' (fun e => absurd e nin3) (fun _ => ?_)
    walk_at "zx"
    walk_at "zy"
    refine itb (fun e => absurd e (by decide)) (fun _ => ?_)
    walk_at "zx"
    walk_at "zy"
    refine ⟨nok3, nok1, itd' (fun e => absurd e ne31) (fun _ => ?_)⟩
    walk_at "zx"
    walk_at "zy"
    refine ⟨nok3, nok2, itd' (fun e => absurd e ne32) (fun _ => ?_)⟩
    walk_at "zx"
    refine ⟨nok3, nok3, ?_⟩
    have hn1 := hn.1
    exact areslots_use hr (by omega) (k [])
def ruleF (h : HouX) (i : Nat) : Option FT := match h.stas[i]? with
  | none => none
  | some s => if ruleB s.rule s.hrs (pnF h.flows s.nm) = true then none else some ("rule", [i])
theorem fls_ok {h : HouX} (hk : HouK h) : FlsOk h.flows := ⟨fun f hf => by
  have g := hk.fs f hf
  exact ⟨g.nm.2, fun p hp => ⟨(g.hs p hp).1.2, (g.hs p hp).2⟩, g.hl⟩, hk.fl⟩
def f_rule_fault : FA := fEx fun cs d => ∃ (h : HouX) (i : Nat) (s : StaX), cs = [.fr (houX h), .fr (.int i)] ∧ HouK h ∧ Once h.flows ∧ h.stas[i]? = some s ∧ RuleFit s.rule ∧ SrtK (pnF h.flows s.nm) ∧ d = faultD (ruleF h i)
theorem rulefault_use {h : HouX} {i : Nat} {s : StaX} {own : Ts} {Q : Hd KC} (h1 : HouK h) (h2 : Once h.flows) (h3 : h.stas[i]? = some s) (h4 : RuleFit s.rule) (h5 : SrtK (pnF h.flows s.nm)) (k : Q.v (.fr (faultD (ruleF h i))) own) : @CalB f_rule_fault [.fr (houX h), .fr (.int i)] own Q := ex_at rfl ⟨h, i, s, rfl, h1, h2, h3, h4, h5, rfl⟩ k
def N_rule_fault : List Str := ["house", "place", "item", "names", "flow", "hop"]
def w_rule_fault : WS := (wSeq (wAsg (wOp fIx (wOp fIx (wVar 0) (wC (.int 0))) (wVar 1)) (wName 2))
  (wSeq (wAsg (wCB fTupleOf (wCons (wLc (wiSeq (wCall 2 f_flow_passers (wCons (wVar 0) (wCons (wOp fIx (wVar 2) (wC (.int 0))) wNil)))) (wGTup 2 (wGCons (wName 4) (wGCons (wName 5) wGNil))) wYes (wOp fIx (wOp fIx (wOp fIx (wVar 0) (wC (.int 1))) (wVar 4)) (wC (.int 0))) [4, 5]) wNil)) (wName 3))
  (wSeq (wIfS (wTest (wCall 3 f_is_rule (wCons (wOp fIx (wVar 2) (wC (.int 3))) (wCons (wOp fIx (wVar 2) (wC (.int 1))) (wCons (wVar 3) wNil))))) (wRet (wC .none)) wNext)
  (wRet (wTup (wCons (wC (.str "rule")) (wCons (wTup (wCons (wVar 1) wNil)) wNil)))))))
theorem d_rule_fault : ∀ cs own Q, Cl own → cs.length = 2 → f_rule_fault cs own Q → w_rule_fault (enF own.length Q) (startS N_rule_fault cs) own := by
  refine ex_body fun own cs d Q ⟨h, i, s, e, hk, ho, hs, hr, hsk, e2⟩ k => ?_
  subst e e2
  have sk := hk.ss s (List.mem_of_getElem? hs)
  have fo := fls_ok hk
  have pl := passF_len (st := s.nm) fo
  have k2 : ∀ r, Q (.fr (faultD (if ruleB s.rule s.hrs (pnF h.flows s.nm) = true then none else some ("rule", [i])))) (T0 own r) := fun r => by
    have := k r
    unfold ruleF at this
    rw [hs] at this
    exact this
  clear k
  show w_rule_fault _ [some (.fr (houX h)), some (.fr (.int i)), none, none, none, none] _
  unfold w_rule_fault
  refine seq1 ?_
  rw [houX_eq]
  walk_at "zs"
  refine opb_map hs ?_
  rw [staX_eq]
  walk_at "zx"
  walk_at "zy"
  refine lc_map (passF h.flows s.nm) npD (fun p => .str ((h.flows[p.1]?.map (·.nm)).getD default)) (T0 own []) ?_ (by unfold SZ; omega) (fun j p R S hq hR => ?_) ?_
  · walk_at "zx"
    refine fpassers_use fo ho sk.nm.2 ?_
    walk_at "zx"
  · have hl := passF_lt (List.mem_of_getElem? hq)
    have hf := List.getElem?_eq_getElem hl
    rw [hf] at hR
    unfold npD
    rw [flsD_eq]
    walk_at "zx"
    refine opb_map hf ?_
    rw [flD_eq]
    walk_at "zx"
    exact hR
  walk_at "zx"
  have e : (passF h.flows s.nm).map (fun p => PyData.str ((h.flows[p.1]?.map (·.nm)).getD default)) = (pnF h.flows s.nm).map .str := by
    unfold pnF
    rw [List.map_map]
    rfl
  rw [e, show PyData.tuple ((pnF h.flows s.nm).map .str) = strsT (pnF h.flows s.nm) from rfl]
  walk_at "zy"
  refine isrule_use hr hsk ?_
  cases e1 : ruleB s.rule s.hrs (pnF h.flows s.nm) with
  | true =>
    rw [e1, if_pos rfl] at k2
    walk_at "zx"
    exact k2 []
  | false =>
    rw [e1, if_neg (by decide)] at k2
    walk_at "zx"
    exact k2 []
def manyF (h : HouX) : Option FT := if inB h.stas.length 1 6 = false then some ("stations", []) else if inB h.flows.length 1 6 = false then some ("flows", []) else none
def f_many_fault : FA := fEx fun cs d => ∃ h, cs = [.fr (houX h)] ∧ d = faultD (manyF h)
theorem many_use {h : HouX} {own : Ts} {Q : Hd KC} (k : Q.v (.fr (faultD (manyF h))) own) : @CalB f_many_fault [.fr (houX h)] own Q := ex_at rfl ⟨h, rfl, rfl⟩ k
def N_many_fault : List Str := ["house"]
def w_many_fault : WS := (wSeq (wIfS (wNot (wTest (wChain fLe fLe (wC (.int 1)) (wCB fLen (wCons (wOp fIx (wVar 0) (wC (.int 0))) wNil)) (wC (.int 6))))) (wRet (wTup (wCons (wC (.str "stations")) (wCons (wTup wNil) wNil)))) wNext)
  (wSeq (wIfS (wNot (wTest (wChain fLe fLe (wC (.int 1)) (wCB fLen (wCons (wOp fIx (wVar 0) (wC (.int 1))) wNil)) (wC (.int 6))))) (wRet (wTup (wCons (wC (.str "flows")) (wCons (wTup wNil) wNil)))) wNext)
  (wRet (wC .none))))
theorem d_many_fault : ∀ cs own Q, Cl own → cs.length = 1 → f_many_fault cs own Q → w_many_fault (enF own.length Q) (startS N_many_fault cs) own := by
  refine ex_body fun own cs d Q ⟨h, e, e2⟩ k => ?_
  subst e e2
  unfold manyF at k
  show w_many_fault _ [some (.fr (houX h))] _
  unfold w_many_fault
  rw [houX_eq, flsD_eq]
  walk_at "zy"
  have fin1 : inB h.stas.length 1 6 = false → Q (.fr (.tuple [.str "stations", .tuple []])) (T0 own []) := fun e => by
    rw [e, if_pos rfl] at k
    exact k []
  have fin2 : inB h.stas.length 1 6 = true → inB h.flows.length 1 6 = false → Q (.fr (.tuple [.str "flows", .tuple []])) (T0 own []) := fun e e2 => by
    rw [e, if_neg (by decide), e2, if_pos rfl] at k
    exact k []
  have fin3 : inB h.stas.length 1 6 = true → inB h.flows.length 1 6 = true → Q (.fr .none) (T0 own []) := fun e e2 => by
    rw [e, if_neg (by decide), e2, if_neg (by decide)] at k
    exact k []
  clear k
  unfold inB at fin1 fin2 fin3
  cases a1 : decide ((1 : Int) ≤ h.stas.length) with
  | false =>
    walk_at "zx"
    exact fin1 (by rw [a1]; rfl)
  | true =>
  walk_at "zx"
  cases a2 : decide ((h.stas.length : Int) ≤ 6) with
  | false =>
    walk_at "zx"
    exact fin1 (by rw [a1, a2]; rfl)
  | true =>
  walk_at "zx"
  walk_at "zy"
  cases a3 : decide ((1 : Int) ≤ h.flows.length) with
  | false =>
    walk_at "zx"
    exact fin2 (by rw [a1, a2]; rfl) (by rw [a3]; rfl)
  | true =>
  walk_at "zx"
  cases a4 : decide ((h.flows.length : Int) ≤ 6) with
  | false =>
    walk_at "zx"
    exact fin2 (by rw [a1, a2]; rfl) (by rw [a3, a4]; rfl)
  | true =>
  walk_at "zx"
  exact fin3 (by rw [a1, a2]; rfl) (by rw [a3, a4]; rfl)
/-! ### the first of all -/
def orR (f : Nat → Option FT) (o : Option FT) : Nat → Option FT
  | 0 => o
  | n + 1 => match orR f o n with
    | some x => some x
    | none => f n
def firstF (h : HouX) : Option FT := orR (ruleF h) (orR (flowF h) (orR (staF h) (manyF h) h.stas.length) h.flows.length) h.stas.length
theorem orR_none {f : Nat → Option FT} {o : Option FT} : ∀ {n : Nat}, orR f o n = none → o = none ∧ ∀ i, i < n → f i = none
  | 0, h => ⟨h, fun i hi => absurd hi (Nat.not_lt_zero _)⟩
  | n + 1, h => by
    have e : (match orR f o n with | some x => some x | none => f n) = none := h
    cases e1 : orR f o n with
    | some x => rw [e1] at e; cases e
    | none =>
      rw [e1] at e
      obtain ⟨h1, h2⟩ := orR_none e1
      refine ⟨h1, fun i hi => ?_⟩
      by_cases hin : i = n
      · rw [hin]; exact e
      · exact h2 i (by omega)
theorem hopsF_none {h : HouX} {f : FlowT} {k : Nat} : ∀ {n : Nat}, hopsF h f k n = none → ∀ j, j < n → hopF h f j = none
  | 0, _, j, hj => absurd hj (Nat.not_lt_zero _)
  | n + 1, e, j, hj => by
    have e : (match hopsF h f k n with | some x => some x | none => (hopF h f n).map fun w => (w, [k, n])) = none := e
    cases e1 : hopsF h f k n with
    | some x => rw [e1] at e; cases e
    | none =>
      rw [e1] at e
      by_cases hjn : j = n
      · rw [hjn]
        cases e2 : hopF h f n with
        | none => rfl
        | some w => rw [e2] at e; cases e
      · exact hopsF_none e1 j (by omega)
theorem nodup_of {α : Type} [DecidableEq α] : ∀ {xs : List α}, (∀ (j : Nat) x, xs[j]? = some x → x ∉ xs.take j) → xs.Nodup := by
  intro xs h
  refine List.pairwise_iff_getElem.mpr fun i j hi hj hij e => ?_
  refine h j xs[j] (List.getElem?_eq_getElem hj) ?_
  rw [← e]
  exact List.mem_iff_getElem.mpr ⟨i, by rw [List.length_take]; omega, by rw [List.getElem_take]⟩
theorem flow_clean {h : HouX} {k : Nat} {f : FlowT} (hf : h.flows[k]? = some f) (e : flowF h k = none) : newB (h.flows.map (·.nm)) k f.nm = true ∧ winsB f.wins = true ∧ inB f.hops.length 1 8 = true ∧ ∀ (j : Nat) p, f.hops[j]? = some p → hopP h f j p = none := by
  unfold flowF at e
  rw [hf] at e
  dsimp only at e
  cases e1 : newB (h.flows.map (·.nm)) k f.nm with
  | false => rw [e1, if_pos rfl] at e; cases e
  | true =>
  rw [e1, if_neg (by decide)] at e
  cases e2 : winsB f.wins with
  | false => rw [e2, if_pos rfl] at e; cases e
  | true =>
  rw [e2, if_neg (by decide)] at e
  cases e3 : inB f.hops.length 1 8 with
  | false => rw [e3, if_pos rfl] at e; cases e
  | true =>
  rw [e3, if_neg (by decide)] at e
  refine ⟨rfl, rfl, rfl, fun j p hp => ?_⟩
  have := hopsF_none e j (lt_of_get hp)
  unfold hopF at this
  rw [hp] at this
  exact this
theorem hop_new {h : HouX} {f : FlowT} {j : Nat} {p : HopT} (e : hopP h f j p = none) : newStB h f j p.st = true := by
  unfold hopP at e
  cases e1 : newStB h f j p.st with
  | false => rw [e1, if_pos rfl] at e; cases e
  | true => rfl
theorem once_of {h : HouX} (e : ∀ k, k < h.flows.length → flowF h k = none) : Once h.flows := fun f hf => by
  obtain ⟨k, hk⟩ := List.mem_iff_getElem?.mp hf
  obtain ⟨_, _, _, g⟩ := flow_clean hk (e k (lt_of_get hk))
  refine nodup_of fun j x hx => ?_
  obtain ⟨p, hp, rfl⟩ := get_map hx
  have := hop_new (g j p hp)
  unfold newStB at this
  simp only [Bool.and_eq_true, Bool.not_eq_true', decide_eq_false_iff_not] at this
  exact this.2
theorem res_fn {own : Ts} {x : Str} : res own (.fn x) = .fn x := rfl
theorem tab_hd {x : Str} {f : FA} {r : List (Str × FA)} : tabF ((x, f) :: r) x = some f := by
  unfold tabF
  rw [if_pos rfl]
theorem tab_tl {x y : Str} {f : FA} {r : List (Str × FA)} (h : y ≠ x) : tabF ((y, f) :: r) x = tabF r x := by
  show (if y = x then some f else tabF r x) = _
  rw [if_neg h]
theorem inB_le {i lo hi : Int} (h : inB i lo hi = true) : lo ≤ i ∧ i ≤ hi := by
  unfold inB at h
  simpa using h
theorem many_fl {h : HouX} (e : manyF h = none) : h.flows.length ≤ 6 := by
  unfold manyF at e
  split at e
  · cases e
  · split at e
    · cases e
    · rename_i n
      have := inB_le (Bool.not_eq_false _ ▸ n : inB h.flows.length 1 6 = true)
      omega
theorem passR_len8 {fs : List FlowT} {st : Str} (ok : ∀ f ∈ fs, (f.hops.length : Int) ≤ 8) : ∀ n, n ≤ fs.length → (passR fs st n).length ≤ n * 8
  | 0, _ => by simp [passR]
  | n + 1, h => by
    have hf : n < fs.length := by omega
    rw [passR_succ (List.getElem?_eq_getElem hf), List.length_append, List.length_map]
    have h1 := passR_len8 (st := st) ok n (by omega)
    have h2 := hopsOf_len fs[n] st fs[n].hops.length
    have h3 := ok _ (List.getElem_mem hf)
    omega
theorem pn_srt {h : HouX} (hk : HouK h) (h6 : h.flows.length ≤ 6) (h8 : ∀ f ∈ h.flows, (f.hops.length : Int) ≤ 8) {st : Str} : SrtK (pnF h.flows st) := by
  refine ⟨?_, fun z hz => ?_⟩
  · have := passR_len8 (st := st) h8 h.flows.length (Nat.le_refl _)
    unfold pnF passF
    rw [List.length_map]
    omega
  · obtain ⟨p, hp, rfl⟩ := List.mem_map.mp hz
    have hl := passF_lt hp
    rw [List.getElem?_eq_getElem hl]
    exact (hk.fs _ (List.getElem_mem hl)).nm.2
def f_first_fault : FA := fEx fun cs d => ∃ h, cs = [.fr (houX h)] ∧ HouK h ∧ (∀ s ∈ h.stas, RuleFit s.rule) ∧ d = faultD (firstF h)
theorem first_use {h : HouX} {own : Ts} {Q : Hd KC} (h1 : HouK h) (h2 : ∀ s ∈ h.stas, RuleFit s.rule) (k : Q.v (.fr (faultD (firstF h))) own) : @CalB f_first_fault [.fr (houX h)] own Q := ex_at rfl ⟨h, rfl, h1, h2, rfl⟩ k
def stgF (h : HouX) : Nat → Option FT
  | 0 => manyF h
  | 1 => orR (staF h) (manyF h) h.stas.length
  | 2 => orR (flowF h) (orR (staF h) (manyF h) h.stas.length) h.flows.length
  | _ => firstF h
def N_first_fault : List Str := ["house", "found", "looks", "number", "items", "place"]
def w_first_fault : WS := (wSeq (wAsg (wCall 1 f_many_fault (wCons (wVar 0) wNil)) (wName 1))
  (wSeq (wAsg (wLstH (wCons (wFn "station_fault") (wCons (wFn "flow_fault") (wCons (wFn "rule_fault") wNil)))) (wName 2))
  (wSeq (wFor (wiR1 (wCons (wCB fLen (wCons (wVar 2) wNil)) wNil)) (wName 3) (wSeq (wAsg (wIf (wTest (wOp fEq (wVar 3) (wC (.int 1)))) (wOp fIx (wVar 0) (wC (.int 1))) (wOp fIx (wVar 0) (wC (.int 0)))) (wName 4))
  (wFor (wiR1 (wCons (wCB fLen (wCons (wVar 4) wNil)) wNil)) (wName 5) (wIfS (wTest (wIsN (wVar 1))) (wAsg (wCallF 2 [("station_fault", f_station_fault), ("flow_fault", f_flow_fault), ("rule_fault", f_rule_fault)] (wOp fIx (wVar 2) (wVar 3)) (wCons (wVar 0) (wCons (wVar 5) wNil))) (wName 1)) wNext))))
  (wRet (wVar 1)))))
theorem d_first_fault : ∀ cs own Q, Cl own → cs.length = 1 → f_first_fault cs own Q → w_first_fault (enF own.length Q) (startS N_first_fault cs) own := by
  refine ex_body fun own cs d Q ⟨h, e, hk, hr, e2⟩ k => ?_
  subst e e2
  have sl := hk.sl
  have fl := hk.fl
  have n12 : ("station_fault" : Str) ≠ "flow_fault" := by decide +kernel
  have n13 : ("station_fault" : Str) ≠ "rule_fault" := by decide +kernel
  have n23 : ("flow_fault" : Str) ≠ "rule_fault" := by decide +kernel
  show w_first_fault _ [some (.fr (houX h)), none, none, none, none, none] _
  unfold w_first_fault
  walk_at "zy"
  refine many_use ?_
  walk_at "zx"
  walk_at "zy"
  refine seq1 ?_
  refine for_inv (rangeD 0 3) (T0 own [.lst [.fn "station_fault", .fn "flow_fault", .fn "rule_fault"]]) (fun n ss o => ∃ z3 z4 z5, o = T0 own [.lst [.fn "station_fault", .fn "flow_fault", .fn "rule_fault"]] ∧ ss = [some (.fr (houX h)), some (.fr (faultD (stgF h n))), some (.hd (h0 own 0)), z3, z4, z5]) ?_ ?_ ?_ ?_
  · walk_at "zx"
    exact ⟨by decide, by decide⟩
  · exact ⟨none, none, none, rfl, rfl⟩
  · rintro n d ss o hi ⟨z3, z4, z5, rfl, rfl⟩
    obtain ⟨hnl, rfl⟩ := range_get0 hi
    walk_at "zx"
    have hn3 : n = 0 ∨ n = 1 ∨ n = 2 := by omega
    rcases hn3 with rfl | rfl | rfl
    · rw [houX_eq, flsD_eq]
      walk_at "zy"
      refine itd' (fun e => absurd e (by decide)) (fun _ => ?_)
      walk_at "zx"
      rw [← flsD_eq, ← houX_eq]
      refine for_inv (rangeD 0 h.stas.length) (T0 own [.lst [.fn "station_fault", .fn "flow_fault", .fn "rule_fault"]]) (fun i ss o => ∃ z5, o = T0 own [.lst [.fn "station_fault", .fn "flow_fault", .fn "rule_fault"]] ∧ ss = [some (.fr (houX h)), some (.fr (faultD (orR (staF h) (manyF h) i))), some (.hd (h0 own 0)), some (.fr (.int (0 : Nat))), some (.fr (.tuple (h.stas.map staX))), z5]) ?_ ?_ ?_ ?_
      · walk_at "zx"
        exact ⟨by omega, by omega⟩
      · exact ⟨z5, rfl, rfl⟩
      · rintro i d ss o hi ⟨z5, rfl, rfl⟩
        obtain ⟨il, rfl⟩ := range_get0 hi
        have hs := List.getElem?_eq_getElem il
        have es : orR (staF h) (manyF h) (i + 1) = (match orR (staF h) (manyF h) i with | some x => some x | none => staF h i) := rfl
        walk_at "zx"
        cases eo : orR (staF h) (manyF h) i with
        | some x =>
          rw [eo] at es
          rw [show faultD (some x) = PyData.tuple [.str x.1, .tuple (x.2.map nD)] from rfl, es]
          walk_at "zx"
          exact ⟨_, rfl⟩
        | none =>
          rw [eo] at es
          rw [show faultD none = PyData.none from rfl, es]
          walk_at "zx"
          refine opb_of (x := .fn "station_fault") rfl ?_
          walk_at "zx"
          rw [res_fn]
          dsimp only
          rw [tab_hd]
          walk_at "zx"
          refine stafault_use hk hs ?_
          walk_at "zx"
          exact ⟨_, rfl⟩
      · rintro ss o ⟨z5, rfl, rfl⟩
        rw [range_len]
        exact ⟨_, _, _, rfl, rfl⟩
    · rw [houX_eq, flsD_eq]
      walk_at "zy"
      refine itd' (fun _ => ?_) (fun e => absurd rfl e)
      walk_at "zx"
      rw [← flsD_eq, ← houX_eq]
      refine for_inv (rangeD 0 h.flows.length) (T0 own [.lst [.fn "station_fault", .fn "flow_fault", .fn "rule_fault"]]) (fun i ss o => ∃ z5, o = T0 own [.lst [.fn "station_fault", .fn "flow_fault", .fn "rule_fault"]] ∧ ss = [some (.fr (houX h)), some (.fr (faultD (orR (flowF h) (orR (staF h) (manyF h) h.stas.length) i))), some (.hd (h0 own 0)), some (.fr (.int (1 : Nat))), some (.fr (flsD h.flows)), z5]) ?_ ?_ ?_ ?_
      · rw [flsD_eq]
        walk_at "zx"
        exact ⟨by omega, by omega⟩
      · exact ⟨z5, rfl, rfl⟩
      · rintro i d ss o hi ⟨z5, rfl, rfl⟩
        obtain ⟨il, rfl⟩ := range_get0 hi
        have hs := List.getElem?_eq_getElem il
        have es : orR (flowF h) (orR (staF h) (manyF h) h.stas.length) (i + 1) = (match orR (flowF h) (orR (staF h) (manyF h) h.stas.length) i with | some x => some x | none => flowF h i) := rfl
        walk_at "zx"
        cases eo : orR (flowF h) (orR (staF h) (manyF h) h.stas.length) i with
        | some x =>
          rw [eo] at es
          rw [show faultD (some x) = PyData.tuple [.str x.1, .tuple (x.2.map nD)] from rfl, es]
          walk_at "zx"
          exact ⟨_, rfl⟩
        | none =>
          rw [eo] at es
          rw [show faultD none = PyData.none from rfl, es]
          walk_at "zx"
          refine opb_of (x := .fn "flow_fault") rfl ?_
          walk_at "zx"
          rw [res_fn]
          dsimp only
          rw [tab_tl n12, tab_hd]
          walk_at "zx"
          refine flowfault_use hk hs ?_
          walk_at "zx"
          exact ⟨_, rfl⟩
      · rintro ss o ⟨z5, rfl, rfl⟩
        rw [range_len]
        exact ⟨_, _, _, rfl, rfl⟩
    · rw [houX_eq, flsD_eq]
      walk_at "zy"
      refine itd' (fun e => absurd e (by decide)) (fun _ => ?_)
      walk_at "zx"
      rw [← flsD_eq, ← houX_eq]
      refine for_inv (rangeD 0 h.stas.length) (T0 own [.lst [.fn "station_fault", .fn "flow_fault", .fn "rule_fault"]]) (fun i ss o => ∃ z5, o = T0 own [.lst [.fn "station_fault", .fn "flow_fault", .fn "rule_fault"]] ∧ ss = [some (.fr (houX h)), some (.fr (faultD (orR (ruleF h) (orR (flowF h) (orR (staF h) (manyF h) h.stas.length) h.flows.length) i))), some (.hd (h0 own 0)), some (.fr (.int (2 : Nat))), some (.fr (.tuple (h.stas.map staX))), z5]) ?_ ?_ ?_ ?_
      · walk_at "zx"
        exact ⟨by omega, by omega⟩
      · exact ⟨z5, rfl, rfl⟩
      · rintro i d ss o hi ⟨z5, rfl, rfl⟩
        obtain ⟨il, rfl⟩ := range_get0 hi
        have hs := List.getElem?_eq_getElem il
        have es : orR (ruleF h) (orR (flowF h) (orR (staF h) (manyF h) h.stas.length) h.flows.length) (i + 1) = (match orR (ruleF h) (orR (flowF h) (orR (staF h) (manyF h) h.stas.length) h.flows.length) i with | some x => some x | none => ruleF h i) := rfl
        walk_at "zx"
        cases eo : orR (ruleF h) (orR (flowF h) (orR (staF h) (manyF h) h.stas.length) h.flows.length) i with
        | some x =>
          rw [eo] at es
          rw [show faultD (some x) = PyData.tuple [.str x.1, .tuple (x.2.map nD)] from rfl, es]
          walk_at "zx"
          exact ⟨_, rfl⟩
        | none =>
          rw [eo] at es
          rw [show faultD none = PyData.none from rfl, es]
          walk_at "zx"
          refine opb_of (x := .fn "rule_fault") rfl ?_
          walk_at "zx"
          rw [res_fn]
          dsimp only
          rw [tab_tl n13, tab_tl n23, tab_hd]
          walk_at "zx"
          have hcl := (orR_none (orR_none eo).1).2
          have ho : Once h.flows := once_of hcl
          have hm := (orR_none (orR_none (orR_none eo).1).1).1
          have hsk := pn_srt hk (many_fl hm) (fun f hf => by
            obtain ⟨q, hq⟩ := List.mem_iff_getElem?.mp hf
            exact (inB_le (flow_clean hq (hcl q (lt_of_get hq))).2.2.1).2) (st := h.stas[i].nm)
          refine rulefault_use hk ho hs (hr _ (List.getElem_mem il)) hsk ?_
          walk_at "zx"
          exact ⟨_, rfl⟩
      · rintro ss o ⟨z5, rfl, rfl⟩
        rw [range_len]
        exact ⟨_, _, _, rfl, rfl⟩
  · rintro ss o ⟨z3, z4, z5, rfl, rfl⟩
    rw [range_len]
    walk_at "zx"
    exact k _
end Zd.K05

/-! Zk05d: drawn windows, hours, stops, hops, flows. -/
namespace Zd.K05
open PySem L2
local macro_rules | `(tactic| walk_at "zs") => `(tactic| simp only [SZ, seqD, Option.bind_some, Bool.not_true, Bool.not_false, eqv_ii, eqv_ss, eqv_bb, shp_i, shp_s, shp_b, shp_n, eq_self, Int.toNat_natCast, range_len, Itf, itb_t, itb_f, optP, opb_some, Cal, wLc, wLcH, wYes, decide_true, decide_false,  ex_lst, List.length_map, Nat.zero_le, Nat.reduceLeDiff, Nat.reduceAdd, wNext, wBreak, wCont, wAsg, wRet, wRetN, wDrop, wIfS, wAug, wPar, wPar3, wTupRev, wSet, wAugS, fSet, fGet, wVar, wFrz, frzC, wC, wOp, wUn, res_fr, res_sc, res_hd, resO_frz, resO_lst, resO_ins, resO_dk, resO_dr, frs_map, fI, fIC, fAdd, fSub, fMul, fDiv, fMod, fPow, fShl, fShr, fAnd, fNeg, fLt, fLe, fGt, fGe, fEq, fNe, fIn, fNotIn, fIsB, fNotB, fIx,
  wSl, fSl, fSlH, wPart, wNoPart, wNil, wCons, wTup, wLst, wLstH, frs, Option.map_some, wTest, wNot, wAnd, wOr, wChain, wIf, wAndV, wOrV, wNotV, wIsN, wNotN, wCB, fLen, fInt, fAbs, fMax2, fMin2, fSum, fSumH, hdD, fMinL, fMinT, fStrI, fJoin, fMaxL, fAll, fAny, fTupleOf, fListOf, fSortedI, fSortedS, fListOfH, wIsi, gname_eq, gnil_eq, gcons_eq, gtup_eq, wiSeq, itemsOf, wiR1, wiR2, wiZip, wiZip3, wiRev, wipeS,
  wBL, wBS, isLst, isStr, fAppend, fPopAt, fPop, fCountI, fExtend, fExtendT, fIndexS, fInsert, fMulT, fAddH, fAddM, wListRg, wListRgH, wFld, wSFld, wFn, wCallF, wT3, fInSg, fInM, fNotInM, wMake, wMeth, InsAt, wDNew, wDPut, fDIn, fDNotIn, fDGet, wDGet1, wDGet2, dkD, keyC, wCall, tb_h, tb_k, tb_seth, tb_setk, tb_app, tb_len, t0_k, t0_setk, t0_app, t0_len, List.getElem?_cons_zero, List.getElem?_cons_succ, List.getElem?_nil, List.set_cons_zero, List.set_cons_succ, List.cons_append, List.nil_append, List.length_cons, List.length_nil, List.map_cons, List.map_nil, Nat.zero_add, if_true, if_false, Bool.false_eq_true, true_and, and_true,
  atI0, atI1, atI2, atI3, atI4, atI5, setI0, setI1, setI2, setI3, decide_eq_true_eq])
local macro_rules | `(tactic| walk_at "zx") => `(tactic| simp -implicitDefEqProofs only [SZ, seqD, Option.bind_some, Bool.not_true, Bool.not_false, eqv_ii, eqv_ss, eqv_bb, shp_i, shp_s, shp_b, shp_n, eq_self, Int.toNat_natCast, range_len, Itf, itb_t, itb_f, optP, opb_some, Cal, wLc, wLcH, wYes, decide_true, decide_false,  ex_lst, List.length_map, Nat.zero_le, Nat.reduceLeDiff, Nat.reduceAdd, wNext, wBreak, wCont, wAsg, wRet, wRetN, wDrop, wIfS, wAug, wPar, wPar3, wTupRev, wSet, wAugS, fSet, fGet, wVar, wFrz, frzC, wC, wOp, wUn, res_fr, res_sc, res_hd, resO_frz, resO_lst, resO_ins, resO_dk, resO_dr, frs_map, fI, fIC, fAdd, fSub, fMul, fDiv, fMod, fPow, fShl, fShr, fAnd, fNeg, fLt, fLe, fGt, fGe, fEq, fNe, fIn, fNotIn, fIsB, fNotB, fIx,
  wSl, fSl, fSlH, wPart, wNoPart, wNil, wCons, wTup, wLst, wLstH, frs, Option.map_some, wTest, wNot, wAnd, wOr, wChain, wIf, wAndV, wOrV, wNotV, wIsN, wNotN, wCB, fLen, fInt, fAbs, fMax2, fMin2, fSum, fSumH, hdD, fMinL, fMinT, fStrI, fJoin, fMaxL, fAll, fAny, fTupleOf, fListOf, fSortedI, fSortedS, fListOfH, wIsi, gname_eq, gnil_eq, gcons_eq, gtup_eq, wiSeq, itemsOf, wiR1, wiR2, wiZip, wiZip3, wiRev, wipeS,
  wBL, wBS, isLst, isStr, fAppend, fPopAt, fPop, fCountI, fExtend, fExtendT, fIndexS, fInsert, fMulT, fAddH, fAddM, wListRg, wListRgH, wFld, wSFld, wFn, wCallF, wT3, fInSg, fInM, fNotInM, wMake, wMeth, InsAt, wDNew, wDPut, fDIn, fDNotIn, fDGet, wDGet1, wDGet2, dkD, keyC, wCall, tb_h, tb_k, tb_seth, tb_setk, tb_app, tb_len, t0_k, t0_setk, t0_app, t0_len, List.getElem?_cons_zero, List.getElem?_cons_succ, List.getElem?_nil, List.set_cons_zero, List.set_cons_succ, List.cons_append, List.nil_append, List.length_cons, List.length_nil, List.map_cons, List.map_nil, Nat.zero_add, if_true, if_false, Bool.false_eq_true, true_and, and_true,
  atI0, atI1, atI2, atI3, atI4, atI5, setI0, setI1, setI2, setI3, decide_eq_true_eq])
local macro_rules | `(tactic| walk_at "z1") => `(tactic| (refine seq1 ?_; try walk_at "zs"))
local macro_rules | `(tactic| walk_at "zy") => `(tactic| (refine seq1 ?_; try walk_at "zx"))
local macro_rules | `(tactic| walk_at "nw") => `(tactic| refine ⟨by decide +kernel, by decide +kernel, itd' (fun e => absurd e (by decide +kernel)) (fun _ => ?_)⟩)
local macro_rules | `(tactic| walk_at "iw") => `(tactic| refine ⟨by decide +kernel, by decide +kernel, ?_⟩)
local macro_rules | `(tactic| walk_at "ni") => `(tactic| (simp only [strsD, Option.map_some]; walk_at "zs"; refine itd' (fun e => absurd e (by decide +kernel)) (fun _ => ?_)))
local macro_rules | `(tactic| walk_at "yi") => `(tactic| (simp only [strsD, Option.map_some]; walk_at "zs"; refine itd' (fun _ => ?_) (fun e => absurd (by decide +kernel) e)))
theorem inB_of {i lo hi : Int} (h1 : lo ≤ i) (h2 : i ≤ hi) : inB i lo hi = true := by
  unfold inB
  rw [decide_eq_true h1, decide_eq_true h2]
  rfl
theorem mem_snoc {α : Type} {P : α → Prop} {xs : List α} {y : α} (h : ∀ x ∈ xs, P x) (hy : P y) : ∀ x ∈ xs ++ [y], P x := fun x hx => by
  rcases List.mem_append.mp hx with hx | hx
  · exact h x hx
  · rw [List.mem_singleton.mp hx]
    exact hy
def f__law_windows : FA := fDr (fun as => as = []) fun as d => ∃ ws, d = winsD ws ∧ winsB ws = true
theorem wins_use {pre post r : Ts} {x : Drw} {Q : Hd KC} (k : ∀ ws x', winsB ws = true → Q.v (.fr (winsD ws)) (Tb pre (drM x') post r)) : @CalB f__law_windows [.hd pre.length] (Tb pre (drM x) post r) Q :=
  dr_at rfl rfl fun d x' ⟨ws, e, h⟩ => by subst e; exact k ws x' h
theorem pick_int {lo hi : Int} {ns : List Int} (h : ∀ n ∈ ns, lo ≤ n ∧ n ≤ hi) {d : D} (hd : d ∈ ns.map PyData.int) : ∃ m : Int, d = .int m ∧ lo ≤ m ∧ m ≤ hi := by
  obtain ⟨m, hm, rfl⟩ := List.mem_map.mp hd
  exact ⟨m, rfl, h m hm⟩
def N__law_windows : List Str := ["d", "found", "k", "most", "span"]
def w__law_windows : WS := (wSeq (wAsg (wLstH wNil) (wName 1))
  (wSeq (wFor (wiR1 (wCons (wCall 2 f__law_pick (wCons (wVar 0) (wCons (wLst (wCons (wC (.int 1)) (wCons (wC (.int 1)) (wCons (wC (.int 2)) (wCons (wC (.int 2)) (wCons (wC (.int 3)) wNil)))))) wNil))) wNil)) (wName 2) (wSeq (wAsg (wIf (wTest (wCall 2 f__law_rare (wCons (wVar 0) (wCons (wC (.int 29)) wNil)))) (wC (.int 9)) (wOp fAdd (wC (.int 1)) (wCall 2 f__law_draw (wCons (wVar 0) (wCons (wC (.int 3)) wNil))))) (wName 3))
  (wSeq (wAsg (wIf (wTest (wCall 2 f__law_rare (wCons (wVar 0) (wCons (wC (.int 29)) wNil)))) (wC (.int 12)) (wOp fAdd (wC (.int 1)) (wCall 2 f__law_draw (wCons (wVar 0) (wCons (wC (.int 6)) wNil))))) (wName 4))
  (wDrop (wBL fAppend (wVar 1) (wCons (wTup (wCons (wVar 3) (wCons (wVar 4) wNil))) wNil))))))
  (wRet (wCB fTupleOf (wCons (wFrz (wVar 1)) wNil)))))
theorem d__law_windows : ∀ cs own Q, Cl own → cs.length = 1 → f__law_windows cs own Q → w__law_windows (enF own.length Q) (startS N__law_windows cs) own := by
  refine dr_body fun pre x post as Q e k => ?_
  subst e
  replace k := fun x' r ws h => k _ x' r ⟨ws, rfl, h⟩
  show w__law_windows _ [some (.hd pre.length), none, none, none, none] _
  unfold w__law_windows
  walk_at "zy"
  refine seq1 ?_
  refine for_cut (fun its o => ∃ (n : Nat) (x : Drw), its = rangeD 0 n ∧ o = Tb pre (drM x) post [.lst []] ∧ 1 ≤ n ∧ n ≤ 3) ?_ ?_
  · walk_at "zx"
    refine pick_use (.l _) (by decide) (by decide) fun d x3 hd => ?_
    obtain ⟨m, rfl, m1, m2⟩ := pick_int (lo := 1) (hi := 3) (ns := [1, 1, 2, 2, 3]) (by decide) hd
    walk_at "zx"
    exact ⟨⟨by omega, by omega⟩, m.toNat, _, rfl, rfl, by omega, by omega⟩
  rintro its o ⟨n, x, rfl, rfl, n1, n2⟩
  refine ⟨fun j ss o => ∃ (ws : List (Int × Int)) (x : Drw) (z2 z3 z4 : Option C), o = Tb pre (drM x) post [.lst ((ws.map ipD).map C.fr)] ∧ ss = [some (.hd pre.length), some (.hd (hb pre post 0)), z2, z3, z4] ∧ ws.length = j ∧ ∀ w ∈ ws, 1 ≤ w.1 ∧ w.1 ≤ 9 ∧ 1 ≤ w.2 ∧ w.2 ≤ 12, ⟨[], x, _, _, _, rfl, rfl, rfl, fun w hw => by cases hw⟩, ?_, ?_⟩
  · rintro j d ss o hj ⟨ws, x, z2, z3, z4, rfl, rfl, hl, ih⟩
    obtain ⟨hj2, rfl⟩ := range_get0 hj
    walk_at "zx"
    refine seq_cut (fun ss o => ∃ (x : Drw) (a : Int), o = Tb pre (drM x) post [.lst ((ws.map ipD).map C.fr)] ∧ ss = [some (.hd pre.length), some (.hd (hb pre post 0)), some (.fr (.int j)), some (.fr (.int a)), z4] ∧ 1 ≤ a ∧ a ≤ 9) ?_ ?_
    · walk_at "zx"
      refine rare_use (by decide) (by decide) fun b x => ?_
      walk_at "zx"
      refine itb (fun e => ?_) (fun e => ?_)
      · walk_at "zx"
        exact ⟨_, 9, rfl, rfl, by decide, by decide⟩
      · walk_at "zx"
        refine draw_use (by decide) (by decide) fun v x v1 v2 => ?_
        walk_at "zx"
        exact ⟨_, _, rfl, rfl, by omega, by omega⟩
    rintro ss o ⟨x, a, rfl, rfl, a1, a2⟩
    refine seq_cut (fun ss o => ∃ (x : Drw) (b : Int), o = Tb pre (drM x) post [.lst ((ws.map ipD).map C.fr)] ∧ ss = [some (.hd pre.length), some (.hd (hb pre post 0)), some (.fr (.int j)), some (.fr (.int a)), some (.fr (.int b))] ∧ 1 ≤ b ∧ b ≤ 12) ?_ ?_
    · walk_at "zx"
      refine rare_use (by decide) (by decide) fun b x => ?_
      walk_at "zx"
      refine itb (fun e => ?_) (fun e => ?_)
      · walk_at "zx"
        exact ⟨_, 12, rfl, rfl, by decide, by decide⟩
      · walk_at "zx"
        refine draw_use (by decide) (by decide) fun v x v1 v2 => ?_
        walk_at "zx"
        exact ⟨_, _, rfl, rfl, by omega, by omega⟩
    rintro ss o ⟨x, b, rfl, rfl, b1, b2⟩
    walk_at "zx"
    refine ⟨by omega, ws ++ [(a, b)], x, _, _, _, ?_, rfl, by simp [hl], mem_snoc ih ⟨a1, a2, b1, b2⟩⟩
    rw [List.map_append, List.map_append]
    rfl
  · rintro ss o ⟨ws, x, z2, z3, z4, rfl, rfl, hl, ih⟩
    rw [range_len] at hl
    walk_at "zx"
    refine k _ _ ws ?_
    unfold winsB
    rw [inB_of (by omega) (by omega), Bool.true_and, List.all_eq_true]
    intro w hw
    obtain ⟨h1, h2, h3, h4⟩ := ih w hw
    rw [inB_of h1 h2, inB_of h3 h4]
    rfl
structure HrG (hs : List Int) : Prop where
  ok : HrsOk hs
  b : hrsB hs = true
  l : hs.length ≤ 8
def f__law_hours : FA := fDr (fun as => ∃ m : Int, as = [.fr (.int m)] ∧ 0 ≤ m ∧ m ≤ 6) fun as d => ∃ hs, d = hoursD hs ∧ HrG hs
theorem hours_use {pre post r : Ts} {x : Drw} {Q : Hd KC} {m : Int} (h1 : 0 ≤ m) (h2 : m ≤ 6) (k : ∀ hs x', HrG hs → Q.v (.fr (hoursD hs)) (Tb pre (drM x') post r)) : @CalB f__law_hours [.hd pre.length, .fr (.int m)] (Tb pre (drM x) post r) Q :=
  dr_at rfl ⟨m, rfl, h1, h2⟩ fun d x' ⟨ws, e, h⟩ => by subst e; exact k ws x' h
theorem hrs_of {hs : List Int} (h : ∀ x ∈ hs, 0 ≤ x ∧ x ≤ 6) (hl : hs.length ≤ 8) (h1 : 1 ≤ hs.length) (hs0 : hs.sum ≠ 0) : HrG hs := by
  have hp := sum_pos fun x hx => (h x hx).1
  have : hs.sum ≤ 6 * hs.length := by
    clear hl h1 hs0 hp
    induction hs with
    | nil => simp
    | cons a hs ih =>
      rw [List.sum_cons, List.length_cons]
      have h1 := h a (List.mem_cons_self ..)
      have h2 := ih fun x hx => h x (List.mem_cons_of_mem _ hx)
      omega
  refine ⟨⟨fun x hx => (h x hx).1, by omega, by omega⟩, ?_, hl⟩
  unfold hrsB
  rw [inB_of (by omega) (by omega), Bool.true_and, show (hs.all fun h => inB h 0 6) = true from List.all_eq_true.mpr fun x hx => inB_of (h x hx).1 (h x hx).2, decide_eq_true (by omega)]
  rfl
def N__law_hours : List Str := ["d", "most", "many", "found", "k"]
def w__law_hours : WS := (wSeq (wAsg (wIf (wTest (wCall 2 f__law_rare (wCons (wVar 0) (wCons (wC (.int 29)) wNil)))) (wC (.int 8)) (wOp fAdd (wC (.int 1)) (wCall 2 f__law_draw (wCons (wVar 0) (wCons (wC (.int 4)) wNil))))) (wName 2))
  (wSeq (wAsg (wLcH (wiR1 (wCons (wVar 2) wNil)) (wName 4) wYes (wCall 2 f__law_draw (wCons (wVar 0) (wCons (wOp fAdd (wVar 1) (wC (.int 1))) wNil))) [4]) (wName 3))
  (wSeq (wIfS (wTest (wOp fEq (wCB fSumH (wCons (wVar 3) wNil)) (wC (.int 0)))) (wAsg (wC (.int 1)) (wSet (wVar 3) (wC (.int 0)))) wNext)
  (wRet (wCB fTupleOf (wCons (wFrz (wVar 3)) wNil))))))
theorem d__law_hours : ∀ cs own Q, Cl own → cs.length = 2 → f__law_hours cs own Q → w__law_hours (enF own.length Q) (startS N__law_hours cs) own := by
  refine dr_body fun pre x post as Q ⟨m, e, m1, m2⟩ k => ?_
  subst e
  replace k := fun x' r hs h => k _ x' r ⟨hs, rfl, h⟩
  show w__law_hours _ [some (.hd pre.length), some (.fr (.int m)), none, none, none] _
  unfold w__law_hours
  refine seq_cut (fun ss o => ∃ (x : Drw) (n : Int), o = Tb pre (drM x) post [] ∧ ss = [some (.hd pre.length), some (.fr (.int m)), some (.fr (.int n)), none, none] ∧ 1 ≤ n ∧ n ≤ 8) ?_ ?_
  · walk_at "zx"
    refine rare_use (by decide) (by decide) fun b x => ?_
    walk_at "zx"
    refine itb (fun e => ?_) (fun e => ?_)
    · walk_at "zx"
      exact ⟨_, 8, rfl, rfl, by decide, by decide⟩
    · walk_at "zx"
      refine draw_use (by decide) (by decide) fun v x v1 v2 => ?_
      walk_at "zx"
      exact ⟨_, _, rfl, rfl, by omega, by omega⟩
  rintro ss o ⟨x, n, rfl, rfl, n1, n2⟩
  walk_at "zy"
  refine lch_dr (List.range n.toNat) (fun i => PyData.int (0 + (i : Int))) PyData.int (fun _ h => 0 ≤ h ∧ h ≤ 6) pre post [] x ?_ ?_ (fun i a x' T S ha ht => ?_) fun bs x4 hbs => ?_
  · walk_at "zx"
    exact ⟨⟨by omega, by omega⟩, rfl⟩
  · simp only [List.length_range, SZ]
    omega
  · walk_at "zx"
    refine draw_use (by omega) (by omega) fun v x' v1 v2 => ?_
    exact ht v x' ⟨by omega, by omega⟩
  have hbl := hbs.1
  rw [List.length_range] at hbl
  have hok : ∀ h ∈ bs, 0 ≤ h ∧ h ≤ 6 := fun w hw => (hbs.at hw).elim fun _ h => h.2
  walk_at "zx"
  refine seq_cut (fun ss o => ∃ (hs : List Int) (x' : Drw), o = Tb pre (drM x') post [.lst ((hs.map PyData.int).map C.fr)] ∧ ss = [some (.hd pre.length), some (.fr (.int m)), some (.fr (.int n)), some (.hd (hb pre post 0)), none] ∧ HrG hs) ?_ ?_
  · walk_at "zx"
    rw [ints_map]
    walk_at "zx"
    refine itd' (fun e => ?_) (fun e => ?_)
    · cases bs with
      | nil => simp at hbl; omega
      | cons b bs =>
        walk_at "zx"
        have hp := sum_pos (hs := bs) fun y hy => (hok y (List.mem_cons_of_mem _ hy)).1
        refine ⟨1 :: bs, _, rfl, hrs_of (hs := 1 :: bs) (fun y hy => ?_) (by simp only [List.length_cons] at hbl ⊢; omega) (by simp) (by rw [List.sum_cons]; omega)⟩
        rcases List.mem_cons.mp hy with rfl | hy
        · decide
        · exact hok y (List.mem_cons_of_mem _ hy)
    · walk_at "zx"
      exact ⟨bs, _, rfl, hrs_of (hs := bs) hok (by omega) (by omega) e⟩
  · rintro ss o ⟨hs, x5, rfl, rfl, hl⟩
    walk_at "zx"
    exact k _ _ hs hl
def f__law_stop : FA := fDr (fun as => as = []) fun as d => ∃ s, d = stopD s ∧ stopB s = true
theorem stop_use {pre post r : Ts} {x : Drw} {Q : Hd KC} (k : ∀ s x', stopB s = true → Q.v (.fr (stopD s)) (Tb pre (drM x') post r)) : @CalB f__law_stop [.hd pre.length] (Tb pre (drM x) post r) Q :=
  dr_at rfl rfl fun d x' ⟨ws, e, h⟩ => by subst e; exact k ws x' h
def N__law_stop : List Str := ["d"]
def w__law_stop : WS := (wSeq (wIfS (wTest (wOp fGt (wCall 2 f__law_draw (wCons (wVar 0) (wCons (wC (.int 3)) wNil))) (wC (.int 0)))) (wRet (wC .none)) wNext)
  (wSeq (wIfS (wTest (wCall 2 f__law_rare (wCons (wVar 0) (wCons (wC (.int 13)) wNil)))) (wRet (wTup (wCons (wC (.int 4)) (wCons (wC (.int 12)) wNil)))) wNext)
  (wRet (wTup (wCons (wOp fAdd (wC (.int 1)) (wCall 2 f__law_draw (wCons (wVar 0) (wCons (wC (.int 2)) wNil)))) (wCons (wOp fAdd (wC (.int 1)) (wCall 2 f__law_draw (wCons (wVar 0) (wCons (wC (.int 6)) wNil)))) wNil))))))
theorem d__law_stop : ∀ cs own Q, Cl own → cs.length = 1 → f__law_stop cs own Q → w__law_stop (enF own.length Q) (startS N__law_stop cs) own := by
  refine dr_body fun pre x post as Q e k => ?_
  subst e
  have k0 : ∀ x' r, Q (.fr .none) (Tb pre (drM x') post r) := fun x' r => k _ x' r ⟨none, rfl, rfl⟩
  replace k : ∀ x' r (a b : Int), 1 ≤ a → a ≤ 4 → 1 ≤ b → b ≤ 12 → Q (.fr (.tuple [.int a, .int b])) (Tb pre (drM x') post r) := fun x' r a b h1 h2 h3 h4 => k _ x' r ⟨some (a, b), rfl, by show (inB a 1 4 && inB b 1 12) = true; rw [inB_of h1 h2, inB_of h3 h4]; rfl⟩
  show w__law_stop _ [some (.hd pre.length)] _
  unfold w__law_stop
  walk_at "zy"
  refine draw_use (by decide) (by decide) fun v x v1 v2 => ?_
  walk_at "zx"
  refine itd' (fun e => ?_) (fun e => ?_)
  · walk_at "zx"
    exact k0 _ _
  walk_at "zy"
  refine rare_use (by decide) (by decide) fun b x => ?_
  walk_at "zx"
  refine itb (fun e => ?_) (fun e => ?_)
  · walk_at "zx"
    exact k _ _ _ _ (by decide) (by decide) (by decide) (by decide)
  · walk_at "zx"
    refine draw_use (by decide) (by decide) fun v x v1 v2 => ?_
    walk_at "zx"
    refine draw_use (by decide) (by decide) fun u x u1 u2 => ?_
    walk_at "zx"
    exact k _ _ _ _ (by omega) (by omega) (by omega) (by omega)
def NumG (h : HopT) : Prop := linkB h.lo h.hi = true ∧ inB h.due 1 20 = true ∧ h.gate ∈ GTX
theorem link_of {a b : Int} (h1 : 1 ≤ a) (h2 : a ≤ b) (h3 : b ≤ 6) : linkB a b = true := by
  unfold linkB
  rw [decide_eq_true h1, decide_eq_true h2, decide_eq_true h3]
  rfl
def f__law_hop : FA := fDr (fun as => ∃ (st : Str) (b : Int), as = [.fr (.str st), .fr (.int b)]) fun as d => ∀ (st : Str) (b : Int), as = [.fr (.str st), .fr (.int b)] → ∃ h : HopT, d = hopD h ∧ h.st = st ∧ h.beh = b ∧ NumG h
theorem hop_use {pre post r : Ts} {x : Drw} {Q : Hd KC} {st : Str} {b : Int} (k : ∀ h x', h.st = st → h.beh = b → NumG h → Q.v (.fr (hopD h)) (Tb pre (drM x') post r)) : @CalB f__law_hop [.hd pre.length, .fr (.str st), .fr (.int b)] (Tb pre (drM x) post r) Q :=
  dr_at rfl ⟨st, b, rfl⟩ fun d x' hd => by
    obtain ⟨h, rfl, h1, h2, h3⟩ := hd st b rfl
    exact k h x' h1 h2 h3
def GTS : List Str := ["free", "free", "hold", "shape"]
def N__law_hop : List Str := ["d", "station", "behind", "low", "high", "due"]
def w__law_hop : WS := (wSeq (wAsg (wOp fAdd (wC (.int 1)) (wCall 2 f__law_draw (wCons (wVar 0) (wCons (wC (.int 2)) wNil)))) (wName 3))
  (wSeq (wAsg (wOp fAdd (wVar 3) (wCall 2 f__law_pick (wCons (wVar 0) (wCons (wLst (wCons (wC (.int 0)) (wCons (wC (.int 0)) (wCons (wC (.int 1)) (wCons (wC (.int 2)) wNil))))) wNil)))) (wName 4))
  (wSeq (wAsg (wIf (wTest (wCall 2 f__law_rare (wCons (wVar 0) (wCons (wC (.int 29)) wNil)))) (wC (.int 20)) (wOp fAdd (wC (.int 1)) (wCall 2 f__law_draw (wCons (wVar 0) (wCons (wC (.int 8)) wNil))))) (wName 5))
  (wRet (wTup (wCons (wVar 1) (wCons (wVar 2) (wCons (wVar 3) (wCons (wVar 4) (wCons (wVar 5) (wCons (wCall 2 f__law_pick (wCons (wVar 0) (wCons (wLst (wCons (wC (.str "free")) (wCons (wC (.str "free")) (wCons (wC (.str "hold")) (wCons (wC (.str "shape")) wNil))))) wNil))) wNil)))))))))))
theorem d__law_hop : ∀ cs own Q, Cl own → cs.length = 3 → f__law_hop cs own Q → w__law_hop (enF own.length Q) (startS N__law_hop cs) own := by
  refine dr_body fun pre x post as Q ⟨st, b, e⟩ k => ?_
  subst e
  replace k : ∀ (x' : Drw) r (h : HopT), h.st = st → h.beh = b → NumG h → Q (.fr (hopD h)) (Tb pre (drM x') post r) := fun x' r h h1 h2 h3 => k _ x' r fun st' b' e => by
    cases e
    exact ⟨h, rfl, h1, h2, h3⟩
  show w__law_hop _ [some (.hd pre.length), some (.fr (.str st)), some (.fr (.int b)), none, none, none] _
  unfold w__law_hop
  walk_at "zy"
  refine draw_use (by decide) (by decide) fun v x v1 v2 => ?_
  walk_at "zx"
  walk_at "zy"
  refine pick_use (.l _) (by decide) (by decide) fun d x hd => ?_
  obtain ⟨m, rfl, m1, m2⟩ := pick_int (lo := 0) (hi := 2) (ns := [0, 0, 1, 2]) (by decide) hd
  walk_at "zx"
  refine seq_cut (fun ss o => ∃ (x : Drw) (u : Int), o = Tb pre (drM x) post [] ∧ ss = [some (.hd pre.length), some (.fr (.str st)), some (.fr (.int b)), some (.fr (.int (1 + v))), some (.fr (.int (1 + v + m))), some (.fr (.int u))] ∧ 1 ≤ u ∧ u ≤ 20) ?_ ?_
  · walk_at "zx"
    refine rare_use (by decide) (by decide) fun b x => ?_
    walk_at "zx"
    refine itb (fun e => ?_) (fun e => ?_)
    · walk_at "zx"
      exact ⟨_, _, rfl, rfl, by decide, by decide⟩
    · walk_at "zx"
      refine draw_use (by decide) (by decide) fun v x v1 v2 => ?_
      walk_at "zx"
      exact ⟨_, _, rfl, rfl, by omega, by omega⟩
  rintro ss o ⟨x, u, rfl, rfl, u1, u2⟩
  walk_at "zx"
  refine pick_use (.l _) (by decide) (by decide) fun d x hd => ?_
  obtain ⟨g, hg, rfl⟩ := mem_strs (zs := GTS) hd
  walk_at "zx"
  refine k _ _ ⟨st, b, 1 + v, 1 + v + m, u, g⟩ rfl rfl ⟨link_of (by dsimp only; omega) (by dsimp only; omega) (by dsimp only; omega), inB_of u1 u2, ?_⟩
  show g ∈ GTX
  unfold GTS at hg
  unfold GTX
  simp only [List.mem_cons, List.mem_nil_iff, or_false] at hg ⊢
  rcases hg with rfl | rfl | rfl | rfl
  · exact .inl rfl
  · exact .inl rfl
  · exact .inr (.inl rfl)
  · exact .inr (.inr rfl)
end Zd.K05

/-! Zk05e: drawn flows and houses. -/
namespace Zd.K05
open PySem L2
local macro_rules | `(tactic| walk_at "zs") => `(tactic| simp only [SZ, seqD, Option.bind_some, Bool.not_true, Bool.not_false, eqv_ii, eqv_ss, eqv_bb, shp_i, shp_s, shp_b, shp_n, eq_self, Int.toNat_natCast, range_len, Itf, itb_t, itb_f, optP, opb_some, Cal, wLc, wLcH, wYes, decide_true, decide_false,  ex_lst, List.length_map, Nat.zero_le, Nat.reduceLeDiff, Nat.reduceAdd, wNext, wBreak, wCont, wAsg, wRet, wRetN, wDrop, wIfS, wAug, wPar, wPar3, wTupRev, wSet, wAugS, fSet, fGet, wVar, wFrz, frzC, wC, wOp, wUn, res_fr, res_sc, res_hd, resO_frz, resO_lst, resO_ins, resO_dk, resO_dr, frs_map, fI, fIC, fAdd, fSub, fMul, fDiv, fMod, fPow, fShl, fShr, fAnd, fNeg, fLt, fLe, fGt, fGe, fEq, fNe, fIn, fNotIn, fIsB, fNotB, fIx,
  wSl, fSl, fSlH, wPart, wNoPart, wNil, wCons, wTup, wLst, wLstH, frs, Option.map_some, wTest, wNot, wAnd, wOr, wChain, wIf, wAndV, wOrV, wNotV, wIsN, wNotN, wCB, fLen, fInt, fAbs, fMax2, fMin2, fSum, fSumH, hdD, fMinL, fMinT, fStrI, fJoin, fMaxL, fAll, fAny, fTupleOf, fListOf, fSortedI, fSortedS, fListOfH, wIsi, gname_eq, gnil_eq, gcons_eq, gtup_eq, wiSeq, itemsOf, wiR1, wiR2, wiZip, wiZip3, wiRev, wipeS,
  wBL, wBS, isLst, isStr, fAppend, fPopAt, fPop, fCountI, fExtend, fExtendT, fIndexS, fInsert, fMulT, fAddH, fAddM, wListRg, wListRgH, wFld, wSFld, wFn, wCallF, wT3, fInSg, fInM, fNotInM, wMake, wMeth, InsAt, wDNew, wDPut, fDIn, fDNotIn, fDGet, wDGet1, wDGet2, dkD, keyC, wCall, tb_h, tb_k, tb_seth, tb_setk, tb_app, tb_len, t0_k, t0_setk, t0_app, t0_len, List.getElem?_cons_zero, List.getElem?_cons_succ, List.getElem?_nil, List.set_cons_zero, List.set_cons_succ, List.cons_append, List.nil_append, List.length_cons, List.length_nil, List.map_cons, List.map_nil, Nat.zero_add, if_true, if_false, Bool.false_eq_true, true_and, and_true,
  atI0, atI1, atI2, atI3, atI4, atI5, setI0, setI1, setI2, setI3, decide_eq_true_eq])
local macro_rules | `(tactic| walk_at "zx") => `(tactic| simp -implicitDefEqProofs only [SZ, seqD, Option.bind_some, Bool.not_true, Bool.not_false, eqv_ii, eqv_ss, eqv_bb, shp_i, shp_s, shp_b, shp_n, eq_self, Int.toNat_natCast, range_len, Itf, itb_t, itb_f, optP, opb_some, Cal, wLc, wLcH, wYes, decide_true, decide_false,  ex_lst, List.length_map, Nat.zero_le, Nat.reduceLeDiff, Nat.reduceAdd, wNext, wBreak, wCont, wAsg, wRet, wRetN, wDrop, wIfS, wAug, wPar, wPar3, wTupRev, wSet, wAugS, fSet, fGet, wVar, wFrz, frzC, wC, wOp, wUn, res_fr, res_sc, res_hd, resO_frz, resO_lst, resO_ins, resO_dk, resO_dr, frs_map, fI, fIC, fAdd, fSub, fMul, fDiv, fMod, fPow, fShl, fShr, fAnd, fNeg, fLt, fLe, fGt, fGe, fEq, fNe, fIn, fNotIn, fIsB, fNotB, fIx,
  wSl, fSl, fSlH, wPart, wNoPart, wNil, wCons, wTup, wLst, wLstH, frs, Option.map_some, wTest, wNot, wAnd, wOr, wChain, wIf, wAndV, wOrV, wNotV, wIsN, wNotN, wCB, fLen, fInt, fAbs, fMax2, fMin2, fSum, fSumH, hdD, fMinL, fMinT, fStrI, fJoin, fMaxL, fAll, fAny, fTupleOf, fListOf, fSortedI, fSortedS, fListOfH, wIsi, gname_eq, gnil_eq, gcons_eq, gtup_eq, wiSeq, itemsOf, wiR1, wiR2, wiZip, wiZip3, wiRev, wipeS,
  wBL, wBS, isLst, isStr, fAppend, fPopAt, fPop, fCountI, fExtend, fExtendT, fIndexS, fInsert, fMulT, fAddH, fAddM, wListRg, wListRgH, wFld, wSFld, wFn, wCallF, wT3, fInSg, fInM, fNotInM, wMake, wMeth, InsAt, wDNew, wDPut, fDIn, fDNotIn, fDGet, wDGet1, wDGet2, dkD, keyC, wCall, tb_h, tb_k, tb_seth, tb_setk, tb_app, tb_len, t0_k, t0_setk, t0_app, t0_len, List.getElem?_cons_zero, List.getElem?_cons_succ, List.getElem?_nil, List.set_cons_zero, List.set_cons_succ, List.cons_append, List.nil_append, List.length_cons, List.length_nil, List.map_cons, List.map_nil, Nat.zero_add, if_true, if_false, Bool.false_eq_true, true_and, and_true,
  atI0, atI1, atI2, atI3, atI4, atI5, setI0, setI1, setI2, setI3, decide_eq_true_eq])
local macro_rules | `(tactic| walk_at "z1") => `(tactic| (refine seq1 ?_; try walk_at "zs"))
local macro_rules | `(tactic| walk_at "zy") => `(tactic| (refine seq1 ?_; try walk_at "zx"))
local macro_rules | `(tactic| walk_at "nw") => `(tactic| refine ⟨by decide +kernel, by decide +kernel, itd' (fun e => absurd e (by decide +kernel)) (fun _ => ?_)⟩)
local macro_rules | `(tactic| walk_at "iw") => `(tactic| refine ⟨by decide +kernel, by decide +kernel, ?_⟩)
local macro_rules | `(tactic| walk_at "ni") => `(tactic| (simp only [strsD, Option.map_some]; walk_at "zs"; refine itd' (fun e => absurd e (by decide +kernel)) (fun _ => ?_)))
local macro_rules | `(tactic| walk_at "yi") => `(tactic| (simp only [strsD, Option.map_some]; walk_at "zs"; refine itd' (fun _ => ?_) (fun e => absurd (by decide +kernel) e)))
theorem beh_app {hs : List HopT} {h : HopT} (hb : BehOk hs) (h1 : -1 ≤ h.beh) (h2 : h.beh < hs.length) : BehOk (hs ++ [h]) := fun i x e => by
  rcases get_app e with ⟨_, e⟩ | ⟨rfl, rfl⟩
  · exact hb i x e
  · exact ⟨h1, h2⟩
/-- a right flow through these places -/
structure FlG (ps : List Str) (f : FlowT) : Prop where
  wins : winsB f.wins = true
  beh : BehOk f.hops
  sts : ∀ h ∈ f.hops, h.st ∈ ps
  nd : (f.hops.map (·.st)).Nodup
  num : ∀ h ∈ f.hops, NumG h
  l1 : 1 ≤ f.hops.length
  len : f.hops.length ≤ ps.length
def f__law_flow : FA := fDr (fun as => ∃ (nm : Str) (ps : List Str), as = [.fr (.str nm), .fr (.list (ps.map .str))] ∧ ps.Nodup ∧ 1 ≤ ps.length ∧ ps.length ≤ 100) fun as d => ∀ (nm : Str) (ps : List Str), as = [.fr (.str nm), .fr (.list (ps.map .str))] → ∃ f : FlowT, d = flD f ∧ f.nm = nm ∧ FlG ps f
theorem str_inj {a b : List Str} (h : a.map PyData.str = b.map PyData.str) : a = b := by
  have := strsD_map' a
  rw [h, strsD_map' b] at this
  exact (Option.some.inj this).symm
where strsD_map' : ∀ a : List Str, strsD (a.map PyData.str) = some a
  | [] => rfl
  | x :: a => by
    show (strsD (a.map PyData.str)).map (x :: ·) = _
    rw [strsD_map' a]
    rfl
theorem flow_use {pre post r : Ts} {x : Drw} {Q : Hd KC} {nm : Str} {ps : List Str} (h1 : ps.Nodup) (h2 : 1 ≤ ps.length) (h3 : ps.length ≤ 100) (k : ∀ f x', f.nm = nm → FlG ps f → Q.v (.fr (flD f)) (Tb pre (drM x') post r)) : @CalB f__law_flow [.hd pre.length, .fr (.str nm), .fr (.list (ps.map .str))] (Tb pre (drM x) post r) Q :=
  dr_at rfl ⟨nm, ps, rfl, h1, h2, h3⟩ fun d x' hd => by
    obtain ⟨f, rfl, h0, h1⟩ := hd nm ps rfl
    exact k f x' h0 h1
def N__law_flow : List Str := ["d", "name", "stations", "route", "hops", "k", "behind"]
def w__law_flow : WS := (wSeq (wAsg (wCall 2 f__law_shuffled (wCons (wVar 0) (wCons (wVar 2) wNil))) (wName 3))
  (wSeq (wAsg (wSl fSl (wVar 3) wNoPart (wPart (wOp fAdd (wC (.int 1)) (wCall 2 f__law_draw (wCons (wVar 0) (wCons (wCB fLen (wCons (wVar 3) wNil)) wNil)))))) (wName 3))
  (wSeq (wAsg (wLstH wNil) (wName 4))
  (wSeq (wFor (wiR1 (wCons (wCB fLen (wCons (wVar 3) wNil)) wNil)) (wName 5) (wSeq (wAsg (wOp fSub (wVar 5) (wC (.int 1))) (wName 6))
  (wSeq (wIfS (wAnd (wTest (wOp fGt (wVar 5) (wC (.int 0)))) (wTest (wCall 2 f__law_rare (wCons (wVar 0) (wCons (wC (.int 5)) wNil))))) (wAsg (wOp fSub (wCall 2 f__law_draw (wCons (wVar 0) (wCons (wOp fAdd (wVar 5) (wC (.int 1))) wNil))) (wC (.int 1))) (wName 6)) wNext)
  (wDrop (wBL fAppend (wVar 4) (wCons (wCall 3 f__law_hop (wCons (wVar 0) (wCons (wOp fIx (wVar 3) (wVar 5)) (wCons (wVar 6) wNil)))) wNil))))))
  (wRet (wTup (wCons (wVar 1) (wCons (wCall 1 f__law_windows (wCons (wVar 0) wNil)) (wCons (wCB fTupleOf (wCons (wFrz (wVar 4)) wNil)) wNil)))))))))
theorem d__law_flow : ∀ cs own Q, Cl own → cs.length = 3 → f__law_flow cs own Q → w__law_flow (enF own.length Q) (startS N__law_flow cs) own := by
  refine dr_body fun pre x post as Q ⟨nm, ps, e, hpd, hp1, hp2⟩ k => ?_
  subst e
  replace k : ∀ (x' : Drw) r (f : FlowT), f.nm = nm → FlG ps f → Q (.fr (flD f)) (Tb pre (drM x') post r) := fun x' r f h0 h1 => k _ x' r fun nm' ps' e => by
    have e0 : nm = nm' := PyData.str.inj (C.fr.inj (List.cons.inj e).1)
    subst e0
    have e1 : ps = ps' := str_inj (PyData.list.inj (C.fr.inj (List.cons.inj (List.cons.inj e).2).1))
    subst e1
    exact ⟨f, rfl, h0, h1⟩
  show w__law_flow _ [some (.hd pre.length), some (.fr (.str nm)), some (.fr (.list (ps.map .str))), none, none, none, none] _
  unfold w__law_flow
  walk_at "zy"
  refine shuffled_useL (by rw [List.length_map]; unfold SZ; omega) fun es x hes => ?_
  obtain ⟨ws, rfl, hw⟩ := perm_strs hes
  have wl := hw.length_eq
  walk_at "zx"
  walk_at "zy"
  refine draw_use (by omega) (by omega) fun v x l1 l2 => ?_
  obtain ⟨m, rfl⟩ := Int.eq_ofNat_of_zero_le l1
  walk_at "zx"
  rw [show (1 : Int) + m = ((m + 1 : Nat) : Int) by omega, cutD_map, cutD_to]
  have s1 : (ws.take (m + 1)).length = m + 1 := by rw [List.length_take]; omega
  have s2 : ∀ z ∈ ws.take (m + 1), z ∈ ps := fun z hz => hw.mem_iff.mp (List.mem_of_mem_take hz)
  have s3 : (ws.take (m + 1)).Nodup := (hw.nodup_iff.mpr hpd).sublist (List.take_sublist _ _)
  generalize ws.take (m + 1) = stops at *
  walk_at "zy"
  refine seq1 ?_
  refine for_inv (rangeD 0 stops.length) (Tb pre (drM x) post [.lst []]) (fun k ss o => ∃ (x : Drw) (hs : List HopT) (z5 z6 : Option C), o = Tb pre (drM x) post [.lst ((hs.map hopD).map C.fr)] ∧ ss = [some (.hd pre.length), some (.fr (.str nm)), some (.fr (.list (ps.map .str))), some (.fr (.list (stops.map .str))), some (.hd (hb pre post 0)), z5, z6] ∧ hs.map (·.st) = stops.take k ∧ BehOk hs ∧ ∀ h ∈ hs, h.st ∈ ps ∧ NumG h) ?_ ?_ ?_ ?_
  · walk_at "zx"
    exact ⟨by omega, by omega⟩
  · exact ⟨x, [], none, none, rfl, rfl, rfl, (fun i h e => by simp at e), (fun h hh => by cases hh)⟩
  · rintro i d ss o hi ⟨x, hs, z5, z6, rfl, rfl, hm, hbe, hh⟩
    obtain ⟨hi2, rfl⟩ := range_get0 hi
    have hst := List.getElem?_eq_getElem hi2
    generalize stops[i] = st at hst
    have hl : hs.length = i := by
      have := congrArg List.length hm
      rw [List.length_map, List.length_take] at this
      omega
    walk_at "zx"
    walk_at "zy"
    refine seq_cut (fun ss o => ∃ (x : Drw) (b : Int), o = Tb pre (drM x) post [.lst ((hs.map hopD).map C.fr)] ∧ ss = [some (.hd pre.length), some (.fr (.str nm)), some (.fr (.list (ps.map .str))), some (.fr (.list (stops.map .str))), some (.hd (hb pre post 0)), some (.fr (.int i)), some (.fr (.int b))] ∧ -1 ≤ b ∧ b < i) ?_ ?_
    · walk_at "zx"
      refine itd' (fun e => ?_) (fun e => ?_)
      · walk_at "zx"
        refine rare_use (by decide) (by decide) fun b x => ?_
        walk_at "zx"
        refine itb (fun e => ?_) (fun e => ?_)
        · walk_at "zx"
          refine draw_use (by omega) (by omega) fun v x v1 v2 => ?_
          walk_at "zx"
          exact ⟨_, _, rfl, rfl, by omega, by omega⟩
        · walk_at "zx"
          exact ⟨_, _, rfl, rfl, by omega, by omega⟩
      · walk_at "zx"
        exact ⟨_, _, rfl, rfl, by omega, by omega⟩
    rintro ss o ⟨x, b, rfl, rfl, b1, b2⟩
    walk_at "zx"
    refine opb_map hst ?_
    walk_at "zx"
    refine hop_use fun h x h1 h2 h3 => ?_
    walk_at "zx"
    refine ⟨by omega, x, hs ++ [h], _, _, ?_, rfl, by rw [List.map_append, hm, take_get hst, ← h1]; rfl, beh_app hbe (by omega) (by omega), mem_snoc hh ⟨?_, h3⟩⟩
    · rw [List.map_append, List.map_append]
      rfl
    · rw [h1]
      exact s2 _ (List.mem_of_getElem? hst)
  · rintro ss o ⟨x, hs, z5, z6, rfl, rfl, hm, hbe, hh⟩
    rw [range_len, List.take_length] at hm
    have hl : hs.length = stops.length := by
      have := congrArg List.length hm
      rw [List.length_map] at this
      exact this
    walk_at "zx"
    refine wins_use fun ws x hws => ?_
    walk_at "zx"
    exact k _ _ ⟨nm, ws, hs⟩ rfl ⟨hws, hbe, fun h hm => (hh h hm).1, by show (hs.map (·.st)).Nodup; rw [hm]; exact s3, fun h hm => (hh h hm).2, by show 1 ≤ hs.length; omega, by show hs.length ≤ ps.length; omega⟩
theorem gate_ok {z : Str} (h : z ∈ GTX) : PyData.strOk z = true := by
  have : ∀ z ∈ GTX, PyData.strOk z = true := by decide +kernel
  exact this z h
end Zd.K05

/-! Zk05s: what is told and what is due; lemmas of both laws. -/
namespace Zd.K05
open PySem L2
local macro_rules | `(tactic| walk_at "zs") => `(tactic| simp only [SZ, seqD, Option.bind_some, Bool.not_true, Bool.not_false, eqv_ii, eqv_ss, eqv_bb, shp_i, shp_s, shp_b, shp_n, eq_self, Int.toNat_natCast, range_len, Itf, itb_t, itb_f, optP, opb_some, Cal, wLc, wLcH, wYes, decide_true, decide_false,  ex_lst, List.length_map, Nat.zero_le, Nat.reduceLeDiff, Nat.reduceAdd, wNext, wBreak, wCont, wAsg, wRet, wRetN, wDrop, wIfS, wAug, wPar, wPar3, wTupRev, wSet, wAugS, fSet, fGet, wVar, wFrz, frzC, wC, wOp, wUn, res_fr, res_sc, res_hd, resO_frz, resO_lst, resO_ins, resO_dk, resO_dr, frs_map, fI, fIC, fAdd, fSub, fMul, fDiv, fMod, fPow, fShl, fShr, fAnd, fNeg, fLt, fLe, fGt, fGe, fEq, fNe, fIn, fNotIn, fIsB, fNotB, fIx,
  wSl, fSl, fSlH, wPart, wNoPart, wNil, wCons, wTup, wLst, wLstH, frs, Option.map_some, wTest, wNot, wAnd, wOr, wChain, wIf, wAndV, wOrV, wNotV, wIsN, wNotN, wCB, fLen, fInt, fAbs, fMax2, fMin2, fSum, fSumH, hdD, fMinL, fMinT, fStrI, fJoin, fMaxL, fAll, fAny, fTupleOf, fListOf, fSortedI, fSortedS, fListOfH, wIsi, gname_eq, gnil_eq, gcons_eq, gtup_eq, wiSeq, itemsOf, wiR1, wiR2, wiZip, wiZip3, wiRev, wipeS,
  wBL, wBS, isLst, isStr, fAppend, fPopAt, fPop, fCountI, fExtend, fExtendT, fIndexS, fInsert, fMulT, fAddH, fAddM, wListRg, wListRgH, wFld, wSFld, wFn, wCallF, wT3, fInSg, fInM, fNotInM, wMake, wMeth, InsAt, wDNew, wDPut, fDIn, fDNotIn, fDGet, wDGet1, wDGet2, dkD, keyC, wCall, tb_h, tb_k, tb_seth, tb_setk, tb_app, tb_len, t0_k, t0_setk, t0_app, t0_len, List.getElem?_cons_zero, List.getElem?_cons_succ, List.getElem?_nil, List.set_cons_zero, List.set_cons_succ, List.cons_append, List.nil_append, List.length_cons, List.length_nil, List.map_cons, List.map_nil, Nat.zero_add, if_true, if_false, Bool.false_eq_true, true_and, and_true,
  atI0, atI1, atI2, atI3, atI4, atI5, setI0, setI1, setI2, setI3, decide_eq_true_eq])
local macro_rules | `(tactic| walk_at "zx") => `(tactic| simp -implicitDefEqProofs only [SZ, seqD, Option.bind_some, Bool.not_true, Bool.not_false, eqv_ii, eqv_ss, eqv_bb, shp_i, shp_s, shp_b, shp_n, eq_self, Int.toNat_natCast, range_len, Itf, itb_t, itb_f, optP, opb_some, Cal, wLc, wLcH, wYes, decide_true, decide_false,  ex_lst, List.length_map, Nat.zero_le, Nat.reduceLeDiff, Nat.reduceAdd, wNext, wBreak, wCont, wAsg, wRet, wRetN, wDrop, wIfS, wAug, wPar, wPar3, wTupRev, wSet, wAugS, fSet, fGet, wVar, wFrz, frzC, wC, wOp, wUn, res_fr, res_sc, res_hd, resO_frz, resO_lst, resO_ins, resO_dk, resO_dr, frs_map, fI, fIC, fAdd, fSub, fMul, fDiv, fMod, fPow, fShl, fShr, fAnd, fNeg, fLt, fLe, fGt, fGe, fEq, fNe, fIn, fNotIn, fIsB, fNotB, fIx,
  wSl, fSl, fSlH, wPart, wNoPart, wNil, wCons, wTup, wLst, wLstH, frs, Option.map_some, wTest, wNot, wAnd, wOr, wChain, wIf, wAndV, wOrV, wNotV, wIsN, wNotN, wCB, fLen, fInt, fAbs, fMax2, fMin2, fSum, fSumH, hdD, fMinL, fMinT, fStrI, fJoin, fMaxL, fAll, fAny, fTupleOf, fListOf, fSortedI, fSortedS, fListOfH, wIsi, gname_eq, gnil_eq, gcons_eq, gtup_eq, wiSeq, itemsOf, wiR1, wiR2, wiZip, wiZip3, wiRev, wipeS,
  wBL, wBS, isLst, isStr, fAppend, fPopAt, fPop, fCountI, fExtend, fExtendT, fIndexS, fInsert, fMulT, fAddH, fAddM, wListRg, wListRgH, wFld, wSFld, wFn, wCallF, wT3, fInSg, fInM, fNotInM, wMake, wMeth, InsAt, wDNew, wDPut, fDIn, fDNotIn, fDGet, wDGet1, wDGet2, dkD, keyC, wCall, tb_h, tb_k, tb_seth, tb_setk, tb_app, tb_len, t0_k, t0_setk, t0_app, t0_len, List.getElem?_cons_zero, List.getElem?_cons_succ, List.getElem?_nil, List.set_cons_zero, List.set_cons_succ, List.cons_append, List.nil_append, List.length_cons, List.length_nil, List.map_cons, List.map_nil, Nat.zero_add, if_true, if_false, Bool.false_eq_true, true_and, and_true,
  atI0, atI1, atI2, atI3, atI4, atI5, setI0, setI1, setI2, setI3, decide_eq_true_eq])
local macro_rules | `(tactic| walk_at "z1") => `(tactic| (refine seq1 ?_; try walk_at "zs"))
local macro_rules | `(tactic| walk_at "zy") => `(tactic| (refine seq1 ?_; try walk_at "zx"))
local macro_rules | `(tactic| walk_at "nw") => `(tactic| refine ⟨by decide +kernel, by decide +kernel, itd' (fun e => absurd e (by decide +kernel)) (fun _ => ?_)⟩)
local macro_rules | `(tactic| walk_at "iw") => `(tactic| refine ⟨by decide +kernel, by decide +kernel, ?_⟩)
local macro_rules | `(tactic| walk_at "ni") => `(tactic| (simp only [strsD, Option.map_some]; walk_at "zs"; refine itd' (fun e => absurd e (by decide +kernel)) (fun _ => ?_)))
local macro_rules | `(tactic| walk_at "yi") => `(tactic| (simp only [strsD, Option.map_some]; walk_at "zs"; refine itd' (fun _ => ?_) (fun e => absurd (by decide +kernel) e)))
theorem orR_some {f : Nat → Option FT} {o : Option FT} {x : FT} : ∀ {n m : Nat}, orR f o n = some x → n ≤ m → orR f o m = some x
  | n, m, e, hl => by
    induction m with
    | zero =>
      have : n = 0 := by omega
      subst this
      exact e
    | succ m ih =>
      by_cases hn : n = m + 1
      · rw [hn] at e
        exact e
      · show (match orR f o m with | some x => some x | none => f m) = _
        rw [ih (by omega)]
theorem orR_step {f : Nat → Option FT} {o : Option FT} {n : Nat} (e : orR f o n = none) : orR f o (n + 1) = f n := by
  show (match orR f o n with | some x => some x | none => f n) = _
  rw [e]
/-! ### told and due -/
theorem eqvAll_refl_ints : ∀ xs : List Int, PyData.eqvAll (xs.map .int) (xs.map .int) = true := fun xs => by
  rw [eqvAll_ints]
  exact decide_eq_true rfl
theorem fault_eqv (p : FT) : PyData.eqv (faultD (some p)) (faultD (some p)) = true := by
  rw [show faultD (some p) = .tuple [.str p.1, .tuple ((p.2.map fun n : Nat => (n : Int)).map .int)] by
    show PyData.tuple [.str p.1, .tuple (p.2.map nD)] = _
    rw [List.map_map]
    rfl]
  unfold PyData.eqv PyData.eqvAll PyData.eqvAll PyData.eqvAll
  rw [eqv_ss, eqv_iT, decide_eq_true rfl, decide_eq_true rfl]
  rfl
theorem fault_shp (p : FT) (h : PyData.strOk p.1 = true) : SeqAt.shaped (faultD (some p)) = true := by
  rw [show faultD (some p) = .tuple [.str p.1, .tuple ((p.2.map fun n : Nat => (n : Int)).map .int)] by
    show PyData.tuple [.str p.1, .tuple (p.2.map nD)] = _
    rw [List.map_map]
    rfl]
  obtain ⟨h1, h2⟩ := lay_ints (p.2.map fun n : Nat => (n : Int))
  simp only [SeqAt.shaped, PyData.canLay0, PyData.canLayAll0, PyData.depth, PyData.depthAll, h1, h2, h, Bool.and_true, Bool.true_and]
  decide
def f__law_is_told : FA := fEx fun cs d => ∃ x : Option FT, cs = [.fr (faultD x), .fr (faultD x)] ∧ (∀ p, x = some p → PyData.strOk p.1 = true ∧ p.2.length ≤ 1000) ∧ d = .bool true
theorem told_use {x : Option FT} {own : Ts} {Q : Hd KC} (h1 : ∀ p, x = some p → PyData.strOk p.1 = true ∧ p.2.length ≤ 1000) (k : Q.v (.fr (.bool true)) own) : @CalB f__law_is_told [.fr (faultD x), .fr (faultD x)] own Q := ex_at rfl ⟨x, rfl, h1, rfl⟩ k
def N__law_is_told : List Str := ["told", "due", "number"]
def w__law_is_told : WS := (wSeq (wIfS (wTest (wIsN (wVar 1))) (wRet (wIsN (wVar 0))) wNext)
  (wSeq (wIfS (wOr (wNot (wTest (wIsi "tuple" (wVar 0)))) (wOr (wTest (wOp fNe (wCB fLen (wCons (wVar 0) wNil)) (wC (.int 2)))) (wNot (wTest (wIsi "tuple" (wOp fIx (wVar 0) (wC (.int 1)))))))) (wRet (wC (.bool false))) wNext)
  (wRet (wAndV (wOp fEq (wVar 0) (wVar 1)) (wCB fAll (wCons (wLc (wiSeq (wOp fIx (wVar 0) (wC (.int 1)))) (wName 2) wYes (wCall 1 f__law_is_int (wCons (wVar 2) wNil)) [2]) wNil))))))
theorem d__law_is_told : ∀ cs own Q, Cl own → cs.length = 2 → f__law_is_told cs own Q → w__law_is_told (enF own.length Q) (startS N__law_is_told cs) own := by
  refine ex_body fun own cs d Q ⟨x, e, hx, e2⟩ k => ?_
  subst e e2
  show w__law_is_told _ [some (.fr (faultD x)), some (.fr (faultD x)), none] _
  unfold w__law_is_told
  cases x with
  | none =>
    rw [show faultD none = PyData.none from rfl]
    walk_at "zy"
    exact k []
  | some p =>
    obtain ⟨h1, h2⟩ := hx p rfl
    have es := fault_shp p h1
    have ee := fault_eqv p
    rw [show faultD (some p) = PyData.tuple [.str p.1, .tuple (p.2.map nD)] from rfl] at es ee ⊢
    walk_at "zy"
    walk_at "zy"
    simp only [isT, show kitB "tuple" "tuple" = some true by decide +kernel]
    walk_at "zx"
    refine itb (fun e => absurd e (by decide)) (fun _ => ?_)
    walk_at "zx"
    simp only [isT, show kitB "tuple" "tuple" = some true by decide +kernel]
    walk_at "zx"
    refine ⟨es, es, ?_⟩
    rw [ee]
    walk_at "zx"
    refine lc_map p.2 nD (fun _ => .bool true) (T0 own []) (by walk_at "zx") (by unfold SZ; omega) (fun i n R S hq h => ?_) ?_
    · walk_at "zx"
      exact isint_use rfl h
    walk_at "zx"
    rw [boolsD_t]
    walk_at "zx"
    rw [all_t]
    exact k []
def NmL (B : Nat) (z : Str) : Prop := z.length ≤ B ∧ PyData.strOk z = true
theorem wins_len {ws : List (Int × Int)} (h : winsB ws = true) : 1 ≤ ws.length ∧ ws.length ≤ 3 := by
  unfold winsB at h
  rw [Bool.and_eq_true] at h
  have := inB_le h.1
  omega
theorem nmok_len {z : Str} (h : NmOk z) : z.length ≤ 12 := by
  obtain ⟨x, t, ht, _, _, rfl⟩ := h
  rw [str_cat_len]
  have := tls_len t ht
  show 1 + t.length ≤ 12
  omega
theorem nmok_b {z : Str} (h : NmOk z) : nmB z = true := by
  have hl := nmok_len h
  obtain ⟨x, t, ht, h1, h2, rfl⟩ := h
  have e1 : ((⟨#[x]⟩ : Str) ++ t).length = 1 + t.length := str_cat_len _ _
  unfold nmB
  rw [inB_of (by omega) (by omega), Bool.true_and, List.all_eq_true]
  have hc : ((⟨#[x]⟩ : Str) ++ t).cps.toList = x :: t.cps.toList := by
    show ((#[x] : Array Nat) ++ t.cps).toList = _
    rw [Array.toList_append]
    rfl
  rw [hc]
  have ha : ∀ y, 97 ≤ y → y < 123 → y ∈ ABC.cps.toList := fun y y1 y2 => by
    have := abc_get (j := y - 97) (by omega)
    rw [show 97 + (y - 97) = y by omega] at this
    exact List.mem_of_getElem? this
  have ht2 : ∀ t ∈ TLS, ∀ y ∈ t.cps.toList, y ∈ ABC.cps.toList := by decide +kernel
  intro y hy
  refine decide_eq_true ?_
  rcases List.mem_cons.mp hy with rfl | hy
  · exact ha _ h1 h2
  · exact ht2 t ht y hy
theorem nodup_new {zs : List Str} (h : zs.Nodup) {i : Nat} {z : Str} (e : zs[i]? = some z) : z ∉ zs.take i := fun hm => by
  obtain ⟨j, hj, ej⟩ := List.mem_iff_getElem.mp hm
  rw [List.length_take] at hj
  rw [List.getElem_take] at ej
  obtain ⟨il, ei⟩ := List.getElem?_eq_some_iff.mp e
  have := List.pairwise_iff_getElem.mp h j i (by omega) il (by omega)
  exact this (by rw [ej, ei])
theorem orR_congr {f g : Nat → Option FT} {o : Option FT} : ∀ {n : Nat}, (∀ i, i < n → f i = g i) → orR f o n = orR g o n
  | 0, _ => rfl
  | n + 1, h => by
    show (match orR f o n with | some x => some x | none => f n) = (match orR g o n with | some x => some x | none => g n)
    rw [orR_congr fun i hi => h i (by omega), h n (by omega)]
theorem orR_id {f : Nat → Option FT} {o : Option FT} : ∀ {n : Nat}, (∀ i, i < n → f i = none) → orR f o n = o
  | 0, _ => rfl
  | n + 1, h => by
    show (match orR f o n with | some x => some x | none => f n) = o
    rw [orR_id fun i hi => h i (by omega), h n (by omega)]
    cases o <;> rfl
theorem orR_mem {f : Nat → Option FT} {o : Option FT} {x : FT} : ∀ {n : Nat}, orR f o n = some x → o = some x ∨ ∃ i, f i = some x
  | 0, h => .inl h
  | n + 1, h => by
    have h : (match orR f o n with | some x => some x | none => f n) = some x := h
    cases e : orR f o n with
    | some y =>
      rw [e] at h
      exact orR_mem (e.trans h)
    | none =>
      rw [e] at h
      exact .inr ⟨n, h⟩
end Zd.K05

/-! Zk07a: drawn houses with rules. -/
namespace Zd.K05
open PySem L2
local macro_rules | `(tactic| walk_at "zs") => `(tactic| simp only [SZ, seqD, Option.bind_some, Bool.not_true, Bool.not_false, eqv_ii, eqv_ss, eqv_bb, shp_i, shp_s, shp_b, shp_n, eq_self, Int.toNat_natCast, range_len, Itf, itb_t, itb_f, optP, opb_some, Cal, wLc, wLcH, wYes, decide_true, decide_false,  ex_lst, List.length_map, Nat.zero_le, Nat.reduceLeDiff, Nat.reduceAdd, wNext, wBreak, wCont, wAsg, wRet, wRetN, wDrop, wIfS, wAug, wPar, wPar3, wTupRev, wSet, wAugS, fSet, fGet, wVar, wFrz, frzC, wC, wOp, wUn, res_fr, res_sc, res_hd, resO_frz, resO_lst, resO_ins, resO_dk, resO_dr, frs_map, fI, fIC, fAdd, fSub, fMul, fDiv, fMod, fPow, fShl, fShr, fAnd, fNeg, fLt, fLe, fGt, fGe, fEq, fNe, fIn, fNotIn, fIsB, fNotB, fIx,
  wSl, fSl, fSlH, wPart, wNoPart, wNil, wCons, wTup, wLst, wLstH, frs, Option.map_some, wTest, wNot, wAnd, wOr, wChain, wIf, wAndV, wOrV, wNotV, wIsN, wNotN, wCB, fLen, fInt, fAbs, fMax2, fMin2, fSum, fSumH, hdD, fMinL, fMinT, fStrI, fJoin, fMaxL, fAll, fAny, fTupleOf, fListOf, fSortedI, fSortedS, fListOfH, wIsi, gname_eq, gnil_eq, gcons_eq, gtup_eq, wiSeq, itemsOf, wiR1, wiR2, wiZip, wiZip3, wiRev, wipeS,
  wBL, wBS, isLst, isStr, fAppend, fPopAt, fPop, fCountI, fExtend, fExtendT, fIndexS, fInsert, fMulT, fAddH, fAddM, wListRg, wListRgH, wFld, wSFld, wFn, wCallF, wT3, fInSg, fInM, fNotInM, wMake, wMeth, InsAt, wDNew, wDPut, fDIn, fDNotIn, fDGet, wDGet1, wDGet2, dkD, keyC, wCall, tb_h, tb_k, tb_seth, tb_setk, tb_app, tb_len, t0_k, t0_setk, t0_app, t0_len, List.getElem?_cons_zero, List.getElem?_cons_succ, List.getElem?_nil, List.set_cons_zero, List.set_cons_succ, List.cons_append, List.nil_append, List.length_cons, List.length_nil, List.map_cons, List.map_nil, Nat.zero_add, if_true, if_false, Bool.false_eq_true, true_and, and_true,
  atI0, atI1, atI2, atI3, atI4, atI5, setI0, setI1, setI2, setI3, decide_eq_true_eq])
local macro_rules | `(tactic| walk_at "zx") => `(tactic| simp -implicitDefEqProofs only [SZ, seqD, Option.bind_some, Bool.not_true, Bool.not_false, eqv_ii, eqv_ss, eqv_bb, shp_i, shp_s, shp_b, shp_n, eq_self, Int.toNat_natCast, range_len, Itf, itb_t, itb_f, optP, opb_some, Cal, wLc, wLcH, wYes, decide_true, decide_false,  ex_lst, List.length_map, Nat.zero_le, Nat.reduceLeDiff, Nat.reduceAdd, wNext, wBreak, wCont, wAsg, wRet, wRetN, wDrop, wIfS, wAug, wPar, wPar3, wTupRev, wSet, wAugS, fSet, fGet, wVar, wFrz, frzC, wC, wOp, wUn, res_fr, res_sc, res_hd, resO_frz, resO_lst, resO_ins, resO_dk, resO_dr, frs_map, fI, fIC, fAdd, fSub, fMul, fDiv, fMod, fPow, fShl, fShr, fAnd, fNeg, fLt, fLe, fGt, fGe, fEq, fNe, fIn, fNotIn, fIsB, fNotB, fIx,
  wSl, fSl, fSlH, wPart, wNoPart, wNil, wCons, wTup, wLst, wLstH, frs, Option.map_some, wTest, wNot, wAnd, wOr, wChain, wIf, wAndV, wOrV, wNotV, wIsN, wNotN, wCB, fLen, fInt, fAbs, fMax2, fMin2, fSum, fSumH, hdD, fMinL, fMinT, fStrI, fJoin, fMaxL, fAll, fAny, fTupleOf, fListOf, fSortedI, fSortedS, fListOfH, wIsi, gname_eq, gnil_eq, gcons_eq, gtup_eq, wiSeq, itemsOf, wiR1, wiR2, wiZip, wiZip3, wiRev, wipeS,
  wBL, wBS, isLst, isStr, fAppend, fPopAt, fPop, fCountI, fExtend, fExtendT, fIndexS, fInsert, fMulT, fAddH, fAddM, wListRg, wListRgH, wFld, wSFld, wFn, wCallF, wT3, fInSg, fInM, fNotInM, wMake, wMeth, InsAt, wDNew, wDPut, fDIn, fDNotIn, fDGet, wDGet1, wDGet2, dkD, keyC, wCall, tb_h, tb_k, tb_seth, tb_setk, tb_app, tb_len, t0_k, t0_setk, t0_app, t0_len, List.getElem?_cons_zero, List.getElem?_cons_succ, List.getElem?_nil, List.set_cons_zero, List.set_cons_succ, List.cons_append, List.nil_append, List.length_cons, List.length_nil, List.map_cons, List.map_nil, Nat.zero_add, if_true, if_false, Bool.false_eq_true, true_and, and_true,
  atI0, atI1, atI2, atI3, atI4, atI5, setI0, setI1, setI2, setI3, decide_eq_true_eq])
local macro_rules | `(tactic| walk_at "z1") => `(tactic| (refine seq1 ?_; try walk_at "zs"))
local macro_rules | `(tactic| walk_at "zy") => `(tactic| (refine seq1 ?_; try walk_at "zx"))
local macro_rules | `(tactic| walk_at "nw") => `(tactic| refine ⟨by decide +kernel, by decide +kernel, itd' (fun e => absurd e (by decide +kernel)) (fun _ => ?_)⟩)
local macro_rules | `(tactic| walk_at "iw") => `(tactic| refine ⟨by decide +kernel, by decide +kernel, ?_⟩)
local macro_rules | `(tactic| walk_at "ni") => `(tactic| (simp only [strsD, Option.map_some]; walk_at "zs"; refine itd' (fun e => absurd e (by decide +kernel)) (fun _ => ?_)))
local macro_rules | `(tactic| walk_at "yi") => `(tactic| (simp only [strsD, Option.map_some]; walk_at "zs"; refine itd' (fun _ => ?_) (fun e => absurd (by decide +kernel) e)))
theorem strsD_f {α : Type} (f : α → Str) : ∀ xs : List α, strsD (xs.map fun x => .str (f x)) = some (xs.map f)
  | [] => rfl
  | x :: xs => by
    show (strsD (xs.map fun x => .str (f x))).map (f x :: ·) = _
    rw [strsD_f f xs]
    rfl
theorem ones_sum {α : Type} (xs : List α) : (xs.map fun _ : α => (1 : Int)).sum = xs.length := by
  induction xs with
  | nil => rfl
  | cons x xs ih => rw [List.map_cons, List.sum_cons, ih, List.length_cons]; omega
theorem cutD_43 {a b c d : D} : cutD [a, b, c, d] none (some 3) = [a, b, c] := by
  rw [show (3 : Int) = ((3 : Nat) : Int) from rfl, cutD_to]
  rfl
theorem min_if {i : Int} : (if i < 6 then i else 6) = (if i < 6 then i else 6) := rfl
theorem hrsB_of {hs : List Int} (h : hrsB hs = true) : ∀ y ∈ hs, 0 ≤ y ∧ y ≤ 6 := fun y hy => by
  unfold hrsB at h
  simp only [Bool.and_eq_true, List.all_eq_true, decide_eq_true_eq] at h
  exact inB_le (h.1.2 y hy)
def toX : RuleT → RuleX
  | .due => .bare "due"
  | .come => .bare "come"
  | .ranks ns => .ranks ns
  | .turns ts => .turns (ts.map fun t => (t.1, (t.2 : Int)))
  | .slots cs => .slots cs
theorem toX_eq (r : RuleT) : ruleD r = ruleX (toX r) := by
  cases r with
  | turns ts =>
    show PyData.tuple [.str "turns", .tuple (ts.map tnD)] = PyData.tuple [.str "turns", .tuple ((ts.map fun t => (t.1, (t.2 : Int))).map siD)]
    rw [List.map_map]
    rfl
  | _ => rfl
/-- a rule that fits and is right -/
def RulG (r : RuleX) (hs : List Int) (ns : List Str) : Prop := RuleFit r ∧ ruleB r hs ns = true
theorem toX_ok {r : RuleT} {hs : List Int} {ns : List Str} (h : RuleOk ns hs r) (hn : SrtK ns) (hh : HrG hs) : RulG (toX r) hs ns := by
  cases r with
  | due => exact ⟨(by decide +kernel : PyData.strOk ("due" : Str) = true), (by decide +kernel : decide (("due" : Str) ∈ DCX) = true)⟩
  | come => exact ⟨(by decide +kernel : PyData.strOk ("come" : Str) = true), (by decide +kernel : decide (("come" : Str) ∈ DCX) = true)⟩
  | ranks told =>
    have h : told.Perm ns := h
    exact ⟨⟨by rw [h.length_eq]; exact hn.1, srtk_perm hn h⟩, List.isPerm_iff.mpr h⟩
  | turns ts =>
    obtain ⟨h1, h2⟩ := h
    have e : (ts.map fun t => (t.1, (t.2 : Int))).map (·.1) = ts.map (·.1) := by rw [List.map_map]; rfl
    refine ⟨?_, ?_⟩
    · show SrtK ((ts.map fun t => (t.1, (t.2 : Int))).map (·.1))
      rw [e]
      exact ⟨by rw [h1.length_eq]; exact hn.1, srtk_perm hn h1⟩
    · show (((ts.map fun t => (t.1, (t.2 : Int))).all fun t => inB t.2 1 4) && ((ts.map fun t => (t.1, (t.2 : Int))).map (·.1)).isPerm ns) = true
      rw [e, List.isPerm_iff.mpr h1, Bool.and_true, List.all_eq_true]
      intro t ht
      obtain ⟨u, hu, rfl⟩ := List.mem_map.mp ht
      obtain ⟨u1, u2⟩ := h2 u hu
      exact inB_of (by dsimp only; omega) (by dsimp only; omega)
  | slots cs =>
    obtain ⟨_, h1, h2, h3, h4⟩ := h
    have hl := hh.l
    have hb := (hrsB_of hh.b)
    have zz : ∀ p ∈ hs.zip cs, (p.2.length : Int) = p.1 := fun p hp => by
      obtain ⟨i, hi⟩ := List.mem_iff_getElem?.mp hp
      rw [List.getElem?_zip_eq_some] at hi
      exact h2 i _ _ hi.2 hi.1
    refine ⟨⟨by omega, fun c hc => ?_⟩, ?_⟩
    · obtain ⟨i, hi⟩ := List.mem_iff_getElem?.mp hc
      have il := lt_of_get hi
      have hx := List.getElem?_eq_getElem (show i < hs.length by omega)
      have := h2 i _ _ hi hx
      have := (hb _ (List.getElem_mem (show i < hs.length by omega))).2
      omega
    · show slB cs hs ns = true
      unfold slB
      rw [decide_eq_true h1, Bool.true_and, Bool.and_eq_true, Bool.and_eq_true]
      refine ⟨List.all_eq_true.mpr fun p hp => decide_eq_true (zz p hp), List.all_eq_true.mpr fun z hz => decide_eq_true (h4 z hz), List.all_eq_true.mpr fun z hz => decide_eq_true (h3 z hz)⟩
/-- a right house -/
structure RgtR (h : HouX) : Prop where
  nd : (h.stas.map (·.nm)).Nodup
  nm : ∀ s ∈ h.stas, NmOk s.nm
  ss : ∀ s ∈ h.stas, HrG s.hrs ∧ stopB s.stop = true
  rl : ∀ s ∈ h.stas, RulG s.rule s.hrs (pnF h.flows s.nm)
  s1 : 1 ≤ h.stas.length
  s6 : h.stas.length ≤ 6
  fnd : (h.flows.map (·.nm)).Nodup
  fnm : ∀ f ∈ h.flows, NmOk f.nm
  f1 : 1 ≤ h.flows.length
  f6 : h.flows.length ≤ 6
  fg : ∀ f ∈ h.flows, FlG (h.stas.map (·.nm)) f
def f__law_house : FA := fDr (fun as => ∃ (s n : Nat), as = [.fr (.int s), .fr (.int n), .fr (.bool false)] ∧ 1 ≤ s ∧ s ≤ 6 ∧ 1 ≤ n ∧ n ≤ 6) fun as d => ∃ h : HouX, d = houX h ∧ RgtR h
theorem house_use {pre post r : Ts} {x : Drw} {Q : Hd KC} {s n : Nat} (h1 : 1 ≤ s) (h2 : s ≤ 6) (h3 : 1 ≤ n) (h4 : n ≤ 6) (k : ∀ h x', RgtR h → Q.v (.fr (houX h)) (Tb pre (drM x') post r)) : @CalB f__law_house [.hd pre.length, .fr (.int s), .fr (.int n), .fr (.bool false)] (Tb pre (drM x) post r) Q :=
  dr_at rfl ⟨s, n, rfl, h1, h2, h3, h4⟩ fun d x' ⟨h, e, g⟩ => by subst e; exact k h x' g
def N__law_house : List Str := ["d", "stations", "flows", "by_dues", "names", "places", "rows", "found", "place", "house", "ruled", "wanted", "hours", "name", "item", "flow", "hop"]
def w__law_house : WS := (wSeq (wAsg (wCall 2 f__law_names (wCons (wVar 0) (wCons (wOp fAdd (wVar 1) (wVar 2)) wNil))) (wName 4))
  (wSeq (wAsg (wSl fSl (wVar 4) wNoPart (wPart (wVar 1))) (wName 5))
  (wSeq (wAsg (wCB fTupleOf (wCons (wLc (wiSeq (wSl fSl (wVar 4) (wPart (wVar 1)) wNoPart)) (wName 13) wYes (wCall 3 f__law_flow (wCons (wVar 0) (wCons (wVar 13) (wCons (wVar 5) wNil)))) [13]) wNil)) (wName 6))
  (wSeq (wAsg (wLstH wNil) (wName 7))
  (wSeq (wFor (wiSeq (wVar 5)) (wName 8) (wSeq (wAsg (wCB fSum (wCons (wLc (wiSeq (wVar 6)) (wName 15) (wTest (wOp fIn (wVar 8) (wLc (wiSeq (wOp fIx (wVar 15) (wC (.int 2)))) (wName 16) wYes (wOp fIx (wVar 16) (wC (.int 0))) [16]))) (wC (.int 1)) [15]) wNil)) (wName 11))
  (wSeq (wAsg (wCall 2 f__law_hours (wCons (wVar 0) (wCons (wCB fMin2 (wCons (wC (.int 6)) (wCons (wOp fAdd (wOp fAdd (wC (.int 1)) (wVar 11)) (wCall 2 f__law_draw (wCons (wVar 0) (wCons (wC (.int 2)) wNil)))) wNil))) wNil))) (wName 12))
  (wDrop (wBL fAppend (wVar 7) (wCons (wTup (wCons (wVar 8) (wCons (wVar 12) (wCons (wCall 1 f__law_stop (wCons (wVar 0) wNil)) (wCons (wTup (wCons (wC (.str "due")) wNil)) wNil))))) wNil))))))
  (wSeq (wAsg (wTup (wCons (wCB fTupleOf (wCons (wFrz (wVar 7)) wNil)) (wCons (wVar 6) wNil))) (wName 9))
  (wSeq (wIfS (wTest (wVar 3)) (wRet (wVar 9)) wNext)
  (wSeq (wAsg (wCB fTupleOf (wCons (wLc (wiSeq (wOp fIx (wVar 9) (wC (.int 0)))) (wName 14) wYes (wOp fAdd (wSl fSl (wVar 14) wNoPart (wPart (wC (.int 3)))) (wTup (wCons (wCall 3 f__law_rule (wCons (wVar 0) (wCons (wCall 2 f__law_passer_names (wCons (wVar 9) (wCons (wOp fIx (wVar 14) (wC (.int 0))) wNil))) (wCons (wOp fIx (wVar 14) (wC (.int 1))) wNil)))) wNil))) [14]) wNil)) (wName 10))
  (wRet (wTup (wCons (wVar 10) (wCons (wVar 6) wNil))))))))))))
theorem d__law_house : ∀ cs own Q, Cl own → cs.length = 4 → f__law_house cs own Q → w__law_house (enF own.length Q) (startS N__law_house cs) own := by
  refine dr_body fun pre x post as Q ⟨s, n, e, s1, s3, n1, n3⟩ k => ?_
  subst e
  have kk : ∀ x' r h, RgtR h → Q (.fr (houX h)) (Tb pre (drM x') post r) := fun x' r h g => k _ x' r ⟨h, rfl, g⟩
  clear k
  show w__law_house _ [some (.hd pre.length), some (.fr (.int s)), some (.fr (.int n)), some (.fr (.bool false)), none, none, none, none, none, none, none, none, none, none, none, none, none] _
  unfold w__law_house
  walk_at "zy"
  rw [show (s : Int) + (n : Int) = ((s + n : Nat) : Int) from rfl]
  refine names_use (by omega) fun zs x hl hnd hok => ?_
  walk_at "zx"
  walk_at "zy"
  rw [cutD_map, cutD_to]
  walk_at "zy"
  have zok : ∀ z ∈ zs, PyData.strOk z = true := fun z hz => nm_ok (hok z hz)
  have p1 : (zs.take s).length = s := by rw [List.length_take]; omega
  have p2 : ∀ z ∈ zs.take s, PyData.strOk z = true := fun z hz => zok z (List.mem_of_mem_take hz)
  have p3 : ∀ z ∈ zs.take s, NmOk z := fun z hz => hok z (List.mem_of_mem_take hz)
  have p4 : (zs.take s).Nodup := hnd.sublist (List.take_sublist _ _)
  have q1 : (zs.drop s).length = n := by rw [List.length_drop]; omega
  have q2 : ∀ z ∈ zs.drop s, PyData.strOk z = true := fun z hz => zok z (List.mem_of_mem_drop hz)
  have q3 : ∀ z ∈ zs.drop s, NmOk z := fun z hz => hok z (List.mem_of_mem_drop hz)
  have q4 : (zs.drop s).Nodup := hnd.sublist (List.drop_sublist _ _)
  generalize zs.take s = ps at *
  refine lc_dr (zs.drop s) .str flD (fun z f => f.nm = z ∧ FlG ps f) pre post [] x (by walk_at "zx"; rw [cutD_map, cutD_from]) (by unfold SZ; omega) (fun i z x T S ha hT => ?_) fun fs x hfs => ?_
  · walk_at "zx"
    refine flow_use p4 (by omega) (by omega) fun f x h0 hf => ?_
    exact hT f x ⟨h0, hf⟩
  have fl := hfs.1
  have hf : ∀ f ∈ fs, FlG ps f := fun f hm => (hfs.at hm).elim fun z h => h.2.2
  have hfn : fs.map (·.nm) = zs.drop s := all2_map hfs fun a b h => h.1
  have fo : FlsOk fs := ⟨fun f hm => ⟨q2 _ (hfn ▸ List.mem_map.mpr ⟨f, hm, rfl⟩), fun h hh => ⟨p2 _ ((hf f hm).sts h hh), gate_ok ((hf f hm).num h hh).2.2⟩, by have := (hf f hm).len; omega⟩, by omega⟩
  walk_at "zx"
  walk_at "zy"
  refine seq1 ?_
  refine for_inv (ps.map .str) (Tb pre (drM x) post [.lst []]) (fun j ss o => ∃ (x : Drw) (sts : List StaX) (z8 z11 z12 : Option C), o = Tb pre (drM x) post [.lst ((sts.map staX).map C.fr)] ∧ ss = [some (.hd pre.length), some (.fr (.int s)), some (.fr (.int n)), some (.fr (.bool false)), some (.fr (.list (zs.map .str))), some (.fr (.list (ps.map .str))), some (.fr (.tuple (fs.map flD))), some (.hd (hb pre post 0)), z8, none, none, z11, z12, none, none, none, none] ∧
    sts.map (·.nm) = ps.take j ∧ ∀ s ∈ sts, HrG s.hrs ∧ stopB s.stop = true ∧ s.rule = .bare "due") ?_ ?_ ?_ ?_
  · walk_at "zx"
  · exact ⟨x, [], _, _, _, rfl, rfl, rfl, fun s hs => by cases hs⟩
  · rintro j d ss o hj ⟨x, sts, z8, z11, z12, rfl, rfl, hm2, ih⟩
    obtain ⟨z, hz, rfl⟩ := get_map hj
    have hzo := p2 z (List.mem_of_getElem? hz)
    have hjl := lt_of_get hz
    have hl2 : sts.length = j := by
      have := congrArg List.length hm2
      rw [List.length_map, List.length_take] at this
      omega
    walk_at "zx"
    walk_at "zy"
    refine lc_fil fs flD (fun _ => .int 1) (fun f => decide (z ∈ f.hops.map (·.st))) (Tb pre (drM x) post [.lst ((sts.map staX).map C.fr)]) (by walk_at "zx") (by unfold SZ; omega) (fun i f R S hq h1 h2 => ?_) ?_
    · have hfl := (hf f (List.mem_of_getElem? hq)).len
      rw [flD_eq]
      walk_at "zx"
      refine lc_map f.hops hopD (fun h => .str h.st) (Tb pre (drM x) post [.lst ((sts.map staX).map C.fr)]) (by walk_at "zx") (by unfold SZ; omega) (fun i h R S hq h => ?_) ?_
      · rw [hopD_eq]
        walk_at "zx"
        exact h
      · walk_at "zx"
        rw [strsD_f (fun h : HopT => h.st)]
        walk_at "zx"
        refine itd' (fun e => ?_) (fun e => ?_)
        · walk_at "zx"
          exact h1 (decide_eq_true e)
        · exact h2 (decide_eq_false e)
    have fil := List.length_filter_le (fun f : FlowT => decide (z ∈ f.hops.map (·.st))) fs
    generalize fs.filter (fun f : FlowT => decide (z ∈ f.hops.map (·.st))) = us at *
    walk_at "zx"
    rw [intsD_map (fun _ : FlowT => (1 : Int))]
    walk_at "zx"
    rw [ones_sum]
    walk_at "zy"
    refine draw_use (by decide) (by decide) fun v x v1 v2 => ?_
    walk_at "zx"
    rw [min_if]
    refine hours_use (by omega) (by omega) fun hs x hhs => ?_
    walk_at "zx"
    refine stop_use fun st x hst => ?_
    walk_at "zx"
    refine ⟨by omega, x, sts ++ [⟨z, hs, st, .bare "due"⟩], _, _, _, ?_, rfl, by rw [List.map_append, hm2, take_get hz]; rfl, mem_snoc ih ⟨hhs, hst, rfl⟩⟩
    rw [List.map_append, List.map_append]
    rfl
  · rintro ss o ⟨x, sts, z8, z11, z12, rfl, rfl, hm2, ih⟩
    rw [List.length_map, List.take_length] at hm2
    have hl2 : sts.length = ps.length := by
      have := congrArg List.length hm2
      rw [List.length_map] at this
      exact this
    have hk0 : HouK ⟨[], fs⟩ := ⟨fun s hs => by (cases hs), Nat.zero_le _, fun f hm => by
      have g := hf f hm
      have n := q3 _ (hfn ▸ List.mem_map.mpr ⟨f, hm, rfl⟩)
      refine ⟨⟨by have := nmok_len n; omega, nm_ok n⟩, by have := (wins_len g.wins).2; omega, by have := g.len; omega, fun p hp => ⟨⟨?_, p2 _ (g.sts p hp)⟩, gate_ok (g.num p hp).2.2⟩⟩
      have := nmok_len (p3 _ (g.sts p hp))
      omega, by show fs.length ≤ 1000; omega⟩
    have hsr : ∀ st, SrtK (pnF fs st) := fun st => pn_srt (h := ⟨[], fs⟩) hk0 (by show fs.length ≤ 6; omega) (fun f hm => by have := (hf f hm).len; omega)
    walk_at "zy"
    walk_at "zy"
    walk_at "zy"
    refine lc_dr sts staX staX (fun s s' => s'.nm = s.nm ∧ HrG s'.hrs ∧ stopB s'.stop = true ∧ RulG s'.rule s'.hrs (pnF fs s'.nm)) pre post [.frz (.list (sts.map staX))] x (by walk_at "zx") (by unfold SZ; omega) (fun i y x T S ha hT => ?_) fun us x hus => ?_
    · have ym := List.mem_of_getElem? ha
      obtain ⟨i1, i2, _⟩ := ih y ym
      have yn := p3 _ (hm2 ▸ List.mem_map.mpr ⟨y, ym, rfl⟩)
      rw [staX_eq]
      walk_at "zx"
      rw [cutD_43]
      refine pnames_use (fs := fs) fo (nm_ok yn) ?_
      walk_at "zx"
      refine rule_use (hs := y.hrs) (by unfold pnF; rw [List.length_map]; exact passF_len fo) i1.ok fun u x hu => ?_
      walk_at "zx"
      have e : PyData.tuple [.str y.nm, hoursD y.hrs, stopD y.stop, ruleD u] = staX ⟨y.nm, y.hrs, y.stop, toX u⟩ := by rw [staX_eq, toX_eq]
      rw [e]
      exact hT _ x ⟨rfl, i1, i2, toX_ok hu (hsr _) i1⟩
    · have hul := hus.1
      have hun : us.map (·.nm) = sts.map (·.nm) := by
        refine List.ext_getElem? fun j => ?_
        rw [List.getElem?_map, List.getElem?_map]
        by_cases hj : j < us.length
        · have e1 := List.getElem?_eq_getElem hj
          have e2 := List.getElem?_eq_getElem (show j < sts.length by omega)
          rw [e1, e2]
          exact congrArg some (hus.2 j _ _ e2 e1).1
        · rw [List.getElem?_eq_none (by omega), List.getElem?_eq_none (by omega)]
      rw [hm2] at hun
      have huk : ∀ s ∈ us, HrG s.hrs ∧ stopB s.stop = true ∧ RulG s.rule s.hrs (pnF fs s.nm) := fun s hs => (hus.at hs).elim fun _ h => h.2.2
      walk_at "zx"
      refine kk _ _ ⟨us, fs⟩ ⟨by rw [hun]; exact p4, fun s hs => p3 _ (hun ▸ List.mem_map.mpr ⟨s, hs, rfl⟩), fun s hs => ⟨(huk s hs).1, (huk s hs).2.1⟩, fun s hs => (huk s hs).2.2, by show 1 ≤ us.length; omega, by show us.length ≤ 6; omega, by rw [hfn]; exact q4, fun f hm => q3 _ (hfn ▸ List.mem_map.mpr ⟨f, hm, rfl⟩), by show 1 ≤ fs.length; omega, by show fs.length ≤ 6; omega, fun f hm => ?_⟩
      show FlG (us.map (·.nm)) f
      rw [hun]
      exact hf f hm
end Zd.K05

/-! Zk07b: the law's own judge of rules. -/
namespace Zd.K05
open PySem L2
local macro_rules | `(tactic| walk_at "zs") => `(tactic| simp only [SZ, seqD, Option.bind_some, Bool.not_true, Bool.not_false, eqv_ii, eqv_ss, eqv_bb, shp_i, shp_s, shp_b, shp_n, eq_self, Int.toNat_natCast, range_len, Itf, itb_t, itb_f, optP, opb_some, Cal, wLc, wLcH, wYes, decide_true, decide_false,  ex_lst, List.length_map, Nat.zero_le, Nat.reduceLeDiff, Nat.reduceAdd, wNext, wBreak, wCont, wAsg, wRet, wRetN, wDrop, wIfS, wAug, wPar, wPar3, wTupRev, wSet, wAugS, fSet, fGet, wVar, wFrz, frzC, wC, wOp, wUn, res_fr, res_sc, res_hd, resO_frz, resO_lst, resO_ins, resO_dk, resO_dr, frs_map, fI, fIC, fAdd, fSub, fMul, fDiv, fMod, fPow, fShl, fShr, fAnd, fNeg, fLt, fLe, fGt, fGe, fEq, fNe, fIn, fNotIn, fIsB, fNotB, fIx,
  wSl, fSl, fSlH, wPart, wNoPart, wNil, wCons, wTup, wLst, wLstH, frs, Option.map_some, wTest, wNot, wAnd, wOr, wChain, wIf, wAndV, wOrV, wNotV, wIsN, wNotN, wCB, fLen, fInt, fAbs, fMax2, fMin2, fSum, fSumH, hdD, fMinL, fMinT, fStrI, fJoin, fMaxL, fAll, fAny, fTupleOf, fListOf, fSortedI, fSortedS, fListOfH, wIsi, gname_eq, gnil_eq, gcons_eq, gtup_eq, wiSeq, itemsOf, wiR1, wiR2, wiZip, wiZip3, wiRev, wipeS,
  wBL, wBS, isLst, isStr, fAppend, fPopAt, fPop, fCountI, fExtend, fExtendT, fIndexS, fInsert, fMulT, fAddH, fAddM, wListRg, wListRgH, wFld, wSFld, wFn, wCallF, wT3, fInSg, fInM, fNotInM, wMake, wMeth, InsAt, wDNew, wDPut, fDIn, fDNotIn, fDGet, wDGet1, wDGet2, dkD, keyC, wCall, tb_h, tb_k, tb_seth, tb_setk, tb_app, tb_len, t0_k, t0_setk, t0_app, t0_len, List.getElem?_cons_zero, List.getElem?_cons_succ, List.getElem?_nil, List.set_cons_zero, List.set_cons_succ, List.cons_append, List.nil_append, List.length_cons, List.length_nil, List.map_cons, List.map_nil, Nat.zero_add, if_true, if_false, Bool.false_eq_true, true_and, and_true,
  atI0, atI1, atI2, atI3, atI4, atI5, setI0, setI1, setI2, setI3, decide_eq_true_eq])
local macro_rules | `(tactic| walk_at "zx") => `(tactic| simp -implicitDefEqProofs only [SZ, seqD, Option.bind_some, Bool.not_true, Bool.not_false, eqv_ii, eqv_ss, eqv_bb, shp_i, shp_s, shp_b, shp_n, eq_self, Int.toNat_natCast, range_len, Itf, itb_t, itb_f, optP, opb_some, Cal, wLc, wLcH, wYes, decide_true, decide_false,  ex_lst, List.length_map, Nat.zero_le, Nat.reduceLeDiff, Nat.reduceAdd, wNext, wBreak, wCont, wAsg, wRet, wRetN, wDrop, wIfS, wAug, wPar, wPar3, wTupRev, wSet, wAugS, fSet, fGet, wVar, wFrz, frzC, wC, wOp, wUn, res_fr, res_sc, res_hd, resO_frz, resO_lst, resO_ins, resO_dk, resO_dr, frs_map, fI, fIC, fAdd, fSub, fMul, fDiv, fMod, fPow, fShl, fShr, fAnd, fNeg, fLt, fLe, fGt, fGe, fEq, fNe, fIn, fNotIn, fIsB, fNotB, fIx,
  wSl, fSl, fSlH, wPart, wNoPart, wNil, wCons, wTup, wLst, wLstH, frs, Option.map_some, wTest, wNot, wAnd, wOr, wChain, wIf, wAndV, wOrV, wNotV, wIsN, wNotN, wCB, fLen, fInt, fAbs, fMax2, fMin2, fSum, fSumH, hdD, fMinL, fMinT, fStrI, fJoin, fMaxL, fAll, fAny, fTupleOf, fListOf, fSortedI, fSortedS, fListOfH, wIsi, gname_eq, gnil_eq, gcons_eq, gtup_eq, wiSeq, itemsOf, wiR1, wiR2, wiZip, wiZip3, wiRev, wipeS,
  wBL, wBS, isLst, isStr, fAppend, fPopAt, fPop, fCountI, fExtend, fExtendT, fIndexS, fInsert, fMulT, fAddH, fAddM, wListRg, wListRgH, wFld, wSFld, wFn, wCallF, wT3, fInSg, fInM, fNotInM, wMake, wMeth, InsAt, wDNew, wDPut, fDIn, fDNotIn, fDGet, wDGet1, wDGet2, dkD, keyC, wCall, tb_h, tb_k, tb_seth, tb_setk, tb_app, tb_len, t0_k, t0_setk, t0_app, t0_len, List.getElem?_cons_zero, List.getElem?_cons_succ, List.getElem?_nil, List.set_cons_zero, List.set_cons_succ, List.cons_append, List.nil_append, List.length_cons, List.length_nil, List.map_cons, List.map_nil, Nat.zero_add, if_true, if_false, Bool.false_eq_true, true_and, and_true,
  atI0, atI1, atI2, atI3, atI4, atI5, setI0, setI1, setI2, setI3, decide_eq_true_eq])
local macro_rules | `(tactic| walk_at "z1") => `(tactic| (refine seq1 ?_; try walk_at "zs"))
local macro_rules | `(tactic| walk_at "zy") => `(tactic| (refine seq1 ?_; try walk_at "zx"))
local macro_rules | `(tactic| walk_at "nw") => `(tactic| refine ⟨by decide +kernel, by decide +kernel, itd' (fun e => absurd e (by decide +kernel)) (fun _ => ?_)⟩)
local macro_rules | `(tactic| walk_at "iw") => `(tactic| refine ⟨by decide +kernel, by decide +kernel, ?_⟩)
local macro_rules | `(tactic| walk_at "ni") => `(tactic| (simp only [strsD, Option.map_some]; walk_at "zs"; refine itd' (fun e => absurd e (by decide +kernel)) (fun _ => ?_)))
local macro_rules | `(tactic| walk_at "yi") => `(tactic| (simp only [strsD, Option.map_some]; walk_at "zs"; refine itd' (fun _ => ?_) (fun e => absurd (by decide +kernel) e)))
def NBX : List Str := ["ranks", "turns", "slots"]
/-- a rule of one word that is no word of a rule with names -/
def BareOk : RuleX → Prop
  | .bare w => ¬ w = "ranks" ∧ ¬ w = "turns" ∧ ¬ w = "slots"
  | _ => True
def f__law_is_right_rule : FA := fEx fun cs d => ∃ (r : RuleX) (hs : List Int) (ns : List Str), cs = [.fr (.list (ns.map .str)), .fr (hoursD hs), .fr (ruleX r)] ∧ RuleFit r ∧ BareOk r ∧ SrtK ns ∧ hs.length ≤ 1000 ∧ d = .bool (ruleB r hs ns)
theorem lrule_use {r : RuleX} {hs : List Int} {ns : List Str} {own : Ts} {Q : Hd KC} (h : RuleFit r) (hb : BareOk r) (h2 : SrtK ns) (h3 : hs.length ≤ 1000) (k : Q.v (.fr (.bool (ruleB r hs ns))) own) : @CalB f__law_is_right_rule [.fr (.list (ns.map .str)), .fr (hoursD hs), .fr (ruleX r)] own Q := ex_at rfl ⟨r, hs, ns, rfl, h, hb, h2, h3, rfl⟩ k
def N__law_is_right_rule : List Str := ["names", "hours", "rule", "every", "k", "name", "credit"]
def w__law_is_right_rule : WS := (wSeq (wIfS (wTest (wOp fIn (wOp fIx (wVar 2) (wC (.int 0))) (wTup (wCons (wC (.str "due")) (wCons (wC (.str "come")) wNil))))) (wRet (wC (.bool true))) wNext)
  (wSeq (wIfS (wTest (wOp fEq (wOp fIx (wVar 2) (wC (.int 0))) (wC (.str "ranks")))) (wRet (wOp fEq (wCB fSortedS (wCons (wOp fIx (wVar 2) (wC (.int 1))) wNil)) (wCB fSortedS (wCons (wVar 0) wNil)))) wNext)
  (wSeq (wIfS (wTest (wOp fEq (wOp fIx (wVar 2) (wC (.int 0))) (wC (.str "turns")))) (wSeq (wIfS (wNot (wTest (wCB fAll (wCons (wLc (wiSeq (wOp fIx (wVar 2) (wC (.int 1)))) (wGTup 2 (wGCons (wName 5) (wGCons (wName 6) wGNil))) wYes (wChain fLe fLe (wC (.int 1)) (wVar 6) (wC (.int 4))) [5, 6]) wNil)))) (wRet (wC (.bool false))) wNext)
  (wRet (wOp fEq (wCB fSortedS (wCons (wLc (wiSeq (wOp fIx (wVar 2) (wC (.int 1)))) (wGTup 2 (wGCons (wName 5) (wGCons (wName 6) wGNil))) wYes (wVar 5) [5, 6]) wNil)) (wCB fSortedS (wCons (wVar 0) wNil))))) wNext)
  (wSeq (wIfS (wOr (wTest (wOp fNe (wOp fIx (wVar 2) (wC (.int 0))) (wC (.str "slots")))) (wTest (wOp fNe (wCB fLen (wCons (wOp fIx (wVar 2) (wC (.int 1))) wNil)) (wCB fLen (wCons (wVar 1) wNil))))) (wRet (wC (.bool false))) wNext)
  (wSeq (wAsg (wLst wNil) (wName 3))
  (wSeq (wFor (wiR1 (wCons (wCB fLen (wCons (wVar 1) wNil)) wNil)) (wName 4) (wSeq (wIfS (wTest (wOp fNe (wCB fLen (wCons (wOp fIx (wOp fIx (wVar 2) (wC (.int 1))) (wVar 4)) wNil)) (wOp fIx (wVar 1) (wVar 4)))) (wRet (wC (.bool false))) wNext)
  (wAsg (wOp fAdd (wVar 3) (wCB fListOf (wCons (wOp fIx (wOp fIx (wVar 2) (wC (.int 1))) (wVar 4)) wNil))) (wName 3))))
  (wRet (wAndV (wCB fAll (wCons (wLc (wiSeq (wVar 3)) (wName 5) wYes (wOp fIn (wVar 5) (wVar 0)) [5]) wNil)) (wCB fAll (wCons (wLc (wiSeq (wVar 0)) (wName 5) wYes (wOp fIn (wVar 5) (wVar 3)) [5]) wNil))))))))))
theorem d__law_is_right_rule : ∀ cs own Q, Cl own → cs.length = 3 → f__law_is_right_rule cs own Q → w__law_is_right_rule (enF own.length Q) (startS N__law_is_right_rule cs) own := by
  refine ex_body fun own cs d Q ⟨r, hs, ns, e, hr, hb, hn, hl, e2⟩ k => ?_
  subst e e2
  show w__law_is_right_rule _ [some (.fr (.list (ns.map .str))), some (.fr (hoursD hs)), some (.fr (ruleX r)), none, none, none, none] _
  unfold w__law_is_right_rule
  cases r with
  | bare w =>
    rw [show ruleB (.bare w) hs ns = decide (w ∈ DCX) from rfl] at k
    rw [show ruleX (.bare w) = .tuple [.str w] from rfl]
    walk_at "zy"
    refine opb_of (x := DCX) rfl ?_
    walk_at "zx"
    cases e : decide (w ∈ DCX) with
    | true =>
      rw [e] at k
      walk_at "zx"
      exact k []
    | false =>
      rw [e] at k
      walk_at "zx"
      walk_at "zy"
      refine ⟨hr, nok1, itd' (fun e => absurd e hb.1) (fun _ => ?_)⟩
      walk_at "zx"
      walk_at "zy"
      refine ⟨hr, nok2, itd' (fun e => absurd e hb.2.1) (fun _ => ?_)⟩
      walk_at "zx"
      walk_at "zy"
      refine ⟨hr, nok3, ?_⟩
      rw [decide_eq_false hb.2.2]
      walk_at "zx"
      exact k []
  | ranks told =>
    rw [show ruleB (.ranks told) hs ns = told.isPerm ns from rfl] at k
    rw [show ruleX (.ranks told) = .tuple [.str "ranks", strsT told] from rfl]
    walk_at "zy"
    refine opb_of (x := DCX) rfl ?_
    walk_at "zx"
    refine itd' (fun e => absurd e nin1) (fun _ => ?_)
    walk_at "zx"
    walk_at "zy"
    rw [strsT_eq]
    refine ⟨nok1, nok1, ?_⟩
    walk_at "zx"
    rw [strsD_ss]
    walk_at "zx"
    refine ⟨hr.1, fun as p1 s1 => ?_⟩
    rw [strsD_ss]
    walk_at "zx"
    refine ⟨hn.1, fun bs p2 s2 => ?_⟩
    rw [eqv_sL, srt_dec p1 p2 s1 s2]
    exact ⟨shp_sL (srtk_perm hr p1), shp_sL (srtk_perm hn p2), k []⟩
  | turns ts =>
    have tl : ts.length < 64 := by have := hr.1; rwa [List.length_map] at this
    rw [show ruleB (.turns ts) hs ns = ((ts.all fun t => inB t.2 1 4) && (ts.map (·.1)).isPerm ns) from rfl] at k
    rw [show ruleX (.turns ts) = .tuple [.str "turns", .tuple (ts.map siD)] from rfl]
    walk_at "zy"
    refine opb_of (x := DCX) rfl ?_
    walk_at "zx"
    refine itd' (fun e => absurd e nin2) (fun _ => ?_)
    walk_at "zx"
    walk_at "zy"
    refine ⟨nok2, nok1, itd' (fun e => absurd e ne21) (fun _ => ?_)⟩
    walk_at "zx"
    walk_at "zy"
    refine ⟨nok2, nok2, ?_⟩
    walk_at "zy"
    refine lc_map ts siD (fun t => .bool (inB t.2 1 4)) (T0 own []) (by walk_at "zx") (by unfold SZ; omega) (fun i t R S hq hR => ?_) ?_
    · unfold inB at hR
      rw [siD_eq]
      walk_at "zx"
      cases c3 : decide ((1 : Int) ≤ t.2) with
      | false =>
        rw [c3] at hR
        walk_at "zx"
        exact hR
      | true =>
      rw [c3] at hR
      walk_at "zx"
      exact hR
    walk_at "zx"
    rw [boolsD_f]
    walk_at "zx"
    rw [all_map]
    cases e : ts.all fun t => inB t.2 1 4 with
    | false =>
      rw [e, Bool.false_and] at k
      walk_at "zx"
      exact k []
    | true =>
    rw [e, Bool.true_and] at k
    walk_at "zx"
    refine lc_map ts siD (fun t => .str t.1) (T0 own []) (by walk_at "zx") (by unfold SZ; omega) (fun i t R S hq hR => ?_) ?_
    · rw [siD_eq]
      walk_at "zx"
      exact hR
    walk_at "zx"
    rw [show ts.map (fun t => PyData.str t.1) = (ts.map (·.1)).map .str by rw [List.map_map]; rfl]
    rw [strsD_ss]
    walk_at "zx"
    refine ⟨tl, fun as p1 s1 => ?_⟩
    rw [strsD_ss]
    walk_at "zx"
    refine ⟨hn.1, fun bs p2 s2 => ?_⟩
    rw [eqv_sL, srt_dec p1 p2 s1 s2]
    exact ⟨shp_sL (srtk_perm hr p1), shp_sL (srtk_perm hn p2), k []⟩
  | slots cs =>
    rw [show ruleB (.slots cs) hs ns = slB cs hs ns from rfl] at k
    obtain ⟨k1, k2⟩ := hr
    have hn1 := hn.1
    unfold slB at k
    rw [show ruleX (.slots cs) = .tuple [.str "slots", .tuple (cs.map strsT)] from rfl, hoursD_eq]
    walk_at "zy"
    refine opb_of (x := DCX) rfl ?_
    walk_at "zx"
    refine itd' (fun e => absurd e nin3) (fun _ => ?_)
    walk_at "zx"
    walk_at "zy"
    refine ⟨nok3, nok1, itd' (fun e => absurd e ne31) (fun _ => ?_)⟩
    walk_at "zx"
    walk_at "zy"
    refine ⟨nok3, nok2, itd' (fun e => absurd e ne32) (fun _ => ?_)⟩
    walk_at "zx"
    walk_at "zy"
    refine ⟨nok3, nok3, ?_⟩
    cases e1 : decide (cs.length = hs.length) with
    | false =>
      have n1 := of_decide_eq_false e1
      rw [e1, Bool.false_and] at k
      refine itb (fun _ => ?_) (fun e => absurd (show (cs.length : Int) = hs.length by simpa using e) (by omega))
      walk_at "zx"
      exact k []
    | true =>
    have n1 := of_decide_eq_true e1
    rw [e1, Bool.true_and] at k
    refine itb (fun e => absurd (show ¬ (cs.length : Int) = hs.length by simpa using e) (by omega)) (fun _ => ?_)
    walk_at "zx"
    walk_at "zy"
    refine seq1 ?_
    refine for_inv (rangeD 0 hs.length) (T0 own []) (fun i ss o => ∃ z4 : Option C, (∀ p ∈ (hs.zip cs).take i, decide ((p.2.length : Int) = p.1) = true) ∧ o = T0 own [] ∧ ss = [some (.fr (.list (ns.map .str))), some (.fr (.tuple (hs.map .int))), some (.fr (.tuple [.str "slots", .tuple (cs.map strsT)])), some (.fr (.list ((((hs.zip cs).take i).flatMap (·.2)).map PyData.str))), z4, none, none]) ?_ ?_ ?_ ?_
    · walk_at "zx"
      omega
    · exact ⟨none, (fun p hp => by cases hp), rfl, rfl⟩
    · rintro i d ss o hi ⟨z4, hg, rfl, rfl⟩
      obtain ⟨il, rfl⟩ := range_get0 hi
      have hx := List.getElem?_eq_getElem il
      have hc := List.getElem?_eq_getElem (show i < cs.length by omega)
      have hp : (hs.zip cs)[i]? = some (hs[i], cs[i]) := List.getElem?_zip_eq_some.mpr ⟨hx, hc⟩
      generalize hs[i] = x at *
      generalize cs[i] = c at *
      have pm := List.mem_of_getElem? hp
      have pl := k2 _ (List.of_mem_zip pm).2
      have zl : (hs.zip cs).length ≤ 1000 := by rw [List.length_zip]; omega
      have fl := flat_len (ps := (hs.zip cs).take i) fun q hq => k2 _ (List.of_mem_zip (List.mem_of_mem_take hq)).2
      have tl : ((hs.zip cs).take i).length ≤ i := by rw [List.length_take]; omega
      have fl2 : (((hs.zip cs).take i).flatMap (·.2)).length ≤ 1000000 := by omega
      rw [take_get hp, List.flatMap_append, List.flatMap_singleton]
      have hg2 : decide ((c.length : Int) = x) = true → ∀ q ∈ (hs.zip cs).take i ++ [(x, c)], decide ((q.2.length : Int) = q.1) = true := fun e q hq => by
        rcases List.mem_append.mp hq with hq | hq
        · exact hg q hq
        · rw [List.mem_singleton.mp hq]; exact e
      generalize ((hs.zip cs).take i).flatMap (·.2) = G at *
      walk_at "zx"
      walk_at "zy"
      refine opb_map hc ?_
      rw [strsT_eq]
      walk_at "zx"
      refine opb_map hx ?_
      walk_at "zx"
      cases e3 : decide ((c.length : Int) = x) with
      | false =>
        walk_at "zx"
        have : ((hs.zip cs).all fun p => decide ((p.2.length : Int) = p.1)) = false := Bool.eq_false_iff.mpr fun e => by
          have := List.all_eq_true.mp e _ pm
          rw [e3] at this
          cases this
        rw [this, Bool.false_and] at k
        exact k _
      | true =>
      walk_at "zx"
      refine opb_map hc ?_
      rw [strsT_eq]
      walk_at "zx"
      rw [← List.map_append]
      exact ⟨by omega, some (.fr (.int i)), (fun q hq => of_decide_eq_true (hg2 e3 q hq)), rfl⟩
    · rintro ss o ⟨z4, hg, rfl, rfl⟩
      rw [rangeD_length] at hg ⊢
      rw [List.take_of_length_le (by rw [List.length_zip]; omega)] at hg ⊢
      rw [zip_flat n1]
      rw [show ((hs.zip cs).all fun p => decide ((p.2.length : Int) = p.1)) = true from List.all_eq_true.mpr hg, Bool.true_and] at k
      have fl := flat_len (ps := hs.zip cs) fun q hq => k2 _ (List.of_mem_zip hq).2
      rw [zip_flat n1, List.length_zip] at fl
      walk_at "zx"
      refine lc_map cs.flatten .str (fun z => .bool (decide (z ∈ ns))) (T0 own []) ?_ (by unfold SZ; omega) (fun i z R S hq hR => ?_) ?_
      · walk_at "zx"
      · walk_at "zx"
        rw [strsD_ss]
        walk_at "zx"
        exact hR
      walk_at "zx"
      rw [boolsD_f]
      walk_at "zx"
      rw [all_map]
      cases e4 : cs.flatten.all fun z => decide (z ∈ ns) with
      | false =>
        rw [e4, Bool.false_and] at k
        walk_at "zx"
        exact k _
      | true =>
      rw [e4, Bool.true_and] at k
      walk_at "zx"
      refine lc_map ns .str (fun z => .bool (decide (z ∈ cs.flatten))) (T0 own []) (by walk_at "zx") (by unfold SZ; omega) (fun i z R S hq hR => ?_) ?_
      · walk_at "zx"
        rw [strsD_ss]
        walk_at "zx"
        exact hR
      walk_at "zx"
      rw [boolsD_f]
      walk_at "zx"
      rw [all_map]
      exact k _
end Zd.K05

/-! Zk07c: houses that are right but for their rules; the two checkers agree. -/
namespace Zd.K05
open PySem L2
local macro_rules | `(tactic| walk_at "zs") => `(tactic| simp only [SZ, seqD, Option.bind_some, Bool.not_true, Bool.not_false, eqv_ii, eqv_ss, eqv_bb, shp_i, shp_s, shp_b, shp_n, eq_self, Int.toNat_natCast, range_len, Itf, itb_t, itb_f, optP, opb_some, Cal, wLc, wLcH, wYes, decide_true, decide_false,  ex_lst, List.length_map, Nat.zero_le, Nat.reduceLeDiff, Nat.reduceAdd, wNext, wBreak, wCont, wAsg, wRet, wRetN, wDrop, wIfS, wAug, wPar, wPar3, wTupRev, wSet, wAugS, fSet, fGet, wVar, wFrz, frzC, wC, wOp, wUn, res_fr, res_sc, res_hd, resO_frz, resO_lst, resO_ins, resO_dk, resO_dr, frs_map, fI, fIC, fAdd, fSub, fMul, fDiv, fMod, fPow, fShl, fShr, fAnd, fNeg, fLt, fLe, fGt, fGe, fEq, fNe, fIn, fNotIn, fIsB, fNotB, fIx,
  wSl, fSl, fSlH, wPart, wNoPart, wNil, wCons, wTup, wLst, wLstH, frs, Option.map_some, wTest, wNot, wAnd, wOr, wChain, wIf, wAndV, wOrV, wNotV, wIsN, wNotN, wCB, fLen, fInt, fAbs, fMax2, fMin2, fSum, fSumH, hdD, fMinL, fMinT, fStrI, fJoin, fMaxL, fAll, fAny, fTupleOf, fListOf, fSortedI, fSortedS, fListOfH, wIsi, gname_eq, gnil_eq, gcons_eq, gtup_eq, wiSeq, itemsOf, wiR1, wiR2, wiZip, wiZip3, wiRev, wipeS,
  wBL, wBS, isLst, isStr, fAppend, fPopAt, fPop, fCountI, fExtend, fExtendT, fIndexS, fInsert, fMulT, fAddH, fAddM, wListRg, wListRgH, wFld, wSFld, wFn, wCallF, wT3, fInSg, fInM, fNotInM, wMake, wMeth, InsAt, wDNew, wDPut, fDIn, fDNotIn, fDGet, wDGet1, wDGet2, dkD, keyC, wCall, tb_h, tb_k, tb_seth, tb_setk, tb_app, tb_len, t0_k, t0_setk, t0_app, t0_len, List.getElem?_cons_zero, List.getElem?_cons_succ, List.getElem?_nil, List.set_cons_zero, List.set_cons_succ, List.cons_append, List.nil_append, List.length_cons, List.length_nil, List.map_cons, List.map_nil, Nat.zero_add, if_true, if_false, Bool.false_eq_true, true_and, and_true,
  atI0, atI1, atI2, atI3, atI4, atI5, setI0, setI1, setI2, setI3, decide_eq_true_eq])
local macro_rules | `(tactic| walk_at "zx") => `(tactic| simp -implicitDefEqProofs only [SZ, seqD, Option.bind_some, Bool.not_true, Bool.not_false, eqv_ii, eqv_ss, eqv_bb, shp_i, shp_s, shp_b, shp_n, eq_self, Int.toNat_natCast, range_len, Itf, itb_t, itb_f, optP, opb_some, Cal, wLc, wLcH, wYes, decide_true, decide_false,  ex_lst, List.length_map, Nat.zero_le, Nat.reduceLeDiff, Nat.reduceAdd, wNext, wBreak, wCont, wAsg, wRet, wRetN, wDrop, wIfS, wAug, wPar, wPar3, wTupRev, wSet, wAugS, fSet, fGet, wVar, wFrz, frzC, wC, wOp, wUn, res_fr, res_sc, res_hd, resO_frz, resO_lst, resO_ins, resO_dk, resO_dr, frs_map, fI, fIC, fAdd, fSub, fMul, fDiv, fMod, fPow, fShl, fShr, fAnd, fNeg, fLt, fLe, fGt, fGe, fEq, fNe, fIn, fNotIn, fIsB, fNotB, fIx,
  wSl, fSl, fSlH, wPart, wNoPart, wNil, wCons, wTup, wLst, wLstH, frs, Option.map_some, wTest, wNot, wAnd, wOr, wChain, wIf, wAndV, wOrV, wNotV, wIsN, wNotN, wCB, fLen, fInt, fAbs, fMax2, fMin2, fSum, fSumH, hdD, fMinL, fMinT, fStrI, fJoin, fMaxL, fAll, fAny, fTupleOf, fListOf, fSortedI, fSortedS, fListOfH, wIsi, gname_eq, gnil_eq, gcons_eq, gtup_eq, wiSeq, itemsOf, wiR1, wiR2, wiZip, wiZip3, wiRev, wipeS,
  wBL, wBS, isLst, isStr, fAppend, fPopAt, fPop, fCountI, fExtend, fExtendT, fIndexS, fInsert, fMulT, fAddH, fAddM, wListRg, wListRgH, wFld, wSFld, wFn, wCallF, wT3, fInSg, fInM, fNotInM, wMake, wMeth, InsAt, wDNew, wDPut, fDIn, fDNotIn, fDGet, wDGet1, wDGet2, dkD, keyC, wCall, tb_h, tb_k, tb_seth, tb_setk, tb_app, tb_len, t0_k, t0_setk, t0_app, t0_len, List.getElem?_cons_zero, List.getElem?_cons_succ, List.getElem?_nil, List.set_cons_zero, List.set_cons_succ, List.cons_append, List.nil_append, List.length_cons, List.length_nil, List.map_cons, List.map_nil, Nat.zero_add, if_true, if_false, Bool.false_eq_true, true_and, and_true,
  atI0, atI1, atI2, atI3, atI4, atI5, setI0, setI1, setI2, setI3, decide_eq_true_eq])
local macro_rules | `(tactic| walk_at "z1") => `(tactic| (refine seq1 ?_; try walk_at "zs"))
local macro_rules | `(tactic| walk_at "zy") => `(tactic| (refine seq1 ?_; try walk_at "zx"))
local macro_rules | `(tactic| walk_at "nw") => `(tactic| refine ⟨by decide +kernel, by decide +kernel, itd' (fun e => absurd e (by decide +kernel)) (fun _ => ?_)⟩)
local macro_rules | `(tactic| walk_at "iw") => `(tactic| refine ⟨by decide +kernel, by decide +kernel, ?_⟩)
local macro_rules | `(tactic| walk_at "ni") => `(tactic| (simp only [strsD, Option.map_some]; walk_at "zs"; refine itd' (fun e => absurd e (by decide +kernel)) (fun _ => ?_)))
local macro_rules | `(tactic| walk_at "yi") => `(tactic| (simp only [strsD, Option.map_some]; walk_at "zs"; refine itd' (fun _ => ?_) (fun e => absurd (by decide +kernel) e)))
/-- a house that is right but for its rules and the number of its flows -/
structure HouQ (h : HouX) : Prop where
  nd : (h.stas.map (·.nm)).Nodup
  nm : ∀ s ∈ h.stas, NmOk s.nm
  ss : ∀ s ∈ h.stas, HrG s.hrs ∧ stopB s.stop = true
  rl : ∀ s ∈ h.stas, RuleFit s.rule ∧ BareOk s.rule
  s1 : 1 ≤ h.stas.length
  s6 : h.stas.length ≤ 6
  fnd : (h.flows.map (·.nm)).Nodup
  fnm : ∀ f ∈ h.flows, nmB f.nm = true ∧ NmX f.nm
  f7 : h.flows.length ≤ 7
  fg : ∀ f ∈ h.flows, FlG (h.stas.map (·.nm)) f
theorem nmok_x {z : Str} (h : NmOk z) : NmX z := ⟨by have := nmok_len h; omega, nm_ok h⟩
theorem HouQ.k {h : HouX} (q : HouQ h) : HouK h := by
  refine ⟨fun s hs => ⟨nmok_x (q.nm s hs), by have := (q.ss s hs).1.l; omega⟩, by have := q.s6; omega, fun f hf => ?_, by have := q.f7; omega⟩
  have g := q.fg f hf
  refine ⟨(q.fnm f hf).2, by have := (wins_len g.wins).2; omega, by have := g.len; rw [List.length_map] at this; have := q.s6; omega, fun p hp => ?_⟩
  obtain ⟨s, hs, e⟩ := List.mem_map.mp (g.sts p hp)
  rw [← e]
  exact ⟨nmok_x (q.nm s hs), gate_ok (g.num p hp).2.2⟩
theorem HouQ.h8 {h : HouX} (q : HouQ h) : ∀ f ∈ h.flows, (f.hops.length : Int) ≤ 8 := fun f hf => by
  have := (q.fg f hf).len
  rw [List.length_map] at this
  have := q.s6
  omega
theorem HouQ.srt {h : HouX} (q : HouQ h) (h6 : h.flows.length ≤ 6) (st : Str) : SrtK (pnF h.flows st) := pn_srt q.k h6 q.h8
theorem ruleg_bare {r : RuleX} {hs : List Int} {ns : List Str} (h : RulG r hs ns) : BareOk r := by
  cases r with
  | bare w =>
    have := h.2
    rw [show ruleB (.bare w) hs ns = decide (w ∈ DCX) from rfl] at this
    have hm := of_decide_eq_true this
    exact ⟨fun e => nin1 (e ▸ hm), fun e => nin2 (e ▸ hm), fun e => nin3 (e ▸ hm)⟩
  | _ => trivial
theorem rgt_q {h : HouX} (r : RgtR h) : HouQ h := ⟨r.nd, r.nm, r.ss, fun s hs => ⟨(r.rl s hs).1, ruleg_bare (r.rl s hs)⟩, r.s1, r.s6, r.fnd, fun f hf => ⟨nmok_b (r.fnm f hf), nmok_x (r.fnm f hf)⟩, by have := r.f6; omega, r.fg⟩
def lawF7 (h : HouX) : Option FT := if inB h.flows.length 1 6 = false then some ("flows", []) else orR (ruleF h) none h.stas.length
theorem st_none7 {h : HouX} (q : HouQ h) : ∀ i, i < h.stas.length → staF h i = none := fun i il => by
  have hs := List.getElem?_eq_getElem il
  obtain ⟨g1, g2⟩ := q.ss _ (List.getElem_mem il)
  have n := q.nm _ (List.getElem_mem il)
  have hnew : newB (h.stas.map (·.nm)) i h.stas[i].nm = true := by
    unfold newB
    rw [nmok_b n, Bool.true_and, decide_eq_false (nodup_new q.nd (by rw [List.getElem?_map, hs]; rfl))]
    rfl
  unfold staF
  rw [hs]
  dsimp only
  rw [if_neg (by rw [hnew]; decide), if_neg (by rw [g1.b]; decide), if_neg (by rw [g2]; decide)]
theorem fl_none7 {h : HouX} (r : HouQ h) : ∀ k, k < h.flows.length → flowF h k = none := fun k kl => by
  have hf := List.getElem?_eq_getElem kl
  have g := r.fg _ (List.getElem_mem kl)
  have n := (r.fnm _ (List.getElem_mem kl)).1
  have hnew : newB (h.flows.map (·.nm)) k h.flows[k].nm = true := by
    unfold newB
    rw [n, Bool.true_and, decide_eq_false (nodup_new r.fnd (by rw [List.getElem?_map, hf]; rfl))]
    rfl
  generalize h.flows[k] = f at *
  have gl := g.len
  rw [List.length_map] at gl
  have s6 := r.s6
  have hops : ∀ m, m ≤ f.hops.length → hopsF h f k m = none := fun m => by
    induction m with
    | zero => intro _; rfl
    | succ m ih =>
      intro hm
      have hp := List.getElem?_eq_getElem (show m < f.hops.length by omega)
      have hmem := List.getElem_mem (show m < f.hops.length by omega)
      obtain ⟨n1, n2, n3⟩ := g.num _ hmem
      obtain ⟨b1, b2⟩ := g.beh m _ hp
      have hnew2 : newStB h f m f.hops[m].st = true := by
        unfold newStB
        rw [decide_eq_true (g.sts _ hmem), decide_eq_false (nodup_new g.nd (by rw [List.getElem?_map, hp]; rfl))]
        rfl
      show (match hopsF h f k m with | some x => some x | none => (hopF h f m).map fun w => (w, [k, m])) = none
      rw [ih (by omega)]
      unfold hopF
      rw [hp]
      dsimp only
      unfold hopP
      rw [if_neg (by rw [hnew2]; decide), if_neg (by rw [inB_of (by omega) (by omega)]; decide), if_neg (by rw [n1]; decide), if_neg (by rw [n2]; decide), if_neg (by rw [decide_eq_true n3]; decide)]
      rfl
  unfold flowF
  rw [hf]
  dsimp only
  rw [if_neg (by rw [hnew]; decide), if_neg (by rw [g.wins]; decide), if_neg (by rw [inB_of (by have := g.l1; omega) (by omega)]; decide)]
  exact hops _ (Nat.le_refl _)
theorem first_law7 {h : HouX} (q : HouQ h) : firstF h = lawF7 h := by
  unfold firstF
  rw [orR_id (st_none7 q)]
  rw [orR_id (fl_none7 q)]
  unfold lawF7 manyF
  rw [if_neg (by rw [inB_of (by have := q.s1; omega) (by have := q.s6; omega)]; decide)]
  by_cases e : inB h.flows.length 1 6 = false
  · rw [if_pos e, if_pos e, orR_some (n := 0) (m := h.stas.length) rfl (Nat.zero_le _)]
  · rw [if_neg e, if_neg e]
theorem law_fin7 {h : HouX} {x : FT} (e : lawF7 h = some x) : PyData.strOk x.1 = true ∧ x.2.length ≤ 1000 := by
  unfold lawF7 at e
  split at e
  · cases e
    exact ⟨(by decide +kernel : PyData.strOk ("flows" : Str) = true), by show 0 ≤ 1000; decide⟩
  · rcases orR_mem e with e | ⟨k, e⟩
    · cases e
    · unfold ruleF at e
      cases e0 : h.stas[k]? with
      | none => rw [e0] at e; cases e
      | some f =>
        rw [e0] at e
        dsimp only at e
        split at e
        · cases e
        · cases e
          exact ⟨(by decide +kernel : PyData.strOk ("rule" : Str) = true), by show 1 ≤ 1000; decide⟩
theorem rgt_none7 {h : HouX} (r : RgtR h) : lawF7 h = none := by
  unfold lawF7
  rw [if_neg (by rw [inB_of (by have := r.f1; omega) (by have := r.f6; omega)]; decide)]
  refine orR_id fun i il => ?_
  have hs := List.getElem?_eq_getElem il
  unfold ruleF
  rw [hs]
  dsimp only
  rw [if_pos (r.rl _ (List.getElem_mem il)).2]
def f__law_first : FA := fEx fun cs d => ∃ h, cs = [.fr (houX h)] ∧ HouQ h ∧ d = faultD (lawF7 h)
theorem lfirst_use {h : HouX} {own : Ts} {Q : Hd KC} (h1 : HouQ h) (k : Q.v (.fr (faultD (lawF7 h))) own) : @CalB f__law_first [.fr (houX h)] own Q := ex_at rfl ⟨h, rfl, h1, rfl⟩ k
def N__law_first : List Str := ["house", "s", "name", "hours", "stop", "rule"]
def w__law_first : WS := (wSeq (wIfS (wNot (wTest (wChain fLe fLe (wC (.int 1)) (wCB fLen (wCons (wOp fIx (wVar 0) (wC (.int 1))) wNil)) (wC (.int 6))))) (wRet (wTup (wCons (wC (.str "flows")) (wCons (wTup wNil) wNil)))) wNext)
  (wSeq (wFor (wiR1 (wCons (wCB fLen (wCons (wOp fIx (wVar 0) (wC (.int 0))) wNil)) wNil)) (wName 1) (wSeq (wAsg (wOp fIx (wOp fIx (wVar 0) (wC (.int 0))) (wVar 1)) (wGTup 4 (wGCons (wName 2) (wGCons (wName 3) (wGCons (wName 4) (wGCons (wName 5) wGNil))))))
  (wIfS (wNot (wTest (wCall 3 f__law_is_right_rule (wCons (wCall 2 f__law_passer_names (wCons (wVar 0) (wCons (wVar 2) wNil))) (wCons (wVar 3) (wCons (wVar 5) wNil)))))) (wRet (wTup (wCons (wC (.str "rule")) (wCons (wTup (wCons (wVar 1) wNil)) wNil)))) wNext)))
  (wRet (wC .none))))
theorem d__law_first : ∀ cs own Q, Cl own → cs.length = 1 → f__law_first cs own Q → w__law_first (enF own.length Q) (startS N__law_first cs) own := by
  refine ex_body fun own cs d Q ⟨h, e, hq, e2⟩ k => ?_
  subst e e2
  have hk := hq.k
  have sl := hk.sl
  have fl := hk.fl
  have fo := fls_ok hk
  unfold lawF7 at k
  show w__law_first _ [some (.fr (houX h)), none, none, none, none, none] _
  unfold w__law_first
  rw [houX_eq, flsD_eq]
  refine seq_cut (fun ss o => inB h.flows.length 1 6 = true ∧ o = T0 own [] ∧ ss = [some (.fr (.tuple [.tuple (h.stas.map staX), .tuple (h.flows.map flD)])), none, none, none, none, none]) ?_ ?_
  · have bad : inB h.flows.length 1 6 = false → Q (.fr (.tuple [.str "flows", .tuple []])) (T0 own []) := fun e => by
      rw [if_pos e] at k
      exact k []
    walk_at "zx"
    unfold inB at bad ⊢
    cases a1 : decide ((1 : Int) ≤ h.flows.length) with
    | false =>
      walk_at "zx"
      exact bad (by rw [a1]; rfl)
    | true =>
    walk_at "zx"
    cases a2 : decide ((h.flows.length : Int) ≤ 6) with
    | false =>
      walk_at "zx"
      exact bad (by rw [a1, a2]; rfl)
    | true =>
    walk_at "zx"
    rfl
  rintro ss o ⟨g1, rfl, rfl⟩
  rw [if_neg (by rw [g1]; decide)] at k
  have f6 := (inB_le g1).2
  refine seq1 ?_
  refine for_inv (rangeD 0 h.stas.length) (T0 own []) (fun n ss o => ∃ z1 z2 z3 z4 z5 : Option C, orR (ruleF h) none n = none ∧ o = T0 own [] ∧ ss = [some (.fr (.tuple [.tuple (h.stas.map staX), .tuple (h.flows.map flD)])), z1, z2, z3, z4, z5]) ?_ ?_ ?_ ?_
  · walk_at "zx"
    exact ⟨by omega, by omega⟩
  · exact ⟨none, none, none, none, none, rfl, rfl, rfl⟩
  · rintro n d ss o hi ⟨z1, z2, z3, z4, z5, hn, rfl, rfl⟩
    obtain ⟨il, rfl⟩ := range_get0 hi
    have hs := List.getElem?_eq_getElem il
    have hm := List.getElem_mem il
    have es := orR_step (f := ruleF h) hn
    have er : ruleF h n = (if ruleB h.stas[n].rule h.stas[n].hrs (pnF h.flows h.stas[n].nm) = true then none else some ("rule", [n]) : Option FT) := by
      unfold ruleF
      rw [hs]
    generalize h.stas[n] = s at *
    walk_at "zx"
    walk_at "zy"
    refine opb_map hs ?_
    rw [staX_eq]
    walk_at "zx"
    refine pnames_use (fs := h.flows) fo (nm_ok (hq.nm s hm)) ?_
    walk_at "zx"
    refine lrule_use (hq.rl s hm).1 (hq.rl s hm).2 (hq.srt (by omega) _) (by have := (hq.ss s hm).1.l; omega) ?_
    cases eb : ruleB s.rule s.hrs (pnF h.flows s.nm) with
    | true =>
      rw [eb, if_pos rfl] at er
      walk_at "zx"
      exact ⟨_, _, _, _, _, es.trans er, rfl⟩
    | false =>
      rw [eb, if_neg (by decide)] at er
      rw [orR_some (es.trans er) (show n + 1 ≤ h.stas.length by omega)] at k
      walk_at "zx"
      exact k []
  · rintro ss o ⟨z1, z2, z3, z4, z5, hn, rfl, rfl⟩
    rw [range_len] at hn
    rw [hn] at k
    walk_at "zx"
    exact k []
end Zd.K05

/-! Zk07d: a name taken out; other names. -/
namespace Zd.K05
open PySem L2
local macro_rules | `(tactic| walk_at "zs") => `(tactic| simp only [SZ, seqD, Option.bind_some, Bool.not_true, Bool.not_false, eqv_ii, eqv_ss, eqv_bb, shp_i, shp_s, shp_b, shp_n, eq_self, Int.toNat_natCast, range_len, Itf, itb_t, itb_f, optP, opb_some, Cal, wLc, wLcH, wYes, decide_true, decide_false,  ex_lst, List.length_map, Nat.zero_le, Nat.reduceLeDiff, Nat.reduceAdd, wNext, wBreak, wCont, wAsg, wRet, wRetN, wDrop, wIfS, wAug, wPar, wPar3, wTupRev, wSet, wAugS, fSet, fGet, wVar, wFrz, frzC, wC, wOp, wUn, res_fr, res_sc, res_hd, resO_frz, resO_lst, resO_ins, resO_dk, resO_dr, frs_map, fI, fIC, fAdd, fSub, fMul, fDiv, fMod, fPow, fShl, fShr, fAnd, fNeg, fLt, fLe, fGt, fGe, fEq, fNe, fIn, fNotIn, fIsB, fNotB, fIx,
  wSl, fSl, fSlH, wPart, wNoPart, wNil, wCons, wTup, wLst, wLstH, frs, Option.map_some, wTest, wNot, wAnd, wOr, wChain, wIf, wAndV, wOrV, wNotV, wIsN, wNotN, wCB, fLen, fInt, fAbs, fMax2, fMin2, fSum, fSumH, hdD, fMinL, fMinT, fStrI, fJoin, fMaxL, fAll, fAny, fTupleOf, fListOf, fSortedI, fSortedS, fListOfH, wIsi, gname_eq, gnil_eq, gcons_eq, gtup_eq, wiSeq, itemsOf, wiR1, wiR2, wiZip, wiZip3, wiRev, wipeS,
  wBL, wBS, isLst, isStr, fAppend, fPopAt, fPop, fCountI, fExtend, fExtendT, fIndexS, fInsert, fMulT, fAddH, fAddM, wListRg, wListRgH, wFld, wSFld, wFn, wCallF, wT3, fInSg, fInM, fNotInM, wMake, wMeth, InsAt, wDNew, wDPut, fDIn, fDNotIn, fDGet, wDGet1, wDGet2, dkD, keyC, wCall, tb_h, tb_k, tb_seth, tb_setk, tb_app, tb_len, t0_k, t0_setk, t0_app, t0_len, List.getElem?_cons_zero, List.getElem?_cons_succ, List.getElem?_nil, List.set_cons_zero, List.set_cons_succ, List.cons_append, List.nil_append, List.length_cons, List.length_nil, List.map_cons, List.map_nil, Nat.zero_add, if_true, if_false, Bool.false_eq_true, true_and, and_true,
  atI0, atI1, atI2, atI3, atI4, atI5, setI0, setI1, setI2, setI3, decide_eq_true_eq])
local macro_rules | `(tactic| walk_at "zx") => `(tactic| simp -implicitDefEqProofs only [SZ, seqD, Option.bind_some, Bool.not_true, Bool.not_false, eqv_ii, eqv_ss, eqv_bb, shp_i, shp_s, shp_b, shp_n, eq_self, Int.toNat_natCast, range_len, Itf, itb_t, itb_f, optP, opb_some, Cal, wLc, wLcH, wYes, decide_true, decide_false,  ex_lst, List.length_map, Nat.zero_le, Nat.reduceLeDiff, Nat.reduceAdd, wNext, wBreak, wCont, wAsg, wRet, wRetN, wDrop, wIfS, wAug, wPar, wPar3, wTupRev, wSet, wAugS, fSet, fGet, wVar, wFrz, frzC, wC, wOp, wUn, res_fr, res_sc, res_hd, resO_frz, resO_lst, resO_ins, resO_dk, resO_dr, frs_map, fI, fIC, fAdd, fSub, fMul, fDiv, fMod, fPow, fShl, fShr, fAnd, fNeg, fLt, fLe, fGt, fGe, fEq, fNe, fIn, fNotIn, fIsB, fNotB, fIx,
  wSl, fSl, fSlH, wPart, wNoPart, wNil, wCons, wTup, wLst, wLstH, frs, Option.map_some, wTest, wNot, wAnd, wOr, wChain, wIf, wAndV, wOrV, wNotV, wIsN, wNotN, wCB, fLen, fInt, fAbs, fMax2, fMin2, fSum, fSumH, hdD, fMinL, fMinT, fStrI, fJoin, fMaxL, fAll, fAny, fTupleOf, fListOf, fSortedI, fSortedS, fListOfH, wIsi, gname_eq, gnil_eq, gcons_eq, gtup_eq, wiSeq, itemsOf, wiR1, wiR2, wiZip, wiZip3, wiRev, wipeS,
  wBL, wBS, isLst, isStr, fAppend, fPopAt, fPop, fCountI, fExtend, fExtendT, fIndexS, fInsert, fMulT, fAddH, fAddM, wListRg, wListRgH, wFld, wSFld, wFn, wCallF, wT3, fInSg, fInM, fNotInM, wMake, wMeth, InsAt, wDNew, wDPut, fDIn, fDNotIn, fDGet, wDGet1, wDGet2, dkD, keyC, wCall, tb_h, tb_k, tb_seth, tb_setk, tb_app, tb_len, t0_k, t0_setk, t0_app, t0_len, List.getElem?_cons_zero, List.getElem?_cons_succ, List.getElem?_nil, List.set_cons_zero, List.set_cons_succ, List.cons_append, List.nil_append, List.length_cons, List.length_nil, List.map_cons, List.map_nil, Nat.zero_add, if_true, if_false, Bool.false_eq_true, true_and, and_true,
  atI0, atI1, atI2, atI3, atI4, atI5, setI0, setI1, setI2, setI3, decide_eq_true_eq])
local macro_rules | `(tactic| walk_at "z1") => `(tactic| (refine seq1 ?_; try walk_at "zs"))
local macro_rules | `(tactic| walk_at "zy") => `(tactic| (refine seq1 ?_; try walk_at "zx"))
local macro_rules | `(tactic| walk_at "nw") => `(tactic| refine ⟨by decide +kernel, by decide +kernel, itd' (fun e => absurd e (by decide +kernel)) (fun _ => ?_)⟩)
local macro_rules | `(tactic| walk_at "iw") => `(tactic| refine ⟨by decide +kernel, by decide +kernel, ?_⟩)
local macro_rules | `(tactic| walk_at "ni") => `(tactic| (simp only [strsD, Option.map_some]; walk_at "zs"; refine itd' (fun e => absurd e (by decide +kernel)) (fun _ => ?_)))
local macro_rules | `(tactic| walk_at "yi") => `(tactic| (simp only [strsD, Option.map_some]; walk_at "zs"; refine itd' (fun _ => ?_) (fun e => absurd (by decide +kernel) e)))
theorem fr_refs (ds : List D) : (MO.lst (ds.map C.fr)).refs = [] := by
  show (ds.map C.fr).flatMap C.refs = []
  induction ds with
  | nil => rfl
  | cons d ds ih => rw [List.map_cons, List.flatMap_cons, ih]; rfl
def f__law_pop : FA := fun cs own Q => ∃ (pre post : Ts) (x : Drw) (ds : List D), cs = [.hd pre.length, .hd (hb pre post 0)] ∧ own = Tb pre (drM x) post [.lst (ds.map .fr)] ∧ 0 < ds.length ∧ ds.length ≤ SZ ∧ ∀ (d : D) (es : List D) x', es.length + 1 = ds.length → (∀ e ∈ es, e ∈ ds) → Q (.fr d) (Tb pre (drM x') post [.lst (es.map .fr)])
theorem pop_use {pre post : Ts} {x : Drw} {Q : Hd KC} {ds : List D} (h1 : 0 < ds.length) (h2 : ds.length ≤ SZ) (k : ∀ (d : D) (es : List D) x', es.length + 1 = ds.length → (∀ e ∈ es, e ∈ ds) → Q.v (.fr d) (Tb pre (drM x') post [.lst (es.map .fr)])) : @CalB f__law_pop [.hd pre.length, .hd (hb pre post 0)] (Tb pre (drM x) post [.lst (ds.map .fr)]) Q := ⟨pre, post, x, ds, rfl, rfl, h1, h2, k⟩
def N__law_pop : List Str := ["d", "row"]
def w__law_pop : WS := (wRet (wBL fPopAt (wVar 1) (wCons (wCall 2 f__law_draw (wCons (wVar 0) (wCons (wCB fLen (wCons (wVar 1) wNil)) wNil))) wNil)))
theorem d__law_pop : ∀ cs own Q, Cl own → cs.length = 2 → f__law_pop cs own Q → w__law_pop (enF own.length Q) (startS N__law_pop cs) own := by
  rintro cs own Q hc _ ⟨pre, post, x, ds, rfl, rfl, h1, h2, k⟩
  have kE : ∀ (d : D) (es : List D) x', es.length + 1 = ds.length → (∀ e ∈ es, e ∈ ds) → (enF (Tb pre (drM x) post [.lst (ds.map .fr)]).length Q).rt (.fr d) (Tb pre (drM x') post [.lst (es.map .fr)]) := fun d es x' e1 e2 => by
    refine ⟨_, Nat.le_refl _, (fun j hj => nomatch hj), ?_, ?_⟩
    · rw [tb_len, show hb pre post [MO.lst (ds.map .fr)].length = (Tb pre (drM x') post [.lst (es.map .fr)]).length by rw [tb_len]; rfl, List.take_length]
      intro m hm j hj
      unfold Tb at hm
      rcases List.mem_append.mp hm with hm | hm
      · have := hc m (by unfold Tb; exact List.mem_append_left _ hm) j hj
        rw [tb_len] at this ⊢
        exact this
      · rcases List.mem_cons.mp hm with rfl | hm
        · cases hj
        · rcases List.mem_append.mp hm with hm | hm
          · have := hc m (by unfold Tb; exact List.mem_append_right _ (List.mem_cons_of_mem _ (List.mem_append_left _ hm))) j hj
            rw [tb_len] at this ⊢
            exact this
          · rw [List.mem_singleton.mp hm, fr_refs] at hj
            cases hj
    · rw [tb_len, show hb pre post [MO.lst (ds.map .fr)].length = (Tb pre (drM x') post [.lst (es.map .fr)]).length by rw [tb_len]; rfl, List.take_length]
      exact k d es x' e1 e2
  generalize enF (Tb pre (drM x) post [.lst (ds.map .fr)]).length Q = E at *
  clear k hc
  unfold SZ at h2
  show w__law_pop E [some (.hd pre.length), some (.hd (hb pre post 0))] _
  unfold w__law_pop
  walk_at "zx"
  refine draw_use (by omega) (by omega) fun v x' l1 l2 => ?_
  have hv : v.toNat < ds.length := by omega
  walk_at "zx"
  refine ⟨by omega, v.toNat, .fr ds[v.toNat], ixN_nat l1 l2, by rw [List.getElem?_map, List.getElem?_eq_getElem hv]; rfl, ?_⟩
  walk_at "zx"
  rw [era_map]
  exact kE _ _ _ (by rw [List.length_eraseIdx_of_lt hv]; omega) fun e he => List.mem_of_mem_eraseIdx he
theorem a_ok : PyData.strOk ("a" : Str) = true := by decide +kernel
theorem nob_ok : PyData.strOk ("nobodyhere" : Str) = true := by decide +kernel
/-- texts that are fit -/
def OkS (zs : List Str) : Prop := ∀ z ∈ zs, PyData.strOk z = true
theorem strs_all {ns : List Str} : ∀ {es : List D}, (∀ e ∈ es, e ∈ ns.map PyData.str) → ∃ out : List Str, es = out.map .str ∧ ∀ z ∈ out, z ∈ ns
  | [], _ => ⟨[], rfl, fun z hz => nomatch hz⟩
  | e :: es, h => by
    obtain ⟨out, rfl, ho⟩ := strs_all fun x hx => h x (List.mem_cons_of_mem e hx)
    obtain ⟨z, hz, rfl⟩ := List.mem_map.mp (h e List.mem_cons_self)
    exact ⟨z :: out, rfl, fun y hy => (List.mem_cons.mp hy).elim (fun e => e ▸ hz) (ho y)⟩
theorem setI_map {ds : List D} {w : Nat} {d : D} (h : w < ds.length) : setI (ds.map C.fr) (w : Int) (.fr d) = some ((ds.set w d).map C.fr) := by
  unfold setI ixN
  rw [if_pos (by omega), if_pos (by rw [List.length_map]; omega), Int.toNat_natCast, List.map_set]
  rfl
def SeqS (c : C) (ns : List Str) : Prop := c = .fr (strsT ns) ∨ c = .fr (.list (ns.map .str))
def f__law_other_names : FA := fun cs own Q => ∃ (pre post : Ts) (x : Drw) (h : HouX) (c : C) (ns : List Str), cs = [.hd pre.length, .fr (houX h), c] ∧ own = pre ++ drM x :: post ∧ HouK h ∧ 0 < h.stas.length ∧ SeqS c ns ∧ ns.length ≤ 10000 ∧ (∀ z ∈ ns, NmX z) ∧ ∀ out x', out.length ≤ ns.length + 1 → OkS out → Q (.fr (strsT out)) (pre ++ drM x' :: post)
theorem onames_use {pre post r : Ts} {x : Drw} {Q : Hd KC} {h : HouX} {c : C} {ns : List Str} (h1 : HouK h) (h2 : 0 < h.stas.length) (h3 : SeqS c ns) (h4 : ns.length ≤ 10000) (h5 : ∀ z ∈ ns, NmX z) (k : ∀ out x', out.length ≤ ns.length + 1 → OkS out → Q.v (.fr (strsT out)) (Tb pre (drM x') post r)) : @CalB f__law_other_names [.hd pre.length, .fr (houX h), c] (Tb pre (drM x) post r) Q := ⟨pre, post ++ r, x, h, c, ns, rfl, rfl, h1, h2, h3, h4, h5, k⟩
def N__law_other_names : List Str := ["d", "house", "names", "row", "others", "mode", "name", "flow"]
def w__law_other_names : WS := (wSeq (wAsg (wCB fListOfH (wCons (wVar 2) wNil)) (wName 3))
  (wSeq (wAsg (wOp fAdd (wOp fAdd (wLc (wiSeq (wOp fIx (wVar 1) (wC (.int 1)))) (wName 7) wYes (wOp fIx (wVar 7) (wC (.int 0))) [7]) (wLst (wCons (wC (.str "nobodyhere")) (wCons (wOp fIx (wOp fIx (wOp fIx (wVar 1) (wC (.int 0))) (wC (.int 0))) (wC (.int 0))) wNil)))) (wLc (wiSeq (wVar 2)) (wName 6) wYes (wOp fAdd (wVar 6) (wC (.str "a"))) [6])) (wName 4))
  (wSeq (wAsg (wCall 2 f__law_draw (wCons (wVar 0) (wCons (wC (.int 4)) wNil))) (wName 5))
  (wSeq (wIfS (wAnd (wTest (wOp fEq (wVar 5) (wC (.int 0)))) (wTest (wOp fGt (wCB fLen (wCons (wVar 3) wNil)) (wC (.int 0))))) (wDrop (wCall 2 f__law_pop (wCons (wVar 0) (wCons (wVar 3) wNil)))) (wIfS (wAnd (wTest (wOp fEq (wVar 5) (wC (.int 1)))) (wTest (wOp fGt (wCB fLen (wCons (wVar 3) wNil)) (wC (.int 0))))) (wAsg (wCall 2 f__law_pick (wCons (wVar 0) (wCons (wVar 4) wNil))) (wSet (wVar 3) (wCall 2 f__law_draw (wCons (wVar 0) (wCons (wCB fLen (wCons (wVar 3) wNil)) wNil))))) (wIfS (wTest (wOp fEq (wVar 5) (wC (.int 2)))) (wDrop (wBL fInsert (wVar 3) (wCons (wCall 2 f__law_draw (wCons (wVar 0) (wCons (wOp fAdd (wCB fLen (wCons (wVar 3) wNil)) (wC (.int 1))) wNil))) (wCons (wCall 2 f__law_pick (wCons (wVar 0) (wCons (wVar 4) wNil))) wNil)))) (wAsg (wCall 2 f__law_shuffled (wCons (wVar 0) (wCons (wFrz (wVar 3)) wNil))) (wName 3)))))
  (wRet (wCB fTupleOf (wCons (wFrz (wVar 3)) wNil)))))))
theorem d__law_other_names : ∀ cs own Q, Cl own → cs.length = 3 → f__law_other_names cs own Q → w__law_other_names (enF own.length Q) (startS N__law_other_names cs) own := by
  rintro cs own Q hc _ ⟨pre, post, x, h, c, ns, rfl, rfl, hk, h0, hs, hn, ho, k⟩
  refine dr_start hc fun E hE => ?_
  have kE : ∀ out x' r, out.length ≤ ns.length + 1 → OkS out → E.rt (.fr (.tuple (out.map .str))) (Tb pre (drM x') post r) := fun out x' r h1 h2 => hE _ x' r (k out x' h1 h2)
  clear k hc hE
  have fl := hk.fl
  have hs0 := List.getElem?_eq_getElem h0
  have nz := (hk.ss _ (List.getElem_mem h0)).nm.2
  have nf : ∀ f ∈ h.flows, PyData.strOk f.nm = true := fun f hf => (hk.fs f hf).nm.2
  generalize h.stas[0] = s0 at *
  show w__law_other_names E [some (.hd pre.length), some (.fr (houX h)), some c, none, none, none, none, none] _
  unfold w__law_other_names
  rw [houX_eq, flsD_eq]
  refine seq_cut (fun ss o => o = Tb pre (drM x) post [.lst ((ns.map PyData.str).map C.fr)] ∧ ss = [some (.hd pre.length), some (.fr (.tuple [.tuple (h.stas.map staX), .tuple (h.flows.map flD)])), some c, some (.hd (hb pre post 0)), none, none, none, none]) ?_ ?_
  · rcases hs with rfl | rfl
    · rw [strsT_eq]
      walk_at "zx"
    · walk_at "zx"
  rintro ss o ⟨rfl, rfl⟩
  refine seq_cut (fun ss o => ∃ os : List Str, 0 < os.length ∧ os.length ≤ 12000 ∧ OkS os ∧ o = Tb pre (drM x) post [.lst ((ns.map PyData.str).map C.fr)] ∧ ss = [some (.hd pre.length), some (.fr (.tuple [.tuple (h.stas.map staX), .tuple (h.flows.map flD)])), some c, some (.hd (hb pre post 0)), some (.fr (.list (os.map .str))), none, none, none]) ?_ ?_
  · walk_at "zx"
    refine lc_map h.flows flD (fun f => .str f.nm) (Tb pre (drM x) post [.lst ((ns.map PyData.str).map C.fr)]) (by walk_at "zx") (by unfold SZ; omega) (fun i f R S hq hR => ?_) ?_
    · rw [flD_eq]
      walk_at "zx"
      exact hR
    walk_at "zx"
    refine opb_map hs0 ?_
    rw [staX_eq]
    walk_at "zx"
    refine ⟨by omega, ?_⟩
    refine lc_map ns .str (fun z => .str (z ++ "a")) (Tb pre (drM x) post [.lst ((ns.map PyData.str).map C.fr)]) ?_ (by unfold SZ; omega) (fun i z R S hq hR => ?_) ?_
    · rcases hs with rfl | rfl
      · rw [strsT_eq]
        walk_at "zx"
      · walk_at "zx"
    · have := (ho z (List.mem_of_getElem? hq)).1
      walk_at "zx"
      exact ⟨by rw [show ("a" : Str).length = 1 by decide +kernel]; omega, hR⟩
    walk_at "zx"
    rw [List.length_append, List.length_map]
    refine ⟨by show h.flows.length + 2 + ns.length ≤ _; omega, h.flows.map (·.nm) ++ [("nobodyhere" : Str), s0.nm] ++ ns.map (· ++ ("a" : Str)), ?_, ?_, ?_, ?_⟩
    · rw [List.length_append, List.length_append]
      show 0 < _ + 2 + _
      omega
    · rw [List.length_append, List.length_append, List.length_map, List.length_map]
      show _ + 2 + _ ≤ _
      omega
    · intro z hz
      rcases List.mem_append.mp hz with hz | hz
      · rcases List.mem_append.mp hz with hz | hz
        · obtain ⟨f, hf, rfl⟩ := List.mem_map.mp hz
          exact nf f hf
        · rcases List.mem_cons.mp hz with rfl | hz
          · exact nob_ok
          · rw [List.mem_singleton.mp hz]
            exact nz
      · obtain ⟨y, hy, rfl⟩ := List.mem_map.mp hz
        exact ok_cat (ho y hy).2 a_ok
    · rw [List.map_append, List.map_append, List.map_map, List.map_map]
      rfl
  rintro ss o ⟨os, ol0, ol, oo, rfl, rfl⟩
  have hno : OkS ns := fun z hz => (ho z hz).2
  have hpick : ∀ (x : Drw) (r : Ts) (Q : Hd KC), (∀ z x', PyData.strOk z = true → Q.v (.fr (.str z)) (Tb pre (drM x') post r)) → @CalB f__law_pick [.hd pre.length, .fr (.list (os.map .str))] (Tb pre (drM x) post r) Q := fun x r Q k => by
    refine pick_use (.l _) (by rw [List.length_map]; omega) (by rw [List.length_map]; unfold SZ; omega) fun d x hd => ?_
    obtain ⟨w, hw, rfl⟩ := mem_strs hd
    exact k w x (oo w hw)
  walk_at "zy"
  refine draw_use (by decide) (by decide) fun mode x v1 v2 => ?_
  walk_at "zx"
  refine seq1 ?_
  walk_at "zx"
  refine itd' (fun c1 => ?_) (fun c1 => ?_)
  walk_at "zx"
  refine itd' (fun c2 => ?_) (fun c2 => ?_)
  · walk_at "zx"
    refine pop_use (by rw [List.length_map]; omega) (by rw [List.length_map]; unfold SZ; omega) fun d es x e1 e2 => ?_
    obtain ⟨out, rfl, ho2⟩ := strs_all e2
    rw [List.length_map, List.length_map] at e1
    walk_at "zx"
    exact kE _ _ _ (by omega) fun z hz => hno z (ho2 z hz)
  all_goals
    walk_at "zx"
    refine itd' (fun c3 => ?_) (fun c3 => ?_)
    walk_at "zx"
    refine itd' (fun c4 => ?_) (fun c4 => ?_)
    · walk_at "zx"
      refine hpick _ _ _ fun z x hz => ?_
      walk_at "zx"
      refine draw_use (by omega) (by omega) fun v x v1 v2 => ?_
      obtain ⟨v, rfl⟩ := Int.eq_ofNat_of_zero_le v1
      walk_at "zx"
      refine opb_of (setI_map (d := .str z) (by rw [List.length_map]; omega)) ?_
      walk_at "zx"
      rw [show (ns.map PyData.str).set v (.str z) = (ns.set v z).map .str by rw [List.map_set]]
      exact kE _ _ _ (by rw [List.length_set]; omega) fun y hy => (List.mem_or_eq_of_mem_set hy).elim (hno y) fun e => e ▸ hz
    all_goals
      walk_at "zx"
      refine itd' (fun c5 => ?_) (fun c5 => ?_)
      · walk_at "zx"
        refine draw_use (by omega) (by omega) fun v x v1 v2 => ?_
        obtain ⟨v, rfl⟩ := Int.eq_ofNat_of_zero_le v1
        walk_at "zx"
        refine hpick _ _ _ fun z x hz => ?_
        walk_at "zx"
        rw [show ((ns.map PyData.str).map C.fr).take v ++ [C.fr (.str z)] ++ ((ns.map PyData.str).map C.fr).drop v = ((ns.take v ++ [z] ++ ns.drop v).map PyData.str).map C.fr by simp]
        rw [frs_fr]
        refine ⟨by omega, kE _ _ _ ?_ fun y hy => ?_⟩
        · rw [List.length_append, List.length_append, List.length_take, List.length_drop, List.length_singleton]
          omega
        · rcases List.mem_append.mp hy with hy | hy
          · rcases List.mem_append.mp hy with hy | hy
            · exact hno y (List.mem_of_mem_take hy)
            · rw [List.mem_singleton.mp hy]
              exact hz
          · exact hno y (List.mem_of_mem_drop hy)
      walk_at "zx"
      refine shuffled_useL (by rw [List.length_map]; unfold SZ; omega) fun es x hp => ?_
      obtain ⟨out, rfl, ho2⟩ := strs_all (ns := ns) fun e he => hp.mem_iff.mp he
      have hl := hp.length_eq
      rw [List.length_map, List.length_map] at hl
      walk_at "zx"
      exact kE _ _ _ (by omega) fun z hz => hno z (ho2 z hz)
end Zd.K05

/-! Zk07e: right rules; other slots; other rules. -/
namespace Zd.K05
open PySem L2
local macro_rules | `(tactic| walk_at "zs") => `(tactic| simp only [SZ, seqD, Option.bind_some, Bool.not_true, Bool.not_false, eqv_ii, eqv_ss, eqv_bb, shp_i, shp_s, shp_b, shp_n, eq_self, Int.toNat_natCast, range_len, Itf, itb_t, itb_f, optP, opb_some, Cal, wLc, wLcH, wYes, decide_true, decide_false,  ex_lst, List.length_map, Nat.zero_le, Nat.reduceLeDiff, Nat.reduceAdd, wNext, wBreak, wCont, wAsg, wRet, wRetN, wDrop, wIfS, wAug, wPar, wPar3, wTupRev, wSet, wAugS, fSet, fGet, wVar, wFrz, frzC, wC, wOp, wUn, res_fr, res_sc, res_hd, resO_frz, resO_lst, resO_ins, resO_dk, resO_dr, frs_map, fI, fIC, fAdd, fSub, fMul, fDiv, fMod, fPow, fShl, fShr, fAnd, fNeg, fLt, fLe, fGt, fGe, fEq, fNe, fIn, fNotIn, fIsB, fNotB, fIx,
  wSl, fSl, fSlH, wPart, wNoPart, wNil, wCons, wTup, wLst, wLstH, frs, Option.map_some, wTest, wNot, wAnd, wOr, wChain, wIf, wAndV, wOrV, wNotV, wIsN, wNotN, wCB, fLen, fInt, fAbs, fMax2, fMin2, fSum, fSumH, hdD, fMinL, fMinT, fStrI, fJoin, fMaxL, fAll, fAny, fTupleOf, fListOf, fSortedI, fSortedS, fListOfH, wIsi, gname_eq, gnil_eq, gcons_eq, gtup_eq, wiSeq, itemsOf, wiR1, wiR2, wiZip, wiZip3, wiRev, wipeS,
  wBL, wBS, isLst, isStr, fAppend, fPopAt, fPop, fCountI, fExtend, fExtendT, fIndexS, fInsert, fMulT, fAddH, fAddM, wListRg, wListRgH, wFld, wSFld, wFn, wCallF, wT3, fInSg, fInM, fNotInM, wMake, wMeth, InsAt, wDNew, wDPut, fDIn, fDNotIn, fDGet, wDGet1, wDGet2, dkD, keyC, wCall, tb_h, tb_k, tb_seth, tb_setk, tb_app, tb_len, t0_k, t0_setk, t0_app, t0_len, List.getElem?_cons_zero, List.getElem?_cons_succ, List.getElem?_nil, List.set_cons_zero, List.set_cons_succ, List.cons_append, List.nil_append, List.length_cons, List.length_nil, List.map_cons, List.map_nil, Nat.zero_add, if_true, if_false, Bool.false_eq_true, true_and, and_true,
  atI0, atI1, atI2, atI3, atI4, atI5, setI0, setI1, setI2, setI3, decide_eq_true_eq])
local macro_rules | `(tactic| walk_at "zx") => `(tactic| simp -implicitDefEqProofs only [SZ, seqD, Option.bind_some, Bool.not_true, Bool.not_false, eqv_ii, eqv_ss, eqv_bb, shp_i, shp_s, shp_b, shp_n, eq_self, Int.toNat_natCast, range_len, Itf, itb_t, itb_f, optP, opb_some, Cal, wLc, wLcH, wYes, decide_true, decide_false,  ex_lst, List.length_map, Nat.zero_le, Nat.reduceLeDiff, Nat.reduceAdd, wNext, wBreak, wCont, wAsg, wRet, wRetN, wDrop, wIfS, wAug, wPar, wPar3, wTupRev, wSet, wAugS, fSet, fGet, wVar, wFrz, frzC, wC, wOp, wUn, res_fr, res_sc, res_hd, resO_frz, resO_lst, resO_ins, resO_dk, resO_dr, frs_map, fI, fIC, fAdd, fSub, fMul, fDiv, fMod, fPow, fShl, fShr, fAnd, fNeg, fLt, fLe, fGt, fGe, fEq, fNe, fIn, fNotIn, fIsB, fNotB, fIx,
  wSl, fSl, fSlH, wPart, wNoPart, wNil, wCons, wTup, wLst, wLstH, frs, Option.map_some, wTest, wNot, wAnd, wOr, wChain, wIf, wAndV, wOrV, wNotV, wIsN, wNotN, wCB, fLen, fInt, fAbs, fMax2, fMin2, fSum, fSumH, hdD, fMinL, fMinT, fStrI, fJoin, fMaxL, fAll, fAny, fTupleOf, fListOf, fSortedI, fSortedS, fListOfH, wIsi, gname_eq, gnil_eq, gcons_eq, gtup_eq, wiSeq, itemsOf, wiR1, wiR2, wiZip, wiZip3, wiRev, wipeS,
  wBL, wBS, isLst, isStr, fAppend, fPopAt, fPop, fCountI, fExtend, fExtendT, fIndexS, fInsert, fMulT, fAddH, fAddM, wListRg, wListRgH, wFld, wSFld, wFn, wCallF, wT3, fInSg, fInM, fNotInM, wMake, wMeth, InsAt, wDNew, wDPut, fDIn, fDNotIn, fDGet, wDGet1, wDGet2, dkD, keyC, wCall, tb_h, tb_k, tb_seth, tb_setk, tb_app, tb_len, t0_k, t0_setk, t0_app, t0_len, List.getElem?_cons_zero, List.getElem?_cons_succ, List.getElem?_nil, List.set_cons_zero, List.set_cons_succ, List.cons_append, List.nil_append, List.length_cons, List.length_nil, List.map_cons, List.map_nil, Nat.zero_add, if_true, if_false, Bool.false_eq_true, true_and, and_true,
  atI0, atI1, atI2, atI3, atI4, atI5, setI0, setI1, setI2, setI3, decide_eq_true_eq])
local macro_rules | `(tactic| walk_at "z1") => `(tactic| (refine seq1 ?_; try walk_at "zs"))
local macro_rules | `(tactic| walk_at "zy") => `(tactic| (refine seq1 ?_; try walk_at "zx"))
local macro_rules | `(tactic| walk_at "nw") => `(tactic| refine ⟨by decide +kernel, by decide +kernel, itd' (fun e => absurd e (by decide +kernel)) (fun _ => ?_)⟩)
local macro_rules | `(tactic| walk_at "iw") => `(tactic| refine ⟨by decide +kernel, by decide +kernel, ?_⟩)
local macro_rules | `(tactic| walk_at "ni") => `(tactic| (simp only [strsD, Option.map_some]; walk_at "zs"; refine itd' (fun e => absurd e (by decide +kernel)) (fun _ => ?_)))
local macro_rules | `(tactic| walk_at "yi") => `(tactic| (simp only [strsD, Option.map_some]; walk_at "zs"; refine itd' (fun _ => ?_) (fun e => absurd (by decide +kernel) e)))
/-- a rule of few names -/
def RulS : RuleX → Prop
  | .bare w => PyData.strOk w = true ∧ ¬ w = "ranks" ∧ ¬ w = "turns" ∧ ¬ w = "slots"
  | .ranks ns => ns.length ≤ 60 ∧ ∀ z ∈ ns, NmX z
  | .turns ts => ts.length ≤ 60 ∧ ∀ t ∈ ts, NmX t.1
  | .slots cs => cs.length ≤ 60 ∧ ∀ c ∈ cs, c.length ≤ 900 ∧ ∀ z ∈ c, NmX z
def RulF (r : RuleX) : Prop := RuleFit r ∧ BareOk r
theorem ruls_f {r : RuleX} (h : RulS r) : RulF r := by
  cases r with
  | bare w => exact ⟨h.1, h.2⟩
  | ranks ns => exact ⟨⟨by have := h.1; omega, fun z hz => (h.2 z hz).2⟩, trivial⟩
  | turns ts =>
    refine ⟨⟨by rw [List.length_map]; have := h.1; omega, fun z hz => ?_⟩, trivial⟩
    obtain ⟨t, ht, rfl⟩ := List.mem_map.mp hz
    exact (h.2 t ht).2
  | slots cs => exact ⟨⟨by have := h.1; omega, fun c hc => by have := (h.2 c hc).1; omega⟩, trivial⟩
theorem sum_le6 : ∀ {hs : List Int}, (∀ y ∈ hs, y ≤ 6) → hs.sum ≤ 6 * hs.length
  | [], _ => by simp
  | y :: hs, h => by
    have h1 := h y List.mem_cons_self
    have h2 := sum_le6 fun z hz => h z (List.mem_cons_of_mem y hz)
    rw [List.sum_cons, List.length_cons]
    omega
def f__law_right_rule : FA := fun cs own Q => ∃ (pre post : Ts) (x : Drw) (h : HouX) (ns : List Str) (hs : List Int), cs = [.hd pre.length, .fr (houX h), .fr (.list (ns.map .str)), .fr (hoursD hs)] ∧ own = pre ++ drM x :: post ∧ HouK h ∧ 0 < h.flows.length ∧ HrG hs ∧ ns.length ≤ 60 ∧ (∀ z ∈ ns, NmX z) ∧ ∀ r x', RulS r → Q (.fr (ruleX r)) (pre ++ drM x' :: post)
theorem rrule_use {pre post r : Ts} {x : Drw} {Q : Hd KC} {h : HouX} {ns : List Str} {hs : List Int} (h1 : HouK h) (h2 : 0 < h.flows.length) (h3 : HrG hs) (h4 : ns.length ≤ 60) (h5 : ∀ z ∈ ns, NmX z) (k : ∀ u x', RulS u → Q.v (.fr (ruleX u)) (Tb pre (drM x') post r)) : @CalB f__law_right_rule [.hd pre.length, .fr (houX h), .fr (.list (ns.map .str)), .fr (hoursD hs)] (Tb pre (drM x) post r) Q := ⟨pre, post ++ r, x, h, ns, hs, rfl, rfl, h1, h2, h3, h4, h5, k⟩
def N__law_right_rule : List Str := ["d", "house", "names", "hours", "mode", "pool", "row", "found", "many", "flow", "k", "name"]
def w__law_right_rule : WS := (wSeq (wAsg (wCall 2 f__law_draw (wCons (wVar 0) (wCons (wC (.int 7)) wNil))) (wName 4))
  (wSeq (wIfS (wTest (wOp fEq (wVar 4) (wC (.int 0)))) (wRet (wCall 2 f__law_pick (wCons (wVar 0) (wCons (wLst (wCons (wTup (wCons (wC (.str "due")) wNil)) (wCons (wTup (wCons (wC (.str "come")) wNil)) wNil))) wNil)))) wNext)
  (wSeq (wIfS (wTest (wOp fLe (wVar 4) (wC (.int 2)))) (wRet (wTup (wCons (wC (.str "ranks")) (wCons (wCB fTupleOf (wCons (wCall 2 f__law_shuffled (wCons (wVar 0) (wCons (wVar 2) wNil))) wNil)) wNil)))) wNext)
  (wSeq (wIfS (wTest (wOp fLe (wVar 4) (wC (.int 4)))) (wRet (wTup (wCons (wC (.str "turns")) (wCons (wCB fTupleOf (wCons (wLc (wiSeq (wCall 2 f__law_shuffled (wCons (wVar 0) (wCons (wVar 2) wNil)))) (wName 11) wYes (wTup (wCons (wVar 11) (wCons (wOp fAdd (wC (.int 1)) (wCall 2 f__law_draw (wCons (wVar 0) (wCons (wC (.int 4)) wNil)))) wNil))) [11]) wNil)) wNil)))) wNext)
  (wSeq (wAsg (wIf (wTest (wOp fGt (wCB fLen (wCons (wVar 2) wNil)) (wC (.int 0)))) (wVar 2) (wLc (wiSeq (wOp fIx (wVar 1) (wC (.int 1)))) (wName 9) wYes (wOp fIx (wVar 9) (wC (.int 0))) [9])) (wName 5))
  (wSeq (wAsg (wOp fAdd (wCB fListOf (wCons (wVar 2) wNil)) (wLc (wiR1 (wCons (wOp fSub (wCB fSum (wCons (wVar 3) wNil)) (wCB fLen (wCons (wVar 2) wNil))) wNil)) (wName 10) wYes (wCall 2 f__law_pick (wCons (wVar 0) (wCons (wVar 5) wNil))) [10])) (wName 6))
  (wSeq (wAsg (wCall 2 f__law_shuffled (wCons (wVar 0) (wCons (wVar 6) wNil))) (wName 6))
  (wSeq (wAsg (wLstH wNil) (wName 7))
  (wSeq (wFor (wiSeq (wVar 3)) (wName 8) (wSeq (wDrop (wBL fAppend (wVar 7) (wCons (wCB fTupleOf (wCons (wSl fSl (wVar 6) wNoPart (wPart (wVar 8))) wNil)) wNil)))
  (wAsg (wSl fSl (wVar 6) (wPart (wVar 8)) wNoPart) (wName 6))))
  (wRet (wTup (wCons (wC (.str "slots")) (wCons (wCB fTupleOf (wCons (wFrz (wVar 7)) wNil)) wNil)))))))))))))
theorem d__law_right_rule : ∀ cs own Q, Cl own → cs.length = 4 → f__law_right_rule cs own Q → w__law_right_rule (enF own.length Q) (startS N__law_right_rule cs) own := by
  rintro cs own Q hc _ ⟨pre, post, x, h, ns, hs, rfl, rfl, hk, h0, hh, hn, ho, k⟩
  refine dr_start hc fun E hE => ?_
  have kE : ∀ u x' r, RulS u → E.rt (.fr (ruleX u)) (Tb pre (drM x') post r) := fun out x' r h1 => hE _ x' r (k out x' h1)
  clear k hc hE
  have fl := hk.fl
  have nf : ∀ f ∈ h.flows, NmX f.nm := fun f hf => (hk.fs f hf).nm
  show w__law_right_rule E [some (.hd pre.length), some (.fr (houX h)), some (.fr (.list (ns.map .str))), some (.fr (hoursD hs)), none, none, none, none, none, none, none, none] _
  unfold w__law_right_rule
  rw [houX_eq, flsD_eq, hoursD_eq]
  walk_at "zy"
  refine draw_use (by decide) (by decide) fun mode x v1 v2 => ?_
  walk_at "zx"
  walk_at "zy"
  refine itd' (fun c1 => ?_) (fun c1 => ?_)
  · walk_at "zx"
    refine pick_use (.l _) (by decide) (by decide) fun d x hd => ?_
    walk_at "zx"
    rcases List.mem_cons.mp hd with rfl | hd
    · exact kE (.bare "due") _ _ ⟨by decide +kernel, by decide +kernel⟩
    · rw [List.mem_singleton.mp hd]
      exact kE (.bare "come") _ _ ⟨by decide +kernel, by decide +kernel⟩
  walk_at "zx"
  walk_at "zy"
  have shuf : ∀ (x : Drw) (r : Ts) (Q : Hd KC), (∀ (out : List Str) x', out.Perm ns → Q.v (.fr (.list (out.map .str))) (Tb pre (drM x') post r)) → @CalB f__law_shuffled [.hd pre.length, .fr (.list (ns.map .str))] (Tb pre (drM x) post r) Q := fun x r Q k => by
    refine shuffled_useL (by rw [List.length_map]; unfold SZ; omega) fun es x hp => ?_
    obtain ⟨out, rfl, hp2⟩ := perm_strs hp
    exact k out x hp2
  refine itd' (fun c2 => ?_) (fun c2 => ?_)
  · walk_at "zx"
    refine shuf _ _ _ fun out x hp => ?_
    walk_at "zx"
    exact kE (.ranks out) _ _ ⟨by rw [hp.length_eq]; exact hn, fun z hz => ho z (hp.mem_iff.mp hz)⟩
  walk_at "zx"
  walk_at "zy"
  refine itd' (fun c3 => ?_) (fun c3 => ?_)
  · walk_at "zx"
    refine lc_cut (fun its o => ∃ (ws : List Str) (x : Drw), its = ws.map .str ∧ o = Tb pre (drM x) post [] ∧ ws.Perm ns) ?_ ?_
    · walk_at "zx"
      refine shuf _ _ _ fun ws x hw => ?_
      walk_at "zx"
      exact ⟨ws, x, rfl, rfl, hw⟩
    · rintro its o ⟨ws, x, rfl, rfl, hw⟩
      have hwl := hw.length_eq
      refine lc_dr ws .str siD (fun z t => t.1 = z) pre post [] x (by walk_at "zx") (by unfold SZ; omega) (fun i z x' T S hz hT => ?_) fun ts x hts => ?_
      · walk_at "zx"
        refine draw_use (by decide) (by decide) fun v x2 l1 l2 => ?_
        walk_at "zx"
        exact hT (z, 1 + v) x2 rfl
      · walk_at "zx"
        refine kE (.turns ts) _ _ ⟨by rw [hts.1]; omega, fun t ht => ?_⟩
        obtain ⟨z, hz, e⟩ := hts.at ht
        rw [e]
        exact ho z (hw.mem_iff.mp hz)
  have hbd := hrsB_of hh.b
  have hl := hh.l
  have hsum : hs.sum ≤ 48 := by
    have := sum_le6 fun y hy => (hbd y hy).2
    omega
  have hpos : 0 ≤ hs.sum := sum_pos fun y hy => (hbd y hy).1
  walk_at "zx"
  refine seq_cut (fun ss o => ∃ ps : List Str, 0 < ps.length ∧ ps.length ≤ 1000 ∧ (∀ z ∈ ps, NmX z) ∧ o = Tb pre (drM x) post [] ∧ ss = [some (.hd pre.length), some (.fr (.tuple [.tuple (h.stas.map staX), .tuple (h.flows.map flD)])), some (.fr (.list (ns.map .str))), some (.fr (.tuple (hs.map .int))), some (.fr (.int mode)), some (.fr (.list (ps.map .str))), none, none, none, none, none, none]) ?_ ?_
  · walk_at "zx"
    refine itd' (fun c4 => ?_) (fun c4 => ?_)
    · walk_at "zx"
      exact ⟨ns, by omega, by omega, ho, rfl⟩
    · walk_at "zx"
      refine lc_map h.flows flD (fun f => .str f.nm) (Tb pre (drM x) post []) (by walk_at "zx") (by unfold SZ; omega) (fun i f R S hq hR => ?_) ?_
      · rw [flD_eq]
        walk_at "zx"
        exact hR
      walk_at "zx"
      refine ⟨h.flows.map (·.nm), by rw [List.length_map]; exact h0, by rw [List.length_map]; exact fl, fun z hz => ?_, by rw [List.map_map]; rfl⟩
      obtain ⟨f, hf, rfl⟩ := List.mem_map.mp hz
      exact nf f hf
  rintro ss o ⟨ps, pl0, pl, po, rfl, rfl⟩
  walk_at "zy"
  refine lc_dr (List.range (hs.sum - ns.length).toNat) (fun k => .int (0 + (k : Nat))) .str (fun _ z => z ∈ ps) pre post [] x ?_ (by rw [List.length_range]; unfold SZ; omega) (fun i z x' T S hz hT => ?_) fun qs x hqs => ?_
  · walk_at "zx"
    rw [intsD_ints]
    walk_at "zx"
    exact ⟨⟨by omega, by omega⟩, rfl⟩
  · walk_at "zx"
    refine pick_use (.l _) (by rw [List.length_map]; omega) (by rw [List.length_map]; unfold SZ; omega) fun d x2 hd => ?_
    obtain ⟨t, ht, rfl⟩ := mem_strs hd
    walk_at "zx"
    exact hT t x2 ht
  have hql := hqs.1
  rw [List.length_range] at hql
  have hqm : ∀ z ∈ qs, NmX z := fun z hz => po z ((hqs.at hz).elim fun _ h => h.2)
  walk_at "zx"
  refine ⟨by omega, ?_⟩
  rw [← List.map_append]
  have rl : (ns ++ qs).length ≤ 200 := by rw [List.length_append]; omega
  have rn : ∀ z ∈ ns ++ qs, NmX z := fun z hz => (List.mem_append.mp hz).elim (ho z) (hqm z)
  generalize ns ++ qs = ro at *
  walk_at "zy"
  refine shuffled_useL (by rw [List.length_map]; unfold SZ; omega) fun es x hes => ?_
  obtain ⟨row, rfl, hrow⟩ := perm_strs hes
  have hrl := hrow.length_eq
  walk_at "zx"
  walk_at "zy"
  refine seq1 ?_
  refine for_inv (hs.map .int) (Tb pre (drM x) post [.lst []]) (fun i ss o => ∃ (cs : List (List Str)) (rest : List Str) (z8 : Option C), o = Tb pre (drM x) post [.lst ((cs.map strsT).map C.fr)] ∧ ss = [some (.hd pre.length), some (.fr (.tuple [.tuple (h.stas.map staX), .tuple (h.flows.map flD)])), some (.fr (.list (ns.map .str))), some (.fr (.tuple (hs.map .int))), some (.fr (.int mode)), some (.fr (.list (ps.map .str))), some (.fr (.list (rest.map .str))), some (.hd (hb pre post 0)), z8, none, none, none] ∧ cs.length = i ∧ (∀ z ∈ rest, NmX z) ∧ rest.length ≤ 200 ∧ ∀ c ∈ cs, c.length ≤ 900 ∧ ∀ z ∈ c, NmX z) ?_ ?_ ?_ ?_
  · walk_at "zx"
  · exact ⟨[], row, _, rfl, rfl, rfl, fun z hz => rn z (hrow.mem_iff.mp hz), by omega, fun c hc => nomatch hc⟩
  · rintro i d ss o hi ⟨cs, rest, z8, rfl, rfl, c1, c2, c3, c4⟩
    obtain ⟨h, hh, rfl⟩ := get_map hi
    have hp := (hbd _ (List.mem_of_getElem? hh)).1
    obtain ⟨m, rfl⟩ := Int.eq_ofNat_of_zero_le hp
    have hil := lt_of_get hh
    walk_at "zy"
    rw [cutD_map, cutD_to, cutD_map, cutD_from]
    refine ⟨by omega, cs ++ [rest.take m], rest.drop m, _, ?_, rfl, by simp [c1], fun z hz => c2 z (List.mem_of_mem_drop hz), by rw [List.length_drop]; omega, mem_snoc c4 ⟨by rw [List.length_take]; omega, fun z hz => c2 z (List.mem_of_mem_take hz)⟩⟩
    rw [List.map_append, List.map_append]
    rfl
  · rintro ss o ⟨cs, rest, z8, rfl, rfl, c1, c2, c3, c4⟩
    rw [List.length_map] at c1
    walk_at "zx"
    exact kE (.slots cs) _ _ ⟨by omega, c4⟩
end Zd.K05

/-! Zk07f: other slots. -/
namespace Zd.K05
open PySem L2
local macro_rules | `(tactic| walk_at "zs") => `(tactic| simp only [SZ, seqD, Option.bind_some, Bool.not_true, Bool.not_false, eqv_ii, eqv_ss, eqv_bb, shp_i, shp_s, shp_b, shp_n, eq_self, Int.toNat_natCast, range_len, Itf, itb_t, itb_f, optP, opb_some, Cal, wLc, wLcH, wYes, decide_true, decide_false,  ex_lst, List.length_map, Nat.zero_le, Nat.reduceLeDiff, Nat.reduceAdd, wNext, wBreak, wCont, wAsg, wRet, wRetN, wDrop, wIfS, wAug, wPar, wPar3, wTupRev, wSet, wAugS, fSet, fGet, wVar, wFrz, frzC, wC, wOp, wUn, res_fr, res_sc, res_hd, resO_frz, resO_lst, resO_ins, resO_dk, resO_dr, frs_map, fI, fIC, fAdd, fSub, fMul, fDiv, fMod, fPow, fShl, fShr, fAnd, fNeg, fLt, fLe, fGt, fGe, fEq, fNe, fIn, fNotIn, fIsB, fNotB, fIx,
  wSl, fSl, fSlH, wPart, wNoPart, wNil, wCons, wTup, wLst, wLstH, frs, Option.map_some, wTest, wNot, wAnd, wOr, wChain, wIf, wAndV, wOrV, wNotV, wIsN, wNotN, wCB, fLen, fInt, fAbs, fMax2, fMin2, fSum, fSumH, hdD, fMinL, fMinT, fStrI, fJoin, fMaxL, fAll, fAny, fTupleOf, fListOf, fSortedI, fSortedS, fListOfH, wIsi, gname_eq, gnil_eq, gcons_eq, gtup_eq, wiSeq, itemsOf, wiR1, wiR2, wiZip, wiZip3, wiRev, wipeS,
  wBL, wBS, isLst, isStr, fAppend, fPopAt, fPop, fCountI, fExtend, fExtendT, fIndexS, fInsert, fMulT, fAddH, fAddM, wListRg, wListRgH, wFld, wSFld, wFn, wCallF, wT3, fInSg, fInM, fNotInM, wMake, wMeth, InsAt, wDNew, wDPut, fDIn, fDNotIn, fDGet, wDGet1, wDGet2, dkD, keyC, wCall, tb_h, tb_k, tb_seth, tb_setk, tb_app, tb_len, t0_k, t0_setk, t0_app, t0_len, List.getElem?_cons_zero, List.getElem?_cons_succ, List.getElem?_nil, List.set_cons_zero, List.set_cons_succ, List.cons_append, List.nil_append, List.length_cons, List.length_nil, List.map_cons, List.map_nil, Nat.zero_add, if_true, if_false, Bool.false_eq_true, true_and, and_true,
  atI0, atI1, atI2, atI3, atI4, atI5, setI0, setI1, setI2, setI3, decide_eq_true_eq])
local macro_rules | `(tactic| walk_at "zx") => `(tactic| simp -implicitDefEqProofs only [SZ, seqD, Option.bind_some, Bool.not_true, Bool.not_false, eqv_ii, eqv_ss, eqv_bb, shp_i, shp_s, shp_b, shp_n, eq_self, Int.toNat_natCast, range_len, Itf, itb_t, itb_f, optP, opb_some, Cal, wLc, wLcH, wYes, decide_true, decide_false,  ex_lst, List.length_map, Nat.zero_le, Nat.reduceLeDiff, Nat.reduceAdd, wNext, wBreak, wCont, wAsg, wRet, wRetN, wDrop, wIfS, wAug, wPar, wPar3, wTupRev, wSet, wAugS, fSet, fGet, wVar, wFrz, frzC, wC, wOp, wUn, res_fr, res_sc, res_hd, resO_frz, resO_lst, resO_ins, resO_dk, resO_dr, frs_map, fI, fIC, fAdd, fSub, fMul, fDiv, fMod, fPow, fShl, fShr, fAnd, fNeg, fLt, fLe, fGt, fGe, fEq, fNe, fIn, fNotIn, fIsB, fNotB, fIx,
  wSl, fSl, fSlH, wPart, wNoPart, wNil, wCons, wTup, wLst, wLstH, frs, Option.map_some, wTest, wNot, wAnd, wOr, wChain, wIf, wAndV, wOrV, wNotV, wIsN, wNotN, wCB, fLen, fInt, fAbs, fMax2, fMin2, fSum, fSumH, hdD, fMinL, fMinT, fStrI, fJoin, fMaxL, fAll, fAny, fTupleOf, fListOf, fSortedI, fSortedS, fListOfH, wIsi, gname_eq, gnil_eq, gcons_eq, gtup_eq, wiSeq, itemsOf, wiR1, wiR2, wiZip, wiZip3, wiRev, wipeS,
  wBL, wBS, isLst, isStr, fAppend, fPopAt, fPop, fCountI, fExtend, fExtendT, fIndexS, fInsert, fMulT, fAddH, fAddM, wListRg, wListRgH, wFld, wSFld, wFn, wCallF, wT3, fInSg, fInM, fNotInM, wMake, wMeth, InsAt, wDNew, wDPut, fDIn, fDNotIn, fDGet, wDGet1, wDGet2, dkD, keyC, wCall, tb_h, tb_k, tb_seth, tb_setk, tb_app, tb_len, t0_k, t0_setk, t0_app, t0_len, List.getElem?_cons_zero, List.getElem?_cons_succ, List.getElem?_nil, List.set_cons_zero, List.set_cons_succ, List.cons_append, List.nil_append, List.length_cons, List.length_nil, List.map_cons, List.map_nil, Nat.zero_add, if_true, if_false, Bool.false_eq_true, true_and, and_true,
  atI0, atI1, atI2, atI3, atI4, atI5, setI0, setI1, setI2, setI3, decide_eq_true_eq])
local macro_rules | `(tactic| walk_at "z1") => `(tactic| (refine seq1 ?_; try walk_at "zs"))
local macro_rules | `(tactic| walk_at "zy") => `(tactic| (refine seq1 ?_; try walk_at "zx"))
local macro_rules | `(tactic| walk_at "nw") => `(tactic| refine ⟨by decide +kernel, by decide +kernel, itd' (fun e => absurd e (by decide +kernel)) (fun _ => ?_)⟩)
local macro_rules | `(tactic| walk_at "iw") => `(tactic| refine ⟨by decide +kernel, by decide +kernel, ?_⟩)
local macro_rules | `(tactic| walk_at "ni") => `(tactic| (simp only [strsD, Option.map_some]; walk_at "zs"; refine itd' (fun e => absurd e (by decide +kernel)) (fun _ => ?_)))
local macro_rules | `(tactic| walk_at "yi") => `(tactic| (simp only [strsD, Option.map_some]; walk_at "zs"; refine itd' (fun _ => ?_) (fun e => absurd (by decide +kernel) e)))
/-- few slots of names -/
def SltS (cs : List (List Str)) : Prop := cs.length ≤ 60 ∧ ∀ c ∈ cs, c.length ≤ 900 ∧ ∀ z ∈ c, NmX z
def f__law_other_slots : FA := fun cs own Q => ∃ (pre post : Ts) (x : Drw) (h : HouX) (ts : List (List Str)), cs = [.hd pre.length, .fr (houX h), .fr (.tuple (ts.map strsT))] ∧ own = pre ++ drM x :: post ∧ HouK h ∧ 0 < h.stas.length ∧ 0 < ts.length ∧ SltS ts ∧ ∀ us x', SltK us → Q (.fr (.tuple (us.map strsT))) (pre ++ drM x' :: post)
theorem oslots_use {pre post r : Ts} {x : Drw} {Q : Hd KC} {h : HouX} {ts : List (List Str)} (h1 : HouK h) (h2 : 0 < h.stas.length) (h3 : 0 < ts.length) (h4 : SltS ts) (k : ∀ us x', SltK us → Q.v (.fr (.tuple (us.map strsT))) (Tb pre (drM x') post r)) : @CalB f__law_other_slots [.hd pre.length, .fr (houX h), .fr (.tuple (ts.map strsT))] (Tb pre (drM x) post r) Q := ⟨pre, post ++ r, x, h, ts, rfl, rfl, h1, h2, h3, h4, k⟩
theorem flat_len2 : ∀ {cs : List (List Str)}, (∀ c ∈ cs, c.length ≤ 900) → cs.flatten.length ≤ cs.length * 900
  | [], _ => Nat.zero_le _
  | c :: cs, h => by
    have h1 := h c List.mem_cons_self
    have h2 := flat_len2 (cs := cs) fun d hd => h d (List.mem_cons_of_mem _ hd)
    rw [List.flatten_cons, List.length_append, List.length_cons, Nat.succ_mul]
    omega
def N__law_other_slots : List Str := ["d", "house", "told", "rows", "k", "mode", "every", "row", "gone", "heir", "n", "flow", "name"]
def w__law_other_slots : WS := (wSeq (wAsg (wCB fListOfH (wCons (wVar 2) wNil)) (wName 3))
  (wSeq (wAsg (wCall 2 f__law_draw (wCons (wVar 0) (wCons (wCB fLen (wCons (wVar 3) wNil)) wNil))) (wName 4))
  (wSeq (wAsg (wCall 2 f__law_draw (wCons (wVar 0) (wCons (wC (.int 6)) wNil))) (wName 5))
  (wSeq (wAsg (wLst wNil) (wName 6))
  (wSeq (wForH (wVar 3) (wName 7) (wAsg (wOp fAdd (wVar 6) (wCB fListOf (wCons (wVar 7) wNil))) (wName 6)))
  (wSeq (wIfS (wTest (wOp fEq (wVar 5) (wC (.int 0)))) (wAsg (wCall 3 f__law_other_names (wCons (wVar 0) (wCons (wVar 1) (wCons (wOp fIx (wVar 3) (wVar 4)) wNil)))) (wSet (wVar 3) (wVar 4))) (wIfS (wTest (wOp fEq (wVar 5) (wC (.int 1)))) (wDrop (wBL fPopAt (wVar 3) (wCons (wVar 4) wNil))) (wIfS (wTest (wOp fEq (wVar 5) (wC (.int 2)))) (wDrop (wBL fInsert (wVar 3) (wCons (wVar 4) (wCons (wCall 2 f__law_pick (wCons (wVar 0) (wCons (wLst (wCons (wTup wNil) (wCons (wOp fIx (wVar 3) (wVar 4)) wNil))) wNil))) wNil)))) (wIfS (wTest (wOp fEq (wVar 5) (wC (.int 3)))) (wAsg (wOp fAdd (wSl fSl (wVar 3) (wPart (wC (.int 1))) wNoPart) (wSl fSl (wVar 3) wNoPart (wPart (wC (.int 1))))) (wName 3)) (wIfS (wTest (wOp fGt (wCB fLen (wCons (wVar 6) wNil)) (wC (.int 0)))) (wSeq (wAsg (wCall 2 f__law_pick (wCons (wVar 0) (wCons (wVar 6) wNil))) (wName 8))
  (wSeq (wAsg (wCall 2 f__law_pick (wCons (wVar 0) (wCons (wOp fAdd (wOp fAdd (wOp fAdd (wVar 6) (wVar 6)) (wLst (wCons (wC (.str "nobodyhere")) wNil))) (wLc (wiSeq (wOp fIx (wVar 1) (wC (.int 1)))) (wName 11) wYes (wOp fIx (wVar 11) (wC (.int 0))) [11])) wNil))) (wName 9))
  (wFor (wiR1 (wCons (wCB fLen (wCons (wVar 3) wNil)) wNil)) (wName 10) (wAsg (wCB fTupleOf (wCons (wLc (wiSeq (wOp fIx (wVar 3) (wVar 10))) (wName 12) wYes (wIf (wTest (wOp fEq (wVar 12) (wVar 8))) (wVar 9) (wVar 12)) [12]) wNil)) (wSet (wVar 3) (wVar 10)))))) wNext)))))
  (wRet (wCB fTupleOf (wCons (wFrz (wVar 3)) wNil)))))))))
theorem d__law_other_slots : ∀ cs own Q, Cl own → cs.length = 3 → f__law_other_slots cs own Q → w__law_other_slots (enF own.length Q) (startS N__law_other_slots cs) own := by
  rintro cs own Q hc _ ⟨pre, post, x, h, ts, rfl, rfl, hk, h0, t0, tk, k⟩
  refine dr_start hc fun E hE => ?_
  have kE : ∀ us x' r, SltK us → E.rt (.fr (.tuple (us.map strsT))) (Tb pre (drM x') post r) := fun out x' r h1 => hE _ x' r (k out x' h1)
  clear k hc hE
  have fl := hk.fl
  have nf : ∀ f ∈ h.flows, NmX f.nm := fun f hf => (hk.fs f hf).nm
  obtain ⟨t1, t2⟩ := tk
  show w__law_other_slots E [some (.hd pre.length), some (.fr (houX h)), some (.fr (.tuple (ts.map strsT))), none, none, none, none, none, none, none, none, none, none] _
  unfold w__law_other_slots
  walk_at "zy"
  walk_at "zy"
  refine draw_use (by omega) (by omega) fun j x v1 v2 => ?_
  obtain ⟨j, rfl⟩ := Int.eq_ofNat_of_zero_le v1
  walk_at "zx"
  walk_at "zy"
  refine draw_use (by omega) (by omega) fun mode x v3 v4 => ?_
  walk_at "zx"
  walk_at "zy"
  refine seq1 ?_
  refine forH_inv (ts.map strsT) (fun i ss o => ∃ z7 : Option C, o = Tb pre (drM x) post [.lst ((ts.map strsT).map C.fr)] ∧ ss = [some (.hd pre.length), some (.fr (houX h)), some (.fr (.tuple (ts.map strsT))), some (.hd (hb pre post 0)), some (.fr (.int j)), some (.fr (.int mode)), some (.fr (.list ((ts.take i).flatten.map .str))), z7, none, none, none, none, none]) rfl ?_ ?_ ?_ ?_
  · exact ⟨none, rfl, rfl⟩
  · rintro i ss o ⟨z7, rfl, rfl⟩
    rw [tb_k]
    rfl
  · rintro i d ss o hi ⟨z7, rfl, rfl⟩
    obtain ⟨c, hc, rfl⟩ := get_map hi
    have cl := (t2 c (List.mem_of_getElem? hc)).1
    have fl2 := flat_len2 (cs := ts.take i) fun d hd => (t2 d (List.mem_of_mem_take hd)).1
    have tl : (ts.take i).length ≤ i := by rw [List.length_take]; omega
    have il := lt_of_get hc
    rw [take_get hc, List.flatten_append]
    rw [show [c].flatten = c by simp]
    generalize (ts.take i).flatten = G at *
    rw [strsT_eq]
    walk_at "zx"
    rw [← List.map_append]
    exact ⟨by omega, _, rfl⟩
  rintro ss o ⟨z7, rfl, rfl⟩
  rw [List.length_map, List.take_length]
  have fl2 := flat_len2 (cs := ts) fun d hd => (t2 d hd).1
  have ef : ∀ z ∈ ts.flatten, NmX z := fun z hz => by
    obtain ⟨c, hc, hz⟩ := List.mem_flatten.mp hz
    exact (t2 c hc).2 z hz
  have hj : j < ts.length := by omega
  have htj := List.getElem?_eq_getElem hj
  have htm := t2 _ (List.getElem_mem hj)
  generalize ts[j] = tj at *
  generalize ts.flatten = ev at *
  walk_at "zx"
  refine seq1 ?_
  walk_at "zx"
  have hat : atI ((ts.map strsT).map C.fr) (j : Int) = some (.fr (strsT tj)) := atI_nat (by rw [List.getElem?_map, List.getElem?_map, htj]; rfl)
  have tK : ∀ c ∈ ts, c.length ≤ 1000 := fun c hc => by have := (t2 c hc).1; omega
  refine itd' (fun c1 => ?_) (fun c1 => ?_)
  · walk_at "zx"
    refine opb_of hat ?_
    walk_at "zx"
    refine onames_use hk h0 (.inl rfl) (by have := htm.1; omega) htm.2 fun out x e1 e2 => ?_
    walk_at "zx"
    refine opb_of (setI_map (d := strsT out) (by rw [List.length_map]; exact hj)) ?_
    rw [← List.map_set]
    walk_at "zx"
    refine kE _ _ _ ⟨by rw [List.length_set]; omega, fun c hc => ?_⟩
    rcases List.mem_or_eq_of_mem_set hc with hc | rfl
    · exact tK c hc
    · have := htm.1
      omega
  walk_at "zx"
  refine itd' (fun c2 => ?_) (fun c2 => ?_)
  · walk_at "zx"
    refine ⟨by omega, j, .fr (strsT tj), ixN_nat (by omega) (by omega), by rw [List.getElem?_map, List.getElem?_map, htj]; rfl, ?_⟩
    rw [era_map, era_map, frs_fr]
    exact kE _ _ _ ⟨by rw [List.length_eraseIdx]; split <;> omega, fun c hc => tK c (List.mem_of_mem_eraseIdx hc)⟩
  walk_at "zx"
  refine itd' (fun c3 => ?_) (fun c3 => ?_)
  · walk_at "zx"
    refine opb_of hat ?_
    walk_at "zx"
    refine pick_use (.l _) (by show 0 < 2; decide) (by show 2 ≤ SZ; decide) fun d x hd => ?_
    have ⟨u, hu, eu⟩ : ∃ u : List Str, u.length ≤ 1000 ∧ d = strsT u := by
      rcases List.mem_cons.mp hd with rfl | hd
      · exact ⟨[], by decide, rfl⟩
      · rw [List.mem_singleton.mp hd]
        exact ⟨tj, by have := htm.1; omega, rfl⟩
    subst eu
    walk_at "zx"
    rw [show ((ts.map strsT).map C.fr).take j ++ [C.fr (strsT u)] ++ ((ts.map strsT).map C.fr).drop j = ((ts.take j ++ [u] ++ ts.drop j).map strsT).map C.fr by simp]
    rw [frs_fr]
    refine ⟨by omega, kE _ _ _ ⟨?_, fun c hc => ?_⟩⟩
    · rw [List.length_append, List.length_append, List.length_take, List.length_drop, List.length_singleton]
      omega
    · rcases List.mem_append.mp hc with hc | hc
      · rcases List.mem_append.mp hc with hc | hc
        · exact tK c (List.mem_of_mem_take hc)
        · rw [List.mem_singleton.mp hc]
          exact hu
      · exact tK c (List.mem_of_mem_drop hc)
  walk_at "zx"
  refine itd' (fun c4 => ?_) (fun c4 => ?_)
  · walk_at "zx"
    rw [cutD_map, cutD_map, show (1 : Int) = ((1 : Nat) : Int) from rfl, cutD_from, cutD_to, ← List.map_append]
    refine ⟨?_, kE _ _ _ ⟨?_, fun c hc => ?_⟩⟩
    · rw [List.length_map, List.length_map, List.length_drop, List.length_take]
      omega
    · rw [List.length_append, List.length_drop, List.length_take]
      omega
    · rcases List.mem_append.mp hc with hc | hc
      · exact tK c (List.mem_of_mem_drop hc)
      · exact tK c (List.mem_of_mem_take hc)
  walk_at "zx"
  refine itd' (fun c5 => ?_) (fun c5 => ?_)
  · walk_at "zx"
    refine seq1 ?_
    walk_at "zx"
    refine pick_use (.l _) (by rw [List.length_map]; omega) (by rw [List.length_map]; unfold SZ; omega) fun d x hd => ?_
    obtain ⟨g, hg, rfl⟩ := mem_strs hd
    have gok := (ef g hg).2
    walk_at "zx"
    refine seq_cut (fun ss o => ∃ (x : Drw) (hr : Str), o = Tb pre (drM x) post [.lst ((ts.map strsT).map C.fr)] ∧ ss = [some (.hd pre.length), some (.fr (houX h)), some (.fr (.tuple (ts.map strsT))), some (.hd (hb pre post 0)), some (.fr (.int j)), some (.fr (.int mode)), some (.fr (.list (ev.map .str))), z7, some (.fr (.str g)), some (.fr (.str hr)), none, none, none]) ?_ ?_
    · rw [houX_eq, flsD_eq]
      walk_at "zx"
      rw [List.length_append, List.length_map]
      refine ⟨by omega, by omega, ?_⟩
      refine lc_map h.flows flD (fun f => .str f.nm) (Tb pre (drM x) post [.lst ((ts.map strsT).map C.fr)]) (by walk_at "zx") (by unfold SZ; omega) (fun i f R S hq hR => ?_) ?_
      · rw [flD_eq]
        walk_at "zx"
        exact hR
      walk_at "zx"
      rw [show ev.map PyData.str ++ ev.map PyData.str ++ [PyData.str ("nobodyhere" : Str)] ++ h.flows.map (fun f => PyData.str f.nm) = (ev ++ ev ++ [("nobodyhere" : Str)] ++ h.flows.map (·.nm)).map .str by simp [Function.comp_def]]
      have hl : (ev ++ ev ++ [("nobodyhere" : Str)] ++ h.flows.map (·.nm)).length = ev.length + ev.length + 1 + h.flows.length := by simp only [List.length_append, List.length_map, List.length_singleton]
      refine ⟨?_, pick_use (.l _) (by rw [List.length_map, hl]; omega) (by rw [List.length_map, hl]; unfold SZ; omega) fun d x hd => ?_⟩
      · rw [List.length_append, List.length_append, List.length_map]
        show ev.length + ev.length + 1 + _ ≤ _
        omega
      obtain ⟨hr, _, rfl⟩ := mem_strs hd
      walk_at "zx"
      exact ⟨_, _, rfl, rfl⟩
    rintro ss o ⟨x, hr, rfl, rfl⟩
    refine for_inv (rangeD 0 ts.length) (Tb pre (drM x) post [.lst ((ts.map strsT).map C.fr)]) (fun i ss o => ∃ (us : List (List Str)) (z10 : Option C), us.length = i ∧ (∀ u ∈ us, u.length ≤ 1000) ∧ o = Tb pre (drM x) post [.lst (((us ++ ts.drop i).map strsT).map C.fr)] ∧ ss = [some (.hd pre.length), some (.fr (houX h)), some (.fr (.tuple (ts.map strsT))), some (.hd (hb pre post 0)), some (.fr (.int j)), some (.fr (.int mode)), some (.fr (.list (ev.map .str))), z7, some (.fr (.str g)), some (.fr (.str hr)), z10, none, none]) ?_ ?_ ?_ ?_
    · walk_at "zx"
      omega
    · exact ⟨[], none, rfl, (fun u hu => nomatch hu), rfl, rfl⟩
    · rintro i d ss o hi ⟨us, z10, ul, uk, rfl, rfl⟩
      obtain ⟨il, rfl⟩ := range_get0 hi
      have hti := List.getElem?_eq_getElem il
      have him := t2 _ (List.getElem_mem il)
      have hget : (us ++ ts.drop i)[i]? = some ts[i] := by
        rw [List.getElem?_append_right (by omega), List.getElem?_drop, show i + (i - us.length) = i by omega]
        exact hti
      have hset : ∀ v : List Str, (us ++ ts.drop i).set i v = (us ++ [v]) ++ ts.drop (i + 1) := fun v => by
        rw [List.set_append_right _ _ (by omega), show i - us.length = 0 by omega, List.drop_eq_getElem_cons il, List.append_assoc]
        rfl
      have hlen : (us ++ ts.drop i).length = ts.length := by rw [List.length_append, List.length_drop]; omega
      generalize ts[i] = ti at *
      generalize us ++ ts.drop i = R at *
      walk_at "zx"
      refine lc_map ti .str (fun z => .str (if z = g then hr else z)) (Tb pre (drM x) post [.lst ((R.map strsT).map C.fr)]) ?_ (by have := him.1; unfold SZ; omega) (fun n z T S hq hT => ?_) ?_
      · walk_at "zx"
        refine opb_of (x := .fr (strsT ti)) (atI_nat (by rw [List.getElem?_map, List.getElem?_map, hget]; rfl)) ?_
        rw [strsT_eq]
        walk_at "zx"
      · have zok := (him.2 z (List.mem_of_getElem? hq)).2
        walk_at "zx"
        refine ⟨zok, gok, ?_⟩
        refine itd' (fun e => ?_) (fun e => ?_)
        · rw [if_pos e] at hT
          walk_at "zx"
          exact hT
        · rw [if_neg e] at hT
          walk_at "zx"
          exact hT
      walk_at "zx"
      rw [show (ti.map fun z => PyData.str (if z = g then hr else z)) = (ti.map fun z => if z = g then hr else z).map .str by rw [List.map_map]; rfl, ← strsT_eq]
      refine opb_of (setI_map (by rw [List.length_map]; omega)) ?_
      rw [← List.map_set, hset]
      walk_at "zx"
      exact ⟨us ++ [ti.map fun z => if z = g then hr else z], _, by simp [ul], mem_snoc uk (by rw [List.length_map]; have := him.1; omega), rfl, rfl⟩
    · rintro ss o ⟨us, z10, ul, uk, rfl, rfl⟩
      rw [rangeD_length, List.drop_length, List.append_nil]
      rw [rangeD_length] at ul
      walk_at "zx"
      exact kE _ _ _ ⟨by omega, uk⟩
  walk_at "zx"
  exact kE _ _ _ ⟨by omega, tK⟩
end Zd.K05

/-! Zk07g: other rules. -/
namespace Zd.K05
open PySem L2
local macro_rules | `(tactic| walk_at "zs") => `(tactic| simp only [SZ, seqD, Option.bind_some, Bool.not_true, Bool.not_false, eqv_ii, eqv_ss, eqv_bb, shp_i, shp_s, shp_b, shp_n, eq_self, Int.toNat_natCast, range_len, Itf, itb_t, itb_f, optP, opb_some, Cal, wLc, wLcH, wYes, decide_true, decide_false,  ex_lst, List.length_map, Nat.zero_le, Nat.reduceLeDiff, Nat.reduceAdd, wNext, wBreak, wCont, wAsg, wRet, wRetN, wDrop, wIfS, wAug, wPar, wPar3, wTupRev, wSet, wAugS, fSet, fGet, wVar, wFrz, frzC, wC, wOp, wUn, res_fr, res_sc, res_hd, resO_frz, resO_lst, resO_ins, resO_dk, resO_dr, frs_map, fI, fIC, fAdd, fSub, fMul, fDiv, fMod, fPow, fShl, fShr, fAnd, fNeg, fLt, fLe, fGt, fGe, fEq, fNe, fIn, fNotIn, fIsB, fNotB, fIx,
  wSl, fSl, fSlH, wPart, wNoPart, wNil, wCons, wTup, wLst, wLstH, frs, Option.map_some, wTest, wNot, wAnd, wOr, wChain, wIf, wAndV, wOrV, wNotV, wIsN, wNotN, wCB, fLen, fInt, fAbs, fMax2, fMin2, fSum, fSumH, hdD, fMinL, fMinT, fStrI, fJoin, fMaxL, fAll, fAny, fTupleOf, fListOf, fSortedI, fSortedS, fListOfH, wIsi, gname_eq, gnil_eq, gcons_eq, gtup_eq, wiSeq, itemsOf, wiR1, wiR2, wiZip, wiZip3, wiRev, wipeS,
  wBL, wBS, isLst, isStr, fAppend, fPopAt, fPop, fCountI, fExtend, fExtendT, fIndexS, fInsert, fMulT, fAddH, fAddM, wListRg, wListRgH, wFld, wSFld, wFn, wCallF, wT3, fInSg, fInM, fNotInM, wMake, wMeth, InsAt, wDNew, wDPut, fDIn, fDNotIn, fDGet, wDGet1, wDGet2, dkD, keyC, wCall, tb_h, tb_k, tb_seth, tb_setk, tb_app, tb_len, t0_k, t0_setk, t0_app, t0_len, List.getElem?_cons_zero, List.getElem?_cons_succ, List.getElem?_nil, List.set_cons_zero, List.set_cons_succ, List.cons_append, List.nil_append, List.length_cons, List.length_nil, List.map_cons, List.map_nil, Nat.zero_add, if_true, if_false, Bool.false_eq_true, true_and, and_true,
  atI0, atI1, atI2, atI3, atI4, atI5, setI0, setI1, setI2, setI3, decide_eq_true_eq])
local macro_rules | `(tactic| walk_at "zx") => `(tactic| simp -implicitDefEqProofs only [SZ, seqD, Option.bind_some, Bool.not_true, Bool.not_false, eqv_ii, eqv_ss, eqv_bb, shp_i, shp_s, shp_b, shp_n, eq_self, Int.toNat_natCast, range_len, Itf, itb_t, itb_f, optP, opb_some, Cal, wLc, wLcH, wYes, decide_true, decide_false,  ex_lst, List.length_map, Nat.zero_le, Nat.reduceLeDiff, Nat.reduceAdd, wNext, wBreak, wCont, wAsg, wRet, wRetN, wDrop, wIfS, wAug, wPar, wPar3, wTupRev, wSet, wAugS, fSet, fGet, wVar, wFrz, frzC, wC, wOp, wUn, res_fr, res_sc, res_hd, resO_frz, resO_lst, resO_ins, resO_dk, resO_dr, frs_map, fI, fIC, fAdd, fSub, fMul, fDiv, fMod, fPow, fShl, fShr, fAnd, fNeg, fLt, fLe, fGt, fGe, fEq, fNe, fIn, fNotIn, fIsB, fNotB, fIx,
  wSl, fSl, fSlH, wPart, wNoPart, wNil, wCons, wTup, wLst, wLstH, frs, Option.map_some, wTest, wNot, wAnd, wOr, wChain, wIf, wAndV, wOrV, wNotV, wIsN, wNotN, wCB, fLen, fInt, fAbs, fMax2, fMin2, fSum, fSumH, hdD, fMinL, fMinT, fStrI, fJoin, fMaxL, fAll, fAny, fTupleOf, fListOf, fSortedI, fSortedS, fListOfH, wIsi, gname_eq, gnil_eq, gcons_eq, gtup_eq, wiSeq, itemsOf, wiR1, wiR2, wiZip, wiZip3, wiRev, wipeS,
  wBL, wBS, isLst, isStr, fAppend, fPopAt, fPop, fCountI, fExtend, fExtendT, fIndexS, fInsert, fMulT, fAddH, fAddM, wListRg, wListRgH, wFld, wSFld, wFn, wCallF, wT3, fInSg, fInM, fNotInM, wMake, wMeth, InsAt, wDNew, wDPut, fDIn, fDNotIn, fDGet, wDGet1, wDGet2, dkD, keyC, wCall, tb_h, tb_k, tb_seth, tb_setk, tb_app, tb_len, t0_k, t0_setk, t0_app, t0_len, List.getElem?_cons_zero, List.getElem?_cons_succ, List.getElem?_nil, List.set_cons_zero, List.set_cons_succ, List.cons_append, List.nil_append, List.length_cons, List.length_nil, List.map_cons, List.map_nil, Nat.zero_add, if_true, if_false, Bool.false_eq_true, true_and, and_true,
  atI0, atI1, atI2, atI3, atI4, atI5, setI0, setI1, setI2, setI3, decide_eq_true_eq])
local macro_rules | `(tactic| walk_at "z1") => `(tactic| (refine seq1 ?_; try walk_at "zs"))
local macro_rules | `(tactic| walk_at "zy") => `(tactic| (refine seq1 ?_; try walk_at "zx"))
local macro_rules | `(tactic| walk_at "nw") => `(tactic| refine ⟨by decide +kernel, by decide +kernel, itd' (fun e => absurd e (by decide +kernel)) (fun _ => ?_)⟩)
local macro_rules | `(tactic| walk_at "iw") => `(tactic| refine ⟨by decide +kernel, by decide +kernel, ?_⟩)
local macro_rules | `(tactic| walk_at "ni") => `(tactic| (simp only [strsD, Option.map_some]; walk_at "zs"; refine itd' (fun e => absurd e (by decide +kernel)) (fun _ => ?_)))
local macro_rules | `(tactic| walk_at "yi") => `(tactic| (simp only [strsD, Option.map_some]; walk_at "zs"; refine itd' (fun _ => ?_) (fun e => absurd (by decide +kernel) e)))
def WRD : List Str := ["due", "come", "last", "", "Due", "due ", "comes", "rank", "turn", "slot", "ranks\n"]
theorem wrd_ok : ∀ w ∈ WRD, PyData.strOk w = true ∧ ¬ w = "ranks" ∧ ¬ w = "turns" ∧ ¬ w = "slots" := by decide +kernel
def BRS : List RuleX := [.ranks [], .turns [], .slots [], .slots [[]]]
theorem rulef_any {d : D} (h : d ∈ WRD.map (fun w => PyData.tuple [.str w]) ++ BRS.map ruleX) : ∃ r, RulF r ∧ d = ruleX r := by
  rcases List.mem_append.mp h with h | h
  · obtain ⟨w, hw, rfl⟩ := List.mem_map.mp h
    exact ⟨.bare w, ⟨(wrd_ok w hw).1, (wrd_ok w hw).2⟩, rfl⟩
  · obtain ⟨r, hr, rfl⟩ := List.mem_map.mp h
    refine ⟨r, ?_, rfl⟩
    rcases List.mem_cons.mp hr with rfl | hr
    · exact ⟨⟨by decide, fun z hz => nomatch hz⟩, trivial⟩
    rcases List.mem_cons.mp hr with rfl | hr
    · exact ⟨⟨by decide, fun z hz => nomatch hz⟩, trivial⟩
    rcases List.mem_cons.mp hr with rfl | hr
    · exact ⟨⟨by decide, fun z hz => nomatch hz⟩, trivial⟩
    rw [List.mem_singleton.mp hr]
    exact ⟨⟨by decide, fun z hz => by rw [List.mem_singleton.mp hz]; decide⟩, trivial⟩
def f__law_other_rule : FA := fun cs own Q => ∃ (pre post : Ts) (x : Drw) (h : HouX) (r : RuleX), cs = [.hd pre.length, .fr (houX h), .fr (ruleX r)] ∧ own = pre ++ drM x :: post ∧ HouK h ∧ 0 < h.stas.length ∧ RulS r ∧ ∀ u x', RulF u → Q (.fr (ruleX u)) (pre ++ drM x' :: post)
theorem orule_use {pre post r : Ts} {x : Drw} {Q : Hd KC} {h : HouX} {v : RuleX} (h1 : HouK h) (h2 : 0 < h.stas.length) (h3 : RulS v) (k : ∀ u x', RulF u → Q.v (.fr (ruleX u)) (Tb pre (drM x') post r)) : @CalB f__law_other_rule [.hd pre.length, .fr (houX h), .fr (ruleX v)] (Tb pre (drM x) post r) Q := ⟨pre, post ++ r, x, h, v, rfl, rfl, h1, h2, h3, k⟩
theorem ne12 : ¬ ("ranks" : Str) = "turns" := by decide +kernel
def N__law_other_rule : List Str := ["d", "house", "rule", "words", "bare", "pairs", "names", "n", "word", "name", "credit"]
def w__law_other_rule : WS := (wSeq (wIfS (wTest (wOp fEq (wOp fIx (wVar 2) (wC (.int 0))) (wC (.str "ranks")))) (wRet (wTup (wCons (wC (.str "ranks")) (wCons (wCall 3 f__law_other_names (wCons (wVar 0) (wCons (wVar 1) (wCons (wOp fIx (wVar 2) (wC (.int 1))) wNil)))) wNil)))) wNext)
  (wSeq (wIfS (wTest (wOp fEq (wOp fIx (wVar 2) (wC (.int 0))) (wC (.str "turns")))) (wSeq (wAsg (wCB fListOfH (wCons (wOp fIx (wVar 2) (wC (.int 1))) wNil)) (wName 5))
  (wSeq (wIfS (wAnd (wTest (wOp fGt (wCB fLen (wCons (wVar 5) wNil)) (wC (.int 0)))) (wTest (wOp fEq (wCall 2 f__law_draw (wCons (wVar 0) (wCons (wC (.int 2)) wNil))) (wC (.int 0))))) (wSeq (wAsg (wCall 2 f__law_draw (wCons (wVar 0) (wCons (wCB fLen (wCons (wVar 5) wNil)) wNil))) (wName 7))
  (wSeq (wAsg (wTup (wCons (wOp fIx (wOp fIx (wVar 5) (wVar 7)) (wC (.int 0))) (wCons (wCall 2 f__law_pick (wCons (wVar 0) (wCons (wLst (wCons (wUn fNeg (wC (.int 10000))) (wCons (wUn fNeg (wC (.int 1))) (wCons (wC (.int 0)) (wCons (wC (.int 0)) (wCons (wC (.int 1)) (wCons (wC (.int 4)) (wCons (wC (.int 5)) (wCons (wC (.int 5)) (wCons (wC (.int 10000)) wNil)))))))))) wNil))) wNil))) (wSet (wVar 5) (wVar 7)))
  (wRet (wTup (wCons (wC (.str "turns")) (wCons (wCB fTupleOf (wCons (wFrz (wVar 5)) wNil)) wNil)))))) wNext)
  (wSeq (wAsg (wCall 3 f__law_other_names (wCons (wVar 0) (wCons (wVar 1) (wCons (wLc (wiSeq (wFrz (wVar 5))) (wGTup 2 (wGCons (wName 9) (wGCons (wName 10) wGNil))) wYes (wVar 9) [9, 10]) wNil)))) (wName 6))
  (wRet (wTup (wCons (wC (.str "turns")) (wCons (wCB fTupleOf (wCons (wLc (wiSeq (wVar 6)) (wName 9) wYes (wTup (wCons (wVar 9) (wCons (wOp fAdd (wC (.int 1)) (wCall 2 f__law_draw (wCons (wVar 0) (wCons (wC (.int 4)) wNil)))) wNil))) [9]) wNil)) wNil))))))) wNext)
  (wSeq (wIfS (wAnd (wTest (wOp fEq (wOp fIx (wVar 2) (wC (.int 0))) (wC (.str "slots")))) (wTest (wOp fGt (wCB fLen (wCons (wOp fIx (wVar 2) (wC (.int 1))) wNil)) (wC (.int 0))))) (wRet (wTup (wCons (wC (.str "slots")) (wCons (wCall 3 f__law_other_slots (wCons (wVar 0) (wCons (wVar 1) (wCons (wOp fIx (wVar 2) (wC (.int 1))) wNil)))) wNil)))) wNext)
  (wSeq (wAsg (wLst (wCons (wC (.str "due")) (wCons (wC (.str "come")) (wCons (wC (.str "last")) (wCons (wC (.str "")) (wCons (wC (.str "Due")) (wCons (wC (.str "due ")) (wCons (wC (.str "comes")) (wCons (wC (.str "rank")) (wCons (wC (.str "turn")) (wCons (wC (.str "slot")) (wCons (wC (.str "ranks\n")) wNil)))))))))))) (wName 3))
  (wSeq (wAsg (wLst (wCons (wTup (wCons (wC (.str "ranks")) (wCons (wTup wNil) wNil))) (wCons (wTup (wCons (wC (.str "turns")) (wCons (wTup wNil) wNil))) (wCons (wTup (wCons (wC (.str "slots")) (wCons (wTup wNil) wNil))) (wCons (wTup (wCons (wC (.str "slots")) (wCons (wTup (wCons (wTup wNil) wNil)) wNil))) wNil))))) (wName 4))
  (wRet (wCall 2 f__law_pick (wCons (wVar 0) (wCons (wOp fAdd (wLc (wiSeq (wVar 3)) (wName 8) wYes (wTup (wCons (wVar 8) wNil)) [8]) (wVar 4)) wNil)))))))))
theorem d__law_other_rule : ∀ cs own Q, Cl own → cs.length = 3 → f__law_other_rule cs own Q → w__law_other_rule (enF own.length Q) (startS N__law_other_rule cs) own := by
  rintro cs own Q hc _ ⟨pre, post, x, h, r, rfl, rfl, hk, h0, hr, k⟩
  refine dr_start hc fun E hE => ?_
  have kE : ∀ u x' r, RulF u → E.rt (.fr (ruleX u)) (Tb pre (drM x') post r) := fun out x' r h1 => hE _ x' r (k out x' h1)
  clear k hc hE
  have pk : ∀ (x : Drw) (r : Ts) (Q : Hd KC), (∀ u x', RulF u → Q.v (.fr (ruleX u)) (Tb pre (drM x') post r)) → @CalB f__law_pick [.hd pre.length, .fr (.list (WRD.map (fun w => PyData.tuple [.str w]) ++ BRS.map ruleX))] (Tb pre (drM x) post r) Q := fun x r Q k => by
    refine pick_use (.l _) (by show 0 < 15; decide) (by show 15 ≤ SZ; decide) fun d x hd => ?_
    obtain ⟨u, hu, rfl⟩ := rulef_any hd
    exact k u x hu
  show w__law_other_rule E [some (.hd pre.length), some (.fr (houX h)), some (.fr (ruleX r)), none, none, none, none, none, none, none, none] _
  unfold w__law_other_rule
  cases r with
  | bare w =>
    obtain ⟨r1, r2, r3, r4⟩ := hr
    rw [show ruleX (.bare w) = .tuple [.str w] from rfl]
    walk_at "zy"
    refine ⟨r1, nok1, itd' (fun e => absurd e r2) (fun _ => ?_)⟩
    walk_at "zx"
    walk_at "zy"
    refine ⟨r1, nok2, itd' (fun e => absurd e r3) (fun _ => ?_)⟩
    walk_at "zx"
    walk_at "zy"
    refine ⟨r1, nok3, itd' (fun e => absurd e r4) (fun _ => ?_)⟩
    walk_at "zx"
    walk_at "zy"
    walk_at "zy"
    refine lc_map WRD .str (fun w => .tuple [.str w]) (Tb pre (drM x) post []) (by walk_at "zx"; rfl) (by show 11 ≤ SZ; decide) (fun i w R S hq hR => ?_) ?_
    · walk_at "zx"
      exact hR
    walk_at "zx"
    refine ⟨by show 11 ≤ 16777212; decide, pk _ _ _ fun u x hu => ?_⟩
    walk_at "zx"
    exact kE u _ _ hu
  | ranks ns =>
    obtain ⟨r1, r2⟩ := hr
    rw [show ruleX (.ranks ns) = .tuple [.str "ranks", strsT ns] from rfl]
    walk_at "zy"
    refine ⟨nok1, nok1, ?_⟩
    refine onames_use hk h0 (.inl rfl) (by omega) r2 fun out x e1 e2 => ?_
    walk_at "zx"
    exact kE (.ranks out) _ _ ⟨⟨by omega, e2⟩, trivial⟩
  | turns ts =>
    obtain ⟨r1, r2⟩ := hr
    rw [show ruleX (.turns ts) = .tuple [.str "turns", .tuple (ts.map siD)] from rfl]
    walk_at "zy"
    refine ⟨nok2, nok1, itd' (fun e => absurd e ne21) (fun _ => ?_)⟩
    walk_at "zx"
    walk_at "zy"
    refine ⟨nok2, nok2, ?_⟩
    walk_at "zy"
    refine seq_cut (fun ss o => ∃ (x : Drw), o = Tb pre (drM x) post [.lst ((ts.map siD).map C.fr)] ∧ ss = [some (.hd pre.length), some (.fr (houX h)), some (.fr (.tuple [.str "turns", .tuple (ts.map siD)])), none, none, some (.hd (hb pre post 0)), none, none, none, none, none]) ?_ ?_
    · walk_at "zx"
      refine itd' (fun c1 => ?_) (fun c1 => ?_)
      · walk_at "zx"
        refine draw_use (by decide) (by decide) fun v x v1 v2 => ?_
        walk_at "zx"
        refine itd' (fun c2 => ?_) (fun c2 => ?_)
        · walk_at "zx"
          walk_at "zy"
          refine draw_use (by omega) (by omega) fun n x v1 v2 => ?_
          obtain ⟨n, rfl⟩ := Int.eq_ofNat_of_zero_le v1
          have hn := List.getElem?_eq_getElem (show n < ts.length by omega)
          generalize ts[n] = tn at *
          walk_at "zx"
          walk_at "zy"
          refine opb_of (x := .fr (siD tn)) (atI_nat (by rw [List.getElem?_map, List.getElem?_map, hn]; rfl)) ?_
          rw [siD_eq]
          walk_at "zx"
          refine pick_use (.l _) (by show 0 < 9; decide) (by show 9 ≤ SZ; decide) fun d x hd => ?_
          obtain ⟨v, _, rfl⟩ := List.mem_map.mp (show d ∈ [-10000, -1, 0, 0, 1, 4, 5, 5, 10000].map PyData.int from hd)
          walk_at "zx"
          rw [← siD_eq (tn.1, v)]
          refine opb_of (setI_map (by rw [List.length_map]; omega)) ?_
          rw [← List.map_set]
          walk_at "zx"
          refine kE (.turns (ts.set n (tn.1, v))) _ _ ⟨⟨by rw [List.length_map, List.length_set]; omega, fun z hz => ?_⟩, trivial⟩
          obtain ⟨t, ht, rfl⟩ := List.mem_map.mp hz
          rcases List.mem_or_eq_of_mem_set ht with ht | rfl
          · exact (r2 t ht).2
          · exact (r2 tn (List.mem_of_getElem? hn)).2
        · walk_at "zx"
          exact ⟨_, rfl⟩
      · walk_at "zx"
        exact ⟨_, rfl⟩
    rintro ss o ⟨x, rfl, rfl⟩
    walk_at "zy"
    refine lc_map ts siD (fun t => .str t.1) (Tb pre (drM x) post [.frz (.list (ts.map siD))]) (by walk_at "zx") (by unfold SZ; omega) (fun i t R S hq hR => ?_) ?_
    · rw [siD_eq]
      walk_at "zx"
      exact hR
    walk_at "zx"
    rw [show ts.map (fun t => PyData.str t.1) = (ts.map (·.1)).map .str by rw [List.map_map]; rfl]
    refine onames_use hk h0 (.inr rfl) (by rw [List.length_map]; omega) (fun z hz => ?_) fun out x e1 e2 => ?_
    · obtain ⟨t, ht, rfl⟩ := List.mem_map.mp hz
      exact r2 t ht
    rw [List.length_map] at e1
    rw [strsT_eq]
    walk_at "zx"
    refine lc_dr out .str siD (fun z t => t.1 = z) pre post [.frz (.list (ts.map siD))] x (by walk_at "zx") (by unfold SZ; omega) (fun i z x' T S hz hT => ?_) fun us x hus => ?_
    · walk_at "zx"
      refine draw_use (by decide) (by decide) fun v x2 l1 l2 => ?_
      walk_at "zx"
      exact hT (z, 1 + v) x2 rfl
    walk_at "zx"
    refine kE (.turns us) _ _ ⟨⟨by rw [List.length_map, hus.1]; omega, fun z hz => ?_⟩, trivial⟩
    obtain ⟨t, ht, rfl⟩ := List.mem_map.mp hz
    obtain ⟨z, hz, e⟩ := hus.at ht
    rw [e]
    exact e2 z hz
  | slots ts =>
    rw [show ruleX (.slots ts) = .tuple [.str "slots", .tuple (ts.map strsT)] from rfl]
    walk_at "zy"
    refine ⟨nok3, nok1, itd' (fun e => absurd e ne31) (fun _ => ?_)⟩
    walk_at "zx"
    walk_at "zy"
    refine ⟨nok3, nok2, itd' (fun e => absurd e ne32) (fun _ => ?_)⟩
    walk_at "zx"
    walk_at "zy"
    refine ⟨nok3, nok3, ?_⟩
    refine itd' (fun c => ?_) (fun c => ?_)
    · walk_at "zx"
      refine oslots_use hk h0 (by omega) hr fun us x hu => ?_
      walk_at "zx"
      exact kE (.slots us) _ _ ⟨hu, trivial⟩
    walk_at "zx"
    walk_at "zy"
    walk_at "zy"
    refine lc_map WRD .str (fun w => .tuple [.str w]) (Tb pre (drM x) post []) (by walk_at "zx"; rfl) (by show 11 ≤ SZ; decide) (fun i w R S hq hR => ?_) ?_
    · walk_at "zx"
      exact hR
    walk_at "zx"
    refine ⟨by show 11 ≤ 16777212; decide, pk _ _ _ fun u x hu => ?_⟩
    walk_at "zx"
    exact kE u _ _ hu
end Zd.K05

/-! Zk07h: changed houses. -/
namespace Zd.K05
open PySem L2
local macro_rules | `(tactic| walk_at "zs") => `(tactic| simp only [SZ, seqD, Option.bind_some, Bool.not_true, Bool.not_false, eqv_ii, eqv_ss, eqv_bb, shp_i, shp_s, shp_b, shp_n, eq_self, Int.toNat_natCast, range_len, Itf, itb_t, itb_f, optP, opb_some, Cal, wLc, wLcH, wYes, decide_true, decide_false,  ex_lst, List.length_map, Nat.zero_le, Nat.reduceLeDiff, Nat.reduceAdd, wNext, wBreak, wCont, wAsg, wRet, wRetN, wDrop, wIfS, wAug, wPar, wPar3, wTupRev, wSet, wAugS, fSet, fGet, wVar, wFrz, frzC, wC, wOp, wUn, res_fr, res_sc, res_hd, resO_frz, resO_lst, resO_ins, resO_dk, resO_dr, frs_map, fI, fIC, fAdd, fSub, fMul, fDiv, fMod, fPow, fShl, fShr, fAnd, fNeg, fLt, fLe, fGt, fGe, fEq, fNe, fIn, fNotIn, fIsB, fNotB, fIx,
  wSl, fSl, fSlH, wPart, wNoPart, wNil, wCons, wTup, wLst, wLstH, frs, Option.map_some, wTest, wNot, wAnd, wOr, wChain, wIf, wAndV, wOrV, wNotV, wIsN, wNotN, wCB, fLen, fInt, fAbs, fMax2, fMin2, fSum, fSumH, hdD, fMinL, fMinT, fStrI, fJoin, fMaxL, fAll, fAny, fTupleOf, fListOf, fSortedI, fSortedS, fListOfH, wIsi, gname_eq, gnil_eq, gcons_eq, gtup_eq, wiSeq, itemsOf, wiR1, wiR2, wiZip, wiZip3, wiRev, wipeS,
  wBL, wBS, isLst, isStr, fAppend, fPopAt, fPop, fCountI, fExtend, fExtendT, fIndexS, fInsert, fMulT, fAddH, fAddM, wListRg, wListRgH, wFld, wSFld, wFn, wCallF, wT3, fInSg, fInM, fNotInM, wMake, wMeth, InsAt, wDNew, wDPut, fDIn, fDNotIn, fDGet, wDGet1, wDGet2, dkD, keyC, wCall, tb_h, tb_k, tb_seth, tb_setk, tb_app, tb_len, t0_k, t0_setk, t0_app, t0_len, List.getElem?_cons_zero, List.getElem?_cons_succ, List.getElem?_nil, List.set_cons_zero, List.set_cons_succ, List.cons_append, List.nil_append, List.length_cons, List.length_nil, List.map_cons, List.map_nil, Nat.zero_add, if_true, if_false, Bool.false_eq_true, true_and, and_true,
  atI0, atI1, atI2, atI3, atI4, atI5, setI0, setI1, setI2, setI3, decide_eq_true_eq])
local macro_rules | `(tactic| walk_at "zx") => `(tactic| simp -implicitDefEqProofs only [SZ, seqD, Option.bind_some, Bool.not_true, Bool.not_false, eqv_ii, eqv_ss, eqv_bb, shp_i, shp_s, shp_b, shp_n, eq_self, Int.toNat_natCast, range_len, Itf, itb_t, itb_f, optP, opb_some, Cal, wLc, wLcH, wYes, decide_true, decide_false,  ex_lst, List.length_map, Nat.zero_le, Nat.reduceLeDiff, Nat.reduceAdd, wNext, wBreak, wCont, wAsg, wRet, wRetN, wDrop, wIfS, wAug, wPar, wPar3, wTupRev, wSet, wAugS, fSet, fGet, wVar, wFrz, frzC, wC, wOp, wUn, res_fr, res_sc, res_hd, resO_frz, resO_lst, resO_ins, resO_dk, resO_dr, frs_map, fI, fIC, fAdd, fSub, fMul, fDiv, fMod, fPow, fShl, fShr, fAnd, fNeg, fLt, fLe, fGt, fGe, fEq, fNe, fIn, fNotIn, fIsB, fNotB, fIx,
  wSl, fSl, fSlH, wPart, wNoPart, wNil, wCons, wTup, wLst, wLstH, frs, Option.map_some, wTest, wNot, wAnd, wOr, wChain, wIf, wAndV, wOrV, wNotV, wIsN, wNotN, wCB, fLen, fInt, fAbs, fMax2, fMin2, fSum, fSumH, hdD, fMinL, fMinT, fStrI, fJoin, fMaxL, fAll, fAny, fTupleOf, fListOf, fSortedI, fSortedS, fListOfH, wIsi, gname_eq, gnil_eq, gcons_eq, gtup_eq, wiSeq, itemsOf, wiR1, wiR2, wiZip, wiZip3, wiRev, wipeS,
  wBL, wBS, isLst, isStr, fAppend, fPopAt, fPop, fCountI, fExtend, fExtendT, fIndexS, fInsert, fMulT, fAddH, fAddM, wListRg, wListRgH, wFld, wSFld, wFn, wCallF, wT3, fInSg, fInM, fNotInM, wMake, wMeth, InsAt, wDNew, wDPut, fDIn, fDNotIn, fDGet, wDGet1, wDGet2, dkD, keyC, wCall, tb_h, tb_k, tb_seth, tb_setk, tb_app, tb_len, t0_k, t0_setk, t0_app, t0_len, List.getElem?_cons_zero, List.getElem?_cons_succ, List.getElem?_nil, List.set_cons_zero, List.set_cons_succ, List.cons_append, List.nil_append, List.length_cons, List.length_nil, List.map_cons, List.map_nil, Nat.zero_add, if_true, if_false, Bool.false_eq_true, true_and, and_true,
  atI0, atI1, atI2, atI3, atI4, atI5, setI0, setI1, setI2, setI3, decide_eq_true_eq])
local macro_rules | `(tactic| walk_at "z1") => `(tactic| (refine seq1 ?_; try walk_at "zs"))
local macro_rules | `(tactic| walk_at "zy") => `(tactic| (refine seq1 ?_; try walk_at "zx"))
local macro_rules | `(tactic| walk_at "nw") => `(tactic| refine ⟨by decide +kernel, by decide +kernel, itd' (fun e => absurd e (by decide +kernel)) (fun _ => ?_)⟩)
local macro_rules | `(tactic| walk_at "iw") => `(tactic| refine ⟨by decide +kernel, by decide +kernel, ?_⟩)
local macro_rules | `(tactic| walk_at "ni") => `(tactic| (simp only [strsD, Option.map_some]; walk_at "zs"; refine itd' (fun e => absurd e (by decide +kernel)) (fun _ => ?_)))
local macro_rules | `(tactic| walk_at "yi") => `(tactic| (simp only [strsD, Option.map_some]; walk_at "zs"; refine itd' (fun _ => ?_) (fun e => absurd (by decide +kernel) e)))
theorem withF_mem {α : Type} {xs : List α} {n : Nat} {y x : α} (h : x ∈ withF xs n y) : x ∈ xs ∨ x = y := by
  unfold withF at h
  rcases List.mem_append.mp h with h | h
  · rcases List.mem_append.mp h with h | h
    · exact .inl (List.mem_of_mem_take h)
    · exact .inr (List.mem_singleton.mp h)
  · exact .inl (List.mem_of_mem_drop h)
theorem withF_len {α : Type} {xs : List α} {n : Nat} {y : α} (h : n < xs.length) : (withF xs n y).length = xs.length := by
  unfold withF
  simp only [List.length_append, List.length_take, List.length_drop, List.length_cons, List.length_nil]
  omega
theorem withF_set {α : Type} {xs : List α} {n : Nat} {y : α} (h : n < xs.length) : withF xs n y = xs.set n y := by
  unfold withF
  rw [List.set_eq_take_append_cons_drop, if_pos h, List.append_assoc]
  rfl
def hSta (h : HouX) (i : Nat) (s : StaX) : HouX := ⟨withF h.stas i s, h.flows⟩
def stRule (s : StaX) (r : RuleX) : StaX := ⟨s.nm, s.hrs, s.stop, r⟩
def f__law_with_station : FA := fEx fun cs d => ∃ (h : HouX) (i : Nat) (r : RuleX) (s : StaX), cs = [.fr (houX h), .fr (.int i), .fr (.int 3), .fr (ruleX r)] ∧ h.stas.length ≤ 1000 ∧ h.stas[i]? = some s ∧ d = houX (hSta h i (stRule s r))
theorem withsta_use {h : HouX} {i : Nat} {r : RuleX} {s : StaX} {own : Ts} {Q : Hd KC} (o : h.stas.length ≤ 1000) (hs : h.stas[i]? = some s) (kk : Q.v (.fr (houX (hSta h i (stRule s r)))) own) :
    @CalB f__law_with_station [.fr (houX h), .fr (.int i), .fr (.int 3), .fr (ruleX r)] own Q := ex_at rfl ⟨h, i, r, s, rfl, o, hs, rfl⟩ kk
def N__law_with_station : List Str := ["house", "s", "part", "value"]
def w__law_with_station : WS := (wRet (wTup (wCons (wCall 3 f__law_with (wCons (wOp fIx (wVar 0) (wC (.int 0))) (wCons (wVar 1) (wCons (wCall 3 f__law_with (wCons (wOp fIx (wOp fIx (wVar 0) (wC (.int 0))) (wVar 1)) (wCons (wVar 2) (wCons (wVar 3) wNil)))) wNil)))) (wCons (wOp fIx (wVar 0) (wC (.int 1))) wNil))))
theorem d__law_with_station : ∀ cs own Q, Cl own → cs.length = 4 → f__law_with_station cs own Q → w__law_with_station (enF own.length Q) (startS N__law_with_station cs) own := by
  refine ex_body fun own cs d Q ⟨h, n, r, s, e, l1, hs, e2⟩ k => ?_
  subst e e2
  show w__law_with_station _ [some (.fr (houX h)), some (.fr (.int n)), some (.fr (.int 3)), some (.fr (ruleX r))] _
  unfold w__law_with_station
  rw [houX_eq]
  walk_at "zs"
  refine opb_map hs ?_
  rw [staX_eq s]
  walk_at "zs"
  refine with_use (xs := [.str s.nm, hoursD s.hrs, stopD s.stop, ruleX s.rule]) (n := 3) (x := ruleX r) (by show 4 ≤ 1000000; decide) ?_
  walk_at "zs"
  refine with_use (xs := h.stas.map staX) (n := n) (x := staX (stRule s r)) (by rw [List.length_map]; omega) ?_
  rw [with_map]
  walk_at "zs"
  exact k _
/-! ### stations that lose their rules -/
def headX : RuleX → Str
  | .bare w => w
  | .ranks _ => "ranks"
  | .turns _ => "turns"
  | .slots _ => "slots"
def restX : RuleX → List D
  | .bare _ => []
  | .ranks ns => [strsT ns]
  | .turns ts => [.tuple (ts.map siD)]
  | .slots cs => [.tuple (cs.map strsT)]
theorem ruleX_hd (r : RuleX) : ruleX r = .tuple (.str (headX r) :: restX r) := by cases r <;> rfl
def dueX : RuleX := .bare "due"
/-- a station behind which flow f changed -/
def rulX (f : FlowT) (s : StaX) : StaX := if s.nm ∈ f.hops.map (·.st) ∧ headX s.rule ∉ DCX then stRule s dueX else s
theorem rulX_yes {f : FlowT} {s : StaX} (h : s.nm ∈ f.hops.map (·.st)) (h2 : headX s.rule ∉ DCX) : rulX f s = stRule s dueX := if_pos ⟨h, h2⟩
theorem rulX_no {f : FlowT} {s : StaX} (h : s.nm ∉ f.hops.map (·.st)) : rulX f s = s := if_neg fun z => h z.1
theorem rulX_dc {f : FlowT} {s : StaX} (h : headX s.rule ∈ DCX) : rulX f s = s := if_neg fun z => z.2 h
theorem dc_inX {w : Str} (e : (!decide (w ∈ [("due" : Str), "come"])) = false) : w ∈ DCX := by
  cases h : decide (w ∈ DCX) with
  | true => exact of_decide_eq_true h
  | false => exact absurd e (by show ¬ (!decide (w ∈ DCX)) = false; rw [h]; decide)
theorem dc_outX {w : Str} (e : (!decide (w ∈ [("due" : Str), "come"])) = true) : w ∉ DCX := by
  cases h : decide (w ∈ DCX) with
  | false => exact of_decide_eq_false h
  | true => exact absurd e (by show ¬ (!decide (w ∈ DCX)) = true; rw [h]; decide)
theorem take_map1 {α β : Type} {g : α → β} {xs : List α} {i : Nat} {x : α} (h : xs[i]? = some x) : (xs.take (i + 1)).map g = (xs.take i).map g ++ [g x] := by
  rw [take_get h, List.map_append]
  rfl
def f_ruled_by_dues : FA := fEx fun cs d => ∃ (ss : List StaX) (f : FlowT), cs = [.fr (.tuple (ss.map staX)), .fr (flD f)] ∧ ss.length ≤ 1000 ∧ f.hops.length ≤ 1000 ∧ d = .tuple ((ss.map (rulX f)).map staX)
theorem rul_use {ss : List StaX} {f : FlowT} {own : Ts} {Q : Hd KC} (h1 : ss.length ≤ 1000) (h3 : f.hops.length ≤ 1000) (k : Q.v (.fr (.tuple ((ss.map (rulX f)).map staX))) own) : @CalB f_ruled_by_dues [.fr (.tuple (ss.map staX)), .fr (flD f)] own Q := ex_at rfl ⟨ss, f, rfl, h1, h3, rfl⟩ k
def N_ruled_by_dues : List Str := ["stations", "flow", "passed", "found", "item", "hop"]
def w_ruled_by_dues : WS := (wSeq (wAsg (wLc (wiSeq (wOp fIx (wVar 1) (wC (.int 2)))) (wName 5) wYes (wOp fIx (wVar 5) (wC (.int 0))) [5]) (wName 2))
  (wSeq (wAsg (wLstH wNil) (wName 3))
  (wSeq (wFor (wiSeq (wVar 0)) (wName 4) (wSeq (wIfS (wAnd (wTest (wOp fIn (wOp fIx (wVar 4) (wC (.int 0))) (wVar 2))) (wTest (wOp fNotIn (wOp fIx (wOp fIx (wVar 4) (wC (.int 3))) (wC (.int 0))) (wTup (wCons (wC (.str "due")) (wCons (wC (.str "come")) wNil)))))) (wAsg (wTup (wCons (wOp fIx (wVar 4) (wC (.int 0))) (wCons (wOp fIx (wVar 4) (wC (.int 1))) (wCons (wOp fIx (wVar 4) (wC (.int 2))) (wCons (wTup (wCons (wC (.str "due")) wNil)) wNil))))) (wName 4)) wNext)
  (wDrop (wBL fAppend (wVar 3) (wCons (wVar 4) wNil)))))
  (wRet (wCB fTupleOf (wCons (wFrz (wVar 3)) wNil))))))
theorem d_ruled_by_dues : ∀ cs own Q, Cl own → cs.length = 2 → f_ruled_by_dues cs own Q → w_ruled_by_dues (enF own.length Q) (startS N_ruled_by_dues cs) own := by
  refine ex_body fun own cs d Q ⟨ss, f, e, hl, hf, e2⟩ k => ?_
  subst e e2
  show w_ruled_by_dues _ [some (.fr (.tuple (ss.map staX))), some (.fr (flD f)), none, none, none, none] _
  unfold w_ruled_by_dues
  walk_at "zy"
  refine lc_map f.hops hopD (fun p => .str p.st) (T0 own []) ?_ (by unfold SZ; omega) (fun i p R S ha h => ?_) ?_
  · rw [flD_eq f]
    walk_at "zx"
  · rw [hopD_eq]
    walk_at "zx"
    exact h
  walk_at "zx"
  walk_at "zy"
  refine seq1 ?_
  refine for_inv (ss.map staX) (T0 own [.lst []]) (fun k st o => ∃ z4 : Option C, o = T0 own [.lst ((((ss.take k).map (rulX f)).map staX).map C.fr)] ∧ st = [some (.fr (.tuple (ss.map staX))), some (.fr (flD f)), some (.fr (.list (f.hops.map fun p => .str p.st))), some (.hd (h0 own 0)), z4, none]) (by walk_at "zx") ⟨none, rfl, rfl⟩ ?_ ?_
  · rintro i d st o hi ⟨z4, rfl, rfl⟩
    obtain ⟨s, hs, rfl⟩ := get_map hi
    have hil := lt_of_get hs
    have er := ruleX_hd s.rule
    walk_at "zx"
    refine seq_cut (fun st o => o = T0 own [.lst ((((ss.take i).map (rulX f)).map staX).map C.fr)] ∧ st = [some (.fr (.tuple (ss.map staX))), some (.fr (flD f)), some (.fr (.list (f.hops.map fun p => .str p.st))), some (.hd (h0 own 0)), some (.fr (staX (rulX f s))), none]) ?_ ?_
    · rw [staX_eq s]
      walk_at "zx"
      rw [strsD_f (fun p : HopT => p.st)]
      walk_at "zx"
      refine itd' (fun e1 => ?_) (fun e1 => ?_)
      · walk_at "zx"
        rw [er]
        walk_at "zx"
        refine opb_of (x := DCX) rfl ?_
        walk_at "zx"
        refine itb (fun e => ?_) (fun e => ?_)
        · walk_at "zx"
          rw [rulX_yes e1 (dc_outX e)]
          rfl
        · walk_at "zx"
          rw [rulX_dc (dc_inX e), staX_eq s, er]
      · walk_at "zx"
        rw [rulX_no e1, staX_eq s]
    · rintro st o ⟨rfl, rfl⟩
      walk_at "zx"
      refine ⟨by rw [List.length_take]; omega, _, ?_, rfl⟩
      rw [take_map1 hs, List.map_append, List.map_append]
      rfl
  · rintro st o ⟨z4, rfl, rfl⟩
    rw [List.length_map, List.take_length]
    walk_at "zx"
    exact k _
def hLess (h : HouX) (i : Nat) (f : FlowT) : HouX := ⟨h.stas.map (rulX f), h.flows.take i ++ h.flows.drop (i + 1)⟩
def hMore (h : HouX) (f : FlowT) : HouX := ⟨h.stas.map (rulX f), h.flows ++ [f]⟩
def f_with_flow : FA := fEx fun cs d => ∃ (h : HouX) (f : FlowT), cs = [.fr (houX h), .fr (flD f)] ∧ HouK h ∧ f.hops.length ≤ 1000 ∧ d = houX (hMore h f)
theorem more_use {h : HouX} {f : FlowT} {own : Ts} {Q : Hd KC} (o : HouK h) (e : f.hops.length ≤ 1000) (k : Q.v (.fr (houX (hMore h f))) own) : @CalB f_with_flow [.fr (houX h), .fr (flD f)] own Q := ex_at rfl ⟨h, f, rfl, o, e, rfl⟩ k
def N_with_flow : List Str := ["house", "flow"]
def w_with_flow : WS := (wRet (wTup (wCons (wCall 2 f_ruled_by_dues (wCons (wOp fIx (wVar 0) (wC (.int 0))) (wCons (wVar 1) wNil))) (wCons (wOp fAdd (wOp fIx (wVar 0) (wC (.int 1))) (wTup (wCons (wVar 1) wNil))) wNil))))
theorem d_with_flow : ∀ cs own Q, Cl own → cs.length = 2 → f_with_flow cs own Q → w_with_flow (enF own.length Q) (startS N_with_flow cs) own := by
  refine ex_body fun own cs d Q ⟨h, f, e, o, hf, e2⟩ k => ?_
  subst e e2
  have l1 := o.fl
  show w_with_flow _ [some (.fr (houX h)), some (.fr (flD f))] _
  unfold w_with_flow
  rw [houX_eq, flsD_eq]
  walk_at "zx"
  refine rul_use o.sl hf ?_
  walk_at "zx"
  refine ⟨by omega, ?_⟩
  have e : houX (hMore h f) = .tuple [.tuple ((h.stas.map (rulX f)).map staX), .tuple (h.flows.map flD ++ [flD f])] := by
    rw [houX_eq, flsD_eq]
    unfold hMore
    simp only [List.map_append, List.map_cons, List.map_nil]
  rw [e] at k
  exact k _
def f_without_flow : FA := fEx fun cs d => ∃ (h : HouX) (i : Nat) (f : FlowT), cs = [.fr (houX h), .fr (.str f.nm)] ∧ HouK h ∧ (h.flows.map (·.nm)).Nodup ∧ h.flows[i]? = some f ∧ d = houX (hLess h i f)
theorem less_use {h : HouX} {i : Nat} {f : FlowT} {own : Ts} {Q : Hd KC} (o : HouK h) (nd : (h.flows.map (·.nm)).Nodup) (e : h.flows[i]? = some f) (k : Q.v (.fr (houX (hLess h i f))) own) : @CalB f_without_flow [.fr (houX h), .fr (.str f.nm)] own Q := ex_at rfl ⟨h, i, f, rfl, o, nd, e, rfl⟩ k
def N_without_flow : List Str := ["house", "name", "number", "stations"]
def w_without_flow : WS := (wSeq (wAsg (wCall 2 f_flow_number (wCons (wVar 0) (wCons (wVar 1) wNil))) (wName 2))
  (wSeq (wAsg (wCall 2 f_ruled_by_dues (wCons (wOp fIx (wVar 0) (wC (.int 0))) (wCons (wOp fIx (wOp fIx (wVar 0) (wC (.int 1))) (wVar 2)) wNil))) (wName 3))
  (wRet (wTup (wCons (wVar 3) (wCons (wOp fAdd (wSl fSl (wOp fIx (wVar 0) (wC (.int 1))) wNoPart (wPart (wVar 2))) (wSl fSl (wOp fIx (wVar 0) (wC (.int 1))) (wPart (wOp fAdd (wVar 2) (wC (.int 1)))) wNoPart)) wNil))))))
theorem d_without_flow : ∀ cs own Q, Cl own → cs.length = 2 → f_without_flow cs own Q → w_without_flow (enF own.length Q) (startS N_without_flow cs) own := by
  refine ex_body fun own cs d Q ⟨h, i, f, e, o, nd, hf, e2⟩ k => ?_
  subst e e2
  have l1 := o.fl
  have fk := o.fs f (List.mem_of_getElem? hf)
  show w_without_flow _ [some (.fr (houX h)), some (.fr (.str f.nm)), none, none] _
  unfold w_without_flow
  walk_at "zy"
  refine ex_at (f := f_flow_number) rfl ⟨.tuple (h.stas.map staX), h.flows, i, f, rfl, fls_ok o, nd, hf, rfl⟩ ?_
  walk_at "zx"
  rw [houX_eq, flsD_eq]
  walk_at "zy"
  refine opb_map hf ?_
  walk_at "zx"
  refine rul_use o.sl fk.hl ?_
  walk_at "zx"
  rw [show (i : Int) + 1 = ((i + 1 : Nat) : Int) from rfl, cutD_map, cutD_map, cutD_to, cutD_from]
  have e : houX (hLess h i f) = .tuple [.tuple ((h.stas.map (rulX f)).map staX), .tuple ((h.flows.take i).map flD ++ (h.flows.drop (i + 1)).map flD)] := by
    rw [houX_eq, flsD_eq]
    unfold hLess
    simp only [List.map_append]
  rw [e] at k
  refine ⟨?_, k _⟩
  rw [List.length_map, List.length_map, List.length_take, List.length_drop]
  omega
def f__law_freed : FA := fEx fun cs d => ∃ (h : HouX) (f : FlowT) (fs : List FlowT), cs = [.fr (houX h), .fr (flD f), .fr (flsD fs)] ∧ HouK h ∧ f.hops.length ≤ 1000 ∧ d = houX ⟨h.stas.map (rulX f), fs⟩
theorem freed_use {h : HouX} {f : FlowT} {fs : List FlowT} {own : Ts} {Q : Hd KC} (o : HouK h) (e : f.hops.length ≤ 1000) (k : Q.v (.fr (houX ⟨h.stas.map (rulX f), fs⟩)) own) : @CalB f__law_freed [.fr (houX h), .fr (flD f), .fr (flsD fs)] own Q := ex_at rfl ⟨h, f, fs, rfl, o, e, rfl⟩ k
def N__law_freed : List Str := ["house", "flow", "flows", "passed", "stations", "item", "is_bound", "hop"]
def w__law_freed : WS := (wSeq (wAsg (wLc (wiSeq (wOp fIx (wVar 1) (wC (.int 2)))) (wName 7) wYes (wOp fIx (wVar 7) (wC (.int 0))) [7]) (wName 3))
  (wSeq (wAsg (wLstH wNil) (wName 4))
  (wSeq (wFor (wiSeq (wOp fIx (wVar 0) (wC (.int 0)))) (wName 5) (wSeq (wAsg (wAndV (wOp fIn (wOp fIx (wVar 5) (wC (.int 0))) (wVar 3)) (wOp fNotIn (wOp fIx (wOp fIx (wVar 5) (wC (.int 3))) (wC (.int 0))) (wTup (wCons (wC (.str "due")) (wCons (wC (.str "come")) wNil))))) (wName 6))
  (wDrop (wBL fAppend (wVar 4) (wCons (wIf (wTest (wVar 6)) (wOp fAdd (wSl fSl (wVar 5) wNoPart (wPart (wC (.int 3)))) (wTup (wCons (wTup (wCons (wC (.str "due")) wNil)) wNil))) (wVar 5)) wNil)))))
  (wRet (wTup (wCons (wCB fTupleOf (wCons (wFrz (wVar 4)) wNil)) (wCons (wVar 2) wNil)))))))
theorem d__law_freed : ∀ cs own Q, Cl own → cs.length = 3 → f__law_freed cs own Q → w__law_freed (enF own.length Q) (startS N__law_freed cs) own := by
  refine ex_body fun own cs d Q ⟨h, f, fs, e, o, hf, e2⟩ k => ?_
  subst e e2
  have hl := o.sl
  show w__law_freed _ [some (.fr (houX h)), some (.fr (flD f)), some (.fr (flsD fs)), none, none, none, none, none] _
  unfold w__law_freed
  walk_at "zy"
  refine lc_map f.hops hopD (fun p => .str p.st) (T0 own []) ?_ (by unfold SZ; omega) (fun i p R S ha h => ?_) ?_
  · rw [flD_eq f]
    walk_at "zx"
  · rw [hopD_eq]
    walk_at "zx"
    exact h
  walk_at "zx"
  walk_at "zy"
  refine seq1 ?_
  refine for_inv (h.stas.map staX) (T0 own [.lst []]) (fun k st o => ∃ z5 z6 : Option C, o = T0 own [.lst ((((h.stas.take k).map (rulX f)).map staX).map C.fr)] ∧ st = [some (.fr (houX h)), some (.fr (flD f)), some (.fr (flsD fs)), some (.fr (.list (f.hops.map fun p => .str p.st))), some (.hd (h0 own 0)), z5, z6, none]) (by rw [houX_eq]; walk_at "zx") ⟨none, none, rfl, rfl⟩ ?_ ?_
  · rintro i d st o hi ⟨z5, z6, rfl, rfl⟩
    obtain ⟨s, hs, rfl⟩ := get_map hi
    have hil := lt_of_get hs
    have er := ruleX_hd s.rule
    walk_at "zx"
    refine seq_cut (fun st o => ∃ b : Bool, rulX f s = (if b = true then stRule s dueX else s) ∧ o = T0 own [.lst ((((h.stas.take i).map (rulX f)).map staX).map C.fr)] ∧ st = [some (.fr (houX h)), some (.fr (flD f)), some (.fr (flsD fs)), some (.fr (.list (f.hops.map fun p => .str p.st))), some (.hd (h0 own 0)), some (.fr (staX s)), some (.fr (.bool b)), none]) ?_ ?_
    · rw [staX_eq s]
      walk_at "zx"
      rw [strsD_f (fun p : HopT => p.st)]
      walk_at "zx"
      refine itd' (fun e1 => ?_) (fun e1 => ?_)
      · walk_at "zx"
        rw [er]
        walk_at "zx"
        refine opb_of (x := DCX) rfl ?_
        walk_at "zx"
        refine ⟨_, ?_, rfl⟩
        by_cases h2 : headX s.rule ∈ DCX
        · rw [rulX_dc h2, decide_eq_true h2]
          rfl
        · rw [rulX_yes e1 h2, decide_eq_false h2]
          rfl
      · walk_at "zx"
        refine ⟨false, ?_, rfl⟩
        rw [rulX_no e1]
        rfl
    · rintro st o ⟨b, eb, rfl, rfl⟩
      have fin : ∀ s', s' = rulX f s → T0 own [MO.lst (((((h.stas.take i).map (rulX f)).map staX).map C.fr) ++ [C.fr (staX s')])] = T0 own [MO.lst ((((h.stas.take (i + 1)).map (rulX f)).map staX).map C.fr)] := fun s' e => by
        rw [take_map1 hs, List.map_append, List.map_append, e]
        rfl
      walk_at "zx"
      cases b with
      | true =>
        rw [if_pos rfl] at eb
        refine itb (fun _ => ?_) (fun e => by cases e)
        rw [staX_eq s]
        walk_at "zx"
        rw [cutD_43]
        exact ⟨by show 3 ≤ 16777215; decide, by rw [List.length_take]; omega, _, _, fin (stRule s dueX) eb.symm, rfl⟩
      | false =>
        rw [if_neg (by decide)] at eb
        refine itb (fun e => by cases e) (fun _ => ?_)
        walk_at "zx"
        exact ⟨by rw [List.length_take]; omega, _, _, fin s eb.symm, rfl⟩
  · rintro st o ⟨z4, z6, rfl, rfl⟩
    rw [List.length_map, List.take_length]
    walk_at "zx"
    exact k _
end Zd.K05

/-! Zk07i: passers, depth; houses with a flow less or more. -/
namespace Zd.K05
open PySem L2
local macro_rules | `(tactic| walk_at "zs") => `(tactic| simp only [SZ, seqD, Option.bind_some, Bool.not_true, Bool.not_false, eqv_ii, eqv_ss, eqv_bb, shp_i, shp_s, shp_b, shp_n, eq_self, Int.toNat_natCast, range_len, Itf, itb_t, itb_f, optP, opb_some, Cal, wLc, wLcH, wYes, decide_true, decide_false,  ex_lst, List.length_map, Nat.zero_le, Nat.reduceLeDiff, Nat.reduceAdd, wNext, wBreak, wCont, wAsg, wRet, wRetN, wDrop, wIfS, wAug, wPar, wPar3, wTupRev, wSet, wAugS, fSet, fGet, wVar, wFrz, frzC, wC, wOp, wUn, res_fr, res_sc, res_hd, resO_frz, resO_lst, resO_ins, resO_dk, resO_dr, frs_map, fI, fIC, fAdd, fSub, fMul, fDiv, fMod, fPow, fShl, fShr, fAnd, fNeg, fLt, fLe, fGt, fGe, fEq, fNe, fIn, fNotIn, fIsB, fNotB, fIx,
  wSl, fSl, fSlH, wPart, wNoPart, wNil, wCons, wTup, wLst, wLstH, frs, Option.map_some, wTest, wNot, wAnd, wOr, wChain, wIf, wAndV, wOrV, wNotV, wIsN, wNotN, wCB, fLen, fInt, fAbs, fMax2, fMin2, fSum, fSumH, hdD, fMinL, fMinT, fStrI, fJoin, fMaxL, fAll, fAny, fTupleOf, fListOf, fSortedI, fSortedS, fListOfH, wIsi, gname_eq, gnil_eq, gcons_eq, gtup_eq, wiSeq, itemsOf, wiR1, wiR2, wiZip, wiZip3, wiRev, wipeS,
  wBL, wBS, isLst, isStr, fAppend, fPopAt, fPop, fCountI, fExtend, fExtendT, fIndexS, fInsert, fMulT, fAddH, fAddM, wListRg, wListRgH, wFld, wSFld, wFn, wCallF, wT3, fInSg, fInM, fNotInM, wMake, wMeth, InsAt, wDNew, wDPut, fDIn, fDNotIn, fDGet, wDGet1, wDGet2, dkD, keyC, wCall, tb_h, tb_k, tb_seth, tb_setk, tb_app, tb_len, t0_k, t0_setk, t0_app, t0_len, List.getElem?_cons_zero, List.getElem?_cons_succ, List.getElem?_nil, List.set_cons_zero, List.set_cons_succ, List.cons_append, List.nil_append, List.length_cons, List.length_nil, List.map_cons, List.map_nil, Nat.zero_add, if_true, if_false, Bool.false_eq_true, true_and, and_true,
  atI0, atI1, atI2, atI3, atI4, atI5, setI0, setI1, setI2, setI3, decide_eq_true_eq])
local macro_rules | `(tactic| walk_at "zx") => `(tactic| simp -implicitDefEqProofs only [SZ, seqD, Option.bind_some, Bool.not_true, Bool.not_false, eqv_ii, eqv_ss, eqv_bb, shp_i, shp_s, shp_b, shp_n, eq_self, Int.toNat_natCast, range_len, Itf, itb_t, itb_f, optP, opb_some, Cal, wLc, wLcH, wYes, decide_true, decide_false,  ex_lst, List.length_map, Nat.zero_le, Nat.reduceLeDiff, Nat.reduceAdd, wNext, wBreak, wCont, wAsg, wRet, wRetN, wDrop, wIfS, wAug, wPar, wPar3, wTupRev, wSet, wAugS, fSet, fGet, wVar, wFrz, frzC, wC, wOp, wUn, res_fr, res_sc, res_hd, resO_frz, resO_lst, resO_ins, resO_dk, resO_dr, frs_map, fI, fIC, fAdd, fSub, fMul, fDiv, fMod, fPow, fShl, fShr, fAnd, fNeg, fLt, fLe, fGt, fGe, fEq, fNe, fIn, fNotIn, fIsB, fNotB, fIx,
  wSl, fSl, fSlH, wPart, wNoPart, wNil, wCons, wTup, wLst, wLstH, frs, Option.map_some, wTest, wNot, wAnd, wOr, wChain, wIf, wAndV, wOrV, wNotV, wIsN, wNotN, wCB, fLen, fInt, fAbs, fMax2, fMin2, fSum, fSumH, hdD, fMinL, fMinT, fStrI, fJoin, fMaxL, fAll, fAny, fTupleOf, fListOf, fSortedI, fSortedS, fListOfH, wIsi, gname_eq, gnil_eq, gcons_eq, gtup_eq, wiSeq, itemsOf, wiR1, wiR2, wiZip, wiZip3, wiRev, wipeS,
  wBL, wBS, isLst, isStr, fAppend, fPopAt, fPop, fCountI, fExtend, fExtendT, fIndexS, fInsert, fMulT, fAddH, fAddM, wListRg, wListRgH, wFld, wSFld, wFn, wCallF, wT3, fInSg, fInM, fNotInM, wMake, wMeth, InsAt, wDNew, wDPut, fDIn, fDNotIn, fDGet, wDGet1, wDGet2, dkD, keyC, wCall, tb_h, tb_k, tb_seth, tb_setk, tb_app, tb_len, t0_k, t0_setk, t0_app, t0_len, List.getElem?_cons_zero, List.getElem?_cons_succ, List.getElem?_nil, List.set_cons_zero, List.set_cons_succ, List.cons_append, List.nil_append, List.length_cons, List.length_nil, List.map_cons, List.map_nil, Nat.zero_add, if_true, if_false, Bool.false_eq_true, true_and, and_true,
  atI0, atI1, atI2, atI3, atI4, atI5, setI0, setI1, setI2, setI3, decide_eq_true_eq])
local macro_rules | `(tactic| walk_at "z1") => `(tactic| (refine seq1 ?_; try walk_at "zs"))
local macro_rules | `(tactic| walk_at "zy") => `(tactic| (refine seq1 ?_; try walk_at "zx"))
local macro_rules | `(tactic| walk_at "nw") => `(tactic| refine ⟨by decide +kernel, by decide +kernel, itd' (fun e => absurd e (by decide +kernel)) (fun _ => ?_)⟩)
local macro_rules | `(tactic| walk_at "iw") => `(tactic| refine ⟨by decide +kernel, by decide +kernel, ?_⟩)
local macro_rules | `(tactic| walk_at "ni") => `(tactic| (simp only [strsD, Option.map_some]; walk_at "zs"; refine itd' (fun e => absurd e (by decide +kernel)) (fun _ => ?_)))
local macro_rules | `(tactic| walk_at "yi") => `(tactic| (simp only [strsD, Option.map_some]; walk_at "zs"; refine itd' (fun _ => ?_) (fun e => absurd (by decide +kernel) e)))
/-! ### passers by name -/
def pnG (fs : List FlowT) (st : Str) : List Str := fs.flatMap fun f => (hopsOf f st f.hops.length).map fun _ => f.nm
theorem pn_eq (fs : List FlowT) (st : Str) : pnF fs st = pnG fs st := by
  have key : ∀ n, n ≤ fs.length → (passR fs st n).map (fun p => (fs[p.1]?.map (·.nm)).getD default) = pnG (fs.take n) st := fun n => by
    induction n with
    | zero => intro _; simp [passR, pnG]
    | succ n ih =>
      intro hn
      have hf := List.getElem?_eq_getElem (show n < fs.length by omega)
      rw [passR_succ hf, List.map_append, ih (by omega), take_get hf]
      unfold pnG
      rw [List.flatMap_append, List.flatMap_singleton, List.map_map]
      congr 1
      refine List.map_congr_left fun i _ => ?_
      show (fs[n]?.map (·.nm)).getD default = _
      rw [hf]
      rfl
  have := key fs.length (Nat.le_refl _)
  rw [List.take_length] at this
  exact this
theorem hops_nil {f : FlowT} {st : Str} (h : st ∉ f.hops.map (·.st)) : hopsOf f st f.hops.length = [] := by
  unfold hopsOf
  rw [List.filter_eq_nil_iff]
  intro j hj
  have jl := List.mem_range.mp hj
  rw [List.getElem?_eq_getElem jl]
  intro e
  have e := of_decide_eq_true e
  exact h (List.mem_map.mpr ⟨_, List.getElem_mem jl, Option.some.inj e⟩)
theorem pn_less {fs : List FlowT} {i : Nat} {f : FlowT} {st : Str} (hf : fs[i]? = some f) (h : st ∉ f.hops.map (·.st)) : pnF (fs.take i ++ fs.drop (i + 1)) st = pnF fs st := by
  have il := lt_of_get hf
  rw [pn_eq, pn_eq]
  have e : fs = fs.take i ++ f :: fs.drop (i + 1) := by
    rw [List.getElem?_eq_getElem il] at hf
    rw [← Option.some.inj hf, List.getElem_cons_drop, List.take_append_drop]
  conv => rhs; rw [e]
  unfold pnG
  rw [List.flatMap_append, List.flatMap_append, List.flatMap_cons, hops_nil h]
  rfl
theorem pn_more {fs : List FlowT} {f : FlowT} {st : Str} (h : st ∉ f.hops.map (·.st)) : pnF (fs ++ [f]) st = pnF fs st := by
  rw [pn_eq, pn_eq]
  unfold pnG
  rw [List.flatMap_append, List.flatMap_singleton, hops_nil h]
  simp
theorem pn_len {h : HouX} (h6 : h.flows.length ≤ 6) (h8 : ∀ f ∈ h.flows, (f.hops.length : Int) ≤ 8) (st : Str) : (pnF h.flows st).length ≤ 48 := by
  have := passR_len8 (st := st) h8 h.flows.length (Nat.le_refl _)
  unfold pnF passF
  rw [List.length_map]
  omega
theorem pn_mem {fs : List FlowT} {st z : Str} (h : z ∈ pnF fs st) : ∃ f ∈ fs, f.nm = z := by
  rw [pn_eq] at h
  obtain ⟨f, hf, hz⟩ := List.mem_flatMap.mp h
  obtain ⟨j, _, e⟩ := List.mem_map.mp hz
  exact ⟨f, hf, e⟩
/-! ### depth -/
def Lay (n : Nat) (d : D) : Prop := d.canLay0 = true ∧ d.depth ≤ n
theorem lay_tup {n : Nat} {ds : List D} (h : ∀ d ∈ ds, Lay n d) : Lay (n + 1) (.tuple ds) := by
  have h2 : PyData.canLayAll0 ds = true ∧ PyData.depthAll ds ≤ n := by
    induction ds with
    | nil =>
      unfold PyData.canLayAll0 PyData.depthAll
      exact ⟨rfl, Nat.zero_le _⟩
    | cons d ds ih =>
      obtain ⟨h1, h2⟩ := h d List.mem_cons_self
      obtain ⟨h3, h4⟩ := ih fun x hx => h x (List.mem_cons_of_mem _ hx)
      unfold PyData.canLayAll0 PyData.depthAll
      rw [h1, h3]
      exact ⟨rfl, Nat.max_le.mpr ⟨h2, h4⟩⟩
  unfold Lay PyData.canLay0 PyData.depth
  exact ⟨h2.1, by have := h2.2; omega⟩
theorem lay_map {α : Type} {n : Nat} {f : α → D} {xs : List α} (h : ∀ x ∈ xs, Lay n (f x)) : Lay (n + 1) (.tuple (xs.map f)) := lay_tup fun d hd => by
  obtain ⟨x, hx, rfl⟩ := List.mem_map.mp hd
  exact h x hx
theorem lay_int {n : Nat} (i : Int) : Lay n (.int i) := by
  unfold Lay PyData.canLay0 PyData.depth
  exact ⟨rfl, Nat.zero_le _⟩
theorem lay_str {n : Nat} {z : Str} (h : PyData.strOk z = true) : Lay n (.str z) := by
  unfold Lay PyData.canLay0 PyData.depth
  exact ⟨h, Nat.zero_le _⟩
theorem lay_none {n : Nat} : Lay n .none := by
  unfold Lay PyData.canLay0 PyData.depth
  exact ⟨rfl, Nat.zero_le _⟩
/-- a rule of fit texts -/
def RuleT' : RuleX → Prop
  | .bare w => PyData.strOk w = true
  | .ranks ns => OkS ns
  | .turns ts => ∀ t ∈ ts, PyData.strOk t.1 = true
  | .slots cs => ∀ c ∈ cs, OkS c
theorem lay_rule {r : RuleX} (h : RuleT' r) : Lay 3 (ruleX r) := by
  cases r with
  | bare w =>
    refine lay_tup fun d hd => ?_
    rw [List.mem_singleton.mp hd]
    exact lay_str h
  | ranks ns =>
    refine lay_tup fun d hd => ?_
    rcases List.mem_cons.mp hd with rfl | hd
    · exact lay_str nok1
    · rw [List.mem_singleton.mp hd]
      exact lay_map (n := 1) fun z hz => lay_str (h z hz)
  | turns ts =>
    refine lay_tup fun d hd => ?_
    rcases List.mem_cons.mp hd with rfl | hd
    · exact lay_str nok2
    · rw [List.mem_singleton.mp hd]
      refine lay_map (n := 1) fun t ht => lay_tup (n := 0) fun d hd => ?_
      rcases List.mem_cons.mp hd with rfl | hd
      · exact lay_str (h t ht)
      · rw [List.mem_singleton.mp hd]
        exact lay_int _
  | slots cs =>
    refine lay_tup fun d hd => ?_
    rcases List.mem_cons.mp hd with rfl | hd
    · exact lay_str nok3
    · rw [List.mem_singleton.mp hd]
      exact lay_map (n := 1) fun c hc => lay_map (n := 0) fun z hz => lay_str (h c hc z hz)
theorem lay_sta {s : StaX} (h1 : PyData.strOk s.nm = true) (h2 : RuleT' s.rule) : Lay 4 (staX s) := by
  refine lay_tup fun d hd => ?_
  simp only [List.mem_cons, List.mem_nil_iff, or_false] at hd
  rcases hd with rfl | rfl | rfl | rfl
  · exact lay_str h1
  · exact lay_map (n := 2) fun i _ => lay_int i
  · cases e : s.stop with
    | none => exact lay_none
    | some p =>
      refine lay_tup (n := 2) fun d hd => ?_
      rcases List.mem_cons.mp hd with rfl | hd
      · exact lay_int _
      · rw [List.mem_singleton.mp hd]
        exact lay_int _
  · exact lay_rule h2
theorem lay_flow {f : FlowT} (h1 : PyData.strOk f.nm = true) (h2 : ∀ p ∈ f.hops, PyData.strOk p.st = true ∧ PyData.strOk p.gate = true) : Lay 4 (flD f) := by
  refine lay_tup fun d hd => ?_
  simp only [List.mem_cons, List.mem_nil_iff, or_false] at hd
  rcases hd with rfl | rfl | rfl
  · exact lay_str h1
  · refine lay_map (n := 2) fun p _ => lay_tup (n := 1) fun d hd => ?_
    rcases List.mem_cons.mp hd with rfl | hd
    · exact lay_int _
    · rw [List.mem_singleton.mp hd]
      exact lay_int _
  · refine lay_map (n := 2) fun p hp => lay_tup (n := 1) fun d hd => ?_
    obtain ⟨p1, p2⟩ := h2 p hp
    simp only [List.mem_cons, List.mem_nil_iff, or_false] at hd
    rcases hd with rfl | rfl | rfl | rfl | rfl | rfl
    · exact lay_str p1
    all_goals first | exact lay_int _ | exact lay_str p2
theorem lay_hou {h : HouX} (hk : HouK h) (hr : ∀ s ∈ h.stas, RuleT' s.rule) : Lay 6 (houX h) := by
  refine lay_tup fun d hd => ?_
  rcases List.mem_cons.mp hd with rfl | hd
  · exact lay_map fun s hs => lay_sta (hk.ss s hs).nm.2 (hr s hs)
  · rw [List.mem_singleton.mp hd]
    exact lay_map fun f hf => lay_flow (hk.fs f hf).nm.2 fun p hp => ⟨((hk.fs f hf).hs p hp).1.2, ((hk.fs f hf).hs p hp).2⟩
theorem lay_shp {n : Nat} {d : D} (h : Lay n d) (hn : n ≤ 64) : SeqAt.shaped d = true := by
  unfold SeqAt.shaped
  rw [h.1, decide_eq_true (by have := h.2; omega)]
  rfl
theorem lay_eqv {n : Nat} {d : D} (h : Lay n d) : PyData.eqv d d = true := SeqAt.eqv_refl d h.1
end Zd.K05

/-! Zk07j: a flow taken out, a flow put in. -/
namespace Zd.K05
open PySem L2
local macro_rules | `(tactic| walk_at "zs") => `(tactic| simp only [SZ, seqD, Option.bind_some, Bool.not_true, Bool.not_false, eqv_ii, eqv_ss, eqv_bb, shp_i, shp_s, shp_b, shp_n, eq_self, Int.toNat_natCast, range_len, Itf, itb_t, itb_f, optP, opb_some, Cal, wLc, wLcH, wYes, decide_true, decide_false,  ex_lst, List.length_map, Nat.zero_le, Nat.reduceLeDiff, Nat.reduceAdd, wNext, wBreak, wCont, wAsg, wRet, wRetN, wDrop, wIfS, wAug, wPar, wPar3, wTupRev, wSet, wAugS, fSet, fGet, wVar, wFrz, frzC, wC, wOp, wUn, res_fr, res_sc, res_hd, resO_frz, resO_lst, resO_ins, resO_dk, resO_dr, frs_map, fI, fIC, fAdd, fSub, fMul, fDiv, fMod, fPow, fShl, fShr, fAnd, fNeg, fLt, fLe, fGt, fGe, fEq, fNe, fIn, fNotIn, fIsB, fNotB, fIx,
  wSl, fSl, fSlH, wPart, wNoPart, wNil, wCons, wTup, wLst, wLstH, frs, Option.map_some, wTest, wNot, wAnd, wOr, wChain, wIf, wAndV, wOrV, wNotV, wIsN, wNotN, wCB, fLen, fInt, fAbs, fMax2, fMin2, fSum, fSumH, hdD, fMinL, fMinT, fStrI, fJoin, fMaxL, fAll, fAny, fTupleOf, fListOf, fSortedI, fSortedS, fListOfH, wIsi, gname_eq, gnil_eq, gcons_eq, gtup_eq, wiSeq, itemsOf, wiR1, wiR2, wiZip, wiZip3, wiRev, wipeS,
  wBL, wBS, isLst, isStr, fAppend, fPopAt, fPop, fCountI, fExtend, fExtendT, fIndexS, fInsert, fMulT, fAddH, fAddM, wListRg, wListRgH, wFld, wSFld, wFn, wCallF, wT3, fInSg, fInM, fNotInM, wMake, wMeth, InsAt, wDNew, wDPut, fDIn, fDNotIn, fDGet, wDGet1, wDGet2, dkD, keyC, wCall, tb_h, tb_k, tb_seth, tb_setk, tb_app, tb_len, t0_k, t0_setk, t0_app, t0_len, List.getElem?_cons_zero, List.getElem?_cons_succ, List.getElem?_nil, List.set_cons_zero, List.set_cons_succ, List.cons_append, List.nil_append, List.length_cons, List.length_nil, List.map_cons, List.map_nil, Nat.zero_add, if_true, if_false, Bool.false_eq_true, true_and, and_true,
  atI0, atI1, atI2, atI3, atI4, atI5, setI0, setI1, setI2, setI3, decide_eq_true_eq])
local macro_rules | `(tactic| walk_at "zx") => `(tactic| simp -implicitDefEqProofs only [SZ, seqD, Option.bind_some, Bool.not_true, Bool.not_false, eqv_ii, eqv_ss, eqv_bb, shp_i, shp_s, shp_b, shp_n, eq_self, Int.toNat_natCast, range_len, Itf, itb_t, itb_f, optP, opb_some, Cal, wLc, wLcH, wYes, decide_true, decide_false,  ex_lst, List.length_map, Nat.zero_le, Nat.reduceLeDiff, Nat.reduceAdd, wNext, wBreak, wCont, wAsg, wRet, wRetN, wDrop, wIfS, wAug, wPar, wPar3, wTupRev, wSet, wAugS, fSet, fGet, wVar, wFrz, frzC, wC, wOp, wUn, res_fr, res_sc, res_hd, resO_frz, resO_lst, resO_ins, resO_dk, resO_dr, frs_map, fI, fIC, fAdd, fSub, fMul, fDiv, fMod, fPow, fShl, fShr, fAnd, fNeg, fLt, fLe, fGt, fGe, fEq, fNe, fIn, fNotIn, fIsB, fNotB, fIx,
  wSl, fSl, fSlH, wPart, wNoPart, wNil, wCons, wTup, wLst, wLstH, frs, Option.map_some, wTest, wNot, wAnd, wOr, wChain, wIf, wAndV, wOrV, wNotV, wIsN, wNotN, wCB, fLen, fInt, fAbs, fMax2, fMin2, fSum, fSumH, hdD, fMinL, fMinT, fStrI, fJoin, fMaxL, fAll, fAny, fTupleOf, fListOf, fSortedI, fSortedS, fListOfH, wIsi, gname_eq, gnil_eq, gcons_eq, gtup_eq, wiSeq, itemsOf, wiR1, wiR2, wiZip, wiZip3, wiRev, wipeS,
  wBL, wBS, isLst, isStr, fAppend, fPopAt, fPop, fCountI, fExtend, fExtendT, fIndexS, fInsert, fMulT, fAddH, fAddM, wListRg, wListRgH, wFld, wSFld, wFn, wCallF, wT3, fInSg, fInM, fNotInM, wMake, wMeth, InsAt, wDNew, wDPut, fDIn, fDNotIn, fDGet, wDGet1, wDGet2, dkD, keyC, wCall, tb_h, tb_k, tb_seth, tb_setk, tb_app, tb_len, t0_k, t0_setk, t0_app, t0_len, List.getElem?_cons_zero, List.getElem?_cons_succ, List.getElem?_nil, List.set_cons_zero, List.set_cons_succ, List.cons_append, List.nil_append, List.length_cons, List.length_nil, List.map_cons, List.map_nil, Nat.zero_add, if_true, if_false, Bool.false_eq_true, true_and, and_true,
  atI0, atI1, atI2, atI3, atI4, atI5, setI0, setI1, setI2, setI3, decide_eq_true_eq])
local macro_rules | `(tactic| walk_at "z1") => `(tactic| (refine seq1 ?_; try walk_at "zs"))
local macro_rules | `(tactic| walk_at "zy") => `(tactic| (refine seq1 ?_; try walk_at "zx"))
local macro_rules | `(tactic| walk_at "nw") => `(tactic| refine ⟨by decide +kernel, by decide +kernel, itd' (fun e => absurd e (by decide +kernel)) (fun _ => ?_)⟩)
local macro_rules | `(tactic| walk_at "iw") => `(tactic| refine ⟨by decide +kernel, by decide +kernel, ?_⟩)
local macro_rules | `(tactic| walk_at "ni") => `(tactic| (simp only [strsD, Option.map_some]; walk_at "zs"; refine itd' (fun e => absurd e (by decide +kernel)) (fun _ => ?_)))
local macro_rules | `(tactic| walk_at "yi") => `(tactic| (simp only [strsD, Option.map_some]; walk_at "zs"; refine itd' (fun _ => ?_) (fun e => absurd (by decide +kernel) e)))
theorem rulX_nm (f : FlowT) (s : StaX) : (rulX f s).nm = s.nm ∧ (rulX f s).hrs = s.hrs ∧ (rulX f s).stop = s.stop := by
  unfold rulX
  split <;> exact ⟨rfl, rfl, rfl⟩
theorem dueX_f : RulF dueX := ⟨(by decide +kernel : PyData.strOk ("due" : Str) = true), (by decide +kernel : ¬ ("due" : Str) = "ranks" ∧ ¬ ("due" : Str) = "turns" ∧ ¬ ("due" : Str) = "slots")⟩
theorem rulX_f {f : FlowT} {s : StaX} (h : RulF s.rule) : RulF (rulX f s).rule := by
  unfold rulX
  split
  · exact dueX_f
  · exact h
theorem map_nm (f : FlowT) (ss : List StaX) : (ss.map (rulX f)).map (·.nm) = ss.map (·.nm) := by
  rw [List.map_map]
  exact List.map_congr_left fun s _ => (rulX_nm f s).1
theorem rgt_f {h : HouX} (r : RgtR h) : ∀ s ∈ h.stas, RulF s.rule := fun s hs => ⟨(r.rl s hs).1, ruleg_bare (r.rl s hs)⟩
/-- a right house with other flows -/
structure FlsG (h : HouX) (fs : List FlowT) : Prop where
  fnd : (fs.map (·.nm)).Nodup
  fnm : ∀ f ∈ fs, nmB f.nm = true ∧ NmX f.nm
  f7 : fs.length ≤ 7
  fg : ∀ f ∈ fs, FlG (h.stas.map (·.nm)) f
theorem care_q {h : HouX} (r : RgtR h) {fs : List FlowT} (g : FlsG h fs) : HouQ ⟨h.stas, fs⟩ := ⟨r.nd, r.nm, r.ss, fun s hs => rgt_f r s hs, r.s1, r.s6, g.fnd, g.fnm, g.f7, g.fg⟩
theorem free_q {h : HouX} (r : RgtR h) {fs : List FlowT} (g : FlsG h fs) (f : FlowT) : HouQ ⟨h.stas.map (rulX f), fs⟩ := by
  refine ⟨by rw [map_nm]; exact r.nd, fun s hs => ?_, fun s hs => ?_, fun s hs => ?_, by rw [List.length_map]; exact r.s1, by rw [List.length_map]; exact r.s6, g.fnd, g.fnm, g.f7, by rw [map_nm]; exact g.fg⟩
  all_goals obtain ⟨t, ht, rfl⟩ := List.mem_map.mp hs
  · rw [(rulX_nm f t).1]
    exact r.nm t ht
  · rw [(rulX_nm f t).2.1, (rulX_nm f t).2.2]
    exact r.ss t ht
  · exact rulX_f (rgt_f r t ht)
theorem free_none {h : HouX} (r : RgtR h) {fs : List FlowT} {f : FlowT} (hp : ∀ st, st ∉ f.hops.map (·.st) → pnF fs st = pnF h.flows st) : lawF7 ⟨h.stas.map (rulX f), fs⟩ = (if inB fs.length 1 6 = false then some ("flows", []) else none : Option FT) := by
  unfold lawF7
  by_cases e : inB fs.length 1 6 = false
  · rw [if_pos e, if_pos e]
  · rw [if_neg e, if_neg e]
    refine orR_id fun i il => ?_
    have hs := List.getElem?_eq_getElem il
    obtain ⟨t, ht, et⟩ := List.mem_map.mp (List.getElem_mem il)
    have hok : ruleB (rulX f t).rule (rulX f t).hrs (pnF fs (rulX f t).nm) = true := by
      by_cases h1 : headX t.rule ∈ DCX
      · rw [rulX_dc h1]
        cases er : t.rule with
        | bare w =>
          rw [er] at h1
          exact decide_eq_true h1
        | ranks ns => rw [er] at h1; exact absurd h1 nin1
        | turns ns => rw [er] at h1; exact absurd h1 nin2
        | slots ns => rw [er] at h1; exact absurd h1 nin3
      · by_cases h2 : t.nm ∈ f.hops.map (·.st)
        · rw [rulX_yes h2 h1]
          exact (by decide +kernel : decide (("due" : Str) ∈ DCX) = true)
        · rw [rulX_no h2, hp _ h2]
          exact (r.rl t ht).2
    unfold ruleF
    rw [hs]
    dsimp only
    rw [← et, if_pos hok]
theorem less_g {h : HouX} (r : RgtR h) (i : Nat) : FlsG h (h.flows.take i ++ h.flows.drop (i + 1)) := by
  have sub : (h.flows.take i ++ h.flows.drop (i + 1)).Sublist h.flows := by
    have : (h.flows.take i ++ h.flows.drop (i + 1)).Sublist (h.flows.take i ++ h.flows.drop i) := List.Sublist.append (List.Sublist.refl _) (by
      rw [← List.drop_drop]
      exact List.drop_sublist _ _)
    rw [List.take_append_drop] at this
    exact this
  refine ⟨r.fnd.sublist (sub.map _), fun f hf => ?_, by have := sub.length_le; have := r.f6; omega, fun f hf => r.fg f (sub.mem hf)⟩
  have := r.fnm f (sub.mem hf)
  exact ⟨nmok_b this, nmok_x this⟩
def NWS : List Str := ["zzzyno", "stopno", "bno"]
theorem nws_ok : ∀ z ∈ NWS, nmB z = true ∧ z.length ≤ 10000 ∧ PyData.strOk z = true := by decide +kernel
theorem nws_new : ∀ z ∈ NWS, ∀ t ∈ TLS, z.cps.toList.drop 1 ≠ t.cps.toList := by decide +kernel
theorem nws_no {z : Str} (h : z ∈ NWS) : ¬ NmOk z := by
  rintro ⟨x, t, ht, _, _, e⟩
  refine nws_new z h t ht ?_
  rw [e]
  show (((#[x] : Array Nat) ++ t.cps).toList).drop 1 = _
  rw [Array.toList_append]
  rfl
theorem more_g {h : HouX} (r : RgtR h) {f : FlowT} (hn : f.nm ∈ NWS) (hf : FlG (h.stas.map (·.nm)) f) : FlsG h (h.flows ++ [f]) := by
  refine ⟨?_, fun g hg => ?_, by rw [List.length_append, List.length_singleton]; have := r.f6; omega, fun g hg => ?_⟩
  · rw [List.map_append, List.nodup_append]
    refine ⟨r.fnd, by show [f.nm].Nodup; exact List.pairwise_singleton _ _, fun a ha b hb => ?_⟩
    have eb : b = f.nm := List.mem_singleton.mp hb
    rw [eb]
    intro e
    obtain ⟨g, hg, eg⟩ := List.mem_map.mp ha
    have e2 : g.nm = f.nm := eg.trans e
    exact nws_no hn (by rw [← e2]; exact r.fnm g hg)
  · rcases List.mem_append.mp hg with hg | hg
    · exact ⟨nmok_b (r.fnm g hg), nmok_x (r.fnm g hg)⟩
    · rw [List.mem_singleton.mp hg]
      exact ⟨(nws_ok _ hn).1, (nws_ok _ hn).2⟩
  · rcases List.mem_append.mp hg with hg | hg
    · exact r.fg g hg
    · rw [List.mem_singleton.mp hg]
      exact hf
theorem rgt_rt {h : HouX} (r : RgtR h) : ∀ s ∈ h.stas, RuleT' s.rule := fun s hs => by
  obtain ⟨h1, h2⟩ := r.rl s hs
  have q := rgt_q r
  have sr := (q.srt r.f6 s.nm).2
  cases e : s.rule with
  | bare w => rw [e] at h1; exact h1
  | ranks ns => rw [e] at h1; exact h1.2
  | turns ts => rw [e] at h1; exact fun t ht => h1.2 _ (List.mem_map.mpr ⟨t, ht, rfl⟩)
  | slots cs =>
    rw [e] at h2
    have h2 : slB cs s.hrs (pnF h.flows s.nm) = true := h2
    unfold slB at h2
    simp only [Bool.and_eq_true] at h2
    have h3 := h2.2.2.1
    exact fun c hc z hz => sr z (of_decide_eq_true (List.all_eq_true.mp h3 z (List.mem_flatten.mpr ⟨c, hc, hz⟩)))
theorem free_rt {h : HouX} (r : RgtR h) (f : FlowT) : ∀ s ∈ h.stas.map (rulX f), RuleT' s.rule := fun s hs => by
  obtain ⟨t, ht, rfl⟩ := List.mem_map.mp hs
  unfold rulX
  split
  · exact (by decide +kernel : PyData.strOk ("due" : Str) = true)
  · exact rgt_rt r t ht
def f__law_is_changed_well : FA := fDr (fun as => ∃ h : HouX, as = [.fr (houX h)] ∧ RgtR h) fun as d => d = .bool true
theorem chwell_use {pre post r : Ts} {x : Drw} {Q : Hd KC} {h : HouX} (h1 : RgtR h) (k : ∀ x', Q.v (.fr (.bool true)) (Tb pre (drM x') post r)) : @CalB f__law_is_changed_well [.hd pre.length, .fr (houX h)] (Tb pre (drM x) post r) Q :=
  dr_at rfl ⟨h, rfl, h1⟩ fun d x' e => by subst e; exact k x'
def N__law_is_changed_well : List Str := ["d", "house", "k", "gone", "fewer", "more", "mores", "flow", "flows", "due", "careless", "item"]
def w__law_is_changed_well : WS := (wSeq (wAsg (wCall 2 f__law_draw (wCons (wVar 0) (wCons (wCB fLen (wCons (wOp fIx (wVar 1) (wC (.int 1))) wNil)) wNil))) (wName 2))
  (wSeq (wAsg (wOp fIx (wOp fIx (wVar 1) (wC (.int 1))) (wVar 2)) (wName 3))
  (wSeq (wAsg (wOp fAdd (wSl fSl (wOp fIx (wVar 1) (wC (.int 1))) wNoPart (wPart (wVar 2))) (wSl fSl (wOp fIx (wVar 1) (wC (.int 1))) (wPart (wOp fAdd (wVar 2) (wC (.int 1)))) wNoPart)) (wName 4))
  (wSeq (wAsg (wCall 3 f__law_flow (wCons (wVar 0) (wCons (wCall 2 f__law_pick (wCons (wVar 0) (wCons (wLst (wCons (wC (.str "zzzyno")) (wCons (wC (.str "stopno")) (wCons (wC (.str "bno")) wNil)))) wNil))) (wCons (wLc (wiSeq (wOp fIx (wVar 1) (wC (.int 0)))) (wName 11) wYes (wOp fIx (wVar 11) (wC (.int 0))) [11]) wNil)))) (wName 5))
  (wSeq (wAsg (wOp fAdd (wOp fIx (wVar 1) (wC (.int 1))) (wTup (wCons (wVar 5) wNil))) (wName 6))
  (wSeq (wIfS (wTest (wOp fNe (wCall 2 f_without_flow (wCons (wVar 1) (wCons (wOp fIx (wVar 3) (wC (.int 0))) wNil))) (wCall 3 f__law_freed (wCons (wVar 1) (wCons (wVar 3) (wCons (wVar 4) wNil)))))) (wRet (wC (.bool false))) wNext)
  (wSeq (wIfS (wTest (wOp fNe (wCall 2 f_with_flow (wCons (wVar 1) (wCons (wVar 5) wNil))) (wCall 3 f__law_freed (wCons (wVar 1) (wCons (wVar 5) (wCons (wVar 6) wNil)))))) (wRet (wC (.bool false))) wNext)
  (wSeq (wFor (wiSeq (wLst (wCons (wTup (wCons (wVar 3) (wCons (wVar 4) wNil))) (wCons (wTup (wCons (wVar 5) (wCons (wVar 6) wNil))) wNil)))) (wGTup 2 (wGCons (wName 7) (wGCons (wName 8) wGNil))) (wSeq (wAsg (wIf (wTest (wChain fLe fLe (wC (.int 1)) (wCB fLen (wCons (wVar 8) wNil)) (wC (.int 6)))) (wC .none) (wTup (wCons (wC (.str "flows")) (wCons (wTup wNil) wNil)))) (wName 9))
  (wSeq (wAsg (wTup (wCons (wOp fIx (wVar 1) (wC (.int 0))) (wCons (wVar 8) wNil))) (wName 10))
  (wSeq (wIfS (wNot (wTest (wCall 2 f__law_is_told (wCons (wCall 1 f_first_fault (wCons (wCall 3 f__law_freed (wCons (wVar 1) (wCons (wVar 7) (wCons (wVar 8) wNil)))) wNil)) (wCons (wVar 9) wNil))))) (wRet (wC (.bool false))) wNext)
  (wIfS (wNot (wTest (wCall 2 f__law_is_told (wCons (wCall 1 f_first_fault (wCons (wVar 10) wNil)) (wCons (wCall 1 f__law_first (wCons (wVar 10) wNil)) wNil))))) (wRet (wC (.bool false))) wNext)))))
  (wRet (wC (.bool true)))))))))))
theorem d__law_is_changed_well : ∀ cs own Q, Cl own → cs.length = 2 → f__law_is_changed_well cs own Q → w__law_is_changed_well (enF own.length Q) (startS N__law_is_changed_well cs) own := by
  refine dr_body fun pre x post as Q ⟨h, e, hr⟩ k => ?_
  subst e
  have kk : ∀ x' r, Q (.fr (.bool true)) (Tb pre (drM x') post r) := fun x' r => k _ x' r rfl
  clear k
  have hq := rgt_q hr
  have hk := hq.k
  have f1 := hr.f1
  have f6 := hr.f6
  have s1 := hr.s1
  have s6 := hr.s6
  show w__law_is_changed_well _ [some (.hd pre.length), some (.fr (houX h)), none, none, none, none, none, none, none, none, none, none] _
  unfold w__law_is_changed_well
  rw [houX_eq, flsD_eq]
  walk_at "zy"
  refine draw_use (by omega) (by omega) fun i x v1 v2 => ?_
  obtain ⟨i, rfl⟩ := Int.eq_ofNat_of_zero_le v1
  have hf := List.getElem?_eq_getElem (show i < h.flows.length by omega)
  have fm := List.getElem_mem (show i < h.flows.length by omega)
  generalize h.flows[i] = f at *
  have fk := hk.fs f fm
  walk_at "zx"
  walk_at "zy"
  refine opb_map hf ?_
  walk_at "zx"
  walk_at "zy"
  rw [show (i : Int) + 1 = ((i + 1 : Nat) : Int) from rfl, cutD_map, cutD_map, cutD_to, cutD_from, ← List.map_append]
  rw [List.length_map, List.length_map]
  have lg := less_g hr i
  have lp : ∀ st, st ∉ f.hops.map (·.st) → pnF (h.flows.take i ++ h.flows.drop (i + 1)) st = pnF h.flows st := fun st hs => pn_less hf hs
  have le : hLess h i f = ⟨h.stas.map (rulX f), h.flows.take i ++ h.flows.drop (i + 1)⟩ := rfl
  refine ⟨by rw [List.length_take, List.length_drop]; omega, ?_⟩
  generalize h.flows.take i ++ h.flows.drop (i + 1) = fw at *
  walk_at "zy"
  refine pick_use (.l _) (by show 0 < 3; decide) (by show 3 ≤ SZ; decide) fun d x hd => ?_
  obtain ⟨nw, hnw, rfl⟩ := List.mem_map.mp (show d ∈ NWS.map PyData.str from hd)
  walk_at "zx"
  refine lc_map h.stas staX (fun s => .str s.nm) (Tb pre (drM x) post []) (by walk_at "zx") (by unfold SZ; omega) (fun i t R S hq h => ?_) ?_
  · rw [staX_eq]
    walk_at "zx"
    exact h
  walk_at "zx"
  rw [show h.stas.map (fun s => PyData.str s.nm) = (h.stas.map (·.nm)).map .str by rw [List.map_map]; rfl]
  refine flow_use hr.nd (by rw [List.length_map]; omega) (by rw [List.length_map]; omega) fun m x hm hg => ?_
  have mg := more_g hr (by rw [hm]; exact hnw) hg
  have mp : ∀ st, st ∉ m.hops.map (·.st) → pnF (h.flows ++ [m]) st = pnF h.flows st := fun st hs => pn_more hs
  have ml := hg.len
  rw [List.length_map] at ml
  walk_at "zx"
  walk_at "zy"
  rw [show h.flows.map flD ++ [flD m] = (h.flows ++ [m]).map flD by rw [List.map_append]; rfl]
  have me : hMore h m = ⟨h.stas.map (rulX m), h.flows ++ [m]⟩ := rfl
  refine ⟨by omega, ?_⟩
  generalize h.flows ++ [m] = mo at *
  rw [flD_eq f]
  walk_at "zy"
  refine less_use (h := h) (i := i) (f := f) hk hr.fnd hf ?_
  rw [le]
  walk_at "zx"
  refine freed_use (h := h) (f := f) (fs := fw) hk fk.hl ?_
  have sl := lay_hou (free_q hr lg f).k (free_rt hr f)
  walk_at "zx"
  refine ⟨lay_shp sl (by decide), lay_shp sl (by decide), ?_⟩
  rw [lay_eqv sl]
  refine itb (fun e => by cases e) (fun _ => ?_)
  walk_at "zx"
  walk_at "zy"
  refine more_use (h := h) (f := m) hk (by omega) ?_
  rw [me]
  walk_at "zx"
  refine freed_use (h := h) (f := m) (fs := mo) hk (by omega) ?_
  have sm := lay_hou (free_q hr mg m).k (free_rt hr m)
  walk_at "zx"
  refine ⟨lay_shp sm (by decide), lay_shp sm (by decide), ?_⟩
  rw [lay_eqv sm]
  refine itb (fun e => by cases e) (fun _ => ?_)
  walk_at "zx"
  refine seq1 ?_
  refine for_inv ([(f, fw), (m, mo)].map fun p : FlowT × List FlowT => .tuple [flD p.1, flsD p.2]) (Tb pre (drM x) post []) (fun j ss o => ∃ (z7 z8 z9 z10 : Option C), o = Tb pre (drM x) post [] ∧ ss = [some (.hd pre.length), some (.fr (.tuple [.tuple (h.stas.map staX), .tuple (h.flows.map flD)])), some (.fr (.int i)), some (.fr (.tuple [.str f.nm, winsD f.wins, .tuple (f.hops.map hopD)])), some (.fr (.tuple (fw.map flD))), some (.fr (flD m)), some (.fr (.tuple (mo.map flD))), z7, z8, z9, z10, none]) ?_ ?_ ?_ ?_
  · walk_at "zx"
    rfl
  · exact ⟨_, _, _, _, rfl, rfl⟩
  · rintro j d ss o hj ⟨z7, z8, z9, z10, rfl, rfl⟩
    obtain ⟨⟨g, gs⟩, hgs, rfl⟩ := get_map hj
    have ⟨gg, gp, gl⟩ : FlsG h gs ∧ (∀ st, st ∉ g.hops.map (·.st) → pnF gs st = pnF h.flows st) ∧ g.hops.length ≤ 1000 := by
      rcases List.mem_cons.mp (List.mem_of_getElem? hgs) with e | e
      · cases e
        exact ⟨lg, lp, fk.hl⟩
      · cases List.mem_singleton.mp e
        exact ⟨mg, mp, by omega⟩
    clear sl sm hj
    have g7 := gg.f7
    have fq := free_q hr gg g
    have cq := care_q hr gg
    have fn := free_none hr gp
    rw [flsD_eq]
    walk_at "zx"
    refine seq_cut (fun ss o => o = Tb pre (drM x) post [] ∧ ss = [some (.hd pre.length), some (.fr (houX h)), some (.fr (.int i)), some (.fr (flD f)), some (.fr (flsD fw)), some (.fr (flD m)), some (.fr (flsD mo)), some (.fr (flD g)), some (.fr (flsD gs)), some (.fr (faultD (lawF7 ⟨h.stas.map (rulX g), gs⟩))), z10, none]) ?_ ?_
    · have hh : ∀ d : D, d = faultD (lawF7 ⟨h.stas.map (rulX g), gs⟩) → ([some (.hd pre.length), some (.fr (.tuple [.tuple (h.stas.map staX), .tuple (h.flows.map flD)])), some (.fr (.int i)), some (.fr (.tuple [.str f.nm, winsD f.wins, .tuple (f.hops.map hopD)])), some (.fr (.tuple (fw.map flD))), some (.fr (flD m)), some (.fr (.tuple (mo.map flD))), some (.fr (flD g)), some (.fr (.tuple (gs.map flD))), some (.fr d), z10, none] : Sl) = [some (.hd pre.length), some (.fr (houX h)), some (.fr (.int i)), some (.fr (flD f)), some (.fr (flsD fw)), some (.fr (flD m)), some (.fr (flsD mo)), some (.fr (flD g)), some (.fr (flsD gs)), some (.fr (faultD (lawF7 ⟨h.stas.map (rulX g), gs⟩))), z10, none] := fun d e => by
        rw [e]
        rfl
      have bad : inB gs.length 1 6 = false → PyData.tuple [.str "flows", .tuple []] = faultD (lawF7 ⟨h.stas.map (rulX g), gs⟩) := fun e => by
        rw [fn, if_pos e]
        rfl
      have good : inB gs.length 1 6 = true → PyData.none = faultD (lawF7 ⟨h.stas.map (rulX g), gs⟩) := fun e => by
        rw [fn, if_neg (by rw [e]; decide)]
        rfl
      unfold inB at bad good
      walk_at "zx"
      cases a1 : decide ((1 : Int) ≤ gs.length) with
      | false =>
        refine itb (fun e => by cases e) (fun _ => ?_)
        walk_at "zx"
        exact hh _ (bad (by rw [a1]; rfl))
      | true =>
      refine itb (fun _ => ?_) (fun e => by cases e)
      walk_at "zx"
      cases a2 : decide ((gs.length : Int) ≤ 6) with
      | false =>
        refine itb (fun e => by cases e) (fun _ => ?_)
        walk_at "zx"
        exact hh _ (bad (by rw [a1, a2]; rfl))
      | true =>
      refine itb (fun _ => ?_) (fun e => by cases e)
      walk_at "zx"
      exact hh _ (good (by rw [a1, a2]; rfl))
    rintro ss o ⟨rfl, rfl⟩
    rw [houX_eq, flsD_eq]
    walk_at "zy"
    refine seq_cut (fun ss o => o = Tb pre (drM x) post [] ∧ ss = [some (.hd pre.length), some (.fr (houX h)), some (.fr (.int i)), some (.fr (flD f)), some (.fr (flsD fw)), some (.fr (flD m)), some (.fr (flsD mo)), some (.fr (flD g)), some (.fr (flsD gs)), some (.fr (faultD (lawF7 ⟨h.stas.map (rulX g), gs⟩))), some (.fr (houX ⟨h.stas, gs⟩)), none]) ?_ ?_
    · walk_at "zx"
      refine freed_use (h := h) (f := g) (fs := gs) hk gl ?_
      walk_at "zx"
      refine first_use fq.k (fun s hs => (fq.rl s hs).1) ?_
      rw [first_law7 fq]
      walk_at "zx"
      refine told_use (fun p e => law_fin7 e) ?_
      walk_at "zx"
      rfl
    rintro ss o ⟨rfl, rfl⟩
    walk_at "zx"
    refine first_use cq.k (fun s hs => (cq.rl s hs).1) ?_
    rw [first_law7 cq]
    walk_at "zx"
    refine lfirst_use cq ?_
    walk_at "zx"
    refine told_use (fun p e => law_fin7 e) ?_
    walk_at "zx"
    exact ⟨_, _, _, _, rfl⟩
  · rintro ss o ⟨z7, z8, z9, z10, rfl, rfl⟩
    walk_at "zx"
    exact kk _ _
end Zd.K05

/-! Zk07k: the law. -/
namespace Zd.K05
open PySem L2
local macro_rules | `(tactic| walk_at "zs") => `(tactic| simp only [SZ, seqD, Option.bind_some, Bool.not_true, Bool.not_false, eqv_ii, eqv_ss, eqv_bb, shp_i, shp_s, shp_b, shp_n, eq_self, Int.toNat_natCast, range_len, Itf, itb_t, itb_f, optP, opb_some, Cal, wLc, wLcH, wYes, decide_true, decide_false,  ex_lst, List.length_map, Nat.zero_le, Nat.reduceLeDiff, Nat.reduceAdd, wNext, wBreak, wCont, wAsg, wRet, wRetN, wDrop, wIfS, wAug, wPar, wPar3, wTupRev, wSet, wAugS, fSet, fGet, wVar, wFrz, frzC, wC, wOp, wUn, res_fr, res_sc, res_hd, resO_frz, resO_lst, resO_ins, resO_dk, resO_dr, frs_map, fI, fIC, fAdd, fSub, fMul, fDiv, fMod, fPow, fShl, fShr, fAnd, fNeg, fLt, fLe, fGt, fGe, fEq, fNe, fIn, fNotIn, fIsB, fNotB, fIx,
  wSl, fSl, fSlH, wPart, wNoPart, wNil, wCons, wTup, wLst, wLstH, frs, Option.map_some, wTest, wNot, wAnd, wOr, wChain, wIf, wAndV, wOrV, wNotV, wIsN, wNotN, wCB, fLen, fInt, fAbs, fMax2, fMin2, fSum, fSumH, hdD, fMinL, fMinT, fStrI, fJoin, fMaxL, fAll, fAny, fTupleOf, fListOf, fSortedI, fSortedS, fListOfH, wIsi, gname_eq, gnil_eq, gcons_eq, gtup_eq, wiSeq, itemsOf, wiR1, wiR2, wiZip, wiZip3, wiRev, wipeS,
  wBL, wBS, isLst, isStr, fAppend, fPopAt, fPop, fCountI, fExtend, fExtendT, fIndexS, fInsert, fMulT, fAddH, fAddM, wListRg, wListRgH, wFld, wSFld, wFn, wCallF, wT3, fInSg, fInM, fNotInM, wMake, wMeth, InsAt, wDNew, wDPut, fDIn, fDNotIn, fDGet, wDGet1, wDGet2, dkD, keyC, wCall, tb_h, tb_k, tb_seth, tb_setk, tb_app, tb_len, t0_k, t0_setk, t0_app, t0_len, List.getElem?_cons_zero, List.getElem?_cons_succ, List.getElem?_nil, List.set_cons_zero, List.set_cons_succ, List.cons_append, List.nil_append, List.length_cons, List.length_nil, List.map_cons, List.map_nil, Nat.zero_add, if_true, if_false, Bool.false_eq_true, true_and, and_true,
  atI0, atI1, atI2, atI3, atI4, atI5, setI0, setI1, setI2, setI3, decide_eq_true_eq])
local macro_rules | `(tactic| walk_at "zx") => `(tactic| simp -implicitDefEqProofs only [SZ, seqD, Option.bind_some, Bool.not_true, Bool.not_false, eqv_ii, eqv_ss, eqv_bb, shp_i, shp_s, shp_b, shp_n, eq_self, Int.toNat_natCast, range_len, Itf, itb_t, itb_f, optP, opb_some, Cal, wLc, wLcH, wYes, decide_true, decide_false,  ex_lst, List.length_map, Nat.zero_le, Nat.reduceLeDiff, Nat.reduceAdd, wNext, wBreak, wCont, wAsg, wRet, wRetN, wDrop, wIfS, wAug, wPar, wPar3, wTupRev, wSet, wAugS, fSet, fGet, wVar, wFrz, frzC, wC, wOp, wUn, res_fr, res_sc, res_hd, resO_frz, resO_lst, resO_ins, resO_dk, resO_dr, frs_map, fI, fIC, fAdd, fSub, fMul, fDiv, fMod, fPow, fShl, fShr, fAnd, fNeg, fLt, fLe, fGt, fGe, fEq, fNe, fIn, fNotIn, fIsB, fNotB, fIx,
  wSl, fSl, fSlH, wPart, wNoPart, wNil, wCons, wTup, wLst, wLstH, frs, Option.map_some, wTest, wNot, wAnd, wOr, wChain, wIf, wAndV, wOrV, wNotV, wIsN, wNotN, wCB, fLen, fInt, fAbs, fMax2, fMin2, fSum, fSumH, hdD, fMinL, fMinT, fStrI, fJoin, fMaxL, fAll, fAny, fTupleOf, fListOf, fSortedI, fSortedS, fListOfH, wIsi, gname_eq, gnil_eq, gcons_eq, gtup_eq, wiSeq, itemsOf, wiR1, wiR2, wiZip, wiZip3, wiRev, wipeS,
  wBL, wBS, isLst, isStr, fAppend, fPopAt, fPop, fCountI, fExtend, fExtendT, fIndexS, fInsert, fMulT, fAddH, fAddM, wListRg, wListRgH, wFld, wSFld, wFn, wCallF, wT3, fInSg, fInM, fNotInM, wMake, wMeth, InsAt, wDNew, wDPut, fDIn, fDNotIn, fDGet, wDGet1, wDGet2, dkD, keyC, wCall, tb_h, tb_k, tb_seth, tb_setk, tb_app, tb_len, t0_k, t0_setk, t0_app, t0_len, List.getElem?_cons_zero, List.getElem?_cons_succ, List.getElem?_nil, List.set_cons_zero, List.set_cons_succ, List.cons_append, List.nil_append, List.length_cons, List.length_nil, List.map_cons, List.map_nil, Nat.zero_add, if_true, if_false, Bool.false_eq_true, true_and, and_true,
  atI0, atI1, atI2, atI3, atI4, atI5, setI0, setI1, setI2, setI3, decide_eq_true_eq])
local macro_rules | `(tactic| walk_at "z1") => `(tactic| (refine seq1 ?_; try walk_at "zs"))
local macro_rules | `(tactic| walk_at "zy") => `(tactic| (refine seq1 ?_; try walk_at "zx"))
local macro_rules | `(tactic| walk_at "nw") => `(tactic| refine ⟨by decide +kernel, by decide +kernel, itd' (fun e => absurd e (by decide +kernel)) (fun _ => ?_)⟩)
local macro_rules | `(tactic| walk_at "iw") => `(tactic| refine ⟨by decide +kernel, by decide +kernel, ?_⟩)
local macro_rules | `(tactic| walk_at "ni") => `(tactic| (simp only [strsD, Option.map_some]; walk_at "zs"; refine itd' (fun e => absurd e (by decide +kernel)) (fun _ => ?_)))
local macro_rules | `(tactic| walk_at "yi") => `(tactic| (simp only [strsD, Option.map_some]; walk_at "zs"; refine itd' (fun _ => ?_) (fun e => absurd (by decide +kernel) e)))
theorem sta_q {h : HouX} {i : Nat} {s : StaX} {r : RuleX} (q : HouQ h) (hs : h.stas[i]? = some s) (hr : RulF r) : HouQ (hSta h i (stRule s r)) := by
  have il := lt_of_get hs
  have sm := List.mem_of_getElem? hs
  have hnm : (hSta h i (stRule s r)).stas.map (·.nm) = h.stas.map (·.nm) := by
    show (withF h.stas i (stRule s r)).map (·.nm) = _
    rw [withF_set il, List.map_set]
    refine List.ext_getElem? fun j => ?_
    rw [List.getElem?_set]
    split
    · rename_i e
      subst e
      rw [List.getElem?_map, hs, List.length_map, if_pos il]
      rfl
    · rfl
  have hmem : ∀ t ∈ (hSta h i (stRule s r)).stas, t ∈ h.stas ∨ t = stRule s r := fun t ht => withF_mem ht
  refine ⟨by rw [hnm]; exact q.nd, fun t ht => ?_, fun t ht => ?_, fun t ht => ?_, by show 1 ≤ (withF h.stas i (stRule s r)).length; rw [withF_len il]; exact q.s1, by show (withF h.stas i (stRule s r)).length ≤ 6; rw [withF_len il]; exact q.s6, q.fnd, q.fnm, q.f7, by rw [hnm]; exact q.fg⟩
  all_goals rcases hmem t ht with ht | rfl
  · exact q.nm t ht
  · exact q.nm s sm
  · exact q.ss t ht
  · exact q.ss s sm
  · exact q.rl t ht
  · exact hr
def N_law : List Str := ["script", "d", "stations", "flows", "house", "base", "turn", "s", "item", "rule", "mode"]
def w_law : WS := (wSeq (wAsg (wCall 1 f__law_begin (wCons (wVar 0) wNil)) (wName 1))
  (wSeq (wAsg (wIf (wTest (wCall 2 f__law_rare (wCons (wVar 1) (wCons (wC (.int 7)) wNil)))) (wC (.int 6)) (wOp fAdd (wC (.int 1)) (wCall 2 f__law_draw (wCons (wVar 1) (wCons (wC (.int 3)) wNil))))) (wName 2))
  (wSeq (wAsg (wIf (wTest (wCall 2 f__law_rare (wCons (wVar 1) (wCons (wC (.int 7)) wNil)))) (wC (.int 6)) (wOp fAdd (wC (.int 1)) (wCall 2 f__law_draw (wCons (wVar 1) (wCons (wC (.int 4)) wNil))))) (wName 3))
  (wSeq (wAsg (wCall 4 f__law_house (wCons (wVar 1) (wCons (wVar 2) (wCons (wVar 3) (wCons (wC (.bool false)) wNil))))) (wName 4))
  (wSeq (wIfS (wTest (wNotN (wCall 1 f_first_fault (wCons (wVar 4) wNil)))) (wRet (wC (.bool false))) wNext)
  (wSeq (wAsg (wVar 4) (wName 5))
  (wSeq (wFor (wiR1 (wCons (wC (.int 10)) wNil)) (wName 6) (wSeq (wAsg (wCall 2 f__law_draw (wCons (wVar 1) (wCons (wCB fLen (wCons (wOp fIx (wVar 4) (wC (.int 0))) wNil)) wNil))) (wName 7))
  (wSeq (wAsg (wOp fIx (wOp fIx (wVar 5) (wC (.int 0))) (wVar 7)) (wName 8))
  (wSeq (wAsg (wCall 4 f__law_right_rule (wCons (wVar 1) (wCons (wVar 4) (wCons (wCall 2 f__law_passer_names (wCons (wVar 4) (wCons (wOp fIx (wVar 8) (wC (.int 0))) wNil))) (wCons (wOp fIx (wVar 8) (wC (.int 1))) wNil))))) (wName 9))
  (wSeq (wAsg (wCall 2 f__law_draw (wCons (wVar 1) (wCons (wC (.int 8)) wNil))) (wName 10))
  (wSeq (wIfS (wTest (wOp fEq (wVar 10) (wC (.int 0)))) (wAsg (wOp fIx (wCall 2 f__law_pick (wCons (wVar 1) (wCons (wOp fIx (wVar 4) (wC (.int 0))) wNil))) (wC (.int 3))) (wName 9)) (wIfS (wTest (wOp fGt (wVar 10) (wC (.int 2)))) (wAsg (wCall 3 f__law_other_rule (wCons (wVar 1) (wCons (wVar 4) (wCons (wVar 9) wNil)))) (wName 9)) wNext))
  (wSeq (wAsg (wCall 4 f__law_with_station (wCons (wVar 5) (wCons (wVar 7) (wCons (wC (.int 3)) (wCons (wVar 9) wNil))))) (wName 5))
  (wSeq (wIfS (wNot (wTest (wCall 2 f__law_is_told (wCons (wCall 1 f_first_fault (wCons (wVar 5) wNil)) (wCons (wCall 1 f__law_first (wCons (wVar 5) wNil)) wNil))))) (wRet (wC (.bool false))) wNext)
  (wIfS (wTest (wOp fGt (wCall 2 f__law_draw (wCons (wVar 1) (wCons (wC (.int 3)) wNil))) (wC (.int 0)))) (wAsg (wVar 4) (wName 5)) wNext)))))))))
  (wRet (wAndV (wCall 2 f__law_is_changed_well (wCons (wVar 1) (wCons (wVar 4) wNil))) (wIsN (wCall 1 f_first_fault (wCons (wVar 4) wNil))))))))))))
theorem d_law : ∀ cs own Q, Cl own → cs.length = 1 → f_law cs own Q → w_law (enF own.length Q) (startS N_law cs) own := by
  refine law_body fun E ns hns hE => ?_
  show w_law E [some (.sc ns), none, none, none, none, none, none, none, none, none, none] []
  unfold w_law
  refine seq1 ?_
  walk_at "zx"
  refine begin_use fun pre x => ?_
  walk_at "zx"
  refine seq_cut (fun ss o => ∃ (x : Drw) (a : Nat), 1 ≤ a ∧ a ≤ 6 ∧ o = Tb pre (drM x) [] [] ∧ ss = [some (.sc ns), some (.hd pre.length), some (.fr (.int a)), none, none, none, none, none, none, none, none]) ?_ ?_
  · walk_at "zx"
    refine rare_use (by decide) (by decide) fun b x => ?_
    walk_at "zx"
    refine itb (fun e => ?_) (fun e => ?_)
    · walk_at "zx"
      exact ⟨x, 6, by decide, by decide, rfl, rfl⟩
    · walk_at "zx"
      refine draw_use (by decide) (by decide) fun v x v1 v2 => ?_
      obtain ⟨v, rfl⟩ := Int.eq_ofNat_of_zero_le v1
      walk_at "zx"
      exact ⟨x, 1 + v, by omega, by omega, rfl, by rw [show ((1 + v : Nat) : Int) = 1 + (v : Int) by omega]⟩
  rintro ss o ⟨x, a, a1, a2, rfl, rfl⟩
  refine seq_cut (fun ss o => ∃ (x : Drw) (b : Nat), 1 ≤ b ∧ b ≤ 6 ∧ o = Tb pre (drM x) [] [] ∧ ss = [some (.sc ns), some (.hd pre.length), some (.fr (.int a)), some (.fr (.int b)), none, none, none, none, none, none, none]) ?_ ?_
  · walk_at "zx"
    refine rare_use (by decide) (by decide) fun b x => ?_
    walk_at "zx"
    refine itb (fun e => ?_) (fun e => ?_)
    · walk_at "zx"
      exact ⟨x, 6, by decide, by decide, rfl, rfl⟩
    · walk_at "zx"
      refine draw_use (by decide) (by decide) fun v x v1 v2 => ?_
      obtain ⟨v, rfl⟩ := Int.eq_ofNat_of_zero_le v1
      walk_at "zx"
      exact ⟨x, 1 + v, by omega, by omega, rfl, by rw [show ((1 + v : Nat) : Int) = 1 + (v : Int) by omega]⟩
  rintro ss o ⟨x, b, b1, b2, rfl, rfl⟩
  walk_at "zy"
  refine house_use a1 a2 b1 b2 fun h x hr => ?_
  have hq := rgt_q hr
  have hk := hq.k
  have s6 := hr.s6
  have s1 := hr.s1
  walk_at "zx"
  have told : ∀ (g : HouX) (o : Ts) (Q : Hd KC), HouQ g → Q.v (.fr (.bool true)) o → @CalB f__law_is_told [.fr (faultD (firstF g)), .fr (faultD (lawF7 g))] o Q := fun g o Q hg k => by
    rw [first_law7 hg]
    exact told_use (fun p e => law_fin7 e) k
  have firs : ∀ (g : HouX) (o : Ts) (Q : Hd KC), HouQ g → Q.v (.fr (faultD (firstF g))) o → @CalB f_first_fault [.fr (houX g)] o Q := fun g o Q hg k => first_use hg.k (fun s hs => (hg.rl s hs).1) k
  walk_at "zy"
  refine firs _ _ _ hq ?_
  rw [first_law7 hq, rgt_none7 hr, show faultD none = PyData.none from rfl]
  walk_at "zx"
  walk_at "zy"
  refine seq1 ?_
  refine for_inv (rangeD 0 10) (Tb pre (drM x) [] []) (fun i ss o => ∃ (x : Drw) (g : HouX) (z6 z7 z8 z9 z10 : Option C), HouQ g ∧ g.stas.length = h.stas.length ∧ g.flows = h.flows ∧ o = Tb pre (drM x) [] [] ∧ ss = [some (.sc ns), some (.hd pre.length), some (.fr (.int a)), some (.fr (.int b)), some (.fr (houX h)), some (.fr (houX g)), z6, z7, z8, z9, z10]) ?_ ?_ ?_ ?_
  · walk_at "zx"
    exact ⟨⟨by decide, by decide⟩, rfl⟩
  · exact ⟨x, h, none, none, none, none, none, hq, rfl, rfl, rfl, rfl⟩
  · rintro i d ss o hd ⟨x, g, z6, z7, z8, z9, z10, hg, gl, gf, rfl, rfl⟩
    obtain ⟨il, rfl⟩ := range_get0 hd
    walk_at "zx"
    refine seq1 ?_
    rw [houX_eq h]
    walk_at "zx"
    refine draw_use (by omega) (by omega) fun k x k1 k2 => ?_
    obtain ⟨k, rfl⟩ := Int.eq_ofNat_of_zero_le k1
    have hs := List.getElem?_eq_getElem (show k < g.stas.length by omega)
    have hm := List.getElem_mem (show k < g.stas.length by omega)
    generalize g.stas[k] = s at *
    walk_at "zx"
    rw [houX_eq g]
    walk_at "zy"
    refine opb_map hs ?_
    rw [staX_eq]
    walk_at "zx"
    walk_at "zy"
    refine pnames_use (fs := h.flows) (fls_ok hk) (nm_ok (hg.nm s hm)) ?_
    walk_at "zx"
    refine rrule_use (h := h) hk hr.f1 (hg.ss s hm).1 (by have := pn_len hr.f6 hq.h8 s.nm; omega) (fun z hz => ?_) fun u x hu => ?_
    · obtain ⟨f, hf, rfl⟩ := pn_mem hz
      exact (hq.fnm f hf).2
    walk_at "zx"
    walk_at "zy"
    refine draw_use (by decide) (by decide) fun mode x m1 m2 => ?_
    walk_at "zx"
    refine seq_cut (fun ss o => ∃ (x : Drw) (u : RuleX), RulF u ∧ o = Tb pre (drM x) [] [] ∧ ss = [some (.sc ns), some (.hd pre.length), some (.fr (.int a)), some (.fr (.int b)), some (.fr (houX h)), some (.fr (houX g)), some (.fr (.int i)), some (.fr (.int k)), some (.fr (staX s)), some (.fr (ruleX u)), some (.fr (.int mode))]) ?_ ?_
    · rw [houX_eq h, houX_eq g, staX_eq s]
      walk_at "zx"
      refine itd' (fun c => ?_) (fun c => ?_)
      · walk_at "zx"
        refine pick_use (.t _) (by rw [List.length_map]; omega) (by rw [List.length_map]; unfold SZ; omega) fun d x hd => ?_
        obtain ⟨t, ht, rfl⟩ := List.mem_map.mp hd
        rw [staX_eq t]
        walk_at "zx"
        exact ⟨x, _, rgt_f hr t ht, rfl, rfl⟩
      walk_at "zx"
      refine itd' (fun c2 => ?_) (fun c2 => ?_)
      · walk_at "zx"
        refine orule_use (h := h) hk s1 hu fun v x hv => ?_
        walk_at "zx"
        exact ⟨x, _, hv, rfl, rfl⟩
      · walk_at "zx"
        exact ⟨x, _, ruls_f hu, rfl, rfl⟩
    rintro ss o ⟨x, v, hv, rfl, rfl⟩
    walk_at "zy"
    refine withsta_use (by omega) hs ?_
    have hg2 := sta_q hg hs hv
    have gl2 : (hSta g k (stRule s v)).stas.length = h.stas.length := by
      show (withF g.stas k (stRule s v)).length = _
      rw [withF_len (by omega), gl]
    have gf2 : (hSta g k (stRule s v)).flows = h.flows := gf
    generalize hSta g k (stRule s v) = g2 at *
    walk_at "zx"
    walk_at "zy"
    refine firs _ _ _ hg2 ?_
    walk_at "zx"
    refine lfirst_use hg2 ?_
    walk_at "zx"
    refine told _ _ _ hg2 ?_
    walk_at "zx"
    refine draw_use (by decide) (by decide) fun w x w1 w2 => ?_
    walk_at "zx"
    refine itd' (fun c => ?_) (fun c => ?_)
    · walk_at "zx"
      exact ⟨x, h, _, _, _, _, _, hq, rfl, rfl, rfl, rfl⟩
    · walk_at "zx"
      exact ⟨x, g2, _, _, _, _, _, hg2, gl2, gf2, rfl, rfl⟩
  rintro ss o ⟨x, g, z6, z7, z8, z9, z10, hg, gl, gf, rfl, rfl⟩
  walk_at "zx"
  refine chwell_use hr fun x => ?_
  walk_at "zx"
  refine firs _ _ _ hq ?_
  rw [first_law7 hq, rgt_none7 hr, show faultD none = PyData.none from rfl]
  walk_at "zx"
  exact hE _
end Zd.K05

namespace Zd.K05
open PySem PySem.Spec PyProof.Rows L2 RZ RT
def top (i : Nat) : Stmt := PySem.Challenge.pw_stationdues_k07_faults_of_rules.main.body.getD i (.Pass ⟨0, 0, 0, 0⟩)

section
variable {P : Program} {w : World} {K : PySem.W.Frag} {mg : Str → Option Value} {base : Heap}
abbrev s_names_of : Stmt := top 1
theorem sc_names_of : FnScope N_names_of ["items"] (defScope s_names_of) := ⟨rfl, rfl, rfl, by decide +kernel, rfl, by decide +kernel, by decide +kernel⟩
theorem ax_names_of {a : Addr} (F : ∃ fd, FunD K "names_of" "names_of" (defArgs s_names_of) (defBody s_names_of) (defScope s_names_of) [] [] a fd) (hm : mg "names_of" = some (.ref a)) (m_tuple : mg "tuple" = none) : Dk P w K mg base 1 "names_of" ["items"] f_names_of := by
  exact dk_of (wv := w_names_of) F hm sc_names_of (fun _ _ _ _ _ _ us hl => match us, hl with | [_], _ => rfl) (fun cdv A outer s H E hr => (ass_one (as_ret (ae_ct br_tuple m_tuple (aa_cons (ae_lc (own := [("item", 1)]) (js := [1]) (ai_seq (ae_var 0)) sc_names_of.nd (blkOk_by (N := N_names_of) (sc := defScope s_names_of) (by decide +kernel)) (fun _ _ _ _ _ => (ag_name 1 sc_names_of.nd)) (fun _ _ _ _ _ => ats_nil) (fun _ _ _ _ _ => (ae_ix (ae_var 1) ae_int))) aa_nil))))) d_names_of
abbrev s_number_in : Stmt := top 2
theorem sc_number_in : FnScope N_number_in ["items", "name"] (defScope s_number_in) := ⟨rfl, rfl, rfl, by decide +kernel, rfl, by decide +kernel, by decide +kernel⟩
theorem ax_number_in {a : Addr} (F : ∃ fd, FunD K "number_in" "number_in" (defArgs s_number_in) (defBody s_number_in) (defScope s_number_in) [] [] a fd) (hm : mg "number_in" = some (.ref a)) (m_range : mg "range" = none) (m_len : mg "len" = none) : Dk P w K mg base 1 "number_in" ["items", "name"] f_number_in := by
  exact dk_of (wv := w_number_in) F hm sc_number_in (fun _ _ _ _ _ _ us hl => match us, hl with | [_, _], _ => rfl) (fun cdv A outer s H E hr => (ass_cons (as_for (ai_r1 m_range (aa_cons (ae_cb br_len m_len (aa_cons (ae_var 0) aa_nil)) aa_nil)) (ag_name 2 sc_number_in.nd) (ass_one (as_if (at_cmp (co_eq hr) (ae_ix (ae_ix (ae_var 0) (ae_var 2)) ae_int) (ae_var 1)) (ass_one (as_ret (ae_var 2))) ass_nil)))
    (ass_one (as_ret (ae_neg ae_int))))) d_number_in
abbrev s_flow_number : Stmt := top 3
theorem sc_flow_number : FnScope N_flow_number ["house", "name"] (defScope s_flow_number) := ⟨rfl, rfl, rfl, by decide +kernel, rfl, by decide +kernel, by decide +kernel⟩
theorem ax_flow_number {a : Addr} (F : ∃ fd, FunD K "flow_number" "flow_number" (defArgs s_flow_number) (defBody s_flow_number) (defScope s_flow_number) [] [] a fd) (hm : mg "flow_number" = some (.ref a)) (h_number_in : Dk P w K mg base 1 "number_in" ["items", "name"] f_number_in) : Dk P w K mg base 2 "flow_number" ["house", "name"] f_flow_number := by
  exact dk_of (wv := w_flow_number) F hm sc_flow_number (fun _ _ _ _ _ _ us hl => match us, hl with | [_, _], _ => rfl) (fun cdv A outer s H E hr => (ass_one (as_ret (ae_call h_number_in hr (aa_cons (ae_ix (ae_var 0) ae_int) (aa_cons (ae_var 1) aa_nil)))))) d_flow_number
abbrev s_hop_at : Stmt := top 4
theorem sc_hop_at : FnScope N_hop_at ["flow", "station"] (defScope s_hop_at) := ⟨rfl, rfl, rfl, by decide +kernel, rfl, by decide +kernel, by decide +kernel⟩
theorem ax_hop_at {a : Addr} (F : ∃ fd, FunD K "hop_at" "hop_at" (defArgs s_hop_at) (defBody s_hop_at) (defScope s_hop_at) [] [] a fd) (hm : mg "hop_at" = some (.ref a)) (m_range : mg "range" = none) (m_len : mg "len" = none) : Dk P w K mg base 1 "hop_at" ["flow", "station"] f_hop_at := by
  exact dk_of (wv := w_hop_at) F hm sc_hop_at (fun _ _ _ _ _ _ us hl => match us, hl with | [_, _], _ => rfl) (fun cdv A outer s H E hr => (ass_cons (as_for (ai_r1 m_range (aa_cons (ae_cb br_len m_len (aa_cons (ae_ix (ae_var 0) ae_int) aa_nil)) aa_nil)) (ag_name 2 sc_hop_at.nd) (ass_one (as_if (at_cmp (co_eq hr) (ae_ix (ae_ix (ae_ix (ae_var 0) ae_int) (ae_var 2)) ae_int) (ae_var 1)) (ass_one (as_ret (ae_var 2))) ass_nil)))
    (ass_one (as_ret (ae_neg ae_int))))) d_hop_at
abbrev s_flow_passers : Stmt := top 5
theorem sc_flow_passers : FnScope N_flow_passers ["house", "station"] (defScope s_flow_passers) := ⟨rfl, rfl, rfl, by decide +kernel, rfl, by decide +kernel, by decide +kernel⟩
theorem ax_flow_passers {a : Addr} (F : ∃ fd, FunD K "flow_passers" "flow_passers" (defArgs s_flow_passers) (defBody s_flow_passers) (defScope s_flow_passers) [] [] a fd) (hm : mg "flow_passers" = some (.ref a)) (m_range : mg "range" = none) (m_tuple : mg "tuple" = none) (m_len : mg "len" = none) (h_hop_at : Dk P w K mg base 1 "hop_at" ["flow", "station"] f_hop_at) : Dk P w K mg base 2 "flow_passers" ["house", "station"] f_flow_passers := by
  exact dk_of (wv := w_flow_passers) F hm sc_flow_passers (fun _ _ _ _ _ _ us hl => match us, hl with | [_, _], _ => rfl) (fun cdv A outer s H E hr => (ass_cons (as_set 2 sc_flow_passers.nd (ae_lstH aa_nil))
    (ass_cons (as_for (ai_r1 m_range (aa_cons (ae_cb br_len m_len (aa_cons (ae_ix (ae_var 0) ae_int) aa_nil)) aa_nil)) (ag_name 3 sc_flow_passers.nd) (ass_cons (as_set 4 sc_flow_passers.nd (ae_call h_hop_at hr (aa_cons (ae_ix (ae_ix (ae_var 0) ae_int) (ae_var 3)) (aa_cons (ae_var 1) aa_nil))))
    (ass_one (as_if (at_cmp co_ge (ae_var 4) ae_int) (ass_one (as_expr (ae_ml PySem.F.slot_list_append PySem.F.type_list_append mt_append sm_append (ae_var 2) (aa_cons (ae_tup (aa_cons (ae_var 3) (aa_cons (ae_var 4) aa_nil))) aa_nil)))) ass_nil))))
    (ass_one (as_ret (ae_ct br_tuple m_tuple (aa_cons (ae_varF 2) aa_nil))))))) d_flow_passers
abbrev s_is_name : Stmt := top 9
theorem sc_is_name : FnScope N_is_name ["word"] (defScope s_is_name) := ⟨rfl, rfl, rfl, by decide +kernel, rfl, by decide +kernel, by decide +kernel⟩
theorem ax_is_name {a : Addr} (F : ∃ fd, FunD K "is_name" "is_name" (defArgs s_is_name) (defBody s_is_name) (defScope s_is_name) [] [] a fd) (hm : mg "is_name" = some (.ref a)) {v_LETTERS : V} (g_LETTERS : GlK K mg "LETTERS" v_LETTERS k_LETTERS) (m_all : mg "all" = none) (m_len : mg "len" = none) : Dk P w K mg base 1 "is_name" ["word"] f_is_name := by
  exact dk_of (wv := w_is_name) F hm sc_is_name (fun _ _ _ _ _ _ us hl => match us, hl with | [_], _ => rfl) (fun cdv A outer s H E hr => (ass_one (as_ret (ae_andV (ae_chain co_le co_le ae_int (ae_cb br_len m_len (aa_cons (ae_var 0) aa_nil)) ae_int) (ae_one (ae_cb br_all m_all (aa_cons (ae_lc (own := [("sign", 1)]) (js := [1]) (ai_seq (ae_var 0)) sc_is_name.nd (blkOk_by (N := N_is_name) (sc := defScope s_is_name) (by decide +kernel)) (fun _ _ _ _ _ => (ag_name 1 sc_is_name.nd)) (fun _ _ _ _ _ => ats_nil) (fun _ _ _ _ _ => (ae_cmp co_inSg (ae_var 1) (ae_gl g_LETTERS)))) aa_nil))))))) d_is_name
abbrev s_is_in : Stmt := top 11
theorem sc_is_in : FnScope N_is_in ["number", "low", "high"] (defScope s_is_in) := ⟨rfl, rfl, rfl, by decide +kernel, rfl, by decide +kernel, by decide +kernel⟩
theorem ax_is_in {a : Addr} (F : ∃ fd, FunD K "is_in" "is_in" (defArgs s_is_in) (defBody s_is_in) (defScope s_is_in) [] [] a fd) (hm : mg "is_in" = some (.ref a)) : Dk P w K mg base 1 "is_in" ["number", "low", "high"] f_is_in := by
  exact dk_of (wv := w_is_in) F hm sc_is_in (fun _ _ _ _ _ _ us hl => match us, hl with | [_, _, _], _ => rfl) (fun cdv A outer s H E hr => (ass_one (as_ret (ae_chain co_le co_le (ae_var 1) (ae_var 0) (ae_var 2))))) d_is_in
abbrev s_is_new_name : Stmt := top 12
theorem sc_is_new_name : FnScope N_is_new_name ["items", "place"] (defScope s_is_new_name) := ⟨rfl, rfl, rfl, by decide +kernel, rfl, by decide +kernel, by decide +kernel⟩
theorem ax_is_new_name {a : Addr} (F : ∃ fd, FunD K "is_new_name" "is_new_name" (defArgs s_is_new_name) (defBody s_is_new_name) (defScope s_is_new_name) [] [] a fd) (hm : mg "is_new_name" = some (.ref a)) (h_is_name : Dk P w K mg base 1 "is_name" ["word"] f_is_name) (h_names_of : Dk P w K mg base 1 "names_of" ["items"] f_names_of) : Dk P w K mg base 2 "is_new_name" ["items", "place"] f_is_new_name := by
  exact dk_of (wv := w_is_new_name) F hm sc_is_new_name (fun _ _ _ _ _ _ us hl => match us, hl with | [_, _], _ => rfl) (fun cdv A outer s H E hr => (ass_cons (as_set 2 sc_is_new_name.nd (ae_ix (ae_ix (ae_var 0) (ae_var 1)) ae_int))
    (ass_one (as_ret (ae_andV (ae_call h_is_name hr (aa_cons (ae_var 2) aa_nil)) (ae_one (ae_cmp co_nin (ae_var 2) (ae_call h_names_of hr (aa_cons (ae_sl (ae_var 0) ao_none (ao_some (ae_var 1))) aa_nil))))))))) d_is_new_name
abbrev s_are_hours : Stmt := top 13
theorem sc_are_hours : FnScope N_are_hours ["hours"] (defScope s_are_hours) := ⟨rfl, rfl, rfl, by decide +kernel, rfl, by decide +kernel, by decide +kernel⟩
theorem ax_are_hours {a : Addr} (F : ∃ fd, FunD K "are_hours" "are_hours" (defArgs s_are_hours) (defBody s_are_hours) (defScope s_are_hours) [] [] a fd) (hm : mg "are_hours" = some (.ref a)) (m_sum : mg "sum" = none) (m_all : mg "all" = none) (m_len : mg "len" = none) (h_is_in : Dk P w K mg base 1 "is_in" ["number", "low", "high"] f_is_in) : Dk P w K mg base 2 "are_hours" ["hours"] f_are_hours := by
  exact dk_of (wv := w_are_hours) F hm sc_are_hours (fun _ _ _ _ _ _ us hl => match us, hl with | [_], _ => rfl) (fun cdv A outer s H E hr => (ass_cons (as_if (aw_or (at_not (at_val (ae_call h_is_in hr (aa_cons (ae_cb br_len m_len (aa_cons (ae_var 0) aa_nil)) (aa_cons ae_int (aa_cons ae_int aa_nil)))))) (aw_or1 (at_not (at_val (ae_cb br_all m_all (aa_cons (ae_lc (own := [("many", 1)]) (js := [1]) (ai_seq (ae_var 0)) sc_are_hours.nd (blkOk_by (N := N_are_hours) (sc := defScope s_are_hours) (by decide +kernel)) (fun _ _ _ _ _ => (ag_name 1 sc_are_hours.nd)) (fun _ _ _ _ _ => ats_nil) (fun _ _ _ _ _ => (ae_call h_is_in hr (aa_cons (ae_var 1) (aa_cons ae_int (aa_cons ae_int aa_nil)))))) aa_nil)))))).at (ass_one (as_ret ae_bl)) ass_nil)
    (ass_one (as_ret (ae_cmp co_gt (ae_cb br_sum m_sum (aa_cons (ae_var 0) aa_nil)) ae_int))))) d_are_hours
abbrev s_is_stop : Stmt := top 14
theorem sc_is_stop : FnScope N_is_stop ["stop"] (defScope s_is_stop) := ⟨rfl, rfl, rfl, by decide +kernel, rfl, by decide +kernel, by decide +kernel⟩
theorem ax_is_stop {a : Addr} (F : ∃ fd, FunD K "is_stop" "is_stop" (defArgs s_is_stop) (defBody s_is_stop) (defScope s_is_stop) [] [] a fd) (hm : mg "is_stop" = some (.ref a)) (h_is_in : Dk P w K mg base 1 "is_in" ["number", "low", "high"] f_is_in) : Dk P w K mg base 2 "is_stop" ["stop"] f_is_stop := by
  exact dk_of (wv := w_is_stop) F hm sc_is_stop (fun _ _ _ _ _ _ us hl => match us, hl with | [_], _ => rfl) (fun cdv A outer s H E hr => (ass_one (as_ret (ae_orV (ae_isN (ae_var 0)) (ae_one (ae_andV (ae_call h_is_in hr (aa_cons (ae_ix (ae_var 0) ae_int) (aa_cons ae_int (aa_cons ae_int aa_nil)))) (ae_one (ae_call h_is_in hr (aa_cons (ae_ix (ae_var 0) ae_int) (aa_cons ae_int (aa_cons ae_int aa_nil))))))))))) d_is_stop
abbrev s_station_fault : Stmt := top 15
theorem sc_station_fault : FnScope N_station_fault ["house", "place"] (defScope s_station_fault) := ⟨rfl, rfl, rfl, by decide +kernel, rfl, by decide +kernel, by decide +kernel⟩
theorem ax_station_fault {a : Addr} (F : ∃ fd, FunD K "station_fault" "station_fault" (defArgs s_station_fault) (defBody s_station_fault) (defScope s_station_fault) [] [] a fd) (hm : mg "station_fault" = some (.ref a)) (h_is_new_name : Dk P w K mg base 2 "is_new_name" ["items", "place"] f_is_new_name) (h_are_hours : Dk P w K mg base 2 "are_hours" ["hours"] f_are_hours) (h_is_stop : Dk P w K mg base 2 "is_stop" ["stop"] f_is_stop) : Dk P w K mg base 3 "station_fault" ["house", "place"] f_station_fault := by
  exact dk_of (wv := w_station_fault) F hm sc_station_fault (fun _ _ _ _ _ _ us hl => match us, hl with | [_, _], _ => rfl) (fun cdv A outer s H E hr => (ass_cons (as_set 2 sc_station_fault.nd (ae_ix (ae_ix (ae_var 0) ae_int) (ae_var 1)))
    (ass_cons (as_if (at_not (at_val (ae_call h_is_new_name hr (aa_cons (ae_ix (ae_var 0) ae_int) (aa_cons (ae_var 1) aa_nil))))) (ass_one (as_ret (ae_tup (aa_cons ae_str (aa_cons (ae_tup (aa_cons (ae_var 1) aa_nil)) aa_nil))))) ass_nil)
    (ass_cons (as_if (at_not (at_val (ae_call h_are_hours hr (aa_cons (ae_ix (ae_var 2) ae_int) aa_nil)))) (ass_one (as_ret (ae_tup (aa_cons ae_str (aa_cons (ae_tup (aa_cons (ae_var 1) aa_nil)) aa_nil))))) ass_nil)
    (ass_cons (as_if (at_not (at_val (ae_call h_is_stop hr (aa_cons (ae_ix (ae_var 2) ae_int) aa_nil)))) (ass_one (as_ret (ae_tup (aa_cons ae_str (aa_cons (ae_tup (aa_cons (ae_var 1) aa_nil)) aa_nil))))) ass_nil)
    (ass_one (as_ret ae_non))))))) d_station_fault
abbrev s_are_windows : Stmt := top 16
theorem sc_are_windows : FnScope N_are_windows ["windows"] (defScope s_are_windows) := ⟨rfl, rfl, rfl, by decide +kernel, rfl, by decide +kernel, by decide +kernel⟩
theorem ax_are_windows {a : Addr} (F : ∃ fd, FunD K "are_windows" "are_windows" (defArgs s_are_windows) (defBody s_are_windows) (defScope s_are_windows) [] [] a fd) (hm : mg "are_windows" = some (.ref a)) (m_all : mg "all" = none) (m_len : mg "len" = none) (h_is_in : Dk P w K mg base 1 "is_in" ["number", "low", "high"] f_is_in) : Dk P w K mg base 2 "are_windows" ["windows"] f_are_windows := by
  exact dk_of (wv := w_are_windows) F hm sc_are_windows (fun _ _ _ _ _ _ us hl => match us, hl with | [_], _ => rfl) (fun cdv A outer s H E hr => (ass_cons (as_if (at_not (at_val (ae_call h_is_in hr (aa_cons (ae_cb br_len m_len (aa_cons (ae_var 0) aa_nil)) (aa_cons ae_int (aa_cons ae_int aa_nil)))))) (ass_one (as_ret ae_bl)) ass_nil)
    (ass_one (as_ret (ae_cb br_all m_all (aa_cons (ae_lc (own := [("most", 1), ("span", 2)]) (js := [1, 2]) (ai_seq (ae_var 0)) sc_are_windows.nd (blkOk_by (N := N_are_windows) (sc := defScope s_are_windows) (by decide +kernel)) (fun _ _ _ _ _ => (ag_tup (n := 2) (ags_cons (ag_name 1 sc_are_windows.nd) (ags_cons (ag_name 2 sc_are_windows.nd) ags_nil)))) (fun _ _ _ _ _ => ats_nil) (fun _ _ _ _ _ => (ae_andV (ae_call h_is_in hr (aa_cons (ae_var 1) (aa_cons ae_int (aa_cons ae_int aa_nil)))) (ae_one (ae_call h_is_in hr (aa_cons (ae_var 2) (aa_cons ae_int (aa_cons ae_int aa_nil)))))))) aa_nil)))))) d_are_windows
abbrev s_flow_fault : Stmt := top 17
theorem sc_flow_fault : FnScope N_flow_fault ["house", "place"] (defScope s_flow_fault) := ⟨rfl, rfl, rfl, by decide +kernel, rfl, by decide +kernel, by decide +kernel⟩
theorem ax_flow_fault {a : Addr} (F : ∃ fd, FunD K "flow_fault" "flow_fault" (defArgs s_flow_fault) (defBody s_flow_fault) (defScope s_flow_fault) [] [] a fd) (hm : mg "flow_fault" = some (.ref a)) (m_range : mg "range" = none) (m_len : mg "len" = none) (h_is_new_name : Dk P w K mg base 2 "is_new_name" ["items", "place"] f_is_new_name) (h_are_windows : Dk P w K mg base 2 "are_windows" ["windows"] f_are_windows) (h_is_in : Dk P w K mg base 1 "is_in" ["number", "low", "high"] f_is_in) (h_hop_fault : Dk P w K mg base 3 "hop_fault" ["house", "flow", "hop"] f_hop_fault) : Dk P w K mg base 4 "flow_fault" ["house", "place"] f_flow_fault := by
  exact dk_of (wv := w_flow_fault) F hm sc_flow_fault (fun _ _ _ _ _ _ us hl => match us, hl with | [_, _], _ => rfl) (fun cdv A outer s H E hr => (ass_cons (as_set 2 sc_flow_fault.nd (ae_ix (ae_ix (ae_var 0) ae_int) (ae_var 1)))
    (ass_cons (as_if (at_not (at_val (ae_call h_is_new_name hr (aa_cons (ae_ix (ae_var 0) ae_int) (aa_cons (ae_var 1) aa_nil))))) (ass_one (as_ret (ae_tup (aa_cons ae_str (aa_cons (ae_tup (aa_cons (ae_var 1) aa_nil)) aa_nil))))) ass_nil)
    (ass_cons (as_if (at_not (at_val (ae_call h_are_windows hr (aa_cons (ae_ix (ae_var 2) ae_int) aa_nil)))) (ass_one (as_ret (ae_tup (aa_cons ae_str (aa_cons (ae_tup (aa_cons (ae_var 1) aa_nil)) aa_nil))))) ass_nil)
    (ass_cons (as_if (at_not (at_val (ae_call h_is_in hr (aa_cons (ae_cb br_len m_len (aa_cons (ae_ix (ae_var 2) ae_int) aa_nil)) (aa_cons ae_int (aa_cons ae_int aa_nil)))))) (ass_one (as_ret (ae_tup (aa_cons ae_str (aa_cons (ae_tup (aa_cons (ae_var 1) aa_nil)) aa_nil))))) ass_nil)
    (ass_cons (as_for (ai_r1 m_range (aa_cons (ae_cb br_len m_len (aa_cons (ae_ix (ae_var 2) ae_int) aa_nil)) aa_nil)) (ag_name 3 sc_flow_fault.nd) (ass_cons (as_set 4 sc_flow_fault.nd (ae_call h_hop_fault hr (aa_cons (ae_var 0) (aa_cons (ae_var 2) (aa_cons (ae_var 3) aa_nil)))))
    (ass_one (as_if (at_notN (ae_var 4)) (ass_one (as_ret (ae_tup (aa_cons (ae_var 4) (aa_cons (ae_tup (aa_cons (ae_var 1) (aa_cons (ae_var 3) aa_nil))) aa_nil))))) ass_nil))))
    (ass_one (as_ret ae_non)))))))) d_flow_fault
abbrev s_is_new_station : Stmt := top 18
theorem sc_is_new_station : FnScope N_is_new_station ["house", "flow", "hop"] (defScope s_is_new_station) := ⟨rfl, rfl, rfl, by decide +kernel, rfl, by decide +kernel, by decide +kernel⟩
theorem ax_is_new_station {a : Addr} (F : ∃ fd, FunD K "is_new_station" "is_new_station" (defArgs s_is_new_station) (defBody s_is_new_station) (defScope s_is_new_station) [] [] a fd) (hm : mg "is_new_station" = some (.ref a)) (h_names_of : Dk P w K mg base 1 "names_of" ["items"] f_names_of) : Dk P w K mg base 2 "is_new_station" ["house", "flow", "hop"] f_is_new_station := by
  exact dk_of (wv := w_is_new_station) F hm sc_is_new_station (fun _ _ _ _ _ _ us hl => match us, hl with | [_, _, _], _ => rfl) (fun cdv A outer s H E hr => (ass_cons (as_set 3 sc_is_new_station.nd (ae_ix (ae_ix (ae_ix (ae_var 1) ae_int) (ae_var 2)) ae_int))
    (ass_one (as_ret (ae_andV (ae_cmp co_in (ae_var 3) (ae_call h_names_of hr (aa_cons (ae_ix (ae_var 0) ae_int) aa_nil))) (ae_one (ae_cmp co_nin (ae_var 3) (ae_call h_names_of hr (aa_cons (ae_sl (ae_ix (ae_var 1) ae_int) ao_none (ao_some (ae_var 2))) aa_nil))))))))) d_is_new_station
abbrev s_is_behind : Stmt := top 19
theorem sc_is_behind : FnScope N_is_behind ["flow", "hop"] (defScope s_is_behind) := ⟨rfl, rfl, rfl, by decide +kernel, rfl, by decide +kernel, by decide +kernel⟩
theorem ax_is_behind {a : Addr} (F : ∃ fd, FunD K "is_behind" "is_behind" (defArgs s_is_behind) (defBody s_is_behind) (defScope s_is_behind) [] [] a fd) (hm : mg "is_behind" = some (.ref a)) (h_is_in : Dk P w K mg base 1 "is_in" ["number", "low", "high"] f_is_in) : Dk P w K mg base 2 "is_behind" ["flow", "hop"] f_is_behind := by
  exact dk_of (wv := w_is_behind) F hm sc_is_behind (fun _ _ _ _ _ _ us hl => match us, hl with | [_, _], _ => rfl) (fun cdv A outer s H E hr => (ass_cons (as_set 2 sc_is_behind.nd (ae_ix (ae_ix (ae_ix (ae_var 0) ae_int) (ae_var 1)) ae_int))
    (ass_one (as_ret (ae_call h_is_in hr (aa_cons (ae_var 2) (aa_cons (ae_neg ae_int) (aa_cons (ae_sub (ae_var 1) ae_int) aa_nil)))))))) d_is_behind
abbrev s_hop_fault : Stmt := top 20
theorem sc_hop_fault : FnScope N_hop_fault ["house", "flow", "hop"] (defScope s_hop_fault) := ⟨rfl, rfl, rfl, by decide +kernel, rfl, by decide +kernel, by decide +kernel⟩
theorem ax_hop_fault {a : Addr} (F : ∃ fd, FunD K "hop_fault" "hop_fault" (defArgs s_hop_fault) (defBody s_hop_fault) (defScope s_hop_fault) [] [] a fd) (hm : mg "hop_fault" = some (.ref a)) {v_GATES : V} (g_GATES : GlK K mg "GATES" v_GATES k_GATES) (h_is_new_station : Dk P w K mg base 2 "is_new_station" ["house", "flow", "hop"] f_is_new_station) (h_is_behind : Dk P w K mg base 2 "is_behind" ["flow", "hop"] f_is_behind) (h_is_in : Dk P w K mg base 1 "is_in" ["number", "low", "high"] f_is_in) : Dk P w K mg base 3 "hop_fault" ["house", "flow", "hop"] f_hop_fault := by
  exact dk_of (wv := w_hop_fault) F hm sc_hop_fault (fun _ _ _ _ _ _ us hl => match us, hl with | [_, _, _], _ => rfl) (fun cdv A outer s H E hr => (ass_cons (as_asg (ae_ix (ae_ix (ae_var 1) ae_int) (ae_var 2)) (ag_tup (n := 6) (ags_cons (ag_name 3 sc_hop_fault.nd) (ags_cons (ag_name 4 sc_hop_fault.nd) (ags_cons (ag_name 5 sc_hop_fault.nd) (ags_cons (ag_name 6 sc_hop_fault.nd) (ags_cons (ag_name 7 sc_hop_fault.nd) (ags_cons (ag_name 8 sc_hop_fault.nd) ags_nil))))))))
    (ass_cons (as_if (at_not (at_val (ae_call h_is_new_station hr (aa_cons (ae_var 0) (aa_cons (ae_var 1) (aa_cons (ae_var 2) aa_nil)))))) (ass_one (as_ret ae_str)) ass_nil)
    (ass_cons (as_if (at_not (at_val (ae_call h_is_behind hr (aa_cons (ae_var 1) (aa_cons (ae_var 2) aa_nil))))) (ass_one (as_ret ae_str)) ass_nil)
    (ass_cons (as_if (at_not (at_chain3 co_le co_le co_le ae_int (ae_var 5) (ae_var 6) ae_int)) (ass_one (as_ret ae_str)) ass_nil)
    (ass_cons (as_if (at_not (at_val (ae_call h_is_in hr (aa_cons (ae_var 7) (aa_cons ae_int (aa_cons ae_int aa_nil)))))) (ass_one (as_ret ae_str)) ass_nil)
    (ass_cons (as_if (at_cmp co_nin (ae_var 8) (ae_gl g_GATES)) (ass_one (as_ret ae_str)) ass_nil)
    (ass_one (as_ret ae_non))))))))) d_hop_fault
abbrev s_rule_fault : Stmt := top 21
theorem sc_rule_fault : FnScope N_rule_fault ["house", "place"] (defScope s_rule_fault) := ⟨rfl, rfl, rfl, by decide +kernel, rfl, by decide +kernel, by decide +kernel⟩
theorem ax_rule_fault {a : Addr} (F : ∃ fd, FunD K "rule_fault" "rule_fault" (defArgs s_rule_fault) (defBody s_rule_fault) (defScope s_rule_fault) [] [] a fd) (hm : mg "rule_fault" = some (.ref a)) (m_tuple : mg "tuple" = none) (h_is_rule : Dk P w K mg base 2 "is_rule" ["rule", "hours", "names"] f_is_rule) (h_flow_passers : Dk P w K mg base 2 "flow_passers" ["house", "station"] f_flow_passers) : Dk P w K mg base 3 "rule_fault" ["house", "place"] f_rule_fault := by
  exact dk_of (wv := w_rule_fault) F hm sc_rule_fault (fun _ _ _ _ _ _ us hl => match us, hl with | [_, _], _ => rfl) (fun cdv A outer s H E hr => (ass_cons (as_set 2 sc_rule_fault.nd (ae_ix (ae_ix (ae_var 0) ae_int) (ae_var 1)))
    (ass_cons (as_set 3 sc_rule_fault.nd (ae_ct br_tuple m_tuple (aa_cons (ae_lc (own := [("flow", 4), ("hop", 5)]) (js := [4, 5]) (ai_seq (ae_call h_flow_passers hr (aa_cons (ae_var 0) (aa_cons (ae_ix (ae_var 2) ae_int) aa_nil)))) sc_rule_fault.nd (blkOk_by (N := N_rule_fault) (sc := defScope s_rule_fault) (by decide +kernel)) (fun _ _ _ _ _ => (ag_tup (n := 2) (ags_cons (ag_name 4 sc_rule_fault.nd) (ags_cons (ag_name 5 sc_rule_fault.nd) ags_nil)))) (fun _ _ _ _ _ => ats_nil) (fun _ _ _ _ _ => (ae_ix (ae_ix (ae_ix (ae_var 0) ae_int) (ae_var 4)) ae_int))) aa_nil)))
    (ass_cons (as_if (at_val (ae_call h_is_rule hr (aa_cons (ae_ix (ae_var 2) ae_int) (aa_cons (ae_ix (ae_var 2) ae_int) (aa_cons (ae_var 3) aa_nil))))) (ass_one (as_ret ae_non)) ass_nil)
    (ass_one (as_ret (ae_tup (aa_cons ae_str (aa_cons (ae_tup (aa_cons (ae_var 1) aa_nil)) aa_nil))))))))) d_rule_fault
abbrev s_is_rule : Stmt := top 22
theorem sc_is_rule : FnScope N_is_rule ["rule", "hours", "names"] (defScope s_is_rule) := ⟨rfl, rfl, rfl, by decide +kernel, rfl, by decide +kernel, by decide +kernel⟩
theorem ax_is_rule {a : Addr} (F : ∃ fd, FunD K "is_rule" "is_rule" (defArgs s_is_rule) (defBody s_is_rule) (defScope s_is_rule) [] [] a fd) (hm : mg "is_rule" = some (.ref a)) (m_len : mg "len" = none) (m_all : mg "all" = none) (h_are_all : Dk P w K mg base 1 "are_all" ["told", "names"] f_are_all) (h_are_slots : Dk P w K mg base 1 "are_slots" ["slots", "hours", "names"] f_are_slots) (h_is_in : Dk P w K mg base 1 "is_in" ["number", "low", "high"] f_is_in) : Dk P w K mg base 2 "is_rule" ["rule", "hours", "names"] f_is_rule := by
  exact dk_of (wv := w_is_rule) F hm sc_is_rule (fun _ _ _ _ _ _ us hl => match us, hl with | [_, _, _], _ => rfl) (fun cdv A outer s H E hr => (ass_cons (as_if (at_cmp co_in (ae_ix (ae_var 0) ae_int) (ae_tup (aa_cons ae_str (aa_cons ae_str aa_nil)))) (ass_one (as_ret (ae_cmp (co_eq hr) (ae_cb br_len m_len (aa_cons (ae_var 0) aa_nil)) ae_int))) ass_nil)
    (ass_cons (as_if (at_cmp (co_ne hr) (ae_cb br_len m_len (aa_cons (ae_var 0) aa_nil)) ae_int) (ass_one (as_ret ae_bl)) ass_nil)
    (ass_cons (as_if (at_cmp (co_eq hr) (ae_ix (ae_var 0) ae_int) ae_str) (ass_one (as_ret (ae_call h_are_all hr (aa_cons (ae_ix (ae_var 0) ae_int) (aa_cons (ae_var 2) aa_nil))))) ass_nil)
    (ass_cons (as_if (at_cmp (co_eq hr) (ae_ix (ae_var 0) ae_int) ae_str) (ass_cons (as_set 3 sc_is_rule.nd (ae_cb br_all m_all (aa_cons (ae_lc (own := [("name", 4), ("credit", 5)]) (js := [4, 5]) (ai_seq (ae_ix (ae_var 0) ae_int)) sc_is_rule.nd (blkOk_by (N := N_is_rule) (sc := defScope s_is_rule) (by decide +kernel)) (fun _ _ _ _ _ => (ag_tup (n := 2) (ags_cons (ag_name 4 sc_is_rule.nd) (ags_cons (ag_name 5 sc_is_rule.nd) ags_nil)))) (fun _ _ _ _ _ => ats_nil) (fun _ _ _ _ _ => (ae_call h_is_in hr (aa_cons (ae_var 5) (aa_cons ae_int (aa_cons ae_int aa_nil)))))) aa_nil)))
    (ass_one (as_ret (ae_andV (ae_var 3) (ae_one (ae_call h_are_all hr (aa_cons (ae_lc (own := [("name", 4), ("credit", 5)]) (js := [4, 5]) (ai_seq (ae_ix (ae_var 0) ae_int)) sc_is_rule.nd (blkOk_by (N := N_is_rule) (sc := defScope s_is_rule) (by decide +kernel)) (fun _ _ _ _ _ => (ag_tup (n := 2) (ags_cons (ag_name 4 sc_is_rule.nd) (ags_cons (ag_name 5 sc_is_rule.nd) ags_nil)))) (fun _ _ _ _ _ => ats_nil) (fun _ _ _ _ _ => (ae_var 4))) (aa_cons (ae_var 2) aa_nil)))))))) ass_nil)
    (ass_one (as_ret (ae_andV (ae_cmp (co_eq hr) (ae_ix (ae_var 0) ae_int) ae_str) (ae_one (ae_call h_are_slots hr (aa_cons (ae_ix (ae_var 0) ae_int) (aa_cons (ae_var 1) (aa_cons (ae_var 2) aa_nil))))))))))))) d_is_rule
abbrev s_are_all : Stmt := top 23
theorem sc_are_all : FnScope N_are_all ["told", "names"] (defScope s_are_all) := ⟨rfl, rfl, rfl, by decide +kernel, rfl, by decide +kernel, by decide +kernel⟩
theorem ax_are_all {a : Addr} (F : ∃ fd, FunD K "are_all" "are_all" (defArgs s_are_all) (defBody s_are_all) (defScope s_are_all) [] [] a fd) (hm : mg "are_all" = some (.ref a)) (m_sorted : mg "sorted" = none) : Dk P w K mg base 1 "are_all" ["told", "names"] f_are_all := by
  exact dk_of (wv := w_are_all) F hm sc_are_all (fun _ _ _ _ _ _ us hl => match us, hl with | [_, _], _ => rfl) (fun cdv A outer s H E hr => (ass_one (as_ret (ae_cmp (co_eq hr) (ae_cb br_sortedS m_sorted (aa_cons (ae_var 0) aa_nil)) (ae_cb br_sortedS m_sorted (aa_cons (ae_var 1) aa_nil)))))) d_are_all
abbrev s_are_slots : Stmt := top 24
theorem sc_are_slots : FnScope N_are_slots ["slots", "hours", "names"] (defScope s_are_slots) := ⟨rfl, rfl, rfl, by decide +kernel, rfl, by decide +kernel, by decide +kernel⟩
theorem ax_are_slots {a : Addr} (F : ∃ fd, FunD K "are_slots" "are_slots" (defArgs s_are_slots) (defBody s_are_slots) (defScope s_are_slots) [] [] a fd) (hm : mg "are_slots" = some (.ref a)) (m_zip : mg "zip" = none) (m_len : mg "len" = none) (m_all : mg "all" = none) : Dk P w K mg base 1 "are_slots" ["slots", "hours", "names"] f_are_slots := by
  exact dk_of (wv := w_are_slots) F hm sc_are_slots (fun _ _ _ _ _ _ us hl => match us, hl with | [_, _, _], _ => rfl) (fun cdv A outer s H E hr => (ass_cons (as_if (at_cmp (co_ne hr) (ae_cb br_len m_len (aa_cons (ae_var 0) aa_nil)) (ae_cb br_len m_len (aa_cons (ae_var 1) aa_nil))) (ass_one (as_ret ae_bl)) ass_nil)
    (ass_cons (as_set 3 sc_are_slots.nd (ae_lstH aa_nil))
    (ass_cons (as_for (ai_zip m_zip (aa_cons (ae_var 1) (aa_cons (ae_var 0) aa_nil))) (ag_tup (n := 2) (ags_cons (ag_name 4 sc_are_slots.nd) (ags_cons (ag_name 5 sc_are_slots.nd) ags_nil))) (ass_cons (as_if (at_cmp (co_ne hr) (ae_cb br_len m_len (aa_cons (ae_var 5) aa_nil)) (ae_var 4)) (ass_one (as_ret ae_bl)) ass_nil)
    (ass_one (as_expr (ae_ml PySem.F.slot_list_extend PySem.F.type_list_extend mt_extT sm_extT (ae_var 3) (aa_cons (ae_var 5) aa_nil))))))
    (ass_one (as_ret (ae_andV (ae_cb br_all m_all (aa_cons (ae_lc (own := [("name", 6)]) (js := [6]) (ai_seq (ae_varF 3)) sc_are_slots.nd (blkOk_by (N := N_are_slots) (sc := defScope s_are_slots) (by decide +kernel)) (fun _ _ _ _ _ => (ag_name 6 sc_are_slots.nd)) (fun _ _ _ _ _ => ats_nil) (fun _ _ _ _ _ => (ae_cmp co_in (ae_var 6) (ae_var 2)))) aa_nil)) (ae_one (ae_cb br_all m_all (aa_cons (ae_lc (own := [("name", 6)]) (js := [6]) (ai_seq (ae_var 2)) sc_are_slots.nd (blkOk_by (N := N_are_slots) (sc := defScope s_are_slots) (by decide +kernel)) (fun _ _ _ _ _ => (ag_name 6 sc_are_slots.nd)) (fun _ _ _ _ _ => ats_nil) (fun _ _ _ _ _ => (ae_cmp co_in (ae_var 6) (ae_varF 3)))) aa_nil)))))))))) d_are_slots
abbrev s_many_fault : Stmt := top 26
theorem sc_many_fault : FnScope N_many_fault ["house"] (defScope s_many_fault) := ⟨rfl, rfl, rfl, by decide +kernel, rfl, by decide +kernel, by decide +kernel⟩
theorem ax_many_fault {a : Addr} (F : ∃ fd, FunD K "many_fault" "many_fault" (defArgs s_many_fault) (defBody s_many_fault) (defScope s_many_fault) [] [] a fd) (hm : mg "many_fault" = some (.ref a)) (m_len : mg "len" = none) : Dk P w K mg base 1 "many_fault" ["house"] f_many_fault := by
  exact dk_of (wv := w_many_fault) F hm sc_many_fault (fun _ _ _ _ _ _ us hl => match us, hl with | [_], _ => rfl) (fun cdv A outer s H E hr => (ass_cons (as_if (at_not (at_chain co_le co_le ae_int (ae_cb br_len m_len (aa_cons (ae_ix (ae_var 0) ae_int) aa_nil)) ae_int)) (ass_one (as_ret (ae_tup (aa_cons ae_str (aa_cons (ae_tup aa_nil) aa_nil))))) ass_nil)
    (ass_cons (as_if (at_not (at_chain co_le co_le ae_int (ae_cb br_len m_len (aa_cons (ae_ix (ae_var 0) ae_int) aa_nil)) ae_int)) (ass_one (as_ret (ae_tup (aa_cons ae_str (aa_cons (ae_tup aa_nil) aa_nil))))) ass_nil)
    (ass_one (as_ret ae_non))))) d_many_fault
abbrev s_first_fault : Stmt := top 27
theorem sc_first_fault : FnScope N_first_fault ["house"] (defScope s_first_fault) := ⟨rfl, rfl, rfl, by decide +kernel, rfl, by decide +kernel, by decide +kernel⟩
theorem ax_first_fault {a : Addr} (F : ∃ fd, FunD K "first_fault" "first_fault" (defArgs s_first_fault) (defBody s_first_fault) (defScope s_first_fault) [] [] a fd) (hm : mg "first_fault" = some (.ref a)) (m_range : mg "range" = none) (m_len : mg "len" = none) (h_many_fault : Dk P w K mg base 1 "many_fault" ["house"] f_many_fault) (h_station_fault : Dk P w K mg base 3 "station_fault" ["house", "place"] f_station_fault) (h_flow_fault : Dk P w K mg base 4 "flow_fault" ["house", "place"] f_flow_fault) (h_rule_fault : Dk P w K mg base 3 "rule_fault" ["house", "place"] f_rule_fault) (mv_station_fault : mg "station_fault" = some (.ref (He.ga K "station_fault"))) (mv_flow_fault : mg "flow_fault" = some (.ref (He.ga K "flow_fault"))) (mv_rule_fault : mg "rule_fault" = some (.ref (He.ga K "rule_fault"))) : Dk P w K mg base 5 "first_fault" ["house"] f_first_fault := by
  exact dk_of (wv := w_first_fault) F hm sc_first_fault (fun _ _ _ _ _ _ us hl => match us, hl with | [_], _ => rfl) (fun cdv A outer s H E hr => (ass_cons (as_set 1 sc_first_fault.nd (ae_call h_many_fault hr (aa_cons (ae_var 0) aa_nil)))
    (ass_cons (as_set 2 sc_first_fault.nd (ae_lstH (aa_cons (ae_fn mv_station_fault) (aa_cons (ae_fn mv_flow_fault) (aa_cons (ae_fn mv_rule_fault) aa_nil)))))
    (ass_cons (as_for (ai_r1 m_range (aa_cons (ae_cb br_len m_len (aa_cons (ae_var 2) aa_nil)) aa_nil)) (ag_name 3 sc_first_fault.nd) (ass_cons (as_set 4 sc_first_fault.nd (ae_if (at_cmp (co_eq hr) (ae_var 3) ae_int) (ae_ix (ae_var 0) ae_int) (ae_ix (ae_var 0) ae_int)))
    (ass_one (as_for (ai_r1 m_range (aa_cons (ae_cb br_len m_len (aa_cons (ae_var 4) aa_nil)) aa_nil)) (ag_name 5 sc_first_fault.nd) (ass_one (as_if (at_isN (ae_var 1)) (ass_one (as_set 1 sc_first_fault.nd (ae_callF (n := 2) (L := [("station_fault", f_station_fault), ("flow_fault", f_flow_fault), ("rule_fault", f_rule_fault)]) (fun x f h => by
    simp only [List.mem_cons, List.not_mem_nil, or_false, Prod.mk.injEq] at h
    rcases h with ⟨rfl, rfl⟩ | ⟨rfl, rfl⟩ | ⟨rfl, rfl⟩
    · exact ⟨mv_station_fault, _, _, h_station_fault, by decide, rfl⟩
    · exact ⟨mv_flow_fault, _, _, h_flow_fault, by decide, rfl⟩
    · exact ⟨mv_rule_fault, _, _, h_rule_fault, by decide, rfl⟩) hr (ae_ix (ae_var 2) (ae_var 3)) (aa_cons (ae_var 0) (aa_cons (ae_var 5) aa_nil))))) ass_nil))))))
    (ass_one (as_ret (ae_var 1))))))) d_first_fault
abbrev s_ruled_by_dues : Stmt := top 29
theorem sc_ruled_by_dues : FnScope N_ruled_by_dues ["stations", "flow"] (defScope s_ruled_by_dues) := ⟨rfl, rfl, rfl, by decide +kernel, rfl, by decide +kernel, by decide +kernel⟩
theorem ax_ruled_by_dues {a : Addr} (F : ∃ fd, FunD K "ruled_by_dues" "ruled_by_dues" (defArgs s_ruled_by_dues) (defBody s_ruled_by_dues) (defScope s_ruled_by_dues) [] [] a fd) (hm : mg "ruled_by_dues" = some (.ref a)) (m_tuple : mg "tuple" = none) : Dk P w K mg base 1 "ruled_by_dues" ["stations", "flow"] f_ruled_by_dues := by
  exact dk_of (wv := w_ruled_by_dues) F hm sc_ruled_by_dues (fun _ _ _ _ _ _ us hl => match us, hl with | [_, _], _ => rfl) (fun cdv A outer s H E hr => (ass_cons (as_setLc (own := [("hop", 5)]) (js := [5]) (ai_seq (ae_ix (ae_var 1) ae_int)) sc_ruled_by_dues.nd (blkOk_by (N := N_ruled_by_dues) (sc := defScope s_ruled_by_dues) (by decide +kernel)) (fun _ _ _ _ _ => (ag_name 5 sc_ruled_by_dues.nd)) (fun _ _ _ _ _ => ats_nil) (fun _ _ _ _ _ => (ae_ix (ae_var 5) ae_int)) (i := 2))
    (ass_cons (as_set 3 sc_ruled_by_dues.nd (ae_lstH aa_nil))
    (ass_cons (as_for (ai_seq (ae_var 0)) (ag_name 4 sc_ruled_by_dues.nd) (ass_cons (as_if (aw_and (at_cmp co_in (ae_ix (ae_var 4) ae_int) (ae_var 2)) (aw_and1 (at_cmp co_nin (ae_ix (ae_ix (ae_var 4) ae_int) ae_int) (ae_tup (aa_cons ae_str (aa_cons ae_str aa_nil)))))).at (ass_one (as_set 4 sc_ruled_by_dues.nd (ae_tup (aa_cons (ae_ix (ae_var 4) ae_int) (aa_cons (ae_ix (ae_var 4) ae_int) (aa_cons (ae_ix (ae_var 4) ae_int) (aa_cons (ae_tup (aa_cons ae_str aa_nil)) aa_nil))))))) ass_nil)
    (ass_one (as_expr (ae_ml PySem.F.slot_list_append PySem.F.type_list_append mt_append sm_append (ae_var 3) (aa_cons (ae_var 4) aa_nil))))))
    (ass_one (as_ret (ae_ct br_tuple m_tuple (aa_cons (ae_varF 3) aa_nil)))))))) d_ruled_by_dues
abbrev s_with_flow : Stmt := top 30
theorem sc_with_flow : FnScope N_with_flow ["house", "flow"] (defScope s_with_flow) := ⟨rfl, rfl, rfl, by decide +kernel, rfl, by decide +kernel, by decide +kernel⟩
theorem ax_with_flow {a : Addr} (F : ∃ fd, FunD K "with_flow" "with_flow" (defArgs s_with_flow) (defBody s_with_flow) (defScope s_with_flow) [] [] a fd) (hm : mg "with_flow" = some (.ref a)) (h_ruled_by_dues : Dk P w K mg base 1 "ruled_by_dues" ["stations", "flow"] f_ruled_by_dues) : Dk P w K mg base 2 "with_flow" ["house", "flow"] f_with_flow := by
  exact dk_of (wv := w_with_flow) F hm sc_with_flow (fun _ _ _ _ _ _ us hl => match us, hl with | [_, _], _ => rfl) (fun cdv A outer s H E hr => (ass_one (as_ret (ae_tup (aa_cons (ae_call h_ruled_by_dues hr (aa_cons (ae_ix (ae_var 0) ae_int) (aa_cons (ae_var 1) aa_nil))) (aa_cons (ae_add (ae_ix (ae_var 0) ae_int) (ae_tup (aa_cons (ae_var 1) aa_nil))) aa_nil)))))) d_with_flow
abbrev s_without_flow : Stmt := top 31
theorem sc_without_flow : FnScope N_without_flow ["house", "name"] (defScope s_without_flow) := ⟨rfl, rfl, rfl, by decide +kernel, rfl, by decide +kernel, by decide +kernel⟩
theorem ax_without_flow {a : Addr} (F : ∃ fd, FunD K "without_flow" "without_flow" (defArgs s_without_flow) (defBody s_without_flow) (defScope s_without_flow) [] [] a fd) (hm : mg "without_flow" = some (.ref a)) (h_flow_number : Dk P w K mg base 2 "flow_number" ["house", "name"] f_flow_number) (h_ruled_by_dues : Dk P w K mg base 1 "ruled_by_dues" ["stations", "flow"] f_ruled_by_dues) : Dk P w K mg base 3 "without_flow" ["house", "name"] f_without_flow := by
  exact dk_of (wv := w_without_flow) F hm sc_without_flow (fun _ _ _ _ _ _ us hl => match us, hl with | [_, _], _ => rfl) (fun cdv A outer s H E hr => (ass_cons (as_set 2 sc_without_flow.nd (ae_call h_flow_number hr (aa_cons (ae_var 0) (aa_cons (ae_var 1) aa_nil))))
    (ass_cons (as_set 3 sc_without_flow.nd (ae_call h_ruled_by_dues hr (aa_cons (ae_ix (ae_var 0) ae_int) (aa_cons (ae_ix (ae_ix (ae_var 0) ae_int) (ae_var 2)) aa_nil))))
    (ass_one (as_ret (ae_tup (aa_cons (ae_var 3) (aa_cons (ae_add (ae_sl (ae_ix (ae_var 0) ae_int) ao_none (ao_some (ae_var 2))) (ae_sl (ae_ix (ae_var 0) ae_int) (ao_some (ae_add (ae_var 2) ae_int)) ao_none)) aa_nil)))))))) d_without_flow
abbrev s__law_begin : Stmt := top 33
theorem sc__law_begin : FnScope N__law_begin ["script"] (defScope s__law_begin) := ⟨rfl, rfl, rfl, by decide +kernel, rfl, by decide +kernel, by decide +kernel⟩
theorem ax__law_begin {a : Addr} (F : ∃ fd, FunD K "_law_begin" "_law_begin" (defArgs s__law_begin) (defBody s__law_begin) (defScope s__law_begin) [] [] a fd) (hm : mg "_law_begin" = some (.ref a)) (m_int : mg "int" = none) : Dk P w K mg base 1 "_law_begin" ["script"] f__law_begin := by
  exact dk_of (wv := w__law_begin) F hm sc__law_begin (fun _ _ _ _ _ _ us hl => match us, hl with | [_], _ => rfl) (fun cdv A outer s H E hr => (ass_one (as_ret (ae_lstH (aa_cons (ae_lc (own := [("cell", 1)]) (js := [1]) (ai_seq (ae_sl (ae_var 0) ao_none (ao_some ae_int))) sc__law_begin.nd (blkOk_by (N := N__law_begin) (sc := defScope s__law_begin) (by decide +kernel)) (fun _ _ _ _ _ => (ag_name 1 sc__law_begin.nd)) (fun _ _ _ _ _ => ats_nil) (fun _ _ _ _ _ => (ae_ct br_int m_int (aa_cons (ae_var 1) aa_nil)))) (aa_cons ae_int (aa_cons ae_int (aa_cons ae_int aa_nil)))))))) d__law_begin
abbrev s__law_draw : Stmt := top 34
theorem sc__law_draw : FnScope N__law_draw ["d", "many"] (defScope s__law_draw) := ⟨rfl, rfl, rfl, by decide +kernel, rfl, by decide +kernel, by decide +kernel⟩
theorem ax__law_draw {a : Addr} (F : ∃ fd, FunD K "_law_draw" "_law_draw" (defArgs s__law_draw) (defBody s__law_draw) (defScope s__law_draw) [] [] a fd) (hm : mg "_law_draw" = some (.ref a)) (m_len : mg "len" = none) (m_int : mg "int" = none) (m_abs : mg "abs" = none) : Dk P w K mg base 1 "_law_draw" ["d", "many"] f__law_draw := by
  exact dk_of (wv := w__law_draw) F hm sc__law_draw (fun _ _ _ _ _ _ us hl => match us, hl with | [_, _], _ => rfl) (fun cdv A outer s H E hr => (ass_cons (as_if (at_cmp co_gt (ae_ix (ae_var 0) ae_int) ae_int) (ass_cons (as_set 3 sc__law_draw.nd (ae_ix (ae_var 0) ae_int))
    (ass_cons (as_asg (ae_div (ae_var 3) (ae_var 1)) (ag_set (ae_var 0) ae_int))
    (ass_one (as_ret (ae_mod (ae_ct br_int m_int (aa_cons (ae_var 3) aa_nil)) (ae_var 1)))))) ass_nil)
    (ass_cons (as_set 2 sc__law_draw.nd ae_int)
    (ass_cons (as_if (at_cmp co_lt (ae_ix (ae_var 0) ae_int) (ae_cb br_len m_len (aa_cons (ae_ix (ae_var 0) ae_int) aa_nil))) (ass_cons (as_set 4 sc__law_draw.nd (ae_ix (ae_ix (ae_var 0) ae_int) (ae_ix (ae_var 0) ae_int)))
    (ass_one (as_set 2 sc__law_draw.nd (ae_add (ae_mul ae_int (ae_cb br_abs m_abs (aa_cons (ae_var 4) aa_nil))) (ae_ct br_int m_int (aa_cons (ae_cmp co_lt (ae_var 4) ae_int) aa_nil)))))) ass_nil)
    (ass_cons (as_augS io_add (ae_var 0) ae_int ae_int)
    (ass_cons (as_if (at_cmp co_ge (ae_var 2) (ae_mul ae_int (ae_pow ae_int ae_int))) (ass_cons (as_set 3 sc__law_draw.nd (ae_mod (ae_ct br_int m_int (aa_cons (ae_div (ae_var 2) ae_int) aa_nil)) (ae_shl ae_int ae_int)))
    (ass_cons (as_asg (ae_div (ae_var 3) (ae_var 1)) (ag_set (ae_var 0) ae_int))
    (ass_one (as_ret (ae_mod (ae_ct br_int m_int (aa_cons (ae_var 3) aa_nil)) (ae_var 1)))))) ass_nil)
    (ass_cons (as_asg (ae_mod (ae_ct br_int m_int (aa_cons (ae_add (ae_add (ae_add (ae_mul (ae_ix (ae_var 0) ae_int) ae_int) (ae_mul (ae_mod (ae_ct br_int m_int (aa_cons (ae_var 2) aa_nil)) ae_int) ae_int)) (ae_mul (ae_ix (ae_var 0) ae_int) ae_int)) ae_int) aa_nil)) ae_int) (ag_set (ae_var 0) ae_int))
    (ass_one (as_ret (ae_mod (ae_ct br_int m_int (aa_cons (ae_div (ae_ix (ae_var 0) ae_int) ae_int) aa_nil)) (ae_var 1))))))))))) d__law_draw
abbrev s__law_pick : Stmt := top 35
theorem sc__law_pick : FnScope N__law_pick ["d", "row"] (defScope s__law_pick) := ⟨rfl, rfl, rfl, by decide +kernel, rfl, by decide +kernel, by decide +kernel⟩
theorem ax__law_pick {a : Addr} (F : ∃ fd, FunD K "_law_pick" "_law_pick" (defArgs s__law_pick) (defBody s__law_pick) (defScope s__law_pick) [] [] a fd) (hm : mg "_law_pick" = some (.ref a)) (m_len : mg "len" = none) (h__law_draw : Dk P w K mg base 1 "_law_draw" ["d", "many"] f__law_draw) : Dk P w K mg base 2 "_law_pick" ["d", "row"] f__law_pick := by
  exact dk_of (wv := w__law_pick) F hm sc__law_pick (fun _ _ _ _ _ _ us hl => match us, hl with | [_, _], _ => rfl) (fun cdv A outer s H E hr => (ass_one (as_ret (ae_ix (ae_var 1) (ae_call h__law_draw hr (aa_cons (ae_var 0) (aa_cons (ae_cb br_len m_len (aa_cons (ae_var 1) aa_nil)) aa_nil))))))) d__law_pick
abbrev s__law_pop : Stmt := top 36
theorem sc__law_pop : FnScope N__law_pop ["d", "row"] (defScope s__law_pop) := ⟨rfl, rfl, rfl, by decide +kernel, rfl, by decide +kernel, by decide +kernel⟩
theorem ax__law_pop {a : Addr} (F : ∃ fd, FunD K "_law_pop" "_law_pop" (defArgs s__law_pop) (defBody s__law_pop) (defScope s__law_pop) [] [] a fd) (hm : mg "_law_pop" = some (.ref a)) (m_len : mg "len" = none) (h__law_draw : Dk P w K mg base 1 "_law_draw" ["d", "many"] f__law_draw) : Dk P w K mg base 2 "_law_pop" ["d", "row"] f__law_pop := by
  exact dk_of (wv := w__law_pop) F hm sc__law_pop (fun _ _ _ _ _ _ us hl => match us, hl with | [_, _], _ => rfl) (fun cdv A outer s H E hr => (ass_one (as_ret (ae_ml PySem.F.slot_list_pop PySem.F.type_list_pop mt_popAt sm_popAt (ae_var 1) (aa_cons (ae_call h__law_draw hr (aa_cons (ae_var 0) (aa_cons (ae_cb br_len m_len (aa_cons (ae_var 1) aa_nil)) aa_nil))) aa_nil))))) d__law_pop
abbrev s__law_rare : Stmt := top 37
theorem sc__law_rare : FnScope N__law_rare ["d", "many"] (defScope s__law_rare) := ⟨rfl, rfl, rfl, by decide +kernel, rfl, by decide +kernel, by decide +kernel⟩
theorem ax__law_rare {a : Addr} (F : ∃ fd, FunD K "_law_rare" "_law_rare" (defArgs s__law_rare) (defBody s__law_rare) (defScope s__law_rare) [] [] a fd) (hm : mg "_law_rare" = some (.ref a)) (h__law_draw : Dk P w K mg base 1 "_law_draw" ["d", "many"] f__law_draw) : Dk P w K mg base 2 "_law_rare" ["d", "many"] f__law_rare := by
  exact dk_of (wv := w__law_rare) F hm sc__law_rare (fun _ _ _ _ _ _ us hl => match us, hl with | [_, _], _ => rfl) (fun cdv A outer s H E hr => (ass_one (as_ret (ae_cmp (co_eq hr) (ae_call h__law_draw hr (aa_cons (ae_var 0) (aa_cons (ae_var 1) aa_nil))) (ae_div (ae_var 1) ae_int))))) d__law_rare
abbrev s__law_shuffled : Stmt := top 38
theorem sc__law_shuffled : FnScope N__law_shuffled ["d", "row"] (defScope s__law_shuffled) := ⟨rfl, rfl, rfl, by decide +kernel, rfl, by decide +kernel, by decide +kernel⟩
theorem ax__law_shuffled {a : Addr} (F : ∃ fd, FunD K "_law_shuffled" "_law_shuffled" (defArgs s__law_shuffled) (defBody s__law_shuffled) (defScope s__law_shuffled) [] [] a fd) (hm : mg "_law_shuffled" = some (.ref a)) (m_list : mg "list" = none) (m_range : mg "range" = none) (m_len : mg "len" = none) (h__law_draw : Dk P w K mg base 1 "_law_draw" ["d", "many"] f__law_draw) : Dk P w K mg base 2 "_law_shuffled" ["d", "row"] f__law_shuffled := by
  exact dk_of (wv := w__law_shuffled) F hm sc__law_shuffled (fun _ _ _ _ _ _ us hl => match us, hl with | [_, _], _ => rfl) (fun cdv A outer s H E hr => (ass_cons (as_set 2 sc__law_shuffled.nd (ae_ct br_listH m_list (aa_cons (ae_var 1) aa_nil)))
    (ass_cons (as_set 3 sc__law_shuffled.nd (ae_lstH aa_nil))
    (ass_cons (as_for (ai_r1 m_range (aa_cons (ae_cb br_len m_len (aa_cons (ae_var 2) aa_nil)) aa_nil)) (ag_name 4 sc__law_shuffled.nd) (ass_one (as_expr (ae_ml PySem.F.slot_list_append PySem.F.type_list_append mt_append sm_append (ae_var 3) (aa_cons (ae_ml PySem.F.slot_list_pop PySem.F.type_list_pop mt_popAt sm_popAt (ae_var 2) (aa_cons (ae_call h__law_draw hr (aa_cons (ae_var 0) (aa_cons (ae_cb br_len m_len (aa_cons (ae_var 2) aa_nil)) aa_nil))) aa_nil)) aa_nil)))))
    (ass_one (as_ret (ae_varF 3))))))) d__law_shuffled
abbrev s__law_names : Stmt := top 39
theorem sc__law_names : FnScope N__law_names ["d", "many"] (defScope s__law_names) := ⟨rfl, rfl, rfl, by decide +kernel, rfl, by decide +kernel, by decide +kernel⟩
theorem ax__law_names {a : Addr} (F : ∃ fd, FunD K "_law_names" "_law_names" (defArgs s__law_names) (defBody s__law_names) (defScope s__law_names) [] [] a fd) (hm : mg "_law_names" = some (.ref a)) (m_range : mg "range" = none) (m_max : mg "max" = none) (h__law_shuffled : Dk P w K mg base 2 "_law_shuffled" ["d", "row"] f__law_shuffled) (h__law_pick : Dk P w K mg base 2 "_law_pick" ["d", "row"] f__law_pick) (h__law_draw : Dk P w K mg base 1 "_law_draw" ["d", "many"] f__law_draw) : Dk P w K mg base 3 "_law_names" ["d", "many"] f__law_names := by
  exact dk_of (wv := w__law_names) F hm sc__law_names (fun _ _ _ _ _ _ us hl => match us, hl with | [_, _], _ => rfl) (fun cdv A outer s H E hr => (ass_cons (as_set 2 sc__law_names.nd ae_str)
    (ass_cons (as_set 3 sc__law_names.nd (ae_lst (aa_cons ae_str (aa_cons ae_str (aa_cons ae_str (aa_cons ae_str (aa_cons ae_str (aa_cons ae_str (aa_cons ae_str aa_nil)))))))))
    (ass_cons (as_set 4 sc__law_names.nd (ae_div ae_int (ae_cb br_max2 m_max (aa_cons ae_int (aa_cons (ae_var 1) aa_nil)))))
    (ass_cons (as_set 5 sc__law_names.nd (ae_lstH aa_nil))
    (ass_cons (as_for (ai_r1 m_range (aa_cons (ae_var 1) aa_nil)) (ag_name 6 sc__law_names.nd) (ass_one (as_expr (ae_ml PySem.F.slot_list_append PySem.F.type_list_append mt_append sm_append (ae_var 5) (aa_cons (ae_add (ae_ix (ae_var 2) (ae_add (ae_mul (ae_var 6) (ae_var 4)) (ae_call h__law_draw hr (aa_cons (ae_var 0) (aa_cons (ae_var 4) aa_nil))))) (ae_call h__law_pick hr (aa_cons (ae_var 0) (aa_cons (ae_var 3) aa_nil)))) aa_nil)))))
    (ass_one (as_ret (ae_call h__law_shuffled hr (aa_cons (ae_var 0) (aa_cons (ae_varF 5) aa_nil))))))))))) d__law_names
abbrev s__law_windows : Stmt := top 40
theorem sc__law_windows : FnScope N__law_windows ["d"] (defScope s__law_windows) := ⟨rfl, rfl, rfl, by decide +kernel, rfl, by decide +kernel, by decide +kernel⟩
theorem ax__law_windows {a : Addr} (F : ∃ fd, FunD K "_law_windows" "_law_windows" (defArgs s__law_windows) (defBody s__law_windows) (defScope s__law_windows) [] [] a fd) (hm : mg "_law_windows" = some (.ref a)) (m_range : mg "range" = none) (m_tuple : mg "tuple" = none) (h__law_pick : Dk P w K mg base 2 "_law_pick" ["d", "row"] f__law_pick) (h__law_rare : Dk P w K mg base 2 "_law_rare" ["d", "many"] f__law_rare) (h__law_draw : Dk P w K mg base 1 "_law_draw" ["d", "many"] f__law_draw) : Dk P w K mg base 3 "_law_windows" ["d"] f__law_windows := by
  exact dk_of (wv := w__law_windows) F hm sc__law_windows (fun _ _ _ _ _ _ us hl => match us, hl with | [_], _ => rfl) (fun cdv A outer s H E hr => (ass_cons (as_set 1 sc__law_windows.nd (ae_lstH aa_nil))
    (ass_cons (as_for (ai_r1 m_range (aa_cons (ae_call h__law_pick hr (aa_cons (ae_var 0) (aa_cons (ae_lst (aa_cons ae_int (aa_cons ae_int (aa_cons ae_int (aa_cons ae_int (aa_cons ae_int aa_nil)))))) aa_nil))) aa_nil)) (ag_name 2 sc__law_windows.nd) (ass_cons (as_set 3 sc__law_windows.nd (ae_if (at_val (ae_call h__law_rare hr (aa_cons (ae_var 0) (aa_cons ae_int aa_nil)))) ae_int (ae_add ae_int (ae_call h__law_draw hr (aa_cons (ae_var 0) (aa_cons ae_int aa_nil))))))
    (ass_cons (as_set 4 sc__law_windows.nd (ae_if (at_val (ae_call h__law_rare hr (aa_cons (ae_var 0) (aa_cons ae_int aa_nil)))) ae_int (ae_add ae_int (ae_call h__law_draw hr (aa_cons (ae_var 0) (aa_cons ae_int aa_nil))))))
    (ass_one (as_expr (ae_ml PySem.F.slot_list_append PySem.F.type_list_append mt_append sm_append (ae_var 1) (aa_cons (ae_tup (aa_cons (ae_var 3) (aa_cons (ae_var 4) aa_nil))) aa_nil)))))))
    (ass_one (as_ret (ae_ct br_tuple m_tuple (aa_cons (ae_varF 1) aa_nil))))))) d__law_windows
abbrev s__law_hours : Stmt := top 41
theorem sc__law_hours : FnScope N__law_hours ["d", "most"] (defScope s__law_hours) := ⟨rfl, rfl, rfl, by decide +kernel, rfl, by decide +kernel, by decide +kernel⟩
theorem ax__law_hours {a : Addr} (F : ∃ fd, FunD K "_law_hours" "_law_hours" (defArgs s__law_hours) (defBody s__law_hours) (defScope s__law_hours) [] [] a fd) (hm : mg "_law_hours" = some (.ref a)) (m_tuple : mg "tuple" = none) (m_sum : mg "sum" = none) (m_range : mg "range" = none) (h__law_rare : Dk P w K mg base 2 "_law_rare" ["d", "many"] f__law_rare) (h__law_draw : Dk P w K mg base 1 "_law_draw" ["d", "many"] f__law_draw) : Dk P w K mg base 3 "_law_hours" ["d", "most"] f__law_hours := by
  exact dk_of (wv := w__law_hours) F hm sc__law_hours (fun _ _ _ _ _ _ us hl => match us, hl with | [_, _], _ => rfl) (fun cdv A outer s H E hr => (ass_cons (as_set 2 sc__law_hours.nd (ae_if (at_val (ae_call h__law_rare hr (aa_cons (ae_var 0) (aa_cons ae_int aa_nil)))) ae_int (ae_add ae_int (ae_call h__law_draw hr (aa_cons (ae_var 0) (aa_cons ae_int aa_nil))))))
    (ass_cons (as_setLcH (own := [("k", 4)]) (js := [4]) (ai_r1 m_range (aa_cons (ae_var 2) aa_nil)) sc__law_hours.nd (blkOk_by (N := N__law_hours) (sc := defScope s__law_hours) (by decide +kernel)) (fun _ _ _ _ _ => (ag_name 4 sc__law_hours.nd)) (fun _ _ _ _ _ => ats_nil) (fun _ _ _ _ _ => (ae_call h__law_draw hr (aa_cons (ae_var 0) (aa_cons (ae_add (ae_var 1) ae_int) aa_nil)))) (i := 3))
    (ass_cons (as_if (at_cmp (co_eq hr) (ae_cb br_sumH m_sum (aa_cons (ae_var 3) aa_nil)) ae_int) (ass_one (as_asg ae_int (ag_set (ae_var 3) ae_int))) ass_nil)
    (ass_one (as_ret (ae_ct br_tuple m_tuple (aa_cons (ae_varF 3) aa_nil)))))))) d__law_hours
abbrev s__law_stop : Stmt := top 42
theorem sc__law_stop : FnScope N__law_stop ["d"] (defScope s__law_stop) := ⟨rfl, rfl, rfl, by decide +kernel, rfl, by decide +kernel, by decide +kernel⟩
theorem ax__law_stop {a : Addr} (F : ∃ fd, FunD K "_law_stop" "_law_stop" (defArgs s__law_stop) (defBody s__law_stop) (defScope s__law_stop) [] [] a fd) (hm : mg "_law_stop" = some (.ref a)) (h__law_rare : Dk P w K mg base 2 "_law_rare" ["d", "many"] f__law_rare) (h__law_draw : Dk P w K mg base 1 "_law_draw" ["d", "many"] f__law_draw) : Dk P w K mg base 3 "_law_stop" ["d"] f__law_stop := by
  exact dk_of (wv := w__law_stop) F hm sc__law_stop (fun _ _ _ _ _ _ us hl => match us, hl with | [_], _ => rfl) (fun cdv A outer s H E hr => (ass_cons (as_if (at_cmp co_gt (ae_call h__law_draw hr (aa_cons (ae_var 0) (aa_cons ae_int aa_nil))) ae_int) (ass_one (as_ret ae_non)) ass_nil)
    (ass_cons (as_if (at_val (ae_call h__law_rare hr (aa_cons (ae_var 0) (aa_cons ae_int aa_nil)))) (ass_one (as_ret (ae_tup (aa_cons ae_int (aa_cons ae_int aa_nil))))) ass_nil)
    (ass_one (as_ret (ae_tup (aa_cons (ae_add ae_int (ae_call h__law_draw hr (aa_cons (ae_var 0) (aa_cons ae_int aa_nil)))) (aa_cons (ae_add ae_int (ae_call h__law_draw hr (aa_cons (ae_var 0) (aa_cons ae_int aa_nil)))) aa_nil)))))))) d__law_stop
abbrev s__law_hop : Stmt := top 43
theorem sc__law_hop : FnScope N__law_hop ["d", "station", "behind"] (defScope s__law_hop) := ⟨rfl, rfl, rfl, by decide +kernel, rfl, by decide +kernel, by decide +kernel⟩
theorem ax__law_hop {a : Addr} (F : ∃ fd, FunD K "_law_hop" "_law_hop" (defArgs s__law_hop) (defBody s__law_hop) (defScope s__law_hop) [] [] a fd) (hm : mg "_law_hop" = some (.ref a)) (h__law_draw : Dk P w K mg base 1 "_law_draw" ["d", "many"] f__law_draw) (h__law_pick : Dk P w K mg base 2 "_law_pick" ["d", "row"] f__law_pick) (h__law_rare : Dk P w K mg base 2 "_law_rare" ["d", "many"] f__law_rare) : Dk P w K mg base 3 "_law_hop" ["d", "station", "behind"] f__law_hop := by
  exact dk_of (wv := w__law_hop) F hm sc__law_hop (fun _ _ _ _ _ _ us hl => match us, hl with | [_, _, _], _ => rfl) (fun cdv A outer s H E hr => (ass_cons (as_set 3 sc__law_hop.nd (ae_add ae_int (ae_call h__law_draw hr (aa_cons (ae_var 0) (aa_cons ae_int aa_nil)))))
    (ass_cons (as_set 4 sc__law_hop.nd (ae_add (ae_var 3) (ae_call h__law_pick hr (aa_cons (ae_var 0) (aa_cons (ae_lst (aa_cons ae_int (aa_cons ae_int (aa_cons ae_int (aa_cons ae_int aa_nil))))) aa_nil)))))
    (ass_cons (as_set 5 sc__law_hop.nd (ae_if (at_val (ae_call h__law_rare hr (aa_cons (ae_var 0) (aa_cons ae_int aa_nil)))) ae_int (ae_add ae_int (ae_call h__law_draw hr (aa_cons (ae_var 0) (aa_cons ae_int aa_nil))))))
    (ass_one (as_ret (ae_tup (aa_cons (ae_var 1) (aa_cons (ae_var 2) (aa_cons (ae_var 3) (aa_cons (ae_var 4) (aa_cons (ae_var 5) (aa_cons (ae_call h__law_pick hr (aa_cons (ae_var 0) (aa_cons (ae_lst (aa_cons ae_str (aa_cons ae_str (aa_cons ae_str (aa_cons ae_str aa_nil))))) aa_nil))) aa_nil))))))))))))) d__law_hop
abbrev s__law_flow : Stmt := top 44
theorem sc__law_flow : FnScope N__law_flow ["d", "name", "stations"] (defScope s__law_flow) := ⟨rfl, rfl, rfl, by decide +kernel, rfl, by decide +kernel, by decide +kernel⟩
theorem ax__law_flow {a : Addr} (F : ∃ fd, FunD K "_law_flow" "_law_flow" (defArgs s__law_flow) (defBody s__law_flow) (defScope s__law_flow) [] [] a fd) (hm : mg "_law_flow" = some (.ref a)) (m_range : mg "range" = none) (m_len : mg "len" = none) (m_tuple : mg "tuple" = none) (h__law_shuffled : Dk P w K mg base 2 "_law_shuffled" ["d", "row"] f__law_shuffled) (h__law_windows : Dk P w K mg base 3 "_law_windows" ["d"] f__law_windows) (h__law_rare : Dk P w K mg base 2 "_law_rare" ["d", "many"] f__law_rare) (h__law_hop : Dk P w K mg base 3 "_law_hop" ["d", "station", "behind"] f__law_hop) (h__law_draw : Dk P w K mg base 1 "_law_draw" ["d", "many"] f__law_draw) : Dk P w K mg base 4 "_law_flow" ["d", "name", "stations"] f__law_flow := by
  exact dk_of (wv := w__law_flow) F hm sc__law_flow (fun _ _ _ _ _ _ us hl => match us, hl with | [_, _, _], _ => rfl) (fun cdv A outer s H E hr => (ass_cons (as_set 3 sc__law_flow.nd (ae_call h__law_shuffled hr (aa_cons (ae_var 0) (aa_cons (ae_var 2) aa_nil))))
    (ass_cons (as_set 3 sc__law_flow.nd (ae_sl (ae_var 3) ao_none (ao_some (ae_add ae_int (ae_call h__law_draw hr (aa_cons (ae_var 0) (aa_cons (ae_cb br_len m_len (aa_cons (ae_var 3) aa_nil)) aa_nil)))))))
    (ass_cons (as_set 4 sc__law_flow.nd (ae_lstH aa_nil))
    (ass_cons (as_for (ai_r1 m_range (aa_cons (ae_cb br_len m_len (aa_cons (ae_var 3) aa_nil)) aa_nil)) (ag_name 5 sc__law_flow.nd) (ass_cons (as_set 6 sc__law_flow.nd (ae_sub (ae_var 5) ae_int))
    (ass_cons (as_if (aw_and (at_cmp co_gt (ae_var 5) ae_int) (aw_and1 (at_val (ae_call h__law_rare hr (aa_cons (ae_var 0) (aa_cons ae_int aa_nil)))))).at (ass_one (as_set 6 sc__law_flow.nd (ae_sub (ae_call h__law_draw hr (aa_cons (ae_var 0) (aa_cons (ae_add (ae_var 5) ae_int) aa_nil))) ae_int))) ass_nil)
    (ass_one (as_expr (ae_ml PySem.F.slot_list_append PySem.F.type_list_append mt_append sm_append (ae_var 4) (aa_cons (ae_call h__law_hop hr (aa_cons (ae_var 0) (aa_cons (ae_ix (ae_var 3) (ae_var 5)) (aa_cons (ae_var 6) aa_nil)))) aa_nil)))))))
    (ass_one (as_ret (ae_tup (aa_cons (ae_var 1) (aa_cons (ae_call h__law_windows hr (aa_cons (ae_var 0) aa_nil)) (aa_cons (ae_ct br_tuple m_tuple (aa_cons (ae_varF 4) aa_nil)) aa_nil))))))))))) d__law_flow
abbrev s__law_passers : Stmt := top 45
theorem sc__law_passers : FnScope N__law_passers ["house", "station"] (defScope s__law_passers) := ⟨rfl, rfl, rfl, by decide +kernel, rfl, by decide +kernel, by decide +kernel⟩
theorem ax__law_passers {a : Addr} (F : ∃ fd, FunD K "_law_passers" "_law_passers" (defArgs s__law_passers) (defBody s__law_passers) (defScope s__law_passers) [] [] a fd) (hm : mg "_law_passers" = some (.ref a)) (m_range : mg "range" = none) (m_len : mg "len" = none) : Dk P w K mg base 1 "_law_passers" ["house", "station"] f__law_passers := by
  exact dk_of (wv := w__law_passers) F hm sc__law_passers (fun _ _ _ _ _ _ us hl => match us, hl with | [_, _], _ => rfl) (fun cdv A outer s H E hr => (ass_cons (as_set 2 sc__law_passers.nd (ae_lstH aa_nil))
    (ass_cons (as_for (ai_r1 m_range (aa_cons (ae_cb br_len m_len (aa_cons (ae_ix (ae_var 0) ae_int) aa_nil)) aa_nil)) (ag_name 3 sc__law_passers.nd) (ass_one (as_for (ai_r1 m_range (aa_cons (ae_cb br_len m_len (aa_cons (ae_ix (ae_ix (ae_ix (ae_var 0) ae_int) (ae_var 3)) ae_int) aa_nil)) aa_nil)) (ag_name 4 sc__law_passers.nd) (ass_one (as_if (at_cmp (co_eq hr) (ae_ix (ae_ix (ae_ix (ae_ix (ae_ix (ae_var 0) ae_int) (ae_var 3)) ae_int) (ae_var 4)) ae_int) (ae_var 1)) (ass_one (as_expr (ae_ml PySem.F.slot_list_append PySem.F.type_list_append mt_append sm_append (ae_var 2) (aa_cons (ae_tup (aa_cons (ae_var 3) (aa_cons (ae_var 4) aa_nil))) aa_nil)))) ass_nil)))))
    (ass_one (as_ret (ae_varF 2)))))) d__law_passers
abbrev s__law_passer_names : Stmt := top 46
theorem sc__law_passer_names : FnScope N__law_passer_names ["house", "station"] (defScope s__law_passer_names) := ⟨rfl, rfl, rfl, by decide +kernel, rfl, by decide +kernel, by decide +kernel⟩
theorem ax__law_passer_names {a : Addr} (F : ∃ fd, FunD K "_law_passer_names" "_law_passer_names" (defArgs s__law_passer_names) (defBody s__law_passer_names) (defScope s__law_passer_names) [] [] a fd) (hm : mg "_law_passer_names" = some (.ref a)) (h__law_passers : Dk P w K mg base 1 "_law_passers" ["house", "station"] f__law_passers) : Dk P w K mg base 2 "_law_passer_names" ["house", "station"] f__law_passer_names := by
  exact dk_of (wv := w__law_passer_names) F hm sc__law_passer_names (fun _ _ _ _ _ _ us hl => match us, hl with | [_, _], _ => rfl) (fun cdv A outer s H E hr => (ass_one (as_ret (ae_lc (own := [("k", 2), ("h", 3)]) (js := [2, 3]) (ai_seq (ae_call h__law_passers hr (aa_cons (ae_var 0) (aa_cons (ae_var 1) aa_nil)))) sc__law_passer_names.nd (blkOk_by (N := N__law_passer_names) (sc := defScope s__law_passer_names) (by decide +kernel)) (fun _ _ _ _ _ => (ag_tup (n := 2) (ags_cons (ag_name 2 sc__law_passer_names.nd) (ags_cons (ag_name 3 sc__law_passer_names.nd) ags_nil)))) (fun _ _ _ _ _ => ats_nil) (fun _ _ _ _ _ => (ae_ix (ae_ix (ae_ix (ae_var 0) ae_int) (ae_var 2)) ae_int)))))) d__law_passer_names
abbrev s__law_rule : Stmt := top 47
theorem sc__law_rule : FnScope N__law_rule ["d", "names", "hours"] (defScope s__law_rule) := ⟨rfl, rfl, rfl, by decide +kernel, rfl, by decide +kernel, by decide +kernel⟩
theorem ax__law_rule {a : Addr} (F : ∃ fd, FunD K "_law_rule" "_law_rule" (defArgs s__law_rule) (defBody s__law_rule) (defScope s__law_rule) [] [] a fd) (hm : mg "_law_rule" = some (.ref a)) (m_tuple : mg "tuple" = none) (m_len : mg "len" = none) (m_sum : mg "sum" = none) (m_list : mg "list" = none) (m_range : mg "range" = none) (h__law_draw : Dk P w K mg base 1 "_law_draw" ["d", "many"] f__law_draw) (h__law_shuffled : Dk P w K mg base 2 "_law_shuffled" ["d", "row"] f__law_shuffled) (h__law_pick : Dk P w K mg base 2 "_law_pick" ["d", "row"] f__law_pick) : Dk P w K mg base 3 "_law_rule" ["d", "names", "hours"] f__law_rule := by
  exact dk_of (wv := w__law_rule) F hm sc__law_rule (fun _ _ _ _ _ _ us hl => match us, hl with | [_, _, _], _ => rfl) (fun cdv A outer s H E hr => (ass_cons (as_set 3 sc__law_rule.nd (ae_call h__law_draw hr (aa_cons (ae_var 0) (aa_cons ae_int aa_nil))))
    (ass_cons (as_if (at_cmp (co_eq hr) (ae_var 3) ae_int) (ass_one (as_ret (ae_tup (aa_cons ae_str aa_nil)))) ass_nil)
    (ass_cons (as_if (at_cmp (co_eq hr) (ae_var 3) ae_int) (ass_one (as_ret (ae_tup (aa_cons ae_str (aa_cons (ae_ct br_tuple m_tuple (aa_cons (ae_call h__law_shuffled hr (aa_cons (ae_var 0) (aa_cons (ae_var 1) aa_nil))) aa_nil)) aa_nil))))) ass_nil)
    (ass_cons (as_if (at_cmp (co_eq hr) (ae_var 3) ae_int) (ass_one (as_ret (ae_tup (aa_cons ae_str (aa_cons (ae_ct br_tuple m_tuple (aa_cons (ae_lc (own := [("name", 8)]) (js := [8]) (ai_seq (ae_call h__law_shuffled hr (aa_cons (ae_var 0) (aa_cons (ae_var 1) aa_nil)))) sc__law_rule.nd (blkOk_by (N := N__law_rule) (sc := defScope s__law_rule) (by decide +kernel)) (fun _ _ _ _ _ => (ag_name 8 sc__law_rule.nd)) (fun _ _ _ _ _ => ats_nil) (fun _ _ _ _ _ => (ae_tup (aa_cons (ae_var 8) (aa_cons (ae_add ae_int (ae_call h__law_draw hr (aa_cons (ae_var 0) (aa_cons ae_int aa_nil)))) aa_nil))))) aa_nil)) aa_nil))))) ass_nil)
    (ass_cons (as_if (aw_and (at_cmp (co_eq hr) (ae_var 3) ae_int) (aw_and (at_cmp co_gt (ae_cb br_len m_len (aa_cons (ae_var 1) aa_nil)) ae_int) (aw_and1 (at_cmp co_ge (ae_cb br_sum m_sum (aa_cons (ae_var 2) aa_nil)) (ae_cb br_len m_len (aa_cons (ae_var 1) aa_nil)))))).at (ass_cons (as_set 4 sc__law_rule.nd (ae_add (ae_ct br_list m_list (aa_cons (ae_var 1) aa_nil)) (ae_lc (own := [("k", 7)]) (js := [7]) (ai_r1 m_range (aa_cons (ae_sub (ae_cb br_sum m_sum (aa_cons (ae_var 2) aa_nil)) (ae_cb br_len m_len (aa_cons (ae_var 1) aa_nil))) aa_nil)) sc__law_rule.nd (blkOk_by (N := N__law_rule) (sc := defScope s__law_rule) (by decide +kernel)) (fun _ _ _ _ _ => (ag_name 7 sc__law_rule.nd)) (fun _ _ _ _ _ => ats_nil) (fun _ _ _ _ _ => (ae_call h__law_pick hr (aa_cons (ae_var 0) (aa_cons (ae_var 1) aa_nil)))))))
    (ass_cons (as_set 4 sc__law_rule.nd (ae_call h__law_shuffled hr (aa_cons (ae_var 0) (aa_cons (ae_var 4) aa_nil))))
    (ass_cons (as_set 5 sc__law_rule.nd (ae_lstH aa_nil))
    (ass_cons (as_for (ai_seq (ae_var 2)) (ag_name 6 sc__law_rule.nd) (ass_cons (as_expr (ae_ml PySem.F.slot_list_append PySem.F.type_list_append mt_append sm_append (ae_var 5) (aa_cons (ae_ct br_tuple m_tuple (aa_cons (ae_sl (ae_var 4) ao_none (ao_some (ae_var 6))) aa_nil)) aa_nil)))
    (ass_one (as_set 4 sc__law_rule.nd (ae_sl (ae_var 4) (ao_some (ae_var 6)) ao_none)))))
    (ass_one (as_ret (ae_tup (aa_cons ae_str (aa_cons (ae_ct br_tuple m_tuple (aa_cons (ae_varF 5) aa_nil)) aa_nil))))))))) ass_nil)
    (ass_one (as_ret (ae_tup (aa_cons ae_str aa_nil)))))))))) d__law_rule
abbrev s__law_house : Stmt := top 48
theorem sc__law_house : FnScope N__law_house ["d", "stations", "flows", "by_dues"] (defScope s__law_house) := ⟨rfl, rfl, rfl, by decide +kernel, rfl, by decide +kernel, by decide +kernel⟩
theorem ax__law_house {a : Addr} (F : ∃ fd, FunD K "_law_house" "_law_house" (defArgs s__law_house) (defBody s__law_house) (defScope s__law_house) [] [] a fd) (hm : mg "_law_house" = some (.ref a)) (m_tuple : mg "tuple" = none) (m_sum : mg "sum" = none) (m_min : mg "min" = none) (h__law_names : Dk P w K mg base 3 "_law_names" ["d", "many"] f__law_names) (h__law_hours : Dk P w K mg base 3 "_law_hours" ["d", "most"] f__law_hours) (h__law_flow : Dk P w K mg base 4 "_law_flow" ["d", "name", "stations"] f__law_flow) (h__law_stop : Dk P w K mg base 3 "_law_stop" ["d"] f__law_stop) (h__law_draw : Dk P w K mg base 1 "_law_draw" ["d", "many"] f__law_draw) (h__law_rule : Dk P w K mg base 3 "_law_rule" ["d", "names", "hours"] f__law_rule) (h__law_passer_names : Dk P w K mg base 2 "_law_passer_names" ["house", "station"] f__law_passer_names) : Dk P w K mg base 5 "_law_house" ["d", "stations", "flows", "by_dues"] f__law_house := by
  exact dk_of (wv := w__law_house) F hm sc__law_house (fun _ _ _ _ _ _ us hl => match us, hl with | [_, _, _, _], _ => rfl) (fun cdv A outer s H E hr => (ass_cons (as_set 4 sc__law_house.nd (ae_call h__law_names hr (aa_cons (ae_var 0) (aa_cons (ae_add (ae_var 1) (ae_var 2)) aa_nil))))
    (ass_cons (as_set 5 sc__law_house.nd (ae_sl (ae_var 4) ao_none (ao_some (ae_var 1))))
    (ass_cons (as_set 6 sc__law_house.nd (ae_ct br_tuple m_tuple (aa_cons (ae_lc (own := [("name", 13)]) (js := [13]) (ai_seq (ae_sl (ae_var 4) (ao_some (ae_var 1)) ao_none)) sc__law_house.nd (blkOk_by (N := N__law_house) (sc := defScope s__law_house) (by decide +kernel)) (fun _ _ _ _ _ => (ag_name 13 sc__law_house.nd)) (fun _ _ _ _ _ => ats_nil) (fun _ _ _ _ _ => (ae_call h__law_flow hr (aa_cons (ae_var 0) (aa_cons (ae_var 13) (aa_cons (ae_var 5) aa_nil)))))) aa_nil)))
    (ass_cons (as_set 7 sc__law_house.nd (ae_lstH aa_nil))
    (ass_cons (as_for (ai_seq (ae_var 5)) (ag_name 8 sc__law_house.nd) (ass_cons (as_set 11 sc__law_house.nd (ae_cb br_sum m_sum (aa_cons (ae_lc (own := [("flow", 15)]) (js := [15]) (ai_seq (ae_var 6)) sc__law_house.nd (blkOk_by (N := N__law_house) (sc := defScope s__law_house) (by decide +kernel)) (fun _ _ _ _ _ => (ag_name 15 sc__law_house.nd)) (fun _ _ _ _ _ => (ats_one (at_cmp co_in (ae_var 8) (ae_lc (own := [("hop", 16)]) (js := [16]) (ai_seq (ae_ix (ae_var 15) ae_int)) sc__law_house.nd (blkB (N := N__law_house) (blkOk_by (by decide +kernel))) (fun _ _ _ _ _ => (ag_name 16 sc__law_house.nd)) (fun _ _ _ _ _ => ats_nil) (fun _ _ _ _ _ => (ae_ix (ae_var 16) ae_int)))))) (fun _ _ _ _ _ => ae_int)) aa_nil)))
    (ass_cons (as_set 12 sc__law_house.nd (ae_call h__law_hours hr (aa_cons (ae_var 0) (aa_cons (ae_cb br_min2 m_min (aa_cons ae_int (aa_cons (ae_add (ae_add ae_int (ae_var 11)) (ae_call h__law_draw hr (aa_cons (ae_var 0) (aa_cons ae_int aa_nil)))) aa_nil))) aa_nil))))
    (ass_one (as_expr (ae_ml PySem.F.slot_list_append PySem.F.type_list_append mt_append sm_append (ae_var 7) (aa_cons (ae_tup (aa_cons (ae_var 8) (aa_cons (ae_var 12) (aa_cons (ae_call h__law_stop hr (aa_cons (ae_var 0) aa_nil)) (aa_cons (ae_tup (aa_cons ae_str aa_nil)) aa_nil))))) aa_nil)))))))
    (ass_cons (as_set 9 sc__law_house.nd (ae_tup (aa_cons (ae_ct br_tuple m_tuple (aa_cons (ae_varF 7) aa_nil)) (aa_cons (ae_var 6) aa_nil))))
    (ass_cons (as_if (at_val (ae_var 3)) (ass_one (as_ret (ae_var 9))) ass_nil)
    (ass_cons (as_set 10 sc__law_house.nd (ae_ct br_tuple m_tuple (aa_cons (ae_lc (own := [("item", 14)]) (js := [14]) (ai_seq (ae_ix (ae_var 9) ae_int)) sc__law_house.nd (blkOk_by (N := N__law_house) (sc := defScope s__law_house) (by decide +kernel)) (fun _ _ _ _ _ => (ag_name 14 sc__law_house.nd)) (fun _ _ _ _ _ => ats_nil) (fun _ _ _ _ _ => (ae_add (ae_sl (ae_var 14) ao_none (ao_some ae_int)) (ae_tup (aa_cons (ae_call h__law_rule hr (aa_cons (ae_var 0) (aa_cons (ae_call h__law_passer_names hr (aa_cons (ae_var 9) (aa_cons (ae_ix (ae_var 14) ae_int) aa_nil))) (aa_cons (ae_ix (ae_var 14) ae_int) aa_nil)))) aa_nil))))) aa_nil)))
    (ass_one (as_ret (ae_tup (aa_cons (ae_var 10) (aa_cons (ae_var 6) aa_nil)))))))))))))) d__law_house
abbrev s__law_is_int : Stmt := top 49
theorem sc__law_is_int : FnScope N__law_is_int ["thing"] (defScope s__law_is_int) := ⟨rfl, rfl, rfl, by decide +kernel, rfl, by decide +kernel, by decide +kernel⟩
theorem ax__law_is_int {a : Addr} (F : ∃ fd, FunD K "_law_is_int" "_law_is_int" (defArgs s__law_is_int) (defBody s__law_is_int) (defScope s__law_is_int) [] [] a fd) (hm : mg "_law_is_int" = some (.ref a)) (m_isinstance : mg "isinstance" = none) (m_int : mg "int" = none) (m_bool : mg "bool" = none) : Dk P w K mg base 1 "_law_is_int" ["thing"] f__law_is_int := by
  exact dk_of (wv := w__law_is_int) F hm sc__law_is_int (fun _ _ _ _ _ _ us hl => match us, hl with | [_], _ => rfl) (fun cdv A outer s H E hr => (ass_one (as_ret (ae_andV (ae_isi (T := "int") (ae_var 0) m_isinstance m_int) (ae_one (ae_notV (ae_isi (T := "bool") (ae_var 0) m_isinstance m_bool))))))) d__law_is_int
abbrev s__law_with : Stmt := top 50
theorem sc__law_with : FnScope N__law_with ["items", "number", "item"] (defScope s__law_with) := ⟨rfl, rfl, rfl, by decide +kernel, rfl, by decide +kernel, by decide +kernel⟩
theorem ax__law_with {a : Addr} (F : ∃ fd, FunD K "_law_with" "_law_with" (defArgs s__law_with) (defBody s__law_with) (defScope s__law_with) [] [] a fd) (hm : mg "_law_with" = some (.ref a)) (m_tuple : mg "tuple" = none) (m_list : mg "list" = none) : Dk P w K mg base 1 "_law_with" ["items", "number", "item"] f__law_with := by
  exact dk_of (wv := w__law_with) F hm sc__law_with (fun _ _ _ _ _ _ us hl => match us, hl with | [_, _, _], _ => rfl) (fun cdv A outer s H E hr => (ass_one (as_ret (ae_ct br_tuple m_tuple (aa_cons (ae_add (ae_add (ae_ct br_list m_list (aa_cons (ae_sl (ae_var 0) ao_none (ao_some (ae_var 1))) aa_nil)) (ae_lst (aa_cons (ae_var 2) aa_nil))) (ae_ct br_list m_list (aa_cons (ae_sl (ae_var 0) (ao_some (ae_add (ae_var 1) ae_int)) ao_none) aa_nil))) aa_nil))))) d__law_with
abbrev s__law_with_station : Stmt := top 51
theorem sc__law_with_station : FnScope N__law_with_station ["house", "s", "part", "value"] (defScope s__law_with_station) := ⟨rfl, rfl, rfl, by decide +kernel, rfl, by decide +kernel, by decide +kernel⟩
theorem ax__law_with_station {a : Addr} (F : ∃ fd, FunD K "_law_with_station" "_law_with_station" (defArgs s__law_with_station) (defBody s__law_with_station) (defScope s__law_with_station) [] [] a fd) (hm : mg "_law_with_station" = some (.ref a)) (h__law_with : Dk P w K mg base 1 "_law_with" ["items", "number", "item"] f__law_with) : Dk P w K mg base 2 "_law_with_station" ["house", "s", "part", "value"] f__law_with_station := by
  exact dk_of (wv := w__law_with_station) F hm sc__law_with_station (fun _ _ _ _ _ _ us hl => match us, hl with | [_, _, _, _], _ => rfl) (fun cdv A outer s H E hr => (ass_one (as_ret (ae_tup (aa_cons (ae_call h__law_with hr (aa_cons (ae_ix (ae_var 0) ae_int) (aa_cons (ae_var 1) (aa_cons (ae_call h__law_with hr (aa_cons (ae_ix (ae_ix (ae_var 0) ae_int) (ae_var 1)) (aa_cons (ae_var 2) (aa_cons (ae_var 3) aa_nil)))) aa_nil)))) (aa_cons (ae_ix (ae_var 0) ae_int) aa_nil)))))) d__law_with_station
abbrev s__law_other_names : Stmt := top 52
theorem sc__law_other_names : FnScope N__law_other_names ["d", "house", "names"] (defScope s__law_other_names) := ⟨rfl, rfl, rfl, by decide +kernel, rfl, by decide +kernel, by decide +kernel⟩
theorem ax__law_other_names {a : Addr} (F : ∃ fd, FunD K "_law_other_names" "_law_other_names" (defArgs s__law_other_names) (defBody s__law_other_names) (defScope s__law_other_names) [] [] a fd) (hm : mg "_law_other_names" = some (.ref a)) (m_list : mg "list" = none) (m_tuple : mg "tuple" = none) (m_len : mg "len" = none) (h__law_draw : Dk P w K mg base 1 "_law_draw" ["d", "many"] f__law_draw) (h__law_pop : Dk P w K mg base 2 "_law_pop" ["d", "row"] f__law_pop) (h__law_pick : Dk P w K mg base 2 "_law_pick" ["d", "row"] f__law_pick) (h__law_shuffled : Dk P w K mg base 2 "_law_shuffled" ["d", "row"] f__law_shuffled) : Dk P w K mg base 3 "_law_other_names" ["d", "house", "names"] f__law_other_names := by
  exact dk_of (wv := w__law_other_names) F hm sc__law_other_names (fun _ _ _ _ _ _ us hl => match us, hl with | [_, _, _], _ => rfl) (fun cdv A outer s H E hr => (ass_cons (as_set 3 sc__law_other_names.nd (ae_ct br_listH m_list (aa_cons (ae_var 2) aa_nil)))
    (ass_cons (as_set 4 sc__law_other_names.nd (ae_add (ae_add (ae_lc (own := [("flow", 7)]) (js := [7]) (ai_seq (ae_ix (ae_var 1) ae_int)) sc__law_other_names.nd (blkOk_by (N := N__law_other_names) (sc := defScope s__law_other_names) (by decide +kernel)) (fun _ _ _ _ _ => (ag_name 7 sc__law_other_names.nd)) (fun _ _ _ _ _ => ats_nil) (fun _ _ _ _ _ => (ae_ix (ae_var 7) ae_int))) (ae_lst (aa_cons ae_str (aa_cons (ae_ix (ae_ix (ae_ix (ae_var 1) ae_int) ae_int) ae_int) aa_nil)))) (ae_lc (own := [("name", 6)]) (js := [6]) (ai_seq (ae_var 2)) sc__law_other_names.nd (blkOk_by (N := N__law_other_names) (sc := defScope s__law_other_names) (by decide +kernel)) (fun _ _ _ _ _ => (ag_name 6 sc__law_other_names.nd)) (fun _ _ _ _ _ => ats_nil) (fun _ _ _ _ _ => (ae_add (ae_var 6) ae_str)))))
    (ass_cons (as_set 5 sc__law_other_names.nd (ae_call h__law_draw hr (aa_cons (ae_var 0) (aa_cons ae_int aa_nil))))
    (ass_cons (as_if (aw_and (at_cmp (co_eq hr) (ae_var 5) ae_int) (aw_and1 (at_cmp co_gt (ae_cb br_len m_len (aa_cons (ae_var 3) aa_nil)) ae_int))).at (ass_one (as_expr (ae_call h__law_pop hr (aa_cons (ae_var 0) (aa_cons (ae_var 3) aa_nil))))) (ass_one (as_if (aw_and (at_cmp (co_eq hr) (ae_var 5) ae_int) (aw_and1 (at_cmp co_gt (ae_cb br_len m_len (aa_cons (ae_var 3) aa_nil)) ae_int))).at (ass_one (as_asg (ae_call h__law_pick hr (aa_cons (ae_var 0) (aa_cons (ae_var 4) aa_nil))) (ag_set (ae_var 3) (ae_call h__law_draw hr (aa_cons (ae_var 0) (aa_cons (ae_cb br_len m_len (aa_cons (ae_var 3) aa_nil)) aa_nil)))))) (ass_one (as_if (at_cmp (co_eq hr) (ae_var 5) ae_int) (ass_one (as_expr (ae_ml PySem.F.slot_list_insert PySem.F.type_list_insert mt_insert sm_insert (ae_var 3) (aa_cons (ae_call h__law_draw hr (aa_cons (ae_var 0) (aa_cons (ae_add (ae_cb br_len m_len (aa_cons (ae_var 3) aa_nil)) ae_int) aa_nil))) (aa_cons (ae_call h__law_pick hr (aa_cons (ae_var 0) (aa_cons (ae_var 4) aa_nil))) aa_nil))))) (ass_one (as_set 3 sc__law_other_names.nd (ae_call h__law_shuffled hr (aa_cons (ae_var 0) (aa_cons (ae_varF 3) aa_nil))))))))))
    (ass_one (as_ret (ae_ct br_tuple m_tuple (aa_cons (ae_varF 3) aa_nil))))))))) d__law_other_names
abbrev s__law_right_rule : Stmt := top 53
theorem sc__law_right_rule : FnScope N__law_right_rule ["d", "house", "names", "hours"] (defScope s__law_right_rule) := ⟨rfl, rfl, rfl, by decide +kernel, rfl, by decide +kernel, by decide +kernel⟩
theorem ax__law_right_rule {a : Addr} (F : ∃ fd, FunD K "_law_right_rule" "_law_right_rule" (defArgs s__law_right_rule) (defBody s__law_right_rule) (defScope s__law_right_rule) [] [] a fd) (hm : mg "_law_right_rule" = some (.ref a)) (m_list : mg "list" = none) (m_tuple : mg "tuple" = none) (m_len : mg "len" = none) (m_range : mg "range" = none) (m_sum : mg "sum" = none) (h__law_draw : Dk P w K mg base 1 "_law_draw" ["d", "many"] f__law_draw) (h__law_shuffled : Dk P w K mg base 2 "_law_shuffled" ["d", "row"] f__law_shuffled) (h__law_pick : Dk P w K mg base 2 "_law_pick" ["d", "row"] f__law_pick) : Dk P w K mg base 3 "_law_right_rule" ["d", "house", "names", "hours"] f__law_right_rule := by
  exact dk_of (wv := w__law_right_rule) F hm sc__law_right_rule (fun _ _ _ _ _ _ us hl => match us, hl with | [_, _, _, _], _ => rfl) (fun cdv A outer s H E hr => (ass_cons (as_set 4 sc__law_right_rule.nd (ae_call h__law_draw hr (aa_cons (ae_var 0) (aa_cons ae_int aa_nil))))
    (ass_cons (as_if (at_cmp (co_eq hr) (ae_var 4) ae_int) (ass_one (as_ret (ae_call h__law_pick hr (aa_cons (ae_var 0) (aa_cons (ae_lst (aa_cons (ae_tup (aa_cons ae_str aa_nil)) (aa_cons (ae_tup (aa_cons ae_str aa_nil)) aa_nil))) aa_nil))))) ass_nil)
    (ass_cons (as_if (at_cmp co_le (ae_var 4) ae_int) (ass_one (as_ret (ae_tup (aa_cons ae_str (aa_cons (ae_ct br_tuple m_tuple (aa_cons (ae_call h__law_shuffled hr (aa_cons (ae_var 0) (aa_cons (ae_var 2) aa_nil))) aa_nil)) aa_nil))))) ass_nil)
    (ass_cons (as_if (at_cmp co_le (ae_var 4) ae_int) (ass_one (as_ret (ae_tup (aa_cons ae_str (aa_cons (ae_ct br_tuple m_tuple (aa_cons (ae_lc (own := [("name", 11)]) (js := [11]) (ai_seq (ae_call h__law_shuffled hr (aa_cons (ae_var 0) (aa_cons (ae_var 2) aa_nil)))) sc__law_right_rule.nd (blkOk_by (N := N__law_right_rule) (sc := defScope s__law_right_rule) (by decide +kernel)) (fun _ _ _ _ _ => (ag_name 11 sc__law_right_rule.nd)) (fun _ _ _ _ _ => ats_nil) (fun _ _ _ _ _ => (ae_tup (aa_cons (ae_var 11) (aa_cons (ae_add ae_int (ae_call h__law_draw hr (aa_cons (ae_var 0) (aa_cons ae_int aa_nil)))) aa_nil))))) aa_nil)) aa_nil))))) ass_nil)
    (ass_cons (as_set 5 sc__law_right_rule.nd (ae_if (at_cmp co_gt (ae_cb br_len m_len (aa_cons (ae_var 2) aa_nil)) ae_int) (ae_var 2) (ae_lc (own := [("flow", 9)]) (js := [9]) (ai_seq (ae_ix (ae_var 1) ae_int)) sc__law_right_rule.nd (blkOk_by (N := N__law_right_rule) (sc := defScope s__law_right_rule) (by decide +kernel)) (fun _ _ _ _ _ => (ag_name 9 sc__law_right_rule.nd)) (fun _ _ _ _ _ => ats_nil) (fun _ _ _ _ _ => (ae_ix (ae_var 9) ae_int)))))
    (ass_cons (as_set 6 sc__law_right_rule.nd (ae_add (ae_ct br_list m_list (aa_cons (ae_var 2) aa_nil)) (ae_lc (own := [("k", 10)]) (js := [10]) (ai_r1 m_range (aa_cons (ae_sub (ae_cb br_sum m_sum (aa_cons (ae_var 3) aa_nil)) (ae_cb br_len m_len (aa_cons (ae_var 2) aa_nil))) aa_nil)) sc__law_right_rule.nd (blkOk_by (N := N__law_right_rule) (sc := defScope s__law_right_rule) (by decide +kernel)) (fun _ _ _ _ _ => (ag_name 10 sc__law_right_rule.nd)) (fun _ _ _ _ _ => ats_nil) (fun _ _ _ _ _ => (ae_call h__law_pick hr (aa_cons (ae_var 0) (aa_cons (ae_var 5) aa_nil)))))))
    (ass_cons (as_set 6 sc__law_right_rule.nd (ae_call h__law_shuffled hr (aa_cons (ae_var 0) (aa_cons (ae_var 6) aa_nil))))
    (ass_cons (as_set 7 sc__law_right_rule.nd (ae_lstH aa_nil))
    (ass_cons (as_for (ai_seq (ae_var 3)) (ag_name 8 sc__law_right_rule.nd) (ass_cons (as_expr (ae_ml PySem.F.slot_list_append PySem.F.type_list_append mt_append sm_append (ae_var 7) (aa_cons (ae_ct br_tuple m_tuple (aa_cons (ae_sl (ae_var 6) ao_none (ao_some (ae_var 8))) aa_nil)) aa_nil)))
    (ass_one (as_set 6 sc__law_right_rule.nd (ae_sl (ae_var 6) (ao_some (ae_var 8)) ao_none)))))
    (ass_one (as_ret (ae_tup (aa_cons ae_str (aa_cons (ae_ct br_tuple m_tuple (aa_cons (ae_varF 7) aa_nil)) aa_nil))))))))))))))) d__law_right_rule
abbrev s__law_other_slots : Stmt := top 54
theorem sc__law_other_slots : FnScope N__law_other_slots ["d", "house", "told"] (defScope s__law_other_slots) := ⟨rfl, rfl, rfl, by decide +kernel, rfl, by decide +kernel, by decide +kernel⟩
theorem ax__law_other_slots {a : Addr} (F : ∃ fd, FunD K "_law_other_slots" "_law_other_slots" (defArgs s__law_other_slots) (defBody s__law_other_slots) (defScope s__law_other_slots) [] [] a fd) (hm : mg "_law_other_slots" = some (.ref a)) (m_list : mg "list" = none) (m_tuple : mg "tuple" = none) (m_len : mg "len" = none) (m_range : mg "range" = none) (h__law_draw : Dk P w K mg base 1 "_law_draw" ["d", "many"] f__law_draw) (h__law_other_names : Dk P w K mg base 3 "_law_other_names" ["d", "house", "names"] f__law_other_names) (h__law_pick : Dk P w K mg base 2 "_law_pick" ["d", "row"] f__law_pick) : Dk P w K mg base 4 "_law_other_slots" ["d", "house", "told"] f__law_other_slots := by
  exact dk_of (wv := w__law_other_slots) F hm sc__law_other_slots (fun _ _ _ _ _ _ us hl => match us, hl with | [_, _, _], _ => rfl) (fun cdv A outer s H E hr => (ass_cons (as_set 3 sc__law_other_slots.nd (ae_ct br_listH m_list (aa_cons (ae_var 2) aa_nil)))
    (ass_cons (as_set 4 sc__law_other_slots.nd (ae_call h__law_draw hr (aa_cons (ae_var 0) (aa_cons (ae_cb br_len m_len (aa_cons (ae_var 3) aa_nil)) aa_nil))))
    (ass_cons (as_set 5 sc__law_other_slots.nd (ae_call h__law_draw hr (aa_cons (ae_var 0) (aa_cons ae_int aa_nil))))
    (ass_cons (as_set 6 sc__law_other_slots.nd (ae_lst aa_nil))
    (ass_cons (as_forH (ae_var 3) (ag_name 7 sc__law_other_slots.nd) (ass_one (as_set 6 sc__law_other_slots.nd (ae_add (ae_var 6) (ae_ct br_list m_list (aa_cons (ae_var 7) aa_nil))))))
    (ass_cons (as_if (at_cmp (co_eq hr) (ae_var 5) ae_int) (ass_one (as_asg (ae_call h__law_other_names hr (aa_cons (ae_var 0) (aa_cons (ae_var 1) (aa_cons (ae_ix (ae_var 3) (ae_var 4)) aa_nil)))) (ag_set (ae_var 3) (ae_var 4)))) (ass_one (as_if (at_cmp (co_eq hr) (ae_var 5) ae_int) (ass_one (as_expr (ae_ml PySem.F.slot_list_pop PySem.F.type_list_pop mt_popAt sm_popAt (ae_var 3) (aa_cons (ae_var 4) aa_nil)))) (ass_one (as_if (at_cmp (co_eq hr) (ae_var 5) ae_int) (ass_one (as_expr (ae_ml PySem.F.slot_list_insert PySem.F.type_list_insert mt_insert sm_insert (ae_var 3) (aa_cons (ae_var 4) (aa_cons (ae_call h__law_pick hr (aa_cons (ae_var 0) (aa_cons (ae_lst (aa_cons (ae_tup aa_nil) (aa_cons (ae_ix (ae_var 3) (ae_var 4)) aa_nil))) aa_nil))) aa_nil))))) (ass_one (as_if (at_cmp (co_eq hr) (ae_var 5) ae_int) (ass_one (as_set 3 sc__law_other_slots.nd (ae_add (ae_sl (ae_var 3) (ao_some ae_int) ao_none) (ae_sl (ae_var 3) ao_none (ao_some ae_int))))) (ass_one (as_if (at_cmp co_gt (ae_cb br_len m_len (aa_cons (ae_var 6) aa_nil)) ae_int) (ass_cons (as_set 8 sc__law_other_slots.nd (ae_call h__law_pick hr (aa_cons (ae_var 0) (aa_cons (ae_var 6) aa_nil))))
    (ass_cons (as_set 9 sc__law_other_slots.nd (ae_call h__law_pick hr (aa_cons (ae_var 0) (aa_cons (ae_add (ae_add (ae_add (ae_var 6) (ae_var 6)) (ae_lst (aa_cons ae_str aa_nil))) (ae_lc (own := [("flow", 11)]) (js := [11]) (ai_seq (ae_ix (ae_var 1) ae_int)) sc__law_other_slots.nd (blkOk_by (N := N__law_other_slots) (sc := defScope s__law_other_slots) (by decide +kernel)) (fun _ _ _ _ _ => (ag_name 11 sc__law_other_slots.nd)) (fun _ _ _ _ _ => ats_nil) (fun _ _ _ _ _ => (ae_ix (ae_var 11) ae_int)))) aa_nil))))
    (ass_one (as_for (ai_r1 m_range (aa_cons (ae_cb br_len m_len (aa_cons (ae_var 3) aa_nil)) aa_nil)) (ag_name 10 sc__law_other_slots.nd) (ass_one (as_asg (ae_ct br_tuple m_tuple (aa_cons (ae_lc (own := [("name", 12)]) (js := [12]) (ai_seq (ae_ix (ae_var 3) (ae_var 10))) sc__law_other_slots.nd (blkOk_by (N := N__law_other_slots) (sc := defScope s__law_other_slots) (by decide +kernel)) (fun _ _ _ _ _ => (ag_name 12 sc__law_other_slots.nd)) (fun _ _ _ _ _ => ats_nil) (fun _ _ _ _ _ => (ae_if (at_cmp (co_eq hr) (ae_var 12) (ae_var 8)) (ae_var 9) (ae_var 12)))) aa_nil)) (ag_set (ae_var 3) (ae_var 10)))))))) ass_nil)))))))))
    (ass_one (as_ret (ae_ct br_tuple m_tuple (aa_cons (ae_varF 3) aa_nil))))))))))) d__law_other_slots
abbrev s__law_other_rule : Stmt := top 55
theorem sc__law_other_rule : FnScope N__law_other_rule ["d", "house", "rule"] (defScope s__law_other_rule) := ⟨rfl, rfl, rfl, by decide +kernel, rfl, by decide +kernel, by decide +kernel⟩
theorem ax__law_other_rule {a : Addr} (F : ∃ fd, FunD K "_law_other_rule" "_law_other_rule" (defArgs s__law_other_rule) (defBody s__law_other_rule) (defScope s__law_other_rule) [] [] a fd) (hm : mg "_law_other_rule" = some (.ref a)) (m_list : mg "list" = none) (m_tuple : mg "tuple" = none) (m_len : mg "len" = none) (h__law_pick : Dk P w K mg base 2 "_law_pick" ["d", "row"] f__law_pick) (h__law_other_names : Dk P w K mg base 3 "_law_other_names" ["d", "house", "names"] f__law_other_names) (h__law_draw : Dk P w K mg base 1 "_law_draw" ["d", "many"] f__law_draw) (h__law_other_slots : Dk P w K mg base 4 "_law_other_slots" ["d", "house", "told"] f__law_other_slots) : Dk P w K mg base 5 "_law_other_rule" ["d", "house", "rule"] f__law_other_rule := by
  exact dk_of (wv := w__law_other_rule) F hm sc__law_other_rule (fun _ _ _ _ _ _ us hl => match us, hl with | [_, _, _], _ => rfl) (fun cdv A outer s H E hr => (ass_cons (as_if (at_cmp (co_eq hr) (ae_ix (ae_var 2) ae_int) ae_str) (ass_one (as_ret (ae_tup (aa_cons ae_str (aa_cons (ae_call h__law_other_names hr (aa_cons (ae_var 0) (aa_cons (ae_var 1) (aa_cons (ae_ix (ae_var 2) ae_int) aa_nil)))) aa_nil))))) ass_nil)
    (ass_cons (as_if (at_cmp (co_eq hr) (ae_ix (ae_var 2) ae_int) ae_str) (ass_cons (as_set 5 sc__law_other_rule.nd (ae_ct br_listH m_list (aa_cons (ae_ix (ae_var 2) ae_int) aa_nil)))
    (ass_cons (as_if (aw_and (at_cmp co_gt (ae_cb br_len m_len (aa_cons (ae_var 5) aa_nil)) ae_int) (aw_and1 (at_cmp (co_eq hr) (ae_call h__law_draw hr (aa_cons (ae_var 0) (aa_cons ae_int aa_nil))) ae_int))).at (ass_cons (as_set 7 sc__law_other_rule.nd (ae_call h__law_draw hr (aa_cons (ae_var 0) (aa_cons (ae_cb br_len m_len (aa_cons (ae_var 5) aa_nil)) aa_nil))))
    (ass_cons (as_asg (ae_tup (aa_cons (ae_ix (ae_ix (ae_var 5) (ae_var 7)) ae_int) (aa_cons (ae_call h__law_pick hr (aa_cons (ae_var 0) (aa_cons (ae_lst (aa_cons (ae_neg ae_int) (aa_cons (ae_neg ae_int) (aa_cons ae_int (aa_cons ae_int (aa_cons ae_int (aa_cons ae_int (aa_cons ae_int (aa_cons ae_int (aa_cons ae_int aa_nil)))))))))) aa_nil))) aa_nil))) (ag_set (ae_var 5) (ae_var 7)))
    (ass_one (as_ret (ae_tup (aa_cons ae_str (aa_cons (ae_ct br_tuple m_tuple (aa_cons (ae_varF 5) aa_nil)) aa_nil))))))) ass_nil)
    (ass_cons (as_set 6 sc__law_other_rule.nd (ae_call h__law_other_names hr (aa_cons (ae_var 0) (aa_cons (ae_var 1) (aa_cons (ae_lc (own := [("name", 9), ("credit", 10)]) (js := [9, 10]) (ai_seq (ae_varF 5)) sc__law_other_rule.nd (blkOk_by (N := N__law_other_rule) (sc := defScope s__law_other_rule) (by decide +kernel)) (fun _ _ _ _ _ => (ag_tup (n := 2) (ags_cons (ag_name 9 sc__law_other_rule.nd) (ags_cons (ag_name 10 sc__law_other_rule.nd) ags_nil)))) (fun _ _ _ _ _ => ats_nil) (fun _ _ _ _ _ => (ae_var 9))) aa_nil)))))
    (ass_one (as_ret (ae_tup (aa_cons ae_str (aa_cons (ae_ct br_tuple m_tuple (aa_cons (ae_lc (own := [("name", 9)]) (js := [9]) (ai_seq (ae_var 6)) sc__law_other_rule.nd (blkOk_by (N := N__law_other_rule) (sc := defScope s__law_other_rule) (by decide +kernel)) (fun _ _ _ _ _ => (ag_name 9 sc__law_other_rule.nd)) (fun _ _ _ _ _ => ats_nil) (fun _ _ _ _ _ => (ae_tup (aa_cons (ae_var 9) (aa_cons (ae_add ae_int (ae_call h__law_draw hr (aa_cons (ae_var 0) (aa_cons ae_int aa_nil)))) aa_nil))))) aa_nil)) aa_nil)))))))) ass_nil)
    (ass_cons (as_if (aw_and (at_cmp (co_eq hr) (ae_ix (ae_var 2) ae_int) ae_str) (aw_and1 (at_cmp co_gt (ae_cb br_len m_len (aa_cons (ae_ix (ae_var 2) ae_int) aa_nil)) ae_int))).at (ass_one (as_ret (ae_tup (aa_cons ae_str (aa_cons (ae_call h__law_other_slots hr (aa_cons (ae_var 0) (aa_cons (ae_var 1) (aa_cons (ae_ix (ae_var 2) ae_int) aa_nil)))) aa_nil))))) ass_nil)
    (ass_cons (as_set 3 sc__law_other_rule.nd (ae_lst (aa_cons ae_str (aa_cons ae_str (aa_cons ae_str (aa_cons ae_str (aa_cons ae_str (aa_cons ae_str (aa_cons ae_str (aa_cons ae_str (aa_cons ae_str (aa_cons ae_str (aa_cons ae_str aa_nil)))))))))))))
    (ass_cons (as_set 4 sc__law_other_rule.nd (ae_lst (aa_cons (ae_tup (aa_cons ae_str (aa_cons (ae_tup aa_nil) aa_nil))) (aa_cons (ae_tup (aa_cons ae_str (aa_cons (ae_tup aa_nil) aa_nil))) (aa_cons (ae_tup (aa_cons ae_str (aa_cons (ae_tup aa_nil) aa_nil))) (aa_cons (ae_tup (aa_cons ae_str (aa_cons (ae_tup (aa_cons (ae_tup aa_nil) aa_nil)) aa_nil))) aa_nil))))))
    (ass_one (as_ret (ae_call h__law_pick hr (aa_cons (ae_var 0) (aa_cons (ae_add (ae_lc (own := [("word", 8)]) (js := [8]) (ai_seq (ae_var 3)) sc__law_other_rule.nd (blkOk_by (N := N__law_other_rule) (sc := defScope s__law_other_rule) (by decide +kernel)) (fun _ _ _ _ _ => (ag_name 8 sc__law_other_rule.nd)) (fun _ _ _ _ _ => ats_nil) (fun _ _ _ _ _ => (ae_tup (aa_cons (ae_var 8) aa_nil)))) (ae_var 4)) aa_nil))))))))))) d__law_other_rule
abbrev s__law_is_right_rule : Stmt := top 56
theorem sc__law_is_right_rule : FnScope N__law_is_right_rule ["names", "hours", "rule"] (defScope s__law_is_right_rule) := ⟨rfl, rfl, rfl, by decide +kernel, rfl, by decide +kernel, by decide +kernel⟩
theorem ax__law_is_right_rule {a : Addr} (F : ∃ fd, FunD K "_law_is_right_rule" "_law_is_right_rule" (defArgs s__law_is_right_rule) (defBody s__law_is_right_rule) (defScope s__law_is_right_rule) [] [] a fd) (hm : mg "_law_is_right_rule" = some (.ref a)) (m_range : mg "range" = none) (m_len : mg "len" = none) (m_all : mg "all" = none) (m_sorted : mg "sorted" = none) (m_list : mg "list" = none) : Dk P w K mg base 1 "_law_is_right_rule" ["names", "hours", "rule"] f__law_is_right_rule := by
  exact dk_of (wv := w__law_is_right_rule) F hm sc__law_is_right_rule (fun _ _ _ _ _ _ us hl => match us, hl with | [_, _, _], _ => rfl) (fun cdv A outer s H E hr => (ass_cons (as_if (at_cmp co_in (ae_ix (ae_var 2) ae_int) (ae_tup (aa_cons ae_str (aa_cons ae_str aa_nil)))) (ass_one (as_ret ae_bl)) ass_nil)
    (ass_cons (as_if (at_cmp (co_eq hr) (ae_ix (ae_var 2) ae_int) ae_str) (ass_one (as_ret (ae_cmp (co_eq hr) (ae_cb br_sortedS m_sorted (aa_cons (ae_ix (ae_var 2) ae_int) aa_nil)) (ae_cb br_sortedS m_sorted (aa_cons (ae_var 0) aa_nil))))) ass_nil)
    (ass_cons (as_if (at_cmp (co_eq hr) (ae_ix (ae_var 2) ae_int) ae_str) (ass_cons (as_if (at_not (at_val (ae_cb br_all m_all (aa_cons (ae_lc (own := [("name", 5), ("credit", 6)]) (js := [5, 6]) (ai_seq (ae_ix (ae_var 2) ae_int)) sc__law_is_right_rule.nd (blkOk_by (N := N__law_is_right_rule) (sc := defScope s__law_is_right_rule) (by decide +kernel)) (fun _ _ _ _ _ => (ag_tup (n := 2) (ags_cons (ag_name 5 sc__law_is_right_rule.nd) (ags_cons (ag_name 6 sc__law_is_right_rule.nd) ags_nil)))) (fun _ _ _ _ _ => ats_nil) (fun _ _ _ _ _ => (ae_chain co_le co_le ae_int (ae_var 6) ae_int))) aa_nil)))) (ass_one (as_ret ae_bl)) ass_nil)
    (ass_one (as_ret (ae_cmp (co_eq hr) (ae_cb br_sortedS m_sorted (aa_cons (ae_lc (own := [("name", 5), ("credit", 6)]) (js := [5, 6]) (ai_seq (ae_ix (ae_var 2) ae_int)) sc__law_is_right_rule.nd (blkOk_by (N := N__law_is_right_rule) (sc := defScope s__law_is_right_rule) (by decide +kernel)) (fun _ _ _ _ _ => (ag_tup (n := 2) (ags_cons (ag_name 5 sc__law_is_right_rule.nd) (ags_cons (ag_name 6 sc__law_is_right_rule.nd) ags_nil)))) (fun _ _ _ _ _ => ats_nil) (fun _ _ _ _ _ => (ae_var 5))) aa_nil)) (ae_cb br_sortedS m_sorted (aa_cons (ae_var 0) aa_nil)))))) ass_nil)
    (ass_cons (as_if (aw_or (at_cmp (co_ne hr) (ae_ix (ae_var 2) ae_int) ae_str) (aw_or1 (at_cmp (co_ne hr) (ae_cb br_len m_len (aa_cons (ae_ix (ae_var 2) ae_int) aa_nil)) (ae_cb br_len m_len (aa_cons (ae_var 1) aa_nil))))).at (ass_one (as_ret ae_bl)) ass_nil)
    (ass_cons (as_set 3 sc__law_is_right_rule.nd (ae_lst aa_nil))
    (ass_cons (as_for (ai_r1 m_range (aa_cons (ae_cb br_len m_len (aa_cons (ae_var 1) aa_nil)) aa_nil)) (ag_name 4 sc__law_is_right_rule.nd) (ass_cons (as_if (at_cmp (co_ne hr) (ae_cb br_len m_len (aa_cons (ae_ix (ae_ix (ae_var 2) ae_int) (ae_var 4)) aa_nil)) (ae_ix (ae_var 1) (ae_var 4))) (ass_one (as_ret ae_bl)) ass_nil)
    (ass_one (as_set 3 sc__law_is_right_rule.nd (ae_add (ae_var 3) (ae_ct br_list m_list (aa_cons (ae_ix (ae_ix (ae_var 2) ae_int) (ae_var 4)) aa_nil)))))))
    (ass_one (as_ret (ae_andV (ae_cb br_all m_all (aa_cons (ae_lc (own := [("name", 5)]) (js := [5]) (ai_seq (ae_var 3)) sc__law_is_right_rule.nd (blkOk_by (N := N__law_is_right_rule) (sc := defScope s__law_is_right_rule) (by decide +kernel)) (fun _ _ _ _ _ => (ag_name 5 sc__law_is_right_rule.nd)) (fun _ _ _ _ _ => ats_nil) (fun _ _ _ _ _ => (ae_cmp co_in (ae_var 5) (ae_var 0)))) aa_nil)) (ae_one (ae_cb br_all m_all (aa_cons (ae_lc (own := [("name", 5)]) (js := [5]) (ai_seq (ae_var 0)) sc__law_is_right_rule.nd (blkOk_by (N := N__law_is_right_rule) (sc := defScope s__law_is_right_rule) (by decide +kernel)) (fun _ _ _ _ _ => (ag_name 5 sc__law_is_right_rule.nd)) (fun _ _ _ _ _ => ats_nil) (fun _ _ _ _ _ => (ae_cmp co_in (ae_var 5) (ae_var 3)))) aa_nil))))))))))))) d__law_is_right_rule
abbrev s__law_first : Stmt := top 57
theorem sc__law_first : FnScope N__law_first ["house"] (defScope s__law_first) := ⟨rfl, rfl, rfl, by decide +kernel, rfl, by decide +kernel, by decide +kernel⟩
theorem ax__law_first {a : Addr} (F : ∃ fd, FunD K "_law_first" "_law_first" (defArgs s__law_first) (defBody s__law_first) (defScope s__law_first) [] [] a fd) (hm : mg "_law_first" = some (.ref a)) (m_range : mg "range" = none) (m_len : mg "len" = none) (h__law_is_right_rule : Dk P w K mg base 1 "_law_is_right_rule" ["names", "hours", "rule"] f__law_is_right_rule) (h__law_passer_names : Dk P w K mg base 2 "_law_passer_names" ["house", "station"] f__law_passer_names) : Dk P w K mg base 3 "_law_first" ["house"] f__law_first := by
  exact dk_of (wv := w__law_first) F hm sc__law_first (fun _ _ _ _ _ _ us hl => match us, hl with | [_], _ => rfl) (fun cdv A outer s H E hr => (ass_cons (as_if (at_not (at_chain co_le co_le ae_int (ae_cb br_len m_len (aa_cons (ae_ix (ae_var 0) ae_int) aa_nil)) ae_int)) (ass_one (as_ret (ae_tup (aa_cons ae_str (aa_cons (ae_tup aa_nil) aa_nil))))) ass_nil)
    (ass_cons (as_for (ai_r1 m_range (aa_cons (ae_cb br_len m_len (aa_cons (ae_ix (ae_var 0) ae_int) aa_nil)) aa_nil)) (ag_name 1 sc__law_first.nd) (ass_cons (as_asg (ae_ix (ae_ix (ae_var 0) ae_int) (ae_var 1)) (ag_tup (n := 4) (ags_cons (ag_name 2 sc__law_first.nd) (ags_cons (ag_name 3 sc__law_first.nd) (ags_cons (ag_name 4 sc__law_first.nd) (ags_cons (ag_name 5 sc__law_first.nd) ags_nil))))))
    (ass_one (as_if (at_not (at_val (ae_call h__law_is_right_rule hr (aa_cons (ae_call h__law_passer_names hr (aa_cons (ae_var 0) (aa_cons (ae_var 2) aa_nil))) (aa_cons (ae_var 3) (aa_cons (ae_var 5) aa_nil)))))) (ass_one (as_ret (ae_tup (aa_cons ae_str (aa_cons (ae_tup (aa_cons (ae_var 1) aa_nil)) aa_nil))))) ass_nil))))
    (ass_one (as_ret ae_non))))) d__law_first
abbrev s__law_is_told : Stmt := top 58
theorem sc__law_is_told : FnScope N__law_is_told ["told", "due"] (defScope s__law_is_told) := ⟨rfl, rfl, rfl, by decide +kernel, rfl, by decide +kernel, by decide +kernel⟩
theorem ax__law_is_told {a : Addr} (F : ∃ fd, FunD K "_law_is_told" "_law_is_told" (defArgs s__law_is_told) (defBody s__law_is_told) (defScope s__law_is_told) [] [] a fd) (hm : mg "_law_is_told" = some (.ref a)) (m_all : mg "all" = none) (m_isinstance : mg "isinstance" = none) (m_tuple : mg "tuple" = none) (m_len : mg "len" = none) (h__law_is_int : Dk P w K mg base 1 "_law_is_int" ["thing"] f__law_is_int) : Dk P w K mg base 2 "_law_is_told" ["told", "due"] f__law_is_told := by
  exact dk_of (wv := w__law_is_told) F hm sc__law_is_told (fun _ _ _ _ _ _ us hl => match us, hl with | [_, _], _ => rfl) (fun cdv A outer s H E hr => (ass_cons (as_if (at_isN (ae_var 1)) (ass_one (as_ret (ae_isN (ae_var 0)))) ass_nil)
    (ass_cons (as_if (aw_or (at_not (at_val (ae_isi (T := "tuple") (ae_var 0) m_isinstance m_tuple))) (aw_or (at_cmp (co_ne hr) (ae_cb br_len m_len (aa_cons (ae_var 0) aa_nil)) ae_int) (aw_or1 (at_not (at_val (ae_isi (T := "tuple") (ae_ix (ae_var 0) ae_int) m_isinstance m_tuple)))))).at (ass_one (as_ret ae_bl)) ass_nil)
    (ass_one (as_ret (ae_andV (ae_cmp (co_eq hr) (ae_var 0) (ae_var 1)) (ae_one (ae_cb br_all m_all (aa_cons (ae_lc (own := [("number", 2)]) (js := [2]) (ai_seq (ae_ix (ae_var 0) ae_int)) sc__law_is_told.nd (blkOk_by (N := N__law_is_told) (sc := defScope s__law_is_told) (by decide +kernel)) (fun _ _ _ _ _ => (ag_name 2 sc__law_is_told.nd)) (fun _ _ _ _ _ => ats_nil) (fun _ _ _ _ _ => (ae_call h__law_is_int hr (aa_cons (ae_var 2) aa_nil)))) aa_nil))))))))) d__law_is_told
abbrev s__law_freed : Stmt := top 59
theorem sc__law_freed : FnScope N__law_freed ["house", "flow", "flows"] (defScope s__law_freed) := ⟨rfl, rfl, rfl, by decide +kernel, rfl, by decide +kernel, by decide +kernel⟩
theorem ax__law_freed {a : Addr} (F : ∃ fd, FunD K "_law_freed" "_law_freed" (defArgs s__law_freed) (defBody s__law_freed) (defScope s__law_freed) [] [] a fd) (hm : mg "_law_freed" = some (.ref a)) (m_tuple : mg "tuple" = none) : Dk P w K mg base 1 "_law_freed" ["house", "flow", "flows"] f__law_freed := by
  exact dk_of (wv := w__law_freed) F hm sc__law_freed (fun _ _ _ _ _ _ us hl => match us, hl with | [_, _, _], _ => rfl) (fun cdv A outer s H E hr => (ass_cons (as_setLc (own := [("hop", 7)]) (js := [7]) (ai_seq (ae_ix (ae_var 1) ae_int)) sc__law_freed.nd (blkOk_by (N := N__law_freed) (sc := defScope s__law_freed) (by decide +kernel)) (fun _ _ _ _ _ => (ag_name 7 sc__law_freed.nd)) (fun _ _ _ _ _ => ats_nil) (fun _ _ _ _ _ => (ae_ix (ae_var 7) ae_int)) (i := 3))
    (ass_cons (as_set 4 sc__law_freed.nd (ae_lstH aa_nil))
    (ass_cons (as_for (ai_seq (ae_ix (ae_var 0) ae_int)) (ag_name 5 sc__law_freed.nd) (ass_cons (as_set 6 sc__law_freed.nd (ae_andV (ae_cmp co_in (ae_ix (ae_var 5) ae_int) (ae_var 3)) (ae_one (ae_cmp co_nin (ae_ix (ae_ix (ae_var 5) ae_int) ae_int) (ae_tup (aa_cons ae_str (aa_cons ae_str aa_nil)))))))
    (ass_one (as_expr (ae_ml PySem.F.slot_list_append PySem.F.type_list_append mt_append sm_append (ae_var 4) (aa_cons (ae_if (at_val (ae_var 6)) (ae_add (ae_sl (ae_var 5) ao_none (ao_some ae_int)) (ae_tup (aa_cons (ae_tup (aa_cons ae_str aa_nil)) aa_nil))) (ae_var 5)) aa_nil))))))
    (ass_one (as_ret (ae_tup (aa_cons (ae_ct br_tuple m_tuple (aa_cons (ae_varF 4) aa_nil)) (aa_cons (ae_var 2) aa_nil))))))))) d__law_freed
abbrev s__law_is_changed_well : Stmt := top 60
theorem sc__law_is_changed_well : FnScope N__law_is_changed_well ["d", "house"] (defScope s__law_is_changed_well) := ⟨rfl, rfl, rfl, by decide +kernel, rfl, by decide +kernel, by decide +kernel⟩
theorem ax__law_is_changed_well {a : Addr} (F : ∃ fd, FunD K "_law_is_changed_well" "_law_is_changed_well" (defArgs s__law_is_changed_well) (defBody s__law_is_changed_well) (defScope s__law_is_changed_well) [] [] a fd) (hm : mg "_law_is_changed_well" = some (.ref a)) (m_len : mg "len" = none) (h__law_draw : Dk P w K mg base 1 "_law_draw" ["d", "many"] f__law_draw) (h__law_flow : Dk P w K mg base 4 "_law_flow" ["d", "name", "stations"] f__law_flow) (h__law_pick : Dk P w K mg base 2 "_law_pick" ["d", "row"] f__law_pick) (h_without_flow : Dk P w K mg base 3 "without_flow" ["house", "name"] f_without_flow) (h__law_freed : Dk P w K mg base 1 "_law_freed" ["house", "flow", "flows"] f__law_freed) (h_with_flow : Dk P w K mg base 2 "with_flow" ["house", "flow"] f_with_flow) (h__law_is_told : Dk P w K mg base 2 "_law_is_told" ["told", "due"] f__law_is_told) (h_first_fault : Dk P w K mg base 5 "first_fault" ["house"] f_first_fault) (h__law_first : Dk P w K mg base 3 "_law_first" ["house"] f__law_first) : Dk P w K mg base 6 "_law_is_changed_well" ["d", "house"] f__law_is_changed_well := by
  exact dk_of (wv := w__law_is_changed_well) F hm sc__law_is_changed_well (fun _ _ _ _ _ _ us hl => match us, hl with | [_, _], _ => rfl) (fun cdv A outer s H E hr => (ass_cons (as_set 2 sc__law_is_changed_well.nd (ae_call h__law_draw hr (aa_cons (ae_var 0) (aa_cons (ae_cb br_len m_len (aa_cons (ae_ix (ae_var 1) ae_int) aa_nil)) aa_nil))))
    (ass_cons (as_set 3 sc__law_is_changed_well.nd (ae_ix (ae_ix (ae_var 1) ae_int) (ae_var 2)))
    (ass_cons (as_set 4 sc__law_is_changed_well.nd (ae_add (ae_sl (ae_ix (ae_var 1) ae_int) ao_none (ao_some (ae_var 2))) (ae_sl (ae_ix (ae_var 1) ae_int) (ao_some (ae_add (ae_var 2) ae_int)) ao_none)))
    (ass_cons (as_set 5 sc__law_is_changed_well.nd (ae_call h__law_flow hr (aa_cons (ae_var 0) (aa_cons (ae_call h__law_pick hr (aa_cons (ae_var 0) (aa_cons (ae_lst (aa_cons ae_str (aa_cons ae_str (aa_cons ae_str aa_nil)))) aa_nil))) (aa_cons (ae_lc (own := [("item", 11)]) (js := [11]) (ai_seq (ae_ix (ae_var 1) ae_int)) sc__law_is_changed_well.nd (blkOk_by (N := N__law_is_changed_well) (sc := defScope s__law_is_changed_well) (by decide +kernel)) (fun _ _ _ _ _ => (ag_name 11 sc__law_is_changed_well.nd)) (fun _ _ _ _ _ => ats_nil) (fun _ _ _ _ _ => (ae_ix (ae_var 11) ae_int))) aa_nil)))))
    (ass_cons (as_set 6 sc__law_is_changed_well.nd (ae_add (ae_ix (ae_var 1) ae_int) (ae_tup (aa_cons (ae_var 5) aa_nil))))
    (ass_cons (as_if (at_cmp (co_ne hr) (ae_call h_without_flow hr (aa_cons (ae_var 1) (aa_cons (ae_ix (ae_var 3) ae_int) aa_nil))) (ae_call h__law_freed hr (aa_cons (ae_var 1) (aa_cons (ae_var 3) (aa_cons (ae_var 4) aa_nil))))) (ass_one (as_ret ae_bl)) ass_nil)
    (ass_cons (as_if (at_cmp (co_ne hr) (ae_call h_with_flow hr (aa_cons (ae_var 1) (aa_cons (ae_var 5) aa_nil))) (ae_call h__law_freed hr (aa_cons (ae_var 1) (aa_cons (ae_var 5) (aa_cons (ae_var 6) aa_nil))))) (ass_one (as_ret ae_bl)) ass_nil)
    (ass_cons (as_for (ai_seq (ae_lst (aa_cons (ae_tup (aa_cons (ae_var 3) (aa_cons (ae_var 4) aa_nil))) (aa_cons (ae_tup (aa_cons (ae_var 5) (aa_cons (ae_var 6) aa_nil))) aa_nil)))) (ag_tup (n := 2) (ags_cons (ag_name 7 sc__law_is_changed_well.nd) (ags_cons (ag_name 8 sc__law_is_changed_well.nd) ags_nil))) (ass_cons (as_set 9 sc__law_is_changed_well.nd (ae_if (at_chain co_le co_le ae_int (ae_cb br_len m_len (aa_cons (ae_var 8) aa_nil)) ae_int) ae_non (ae_tup (aa_cons ae_str (aa_cons (ae_tup aa_nil) aa_nil)))))
    (ass_cons (as_set 10 sc__law_is_changed_well.nd (ae_tup (aa_cons (ae_ix (ae_var 1) ae_int) (aa_cons (ae_var 8) aa_nil))))
    (ass_cons (as_if (at_not (at_val (ae_call h__law_is_told hr (aa_cons (ae_call h_first_fault hr (aa_cons (ae_call h__law_freed hr (aa_cons (ae_var 1) (aa_cons (ae_var 7) (aa_cons (ae_var 8) aa_nil)))) aa_nil)) (aa_cons (ae_var 9) aa_nil))))) (ass_one (as_ret ae_bl)) ass_nil)
    (ass_one (as_if (at_not (at_val (ae_call h__law_is_told hr (aa_cons (ae_call h_first_fault hr (aa_cons (ae_var 10) aa_nil)) (aa_cons (ae_call h__law_first hr (aa_cons (ae_var 10) aa_nil)) aa_nil))))) (ass_one (as_ret ae_bl)) ass_nil))))))
    (ass_one (as_ret ae_bl))))))))))) d__law_is_changed_well
abbrev s_law : Stmt := top 61
theorem sc_law : FnScope N_law ["script"] (defScope s_law) := ⟨rfl, rfl, rfl, by decide +kernel, rfl, by decide +kernel, by decide +kernel⟩
theorem ax_law {a : Addr} {fd : FuncData} (F : FunD K "law" "law" (defArgs s_law) (defBody s_law) (defScope s_law) [] [] a fd) (m_range : mg "range" = none) (m_len : mg "len" = none) (h__law_begin : Dk P w K mg base 1 "_law_begin" ["script"] f__law_begin) (h__law_house : Dk P w K mg base 5 "_law_house" ["d", "stations", "flows", "by_dues"] f__law_house) (h__law_rare : Dk P w K mg base 2 "_law_rare" ["d", "many"] f__law_rare) (h_first_fault : Dk P w K mg base 5 "first_fault" ["house"] f_first_fault) (h__law_draw : Dk P w K mg base 1 "_law_draw" ["d", "many"] f__law_draw) (h__law_right_rule : Dk P w K mg base 3 "_law_right_rule" ["d", "house", "names", "hours"] f__law_right_rule) (h__law_with_station : Dk P w K mg base 2 "_law_with_station" ["house", "s", "part", "value"] f__law_with_station) (h__law_is_changed_well : Dk P w K mg base 6 "_law_is_changed_well" ["d", "house"] f__law_is_changed_well) (h__law_passer_names : Dk P w K mg base 2 "_law_passer_names" ["house", "station"] f__law_passer_names) (h__law_is_told : Dk P w K mg base 2 "_law_is_told" ["told", "due"] f__law_is_told) (h__law_pick : Dk P w K mg base 2 "_law_pick" ["d", "row"] f__law_pick) (h__law_other_rule : Dk P w K mg base 5 "_law_other_rule" ["d", "house", "rule"] f__law_other_rule) (h__law_first : Dk P w K mg base 3 "_law_first" ["house"] f__law_first) : FnOk P w K mg base CX0 7 a fd ["script"] (spA K 1 f_law) := by
  exact fn_of (wv := w_law) F sc_law (fun cdv A outer s H E hr => (ass_cons (as_set 1 sc_law.nd (ae_call h__law_begin hr (aa_cons (ae_var 0) aa_nil)))
    (ass_cons (as_set 2 sc_law.nd (ae_if (at_val (ae_call h__law_rare hr (aa_cons (ae_var 1) (aa_cons ae_int aa_nil)))) ae_int (ae_add ae_int (ae_call h__law_draw hr (aa_cons (ae_var 1) (aa_cons ae_int aa_nil))))))
    (ass_cons (as_set 3 sc_law.nd (ae_if (at_val (ae_call h__law_rare hr (aa_cons (ae_var 1) (aa_cons ae_int aa_nil)))) ae_int (ae_add ae_int (ae_call h__law_draw hr (aa_cons (ae_var 1) (aa_cons ae_int aa_nil))))))
    (ass_cons (as_set 4 sc_law.nd (ae_call h__law_house hr (aa_cons (ae_var 1) (aa_cons (ae_var 2) (aa_cons (ae_var 3) (aa_cons ae_bl aa_nil))))))
    (ass_cons (as_if (at_notN (ae_call h_first_fault hr (aa_cons (ae_var 4) aa_nil))) (ass_one (as_ret ae_bl)) ass_nil)
    (ass_cons (as_set 5 sc_law.nd (ae_var 4))
    (ass_cons (as_for (ai_r1 m_range (aa_cons ae_int aa_nil)) (ag_name 6 sc_law.nd) (ass_cons (as_set 7 sc_law.nd (ae_call h__law_draw hr (aa_cons (ae_var 1) (aa_cons (ae_cb br_len m_len (aa_cons (ae_ix (ae_var 4) ae_int) aa_nil)) aa_nil))))
    (ass_cons (as_set 8 sc_law.nd (ae_ix (ae_ix (ae_var 5) ae_int) (ae_var 7)))
    (ass_cons (as_set 9 sc_law.nd (ae_call h__law_right_rule hr (aa_cons (ae_var 1) (aa_cons (ae_var 4) (aa_cons (ae_call h__law_passer_names hr (aa_cons (ae_var 4) (aa_cons (ae_ix (ae_var 8) ae_int) aa_nil))) (aa_cons (ae_ix (ae_var 8) ae_int) aa_nil))))))
    (ass_cons (as_set 10 sc_law.nd (ae_call h__law_draw hr (aa_cons (ae_var 1) (aa_cons ae_int aa_nil))))
    (ass_cons (as_if (at_cmp (co_eq hr) (ae_var 10) ae_int) (ass_one (as_set 9 sc_law.nd (ae_ix (ae_call h__law_pick hr (aa_cons (ae_var 1) (aa_cons (ae_ix (ae_var 4) ae_int) aa_nil))) ae_int))) (ass_one (as_if (at_cmp co_gt (ae_var 10) ae_int) (ass_one (as_set 9 sc_law.nd (ae_call h__law_other_rule hr (aa_cons (ae_var 1) (aa_cons (ae_var 4) (aa_cons (ae_var 9) aa_nil)))))) ass_nil)))
    (ass_cons (as_set 5 sc_law.nd (ae_call h__law_with_station hr (aa_cons (ae_var 5) (aa_cons (ae_var 7) (aa_cons ae_int (aa_cons (ae_var 9) aa_nil))))))
    (ass_cons (as_if (at_not (at_val (ae_call h__law_is_told hr (aa_cons (ae_call h_first_fault hr (aa_cons (ae_var 5) aa_nil)) (aa_cons (ae_call h__law_first hr (aa_cons (ae_var 5) aa_nil)) aa_nil))))) (ass_one (as_ret ae_bl)) ass_nil)
    (ass_one (as_if (at_cmp co_gt (ae_call h__law_draw hr (aa_cons (ae_var 1) (aa_cons ae_int aa_nil))) ae_int) (ass_one (as_set 5 sc_law.nd (ae_var 4))) ass_nil))))))))))
    (ass_one (as_ret (ae_andV (ae_call h__law_is_changed_well hr (aa_cons (ae_var 1) (aa_cons (ae_var 4) aa_nil))) (ae_one (ae_isN (ae_call h_first_fault hr (aa_cons (ae_var 4) aa_nil))))))))))))))) d_law

end
def D_names_of : He.DefD := ⟨("names_of", none), "names_of", "names_of", defArgs s_names_of, defBody s_names_of, defScope s_names_of, [], []⟩
def D_number_in : He.DefD := ⟨("number_in", none), "number_in", "number_in", defArgs s_number_in, defBody s_number_in, defScope s_number_in, [], []⟩
def D_flow_number : He.DefD := ⟨("flow_number", none), "flow_number", "flow_number", defArgs s_flow_number, defBody s_flow_number, defScope s_flow_number, [], []⟩
def D_hop_at : He.DefD := ⟨("hop_at", none), "hop_at", "hop_at", defArgs s_hop_at, defBody s_hop_at, defScope s_hop_at, [], []⟩
def D_flow_passers : He.DefD := ⟨("flow_passers", none), "flow_passers", "flow_passers", defArgs s_flow_passers, defBody s_flow_passers, defScope s_flow_passers, [], []⟩
def D_is_name : He.DefD := ⟨("is_name", none), "is_name", "is_name", defArgs s_is_name, defBody s_is_name, defScope s_is_name, [], []⟩
def D_is_in : He.DefD := ⟨("is_in", none), "is_in", "is_in", defArgs s_is_in, defBody s_is_in, defScope s_is_in, [], []⟩
def D_is_new_name : He.DefD := ⟨("is_new_name", none), "is_new_name", "is_new_name", defArgs s_is_new_name, defBody s_is_new_name, defScope s_is_new_name, [], []⟩
def D_are_hours : He.DefD := ⟨("are_hours", none), "are_hours", "are_hours", defArgs s_are_hours, defBody s_are_hours, defScope s_are_hours, [], []⟩
def D_is_stop : He.DefD := ⟨("is_stop", none), "is_stop", "is_stop", defArgs s_is_stop, defBody s_is_stop, defScope s_is_stop, [], []⟩
def D_station_fault : He.DefD := ⟨("station_fault", none), "station_fault", "station_fault", defArgs s_station_fault, defBody s_station_fault, defScope s_station_fault, [], []⟩
def D_are_windows : He.DefD := ⟨("are_windows", none), "are_windows", "are_windows", defArgs s_are_windows, defBody s_are_windows, defScope s_are_windows, [], []⟩
def D_flow_fault : He.DefD := ⟨("flow_fault", none), "flow_fault", "flow_fault", defArgs s_flow_fault, defBody s_flow_fault, defScope s_flow_fault, [], []⟩
def D_is_new_station : He.DefD := ⟨("is_new_station", none), "is_new_station", "is_new_station", defArgs s_is_new_station, defBody s_is_new_station, defScope s_is_new_station, [], []⟩
def D_is_behind : He.DefD := ⟨("is_behind", none), "is_behind", "is_behind", defArgs s_is_behind, defBody s_is_behind, defScope s_is_behind, [], []⟩
def D_hop_fault : He.DefD := ⟨("hop_fault", none), "hop_fault", "hop_fault", defArgs s_hop_fault, defBody s_hop_fault, defScope s_hop_fault, [], []⟩
def D_rule_fault : He.DefD := ⟨("rule_fault", none), "rule_fault", "rule_fault", defArgs s_rule_fault, defBody s_rule_fault, defScope s_rule_fault, [], []⟩
def D_is_rule : He.DefD := ⟨("is_rule", none), "is_rule", "is_rule", defArgs s_is_rule, defBody s_is_rule, defScope s_is_rule, [], []⟩
def D_are_all : He.DefD := ⟨("are_all", none), "are_all", "are_all", defArgs s_are_all, defBody s_are_all, defScope s_are_all, [], []⟩
def D_are_slots : He.DefD := ⟨("are_slots", none), "are_slots", "are_slots", defArgs s_are_slots, defBody s_are_slots, defScope s_are_slots, [], []⟩
def D_many_fault : He.DefD := ⟨("many_fault", none), "many_fault", "many_fault", defArgs s_many_fault, defBody s_many_fault, defScope s_many_fault, [], []⟩
def D_first_fault : He.DefD := ⟨("first_fault", none), "first_fault", "first_fault", defArgs s_first_fault, defBody s_first_fault, defScope s_first_fault, [], []⟩
def D_ruled_by_dues : He.DefD := ⟨("ruled_by_dues", none), "ruled_by_dues", "ruled_by_dues", defArgs s_ruled_by_dues, defBody s_ruled_by_dues, defScope s_ruled_by_dues, [], []⟩
def D_with_flow : He.DefD := ⟨("with_flow", none), "with_flow", "with_flow", defArgs s_with_flow, defBody s_with_flow, defScope s_with_flow, [], []⟩
def D_without_flow : He.DefD := ⟨("without_flow", none), "without_flow", "without_flow", defArgs s_without_flow, defBody s_without_flow, defScope s_without_flow, [], []⟩
def D__law_begin : He.DefD := ⟨("_law_begin", none), "_law_begin", "_law_begin", defArgs s__law_begin, defBody s__law_begin, defScope s__law_begin, [], []⟩
def D__law_draw : He.DefD := ⟨("_law_draw", none), "_law_draw", "_law_draw", defArgs s__law_draw, defBody s__law_draw, defScope s__law_draw, [], []⟩
def D__law_pick : He.DefD := ⟨("_law_pick", none), "_law_pick", "_law_pick", defArgs s__law_pick, defBody s__law_pick, defScope s__law_pick, [], []⟩
def D__law_pop : He.DefD := ⟨("_law_pop", none), "_law_pop", "_law_pop", defArgs s__law_pop, defBody s__law_pop, defScope s__law_pop, [], []⟩
def D__law_rare : He.DefD := ⟨("_law_rare", none), "_law_rare", "_law_rare", defArgs s__law_rare, defBody s__law_rare, defScope s__law_rare, [], []⟩
def D__law_shuffled : He.DefD := ⟨("_law_shuffled", none), "_law_shuffled", "_law_shuffled", defArgs s__law_shuffled, defBody s__law_shuffled, defScope s__law_shuffled, [], []⟩
def D__law_names : He.DefD := ⟨("_law_names", none), "_law_names", "_law_names", defArgs s__law_names, defBody s__law_names, defScope s__law_names, [], []⟩
def D__law_windows : He.DefD := ⟨("_law_windows", none), "_law_windows", "_law_windows", defArgs s__law_windows, defBody s__law_windows, defScope s__law_windows, [], []⟩
def D__law_hours : He.DefD := ⟨("_law_hours", none), "_law_hours", "_law_hours", defArgs s__law_hours, defBody s__law_hours, defScope s__law_hours, [], []⟩
def D__law_stop : He.DefD := ⟨("_law_stop", none), "_law_stop", "_law_stop", defArgs s__law_stop, defBody s__law_stop, defScope s__law_stop, [], []⟩
def D__law_hop : He.DefD := ⟨("_law_hop", none), "_law_hop", "_law_hop", defArgs s__law_hop, defBody s__law_hop, defScope s__law_hop, [], []⟩
def D__law_flow : He.DefD := ⟨("_law_flow", none), "_law_flow", "_law_flow", defArgs s__law_flow, defBody s__law_flow, defScope s__law_flow, [], []⟩
def D__law_passers : He.DefD := ⟨("_law_passers", none), "_law_passers", "_law_passers", defArgs s__law_passers, defBody s__law_passers, defScope s__law_passers, [], []⟩
def D__law_passer_names : He.DefD := ⟨("_law_passer_names", none), "_law_passer_names", "_law_passer_names", defArgs s__law_passer_names, defBody s__law_passer_names, defScope s__law_passer_names, [], []⟩
def D__law_rule : He.DefD := ⟨("_law_rule", none), "_law_rule", "_law_rule", defArgs s__law_rule, defBody s__law_rule, defScope s__law_rule, [], []⟩
def D__law_house : He.DefD := ⟨("_law_house", none), "_law_house", "_law_house", defArgs s__law_house, defBody s__law_house, defScope s__law_house, [], []⟩
def D__law_is_int : He.DefD := ⟨("_law_is_int", none), "_law_is_int", "_law_is_int", defArgs s__law_is_int, defBody s__law_is_int, defScope s__law_is_int, [], []⟩
def D__law_with : He.DefD := ⟨("_law_with", none), "_law_with", "_law_with", defArgs s__law_with, defBody s__law_with, defScope s__law_with, [], []⟩
def D__law_with_station : He.DefD := ⟨("_law_with_station", none), "_law_with_station", "_law_with_station", defArgs s__law_with_station, defBody s__law_with_station, defScope s__law_with_station, [], []⟩
def D__law_other_names : He.DefD := ⟨("_law_other_names", none), "_law_other_names", "_law_other_names", defArgs s__law_other_names, defBody s__law_other_names, defScope s__law_other_names, [], []⟩
def D__law_right_rule : He.DefD := ⟨("_law_right_rule", none), "_law_right_rule", "_law_right_rule", defArgs s__law_right_rule, defBody s__law_right_rule, defScope s__law_right_rule, [], []⟩
def D__law_other_slots : He.DefD := ⟨("_law_other_slots", none), "_law_other_slots", "_law_other_slots", defArgs s__law_other_slots, defBody s__law_other_slots, defScope s__law_other_slots, [], []⟩
def D__law_other_rule : He.DefD := ⟨("_law_other_rule", none), "_law_other_rule", "_law_other_rule", defArgs s__law_other_rule, defBody s__law_other_rule, defScope s__law_other_rule, [], []⟩
def D__law_is_right_rule : He.DefD := ⟨("_law_is_right_rule", none), "_law_is_right_rule", "_law_is_right_rule", defArgs s__law_is_right_rule, defBody s__law_is_right_rule, defScope s__law_is_right_rule, [], []⟩
def D__law_first : He.DefD := ⟨("_law_first", none), "_law_first", "_law_first", defArgs s__law_first, defBody s__law_first, defScope s__law_first, [], []⟩
def D__law_is_told : He.DefD := ⟨("_law_is_told", none), "_law_is_told", "_law_is_told", defArgs s__law_is_told, defBody s__law_is_told, defScope s__law_is_told, [], []⟩
def D__law_freed : He.DefD := ⟨("_law_freed", none), "_law_freed", "_law_freed", defArgs s__law_freed, defBody s__law_freed, defScope s__law_freed, [], []⟩
def D__law_is_changed_well : He.DefD := ⟨("_law_is_changed_well", none), "_law_is_changed_well", "_law_is_changed_well", defArgs s__law_is_changed_well, defBody s__law_is_changed_well, defScope s__law_is_changed_well, [], []⟩
def D_law : He.DefD := ⟨("law", none), "law", "law", defArgs s_law, defBody s_law, defScope s_law, [], []⟩
def fn : List He.DefD := [D_names_of, D_number_in, D_flow_number, D_hop_at, D_flow_passers, D_is_name, D_is_in, D_is_new_name, D_are_hours, D_is_stop, D_station_fault, D_are_windows, D_flow_fault, D_is_new_station, D_is_behind, D_hop_fault, D_rule_fault, D_is_rule, D_are_all, D_are_slots, D_many_fault, D_first_fault, D_ruled_by_dues, D_with_flow, D_without_flow, D__law_begin, D__law_draw, D__law_pick, D__law_pop, D__law_rare, D__law_shuffled, D__law_names, D__law_windows, D__law_hours, D__law_stop, D__law_hop, D__law_flow, D__law_passers, D__law_passer_names, D__law_rule, D__law_house, D__law_is_int, D__law_with, D__law_with_station, D__law_other_names, D__law_right_rule, D__law_other_slots, D__law_other_rule, D__law_is_right_rule, D__law_first, D__law_is_told, D__law_freed, D__law_is_changed_well, D_law]
def fa : List He.Fa := [.glo "names_of", .glo "number_in", .glo "flow_number", .glo "hop_at", .glo "flow_passers", .glo "is_name", .glo "is_in", .glo "is_new_name", .glo "are_hours", .glo "is_stop", .glo "station_fault", .glo "are_windows", .glo "flow_fault", .glo "is_new_station", .glo "is_behind", .glo "hop_fault", .glo "rule_fault", .glo "is_rule", .glo "are_all", .glo "are_slots", .glo "many_fault", .glo "first_fault", .glo "ruled_by_dues", .glo "with_flow", .glo "without_flow", .glo "_law_begin", .glo "_law_draw", .glo "_law_pick", .glo "_law_pop", .glo "_law_rare", .glo "_law_shuffled", .glo "_law_names", .glo "_law_windows", .glo "_law_hours", .glo "_law_stop", .glo "_law_hop", .glo "_law_flow", .glo "_law_passers", .glo "_law_passer_names", .glo "_law_rule", .glo "_law_house", .glo "_law_is_int", .glo "_law_with", .glo "_law_with_station", .glo "_law_other_names", .glo "_law_right_rule", .glo "_law_other_slots", .glo "_law_other_rule", .glo "_law_is_right_rule", .glo "_law_first", .glo "_law_is_told", .glo "_law_freed", .glo "_law_is_changed_well", .glo "law", .free "tuple", .free "range", .free "len", .free "all", .free "sum", .free "sorted", .free "zip", .free "int", .free "abs", .free "list", .free "max", .free "min", .free "isinstance", .free "bool", .str "LETTERS" "abcdefghijklmnopqrstuvwxyz", .glo "GATES"]
def exs : List (PySem.Str × List He.Dv) := [("GATES", [.str "free", .str "hold", .str "shape"])]
def ex (K : PySem.W.Frag) : Bool := exs.all fun q => He.tupB K q.1 q.2
abbrev R : PySem.W.OpenRow := PySem.W.OpenLaw.row PySem.Challenge.rw_stationdues_k07_faults_of_rules
abbrev hk : PySem.W.Hook := hookX 4 ex fa fn
def ob (s : PySem.W.SharedT) : AlX := obsX 4 ex fa fn (HandSHeadRun.getT s)
theorem ob_eq (s : PySem.W.SharedT) : ob s = hk.obs s.abs := obsX_eq (HandSHeadRun.getT_eq s)
def loose0 : List PySem.Str := [("names_of" : PySem.Str), ("number_in" : PySem.Str), ("flow_number" : PySem.Str), ("hop_at" : PySem.Str), ("flow_passers" : PySem.Str), ("LETTERS" : PySem.Str), ("GATES" : PySem.Str), ("is_name" : PySem.Str), ("is_in" : PySem.Str), ("is_new_name" : PySem.Str), ("are_hours" : PySem.Str), ("is_stop" : PySem.Str), ("station_fault" : PySem.Str), ("are_windows" : PySem.Str), ("flow_fault" : PySem.Str), ("is_new_station" : PySem.Str), ("is_behind" : PySem.Str), ("hop_fault" : PySem.Str), ("rule_fault" : PySem.Str), ("is_rule" : PySem.Str), ("are_all" : PySem.Str), ("are_slots" : PySem.Str), ("many_fault" : PySem.Str), ("first_fault" : PySem.Str), ("ruled_by_dues" : PySem.Str), ("with_flow" : PySem.Str), ("without_flow" : PySem.Str), ("_law_begin" : PySem.Str), ("_law_draw" : PySem.Str), ("_law_pick" : PySem.Str)]
def loose1 : List PySem.Str := [("_law_pop" : PySem.Str), ("_law_rare" : PySem.Str), ("_law_shuffled" : PySem.Str), ("_law_names" : PySem.Str), ("_law_windows" : PySem.Str), ("_law_hours" : PySem.Str), ("_law_stop" : PySem.Str), ("_law_hop" : PySem.Str), ("_law_flow" : PySem.Str), ("_law_passers" : PySem.Str), ("_law_passer_names" : PySem.Str), ("_law_rule" : PySem.Str), ("_law_house" : PySem.Str), ("_law_is_int" : PySem.Str), ("_law_with" : PySem.Str), ("_law_with_station" : PySem.Str), ("_law_other_names" : PySem.Str), ("_law_right_rule" : PySem.Str), ("_law_other_slots" : PySem.Str), ("_law_other_rule" : PySem.Str), ("_law_is_right_rule" : PySem.Str), ("_law_first" : PySem.Str), ("_law_is_told" : PySem.Str), ("_law_freed" : PySem.Str), ("_law_is_changed_well" : PySem.Str)]
abbrev loose : List PySem.Str := loose0 ++ loose1
theorem run (w : World) : HandSHeadRun.RunEq R (PySem.W.view R.prog [61]) hk ob 2880 loose w := by
  intro os
  kernel_rfl
theorem facts {P : Program} {w : World} {K : PySem.W.Frag} {h : Heap} {mg : Str → Option Value} {f : Addr} (X : K.In h) (G : h.Ns mainGlobals mg) (hfa : mg ("law" : Str) = some (.ref f)) (c : He.SaysD fa fn K) (cx : ex K = true) :
    ∃ fd : FuncData, (∀ (s : Shared) (v : Value), BindsTo s fd ⟨[v], []⟩ [("script", v)]) ∧ ∀ base : Heap, K.In base → base.Ns mainGlobals mg → FnOk P w K mg base CX0 7 f fd ["script"] (spA K 1 f_law) := by
  obtain ⟨fd, F⟩ := c.def_ 53 (d := D_law) rfl
  have e := hfa.symm.trans (He.glo_ok X G (c.fact 53 (f := .glo "law") rfl))
  cases e
  have b := FunD.bindsA (ps := ["script"]) F fun _ _ _ _ _ _ us hl => match us, hl with | [_], _ => rfl
  refine ⟨fd, fun s v => b s [v] rfl, fun base _ _ => ?_⟩
  have g_LETTERS : GlK K mg "LETTERS" _ k_LETTERS := gl_str X G (c.fact 68 rfl)
  have g_GATES : GlK K mg "GATES" _ k_GATES := gl_tup X G (c.fact 69 (f := .glo "GATES") rfl) (exs_at cx 0)
  have m_tuple := He.free_ok X G (c.fact 54 (f := .free "tuple") rfl)
  have m_range := He.free_ok X G (c.fact 55 (f := .free "range") rfl)
  have m_len := He.free_ok X G (c.fact 56 (f := .free "len") rfl)
  have m_all := He.free_ok X G (c.fact 57 (f := .free "all") rfl)
  have m_sum := He.free_ok X G (c.fact 58 (f := .free "sum") rfl)
  have m_sorted := He.free_ok X G (c.fact 59 (f := .free "sorted") rfl)
  have m_zip := He.free_ok X G (c.fact 60 (f := .free "zip") rfl)
  have m_int := He.free_ok X G (c.fact 61 (f := .free "int") rfl)
  have m_abs := He.free_ok X G (c.fact 62 (f := .free "abs") rfl)
  have m_list := He.free_ok X G (c.fact 63 (f := .free "list") rfl)
  have m_max := He.free_ok X G (c.fact 64 (f := .free "max") rfl)
  have m_min := He.free_ok X G (c.fact 65 (f := .free "min") rfl)
  have m_isinstance := He.free_ok X G (c.fact 66 (f := .free "isinstance") rfl)
  have m_bool := He.free_ok X G (c.fact 67 (f := .free "bool") rfl)
  have h_names_of := ax_names_of (P := P) (w := w) (K := K) (mg := mg) (base := base) (c.def_ 0 (d := D_names_of) rfl) (He.glo_ok X G (c.fact 0 (f := .glo "names_of") rfl)) m_tuple
  have h_number_in := ax_number_in (P := P) (w := w) (K := K) (mg := mg) (base := base) (c.def_ 1 (d := D_number_in) rfl) (He.glo_ok X G (c.fact 1 (f := .glo "number_in") rfl)) m_range m_len
  have h_hop_at := ax_hop_at (P := P) (w := w) (K := K) (mg := mg) (base := base) (c.def_ 3 (d := D_hop_at) rfl) (He.glo_ok X G (c.fact 3 (f := .glo "hop_at") rfl)) m_range m_len
  have h_is_name := ax_is_name (P := P) (w := w) (K := K) (mg := mg) (base := base) (c.def_ 5 (d := D_is_name) rfl) (He.glo_ok X G (c.fact 5 (f := .glo "is_name") rfl)) g_LETTERS m_all m_len
  have h_is_in := ax_is_in (P := P) (w := w) (K := K) (mg := mg) (base := base) (c.def_ 6 (d := D_is_in) rfl) (He.glo_ok X G (c.fact 6 (f := .glo "is_in") rfl))
  have h_are_all := ax_are_all (P := P) (w := w) (K := K) (mg := mg) (base := base) (c.def_ 18 (d := D_are_all) rfl) (He.glo_ok X G (c.fact 18 (f := .glo "are_all") rfl)) m_sorted
  have h_are_slots := ax_are_slots (P := P) (w := w) (K := K) (mg := mg) (base := base) (c.def_ 19 (d := D_are_slots) rfl) (He.glo_ok X G (c.fact 19 (f := .glo "are_slots") rfl)) m_zip m_len m_all
  have h_many_fault := ax_many_fault (P := P) (w := w) (K := K) (mg := mg) (base := base) (c.def_ 20 (d := D_many_fault) rfl) (He.glo_ok X G (c.fact 20 (f := .glo "many_fault") rfl)) m_len
  have h_ruled_by_dues := ax_ruled_by_dues (P := P) (w := w) (K := K) (mg := mg) (base := base) (c.def_ 22 (d := D_ruled_by_dues) rfl) (He.glo_ok X G (c.fact 22 (f := .glo "ruled_by_dues") rfl)) m_tuple
  have h__law_begin := ax__law_begin (P := P) (w := w) (K := K) (mg := mg) (base := base) (c.def_ 25 (d := D__law_begin) rfl) (He.glo_ok X G (c.fact 25 (f := .glo "_law_begin") rfl)) m_int
  have h__law_draw := ax__law_draw (P := P) (w := w) (K := K) (mg := mg) (base := base) (c.def_ 26 (d := D__law_draw) rfl) (He.glo_ok X G (c.fact 26 (f := .glo "_law_draw") rfl)) m_len m_int m_abs
  have h__law_passers := ax__law_passers (P := P) (w := w) (K := K) (mg := mg) (base := base) (c.def_ 37 (d := D__law_passers) rfl) (He.glo_ok X G (c.fact 37 (f := .glo "_law_passers") rfl)) m_range m_len
  have h__law_is_int := ax__law_is_int (P := P) (w := w) (K := K) (mg := mg) (base := base) (c.def_ 41 (d := D__law_is_int) rfl) (He.glo_ok X G (c.fact 41 (f := .glo "_law_is_int") rfl)) m_isinstance m_int m_bool
  have h__law_with := ax__law_with (P := P) (w := w) (K := K) (mg := mg) (base := base) (c.def_ 42 (d := D__law_with) rfl) (He.glo_ok X G (c.fact 42 (f := .glo "_law_with") rfl)) m_tuple m_list
  have h__law_is_right_rule := ax__law_is_right_rule (P := P) (w := w) (K := K) (mg := mg) (base := base) (c.def_ 48 (d := D__law_is_right_rule) rfl) (He.glo_ok X G (c.fact 48 (f := .glo "_law_is_right_rule") rfl)) m_range m_len m_all m_sorted m_list
  have h__law_freed := ax__law_freed (P := P) (w := w) (K := K) (mg := mg) (base := base) (c.def_ 51 (d := D__law_freed) rfl) (He.glo_ok X G (c.fact 51 (f := .glo "_law_freed") rfl)) m_tuple
  have h_flow_number := ax_flow_number (P := P) (w := w) (K := K) (mg := mg) (base := base) (c.def_ 2 (d := D_flow_number) rfl) (He.glo_ok X G (c.fact 2 (f := .glo "flow_number") rfl)) h_number_in
  have h_flow_passers := ax_flow_passers (P := P) (w := w) (K := K) (mg := mg) (base := base) (c.def_ 4 (d := D_flow_passers) rfl) (He.glo_ok X G (c.fact 4 (f := .glo "flow_passers") rfl)) m_range m_tuple m_len h_hop_at
  have h_is_new_name := ax_is_new_name (P := P) (w := w) (K := K) (mg := mg) (base := base) (c.def_ 7 (d := D_is_new_name) rfl) (He.glo_ok X G (c.fact 7 (f := .glo "is_new_name") rfl)) h_is_name h_names_of
  have h_are_hours := ax_are_hours (P := P) (w := w) (K := K) (mg := mg) (base := base) (c.def_ 8 (d := D_are_hours) rfl) (He.glo_ok X G (c.fact 8 (f := .glo "are_hours") rfl)) m_sum m_all m_len h_is_in
  have h_is_stop := ax_is_stop (P := P) (w := w) (K := K) (mg := mg) (base := base) (c.def_ 9 (d := D_is_stop) rfl) (He.glo_ok X G (c.fact 9 (f := .glo "is_stop") rfl)) h_is_in
  have h_are_windows := ax_are_windows (P := P) (w := w) (K := K) (mg := mg) (base := base) (c.def_ 11 (d := D_are_windows) rfl) (He.glo_ok X G (c.fact 11 (f := .glo "are_windows") rfl)) m_all m_len h_is_in
  have h_is_new_station := ax_is_new_station (P := P) (w := w) (K := K) (mg := mg) (base := base) (c.def_ 13 (d := D_is_new_station) rfl) (He.glo_ok X G (c.fact 13 (f := .glo "is_new_station") rfl)) h_names_of
  have h_is_behind := ax_is_behind (P := P) (w := w) (K := K) (mg := mg) (base := base) (c.def_ 14 (d := D_is_behind) rfl) (He.glo_ok X G (c.fact 14 (f := .glo "is_behind") rfl)) h_is_in
  have h_is_rule := ax_is_rule (P := P) (w := w) (K := K) (mg := mg) (base := base) (c.def_ 17 (d := D_is_rule) rfl) (He.glo_ok X G (c.fact 17 (f := .glo "is_rule") rfl)) m_len m_all h_are_all h_are_slots h_is_in
  have h_with_flow := ax_with_flow (P := P) (w := w) (K := K) (mg := mg) (base := base) (c.def_ 23 (d := D_with_flow) rfl) (He.glo_ok X G (c.fact 23 (f := .glo "with_flow") rfl)) h_ruled_by_dues
  have h__law_pick := ax__law_pick (P := P) (w := w) (K := K) (mg := mg) (base := base) (c.def_ 27 (d := D__law_pick) rfl) (He.glo_ok X G (c.fact 27 (f := .glo "_law_pick") rfl)) m_len h__law_draw
  have h__law_pop := ax__law_pop (P := P) (w := w) (K := K) (mg := mg) (base := base) (c.def_ 28 (d := D__law_pop) rfl) (He.glo_ok X G (c.fact 28 (f := .glo "_law_pop") rfl)) m_len h__law_draw
  have h__law_rare := ax__law_rare (P := P) (w := w) (K := K) (mg := mg) (base := base) (c.def_ 29 (d := D__law_rare) rfl) (He.glo_ok X G (c.fact 29 (f := .glo "_law_rare") rfl)) h__law_draw
  have h__law_shuffled := ax__law_shuffled (P := P) (w := w) (K := K) (mg := mg) (base := base) (c.def_ 30 (d := D__law_shuffled) rfl) (He.glo_ok X G (c.fact 30 (f := .glo "_law_shuffled") rfl)) m_list m_range m_len h__law_draw
  have h__law_passer_names := ax__law_passer_names (P := P) (w := w) (K := K) (mg := mg) (base := base) (c.def_ 38 (d := D__law_passer_names) rfl) (He.glo_ok X G (c.fact 38 (f := .glo "_law_passer_names") rfl)) h__law_passers
  have h__law_with_station := ax__law_with_station (P := P) (w := w) (K := K) (mg := mg) (base := base) (c.def_ 43 (d := D__law_with_station) rfl) (He.glo_ok X G (c.fact 43 (f := .glo "_law_with_station") rfl)) h__law_with
  have h__law_is_told := ax__law_is_told (P := P) (w := w) (K := K) (mg := mg) (base := base) (c.def_ 50 (d := D__law_is_told) rfl) (He.glo_ok X G (c.fact 50 (f := .glo "_law_is_told") rfl)) m_all m_isinstance m_tuple m_len h__law_is_int
  have h_station_fault := ax_station_fault (P := P) (w := w) (K := K) (mg := mg) (base := base) (c.def_ 10 (d := D_station_fault) rfl) (He.glo_ok X G (c.fact 10 (f := .glo "station_fault") rfl)) h_is_new_name h_are_hours h_is_stop
  have h_hop_fault := ax_hop_fault (P := P) (w := w) (K := K) (mg := mg) (base := base) (c.def_ 15 (d := D_hop_fault) rfl) (He.glo_ok X G (c.fact 15 (f := .glo "hop_fault") rfl)) g_GATES h_is_new_station h_is_behind h_is_in
  have h_rule_fault := ax_rule_fault (P := P) (w := w) (K := K) (mg := mg) (base := base) (c.def_ 16 (d := D_rule_fault) rfl) (He.glo_ok X G (c.fact 16 (f := .glo "rule_fault") rfl)) m_tuple h_is_rule h_flow_passers
  have h_without_flow := ax_without_flow (P := P) (w := w) (K := K) (mg := mg) (base := base) (c.def_ 24 (d := D_without_flow) rfl) (He.glo_ok X G (c.fact 24 (f := .glo "without_flow") rfl)) h_flow_number h_ruled_by_dues
  have h__law_names := ax__law_names (P := P) (w := w) (K := K) (mg := mg) (base := base) (c.def_ 31 (d := D__law_names) rfl) (He.glo_ok X G (c.fact 31 (f := .glo "_law_names") rfl)) m_range m_max h__law_shuffled h__law_pick h__law_draw
  have h__law_windows := ax__law_windows (P := P) (w := w) (K := K) (mg := mg) (base := base) (c.def_ 32 (d := D__law_windows) rfl) (He.glo_ok X G (c.fact 32 (f := .glo "_law_windows") rfl)) m_range m_tuple h__law_pick h__law_rare h__law_draw
  have h__law_hours := ax__law_hours (P := P) (w := w) (K := K) (mg := mg) (base := base) (c.def_ 33 (d := D__law_hours) rfl) (He.glo_ok X G (c.fact 33 (f := .glo "_law_hours") rfl)) m_tuple m_sum m_range h__law_rare h__law_draw
  have h__law_stop := ax__law_stop (P := P) (w := w) (K := K) (mg := mg) (base := base) (c.def_ 34 (d := D__law_stop) rfl) (He.glo_ok X G (c.fact 34 (f := .glo "_law_stop") rfl)) h__law_rare h__law_draw
  have h__law_hop := ax__law_hop (P := P) (w := w) (K := K) (mg := mg) (base := base) (c.def_ 35 (d := D__law_hop) rfl) (He.glo_ok X G (c.fact 35 (f := .glo "_law_hop") rfl)) h__law_draw h__law_pick h__law_rare
  have h__law_rule := ax__law_rule (P := P) (w := w) (K := K) (mg := mg) (base := base) (c.def_ 39 (d := D__law_rule) rfl) (He.glo_ok X G (c.fact 39 (f := .glo "_law_rule") rfl)) m_tuple m_len m_sum m_list m_range h__law_draw h__law_shuffled h__law_pick
  have h__law_other_names := ax__law_other_names (P := P) (w := w) (K := K) (mg := mg) (base := base) (c.def_ 44 (d := D__law_other_names) rfl) (He.glo_ok X G (c.fact 44 (f := .glo "_law_other_names") rfl)) m_list m_tuple m_len h__law_draw h__law_pop h__law_pick h__law_shuffled
  have h__law_right_rule := ax__law_right_rule (P := P) (w := w) (K := K) (mg := mg) (base := base) (c.def_ 45 (d := D__law_right_rule) rfl) (He.glo_ok X G (c.fact 45 (f := .glo "_law_right_rule") rfl)) m_list m_tuple m_len m_range m_sum h__law_draw h__law_shuffled h__law_pick
  have h__law_first := ax__law_first (P := P) (w := w) (K := K) (mg := mg) (base := base) (c.def_ 49 (d := D__law_first) rfl) (He.glo_ok X G (c.fact 49 (f := .glo "_law_first") rfl)) m_range m_len h__law_is_right_rule h__law_passer_names
  have h_flow_fault := ax_flow_fault (P := P) (w := w) (K := K) (mg := mg) (base := base) (c.def_ 12 (d := D_flow_fault) rfl) (He.glo_ok X G (c.fact 12 (f := .glo "flow_fault") rfl)) m_range m_len h_is_new_name h_are_windows h_is_in h_hop_fault
  have h__law_flow := ax__law_flow (P := P) (w := w) (K := K) (mg := mg) (base := base) (c.def_ 36 (d := D__law_flow) rfl) (He.glo_ok X G (c.fact 36 (f := .glo "_law_flow") rfl)) m_range m_len m_tuple h__law_shuffled h__law_windows h__law_rare h__law_hop h__law_draw
  have h__law_other_slots := ax__law_other_slots (P := P) (w := w) (K := K) (mg := mg) (base := base) (c.def_ 46 (d := D__law_other_slots) rfl) (He.glo_ok X G (c.fact 46 (f := .glo "_law_other_slots") rfl)) m_list m_tuple m_len m_range h__law_draw h__law_other_names h__law_pick
  have h_first_fault := ax_first_fault (P := P) (w := w) (K := K) (mg := mg) (base := base) (c.def_ 21 (d := D_first_fault) rfl) (He.glo_ok X G (c.fact 21 (f := .glo "first_fault") rfl)) m_range m_len h_many_fault h_station_fault h_flow_fault h_rule_fault (He.glo_ok X G (c.fact 10 (f := .glo "station_fault") rfl)) (He.glo_ok X G (c.fact 12 (f := .glo "flow_fault") rfl)) (He.glo_ok X G (c.fact 16 (f := .glo "rule_fault") rfl))
  have h__law_house := ax__law_house (P := P) (w := w) (K := K) (mg := mg) (base := base) (c.def_ 40 (d := D__law_house) rfl) (He.glo_ok X G (c.fact 40 (f := .glo "_law_house") rfl)) m_tuple m_sum m_min h__law_names h__law_hours h__law_flow h__law_stop h__law_draw h__law_rule h__law_passer_names
  have h__law_other_rule := ax__law_other_rule (P := P) (w := w) (K := K) (mg := mg) (base := base) (c.def_ 47 (d := D__law_other_rule) rfl) (He.glo_ok X G (c.fact 47 (f := .glo "_law_other_rule") rfl)) m_list m_tuple m_len h__law_pick h__law_other_names h__law_draw h__law_other_slots
  have h__law_is_changed_well := ax__law_is_changed_well (P := P) (w := w) (K := K) (mg := mg) (base := base) (c.def_ 52 (d := D__law_is_changed_well) rfl) (He.glo_ok X G (c.fact 52 (f := .glo "_law_is_changed_well") rfl)) m_len h__law_draw h__law_flow h__law_pick h_without_flow h__law_freed h_with_flow h__law_is_told h_first_fault h__law_first
  exact ax_law F m_range m_len h__law_begin h__law_house h__law_rare h_first_fault h__law_draw h__law_right_rule h__law_with_station h__law_is_changed_well h__law_passer_names h__law_is_told h__law_pick h__law_other_rule h__law_first
end Zd.K05
open PySem PySem.W PySem.Calls PyProof.Rows
theorem PySem.Challenge.cw_stationdues_k07_faults_of_rules_holds : PySem.Challenge.rw_stationdues_k07_faults_of_rules.Holds := by
  w_on; o_law
  refine HandSHeadRun.head_any (r := OpenLaw.row PySem.Challenge.rw_stationdues_k07_faults_of_rules) (q := view (OpenLaw.row PySem.Challenge.rw_stationdues_k07_faults_of_rules).prog [61]) (H := Zd.K05.hk) (ob := Zd.K05.ob) (M := 2880) (loose := Zd.K05.loose) (d := HandSHeadRun.topDef (OpenLaw.row PySem.Challenge.rw_stationdues_k07_faults_of_rules).prog 61) (kwd := []) Zd.K05.ob_eq
    (by kernel_rfl) (fun s => by kernel_rfl) Zd.K05.run (by kernel_rfl) (by kernel_rfl) (by kernel_rfl) (by rfl) (by first | assumption | decide +kernel) (by decide +kernel) ⟨rfl, rfl, rfl, rfl, rfl, by decide +kernel⟩ ?hw ?hc
  case hw => w_witness2
  case hc =>
    refine L2.walk_ofE (l := PySem.Challenge.rw_stationdues_k07_faults_of_rules) (n := 63) (k := 7) (x := "script") (CX := L2.CX0) rfl (by decide) (by kernel_rfl) ⟨rfl, by decide, by decide⟩ ?F (fun _ _ _ _ z => z)
    intro w mg fa h Y G hmg0
    obtain ⟨K, KX, c, cx⟩ := Y
    have hmg : mg ("law" : PySem.Str) = some (.ref fa) := by
      have e : (HandSHeadRun.topDef (OpenLaw.row PySem.Challenge.rw_stationdues_k07_faults_of_rules).prog 61).name = ("law" : PySem.Str) := by kernel_rfl
      rw [← e]
      exact hmg0
    obtain ⟨fd, hb, hF⟩ := Zd.K05.facts (P := (PySem.Challenge.rw_stationdues_k07_faults_of_rules).prog) (w := w) KX G hmg c cx
    exact ⟨K, fd, _, KX, hb, fun H a ns hl hO hS => Zd.law_sp (Zd.law_start ns hl) hO hS, hF⟩

