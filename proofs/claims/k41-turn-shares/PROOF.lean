import PyProof.Rows.All
import Wide.All
import OpenK.AllK
import Wide.FinOn
import HandS.ForMost
import HandS.Walk
import HandS.Flow
import HandS.IsInst
import HandS.Conv
import HandS.Zip
import HandS.Rev
import HandS.TupAny
import HandS.SortInts
import HandS.SetFor
import HandS.Style
import HandS.Wide
import HandS.Defaults
import HandS.Head0
import HandS.Head1
import HandS.Head2
import HandS.HeadEnd
import HandS.HeadHook1
import HandS.HeadHook2
import PySem.Challenge.RW_stationdues_k41_turn_shares
set_option Elab.async false
set_option linter.all false
set_option maxRecDepth 100000
set_option maxHeartbeats 4000000
/-! Zd1: the data layer, its core: frozen data, a table of owned objects, the relations. -/
namespace Zd
open PySem L2

abbrev D := PyData
/- frozen data: what stands for d (lists tracked; tuples tracked or written) -/
mutual
inductive Rp (K : PySem.W.Frag) (H : Hp) : V → D → Prop
  | non : Rp K H .non .none
  | bl (b : Bool) : Rp K H (.bl b) (.bool b)
  | int (i : Int) : Rp K H (.int i) (.int i)
  | str (x : Str) : Rp K H (.str x) (.str x)
  | lst {a : Addr} {xs : List V} {ds : List D} : H a = some (.lst xs) → RpAll K H xs ds → Rp K H (.ref a) (.list ds)
  | tup {a : Addr} {xs : List V} {ds : List D} : SqT K H a xs → RpAll K H xs ds → Rp K H (.ref a) (.tuple ds)
inductive RpAll (K : PySem.W.Frag) (H : Hp) : List V → List D → Prop
  | nil : RpAll K H [] []
  | cons {v : V} {vs : List V} {d : D} {ds : List D} : Rp K H v d → RpAll K H vs ds → RpAll K H (v :: vs) (d :: ds)
end
mutual
theorem Rp.dp {K : PySem.W.Frag} {H : Hp} : ∀ (d : D) (v : V), Rp K H v d → Dp K H v d
  | .none, _, h => by cases h; exact .non
  | .bool b, _, h => by cases h; exact .bl b
  | .int i, _, h => by cases h; exact .int i
  | .str x, _, h => by cases h; exact .str x
  | .list ds, _, h => by cases h with | lst hs ha => exact .lst (SqL.of hs) (RpAll.dp ds _ ha)
  | .tuple ds, _, h => by cases h with | tup hs ha => exact .tup hs (RpAll.dp ds _ ha)
  | .dict _, _, h => by cases h
theorem RpAll.dp {K : PySem.W.Frag} {H : Hp} : ∀ (ds : List D) (vs : List V), RpAll K H vs ds → DpAll K H vs ds
  | [], _, h => by cases h; exact .nil
  | d :: ds, _, h => by cases h with | cons h1 h2 => exact .cons (Rp.dp d _ h1) (RpAll.dp ds _ h2)
end
/-- a cell: frozen data, or the place of an owned object in the table -/
inductive C where
  | fr (d : D) | hd (i : Nat) | sc (ns : List Int)
/-- an owned object: a list of cells, frozen data, an instance -/
inductive MO where
  | lst (cs : List C)
  | frz (d : D)
  | ins (cl : Addr) (fs : List (Str × C))
  | dk (kvs : List (Key × C))
abbrev Ts := List MO
abbrev Sl := List (Option C)

def C.refs : C → List Nat
  | .fr _ => []
  | .hd i => [i]
  | .sc _ => []
def MO.refs : MO → List Nat
  | .lst cs => cs.flatMap C.refs
  | .frz _ => []
  | .ins _ fs => fs.flatMap fun p => p.2.refs
  | .dk kvs => kvs.flatMap fun p => p.2.refs
/-- the table's references stay within it -/
def Cl (own : Ts) : Prop := ∀ m ∈ own, ∀ j ∈ m.refs, j < own.length

section
variable (K : PySem.W.Frag)
def Cr (θ : List Addr) (F : Hp) (v : V) : C → Prop
  | .fr d => Rp K F v d
  | .hd i => ∃ a, θ[i]? = some a ∧ v = .ref a
  | .sc ns => ∃ a, v = .ref a ∧ SqL K F a (ns.map V.int)
def Mo (θ : List Addr) (F H : Hp) (a : Addr) : MO → Prop
  | .lst cs => F a = none ∧ ∃ vs, H a = some (.lst vs) ∧ Paired (Cr K θ F) vs cs
  | .frz d => (∃ o, F a = some o) ∧ Rp K F (.ref a) d
  | .ins c fs => F a = none ∧ ∃ dx vs, H a = some (.ins c dx vs) ∧ Paired (fun (p : Str × V) (q : Str × C) => p.1 = q.1 ∧ Cr K θ F p.2 q.2) vs fs
  | .dk kvs => F a = none ∧ ∃ vs, H a = some (.dK vs) ∧ Paired (fun (p : Key × V) (q : Key × C) => p.1 = q.1 ∧ Cr K θ F p.2 q.2) vs kvs
/-- the table own stands at θ in H, beside the frozen F; B is another's -/
structure Ga (B : Addr → Prop) (θ : List Addr) (own : Ts) (F H : Hp) : Prop where
  len : θ.length = own.length
  nd : θ.Nodup
  ex : Same F H
  out : ∀ b, B b → F b = none ∧ H b ≠ none ∧ b ∉ θ
  mo : ∀ (i : Nat) a m, θ[i]? = some a → own[i]? = some m → Mo K θ F H a m
  cl : Cl own
def SlR (θ : List Addr) (F : Hp) (σ : St) (ss : Sl) : Prop :=
  σ.length = ss.length ∧ ∀ (i : Nat) c, ss[i]? = some (some c) → ∃ v, σ[i]? = some (some v) ∧ Cr K θ F v c
end
/-- from one state to a later one -/
structure Tr (B : Addr → Prop) (θ : List Addr) (F H : Hp) (θ' : List Addr) (F' H' : Hp) : Prop where
  th : ∃ r, θ' = θ ++ r
  ex : Same F F'
  fr : ∀ b, B b → H' b = H b
theorem Tr.refl {B : Addr → Prop} {θ : List Addr} {F H : Hp} : Tr B θ F H θ F H := ⟨⟨[], (List.append_nil _).symm⟩, Same.refl _, fun _ _ => rfl⟩
theorem Tr.trans {B : Addr → Prop} {θ θ1 θ2 : List Addr} {F F1 F2 H H1 H2 : Hp} (a : Tr B θ F H θ1 F1 H1) (b : Tr B θ1 F1 H1 θ2 F2 H2) : Tr B θ F H θ2 F2 H2 := by
  obtain ⟨r, rfl⟩ := a.th
  obtain ⟨r', rfl⟩ := b.th
  exact ⟨⟨r ++ r', List.append_assoc _ _ _⟩, a.ex.trans b.ex, fun c h => (b.fr c h).trans (a.fr c h)⟩

section
variable {K : PySem.W.Frag} {B : Addr → Prop} {θ θ' : List Addr} {own : Ts} {F F' H H' : Hp} {v : V} {c : C} {σ : St} {ss : Sl}
theorem same_rd {a : Addr} {u : HO} (e : Same H H') (h : Rd H a u) : Rd H' a u := by
  rcases h with h | ⟨o, h⟩
  · exact Or.inl (e a _ h)
  · exact Or.inr ⟨o, e a _ h⟩
theorem same_l {a : Addr} {xs : List V} (e : Same H H') (h : SqL K H a xs) : SqL K H' a xs := e.seq h
theorem same_t {a : Addr} {xs : List V} (e : Same H H') (h : SqT K H a xs) : SqT K H' a xs := by
  rcases h with h | h
  · exact Or.inl (same_rd e h)
  · exact Or.inr h
mutual
theorem rp_mono (e : Same H H') : ∀ (d : D) (v : V), Rp K H v d → Rp K H' v d
  | .none, _, h => by cases h; exact .non
  | .bool b, _, h => by cases h; exact .bl b
  | .int i, _, h => by cases h; exact .int i
  | .str x, _, h => by cases h; exact .str x
  | .list ds, _, h => by cases h with | lst hs ha => exact .lst (e _ _ hs) (rpAll_mono e ds _ ha)
  | .tuple ds, _, h => by cases h with | tup hs ha => exact .tup (same_t e hs) (rpAll_mono e ds _ ha)
  | .dict _, _, h => by cases h
theorem rpAll_mono (e : Same H H') : ∀ (ds : List D) (vs : List V), RpAll K H vs ds → RpAll K H' vs ds
  | [], _, h => by cases h; exact .nil
  | d :: ds, _, h => by cases h with | cons h1 h2 => exact .cons (rp_mono e d _ h1) (rpAll_mono e ds _ h2)
end
theorem Cr.up (t : Tr B θ F H θ' F' H') (h : Cr K θ F v c) : Cr K θ' F' v c := by
  cases c with
  | fr d => exact rp_mono t.ex d v h
  | hd i =>
    obtain ⟨a, e, r⟩ := h
    obtain ⟨r', rfl⟩ := t.th
    exact ⟨a, by rw [List.getElem?_append_left (List.getElem?_eq_some_iff.mp e).1]; exact e, r⟩
  | sc ns =>
    obtain ⟨a, e, r⟩ := h
    exact ⟨a, e, same_l t.ex r⟩
theorem SlR.up (t : Tr B θ F H θ' F' H') (h : SlR K θ F σ ss) : SlR K θ' F' σ ss :=
  ⟨h.1, fun i c e => let ⟨v, e1, r⟩ := h.2 i c e; ⟨v, e1, r.up t⟩⟩
theorem paired_mono {α β : Type} {P Q : α → β → Prop} (h : ∀ a b, P a b → Q a b) : ∀ {xs : List α} {ys : List β}, Paired P xs ys → Paired Q xs ys
  | _, _, .nil => .nil
  | _, _, .cons r t => .cons (h _ _ r) (paired_mono h t)
theorem paired_getL {α β : Type} {P : α → β → Prop} : ∀ {xs : List α} {ys : List β} {i : Nat} {b : β}, Paired P xs ys → ys[i]? = some b → ∃ a, xs[i]? = some a ∧ P a b
  | _, _, _, _, .nil, e => by simp at e
  | _, _, 0, _, .cons r _, e => by simp at e; subst e; exact ⟨_, rfl, r⟩
  | _, _, i + 1, b, .cons _ t, e => by
    obtain ⟨a, h1, h2⟩ := paired_getL (i := i) (b := b) t (by simpa using e)
    exact ⟨a, by simpa using h1, h2⟩
theorem paired_len {α β : Type} {P : α → β → Prop} : ∀ {xs : List α} {ys : List β}, Paired P xs ys → xs.length = ys.length
  | _, _, .nil => rfl
  | _, _, .cons _ t => by simp [paired_len t]
theorem paired_app {α β : Type} {P : α → β → Prop} : ∀ {xs xs' : List α} {ys ys' : List β}, Paired P xs ys → Paired P xs' ys' → Paired P (xs ++ xs') (ys ++ ys')
  | _, _, _, _, .nil, h => h
  | _, _, _, _, .cons r t, h => .cons r (paired_app t h)
theorem paired_set {α β : Type} {P : α → β → Prop} {a : α} {b : β} (r : P a b) : ∀ {xs : List α} {ys : List β} (i : Nat), Paired P xs ys → Paired P (xs.set i a) (ys.set i b)
  | _, _, _, .nil => .nil
  | _, _, 0, .cons _ t => .cons r t
  | _, _, i + 1, .cons q t => .cons q (paired_set r i t)
theorem paired_take {α β : Type} {P : α → β → Prop} : ∀ {xs : List α} {ys : List β} (i : Nat), Paired P xs ys → Paired P (xs.take i) (ys.take i)
  | _, _, 0, _ => .nil
  | _, _, _ + 1, .nil => .nil
  | _, _, i + 1, .cons q t => .cons q (paired_take i t)
theorem paired_drop {α β : Type} {P : α → β → Prop} : ∀ {xs : List α} {ys : List β} (i : Nat), Paired P xs ys → Paired P (xs.drop i) (ys.drop i)
  | _, _, 0, h => h
  | _, _, _ + 1, .nil => .nil
  | _, _, i + 1, .cons q t => paired_drop i t
theorem paired_rpAll : ∀ {vs : List V} {ds : List D}, RpAll K F vs ds → Paired (Cr K θ F) vs (ds.map C.fr)
  | _, _, .nil => .nil
  | _, _, .cons h t => .cons h (paired_rpAll t)
theorem rpAll_paired : ∀ {vs : List V} {ds : List D}, Paired (Cr K θ F) vs (ds.map C.fr) → RpAll K F vs ds
  | _, [], .nil => .nil
  | _, _ :: _, .cons h t => .cons h (rpAll_paired t)
theorem rpAll_get : ∀ {vs : List V} {ds : List D} {i : Nat} {d : D}, RpAll K F vs ds → ds[i]? = some d → ∃ v, vs[i]? = some v ∧ Rp K F v d
  | _, _, _, _, .nil, e => by simp at e
  | _, _, 0, _, .cons r _, e => by simp at e; subst e; exact ⟨_, rfl, r⟩
  | _, _, i + 1, b, .cons _ t, e => by
    obtain ⟨a, h1, h2⟩ := rpAll_get (i := i) (d := b) t (by simpa using e)
    exact ⟨a, by simpa using h1, h2⟩
theorem rpAll_getV : ∀ {vs : List V} {ds : List D} {i : Nat} {v : V}, RpAll K F vs ds → vs[i]? = some v → ∃ d, ds[i]? = some d ∧ Rp K F v d
  | _, _, _, _, .nil, e => by simp at e
  | _, _, 0, _, .cons r _, e => by simp at e; subst e; exact ⟨_, rfl, r⟩
  | _, _, i + 1, b, .cons _ t, e => by
    obtain ⟨a, h1, h2⟩ := rpAll_getV (i := i) (v := b) t (by simpa using e)
    exact ⟨a, by simpa using h1, h2⟩
theorem rpAll_len : ∀ {vs : List V} {ds : List D}, RpAll K F vs ds → vs.length = ds.length
  | _, _, .nil => rfl
  | _, _, .cons _ t => by simp [rpAll_len t]
theorem rpAll_app : ∀ {vs ws : List V} {ds es : List D}, RpAll K F vs ds → RpAll K F ws es → RpAll K F (vs ++ ws) (ds ++ es)
  | _, _, _, _, .nil, h => h
  | _, _, _, _, .cons r t, h => .cons r (rpAll_app t h)
theorem rpAll_take : ∀ {vs : List V} {ds : List D} (n : Nat), RpAll K F vs ds → RpAll K F (vs.take n) (ds.take n)
  | _, _, 0, _ => .nil
  | _, _, _ + 1, .nil => .nil
  | _, _, n + 1, .cons r t => .cons r (rpAll_take n t)
theorem rpAll_drop : ∀ {vs : List V} {ds : List D} (n : Nat), RpAll K F vs ds → RpAll K F (vs.drop n) (ds.drop n)
  | _, _, 0, h => h
  | _, _, _ + 1, .nil => .nil
  | _, _, n + 1, .cons r t => rpAll_drop n t
theorem rpAll_cut {vs : List V} {ds : List D} (h : RpAll K F vs ds) (i j : Nat) : RpAll K F ((vs.drop i).take j) ((ds.drop i).take j) := rpAll_take j (rpAll_drop i h)

/-! ### the table's moves -/
theorem Mo.there {a : Addr} {m : MO} (h : Mo K θ F H a m) (ex : Same F H) : H a ≠ none := by
  intro z
  cases m with
  | lst cs => obtain ⟨_, vs, e, _⟩ := h; rw [z] at e; cases e
  | frz d => obtain ⟨⟨o, e⟩, _⟩ := h; have := ex _ _ e; rw [z] at this; cases this
  | ins c fs => obtain ⟨_, dx, vs, e, _⟩ := h; rw [z] at e; cases e
  | dk kvs => obtain ⟨_, vs, e, _⟩ := h; rw [z] at e; cases e
theorem Ga.there (g : Ga K B θ own F H) {i : Nat} {a : Addr} (h : θ[i]? = some a) : H a ≠ none := by
  have hi : i < own.length := by rw [← g.len]; exact (List.getElem?_eq_some_iff.mp h).1
  exact (g.mo i a own[i] h (List.getElem?_eq_getElem hi)).there g.ex
theorem Ga.fresh (g : Ga K B θ own F H) {p : Addr} (h : H p = none) : p ∉ θ ∧ F p = none ∧ ¬ B p := by
  refine ⟨fun hp => ?_, g.ex.free h, fun b => (g.out p b).2.1 h⟩
  obtain ⟨i, hi⟩ := List.getElem?_of_mem hp
  exact g.there hi h
theorem Mo.up {a : Addr} {m : MO} (h : Mo K θ F H a m) (t : Tr B θ F H θ' F' H') (k : F a = none → F' a = none ∧ H' a = H a) : Mo K θ' F' H' a m := by
  cases m with
  | lst cs =>
    obtain ⟨hn, vs, e, r⟩ := h
    exact ⟨(k hn).1, vs, by rw [(k hn).2]; exact e, paired_mono (fun _ _ z => z.up t) r⟩
  | frz d =>
    obtain ⟨⟨o, e⟩, r⟩ := h
    exact ⟨⟨o, t.ex _ _ e⟩, rp_mono t.ex d _ r⟩
  | ins c fs =>
    obtain ⟨hn, dx, vs, e, r⟩ := h
    exact ⟨(k hn).1, dx, vs, by rw [(k hn).2]; exact e, paired_mono (fun _ _ z => ⟨z.1, z.2.up t⟩) r⟩
  | dk kvs =>
    obtain ⟨hn, vs, e, r⟩ := h
    exact ⟨(k hn).1, vs, by rw [(k hn).2]; exact e, paired_mono (fun _ _ z => ⟨z.1, z.2.up t⟩) r⟩
/-- a new frozen object -/
theorem Ga.newF (g : Ga K B θ own F H) {p : Addr} {o : HO} (h : H p = none) : Ga K B θ own (upd F p o) (upd H p o) ∧ Tr B θ F H θ (upd F p o) (upd H p o) := by
  obtain ⟨h1, h2, h3⟩ := g.fresh h
  have t : Tr B θ F H θ (upd F p o) (upd H p o) := ⟨⟨[], (List.append_nil _).symm⟩, fun b u e => by rw [upd_ne (ne_of_none e h2)]; exact e, fun b hb => upd_ne fun z => h3 (z ▸ hb)⟩
  refine ⟨⟨g.len, g.nd, fun b u e => ?_, fun b hb => ?_, fun i a m e1 e2 => ?_, g.cl⟩, t⟩
  · by_cases z : b = p
    · subst z; rw [upd_same] at e ⊢; exact e
    · rw [upd_ne z] at e ⊢; exact g.ex b u e
  · have z : b ≠ p := fun z => h3 (z ▸ hb)
    rw [upd_ne z, upd_ne z]
    exact g.out b hb
  · have z : a ≠ p := fun z => h1 (z ▸ List.mem_of_getElem? e1)
    exact (g.mo i a m e1 e2).up t fun hn => ⟨by rw [upd_ne z]; exact hn, upd_ne z⟩
theorem get_app {α : Type} {xs : List α} {x : α} {i : Nat} {y : α} (h : (xs ++ [x])[i]? = some y) : (i < xs.length ∧ xs[i]? = some y) ∨ (i = xs.length ∧ y = x) := by
  by_cases hi : i < xs.length
  · rw [List.getElem?_append_left hi] at h
    exact .inl ⟨hi, h⟩
  · rw [List.getElem?_append_right (by omega)] at h
    have : i - xs.length = 0 := by
      have := (List.getElem?_eq_some_iff.mp h).1
      simp at this
      omega
    rw [this] at h
    exact .inr ⟨by omega, by simpa using h.symm⟩
theorem Cl.app {own : Ts} {m : MO} (h : Cl own) (hm : ∀ j ∈ m.refs, j < own.length + 1) : Cl (own ++ [m]) := fun x hx j hj => by
  rw [List.length_append]
  rcases List.mem_append.mp hx with hx | hx
  · exact Nat.lt_of_lt_of_le (h x hx j hj) (Nat.le_add_right _ _)
  · have e : x = m := by simpa using hx
    subst e
    exact hm j hj
theorem Cl.set {own : Ts} {m : MO} {i : Nat} (h : Cl own) (hm : ∀ j ∈ m.refs, j < own.length) : Cl (own.set i m) := fun x hx j hj => by
  rw [List.length_set]
  rcases List.mem_or_eq_of_mem_set hx with hx | rfl
  · exact h x hx j hj
  · exact hm j hj
theorem Cr.refs (h : Cr K θ F v c) : ∀ j ∈ c.refs, j < θ.length := fun j hj => by
  cases c with
  | fr d => cases hj
  | hd i =>
    obtain ⟨a, e, _⟩ := h
    have : j = i := by simpa [C.refs] using hj
    subst this
    exact (List.getElem?_eq_some_iff.mp e).1
  | sc ns => cases hj
theorem refs_of {vs : List V} : ∀ {vs : List V} {cs : List C}, Paired (Cr K θ F) vs cs → ∀ j ∈ cs.flatMap C.refs, j < θ.length
  | _, _, .nil, j, hj => by cases hj
  | _, _, .cons r t, j, hj => by
    rw [List.flatMap_cons] at hj
    rcases List.mem_append.mp hj with hj | hj
    · exact r.refs j hj
    · exact refs_of (vs := vs) t j hj
theorem refs_of2 {κ : Type} : ∀ {vs : List (κ × V)} {cs : List (κ × C)}, Paired (fun (p : κ × V) (q : κ × C) => p.1 = q.1 ∧ Cr K θ F p.2 q.2) vs cs → ∀ j ∈ cs.flatMap (fun p => p.2.refs), j < θ.length
  | _, _, .nil, j, hj => by cases hj
  | _, _, .cons r t, j, hj => by
    rw [List.flatMap_cons] at hj
    rcases List.mem_append.mp hj with hj | hj
    · exact r.2.refs j hj
    · exact refs_of2 t j hj
theorem Mo.refs {a : Addr} {m : MO} (h : Mo K θ F H a m) : ∀ j ∈ m.refs, j < θ.length := by
  cases m with
  | lst cs => obtain ⟨_, vs, _, r⟩ := h; exact refs_of (vs := vs) r
  | frz d => intro j hj; cases hj
  | ins c fs => obtain ⟨_, dx, vs, _, r⟩ := h; exact refs_of2 r
  | dk kvs => obtain ⟨_, vs, _, r⟩ := h; exact refs_of2 r
/-- a new owned object: o stands at p -/
theorem Ga.newH (g : Ga K B θ own F H) {p : Addr} {o : HO} {m : MO} (h : H p = none) (hm : F p = none → Mo K θ F (upd H p o) p m) (hd : ∀ d, m ≠ .frz d) :
    Ga K B (θ ++ [p]) (own ++ [m]) F (upd H p o) ∧ Tr B θ F H (θ ++ [p]) F (upd H p o) := by
  obtain ⟨h1, h2, h3⟩ := g.fresh h
  have t : Tr B θ F H (θ ++ [p]) F (upd H p o) := ⟨⟨[p], rfl⟩, Same.refl _, fun b hb => upd_ne fun z => h3 (z ▸ hb)⟩
  have t2 : Tr (fun _ => False) θ F (upd H p o) (θ ++ [p]) F (upd H p o) := ⟨⟨[p], rfl⟩, Same.refl _, fun b hb => rfl⟩
  refine ⟨⟨by simp [g.len], ?_, fun b u e => ?_, fun b hb => ?_, fun i a m' e1 e2 => ?_, g.cl.app fun j hj => ?_⟩, t⟩
  · rw [List.nodup_append]
    refine ⟨g.nd, by simp, fun a ha b hb => ?_⟩
    have : b = p := by simpa using hb
    subst this
    exact fun z => h1 (z ▸ ha)
  · rw [upd_ne (ne_of_none e h2)]; exact g.ex b u e
  · have z : b ≠ p := fun z => h3 (z ▸ hb)
    obtain ⟨q1, q2, q3⟩ := g.out b hb
    refine ⟨q1, by rw [upd_ne z]; exact q2, fun hm => ?_⟩
    rcases List.mem_append.mp hm with hm | hm
    · exact q3 hm
    · exact z (by simpa using hm)
  · rcases get_app e1 with ⟨hi, e1⟩ | ⟨hi, rfl⟩
    · rw [List.getElem?_append_left (by rw [← g.len]; exact hi)] at e2
      have z : a ≠ p := fun z => h1 (z ▸ List.mem_of_getElem? e1)
      exact (g.mo i a m' e1 e2).up t fun hn => ⟨hn, upd_ne z⟩
    · rw [hi, g.len, List.getElem?_append_right (Nat.le_refl _)] at e2
      have e3 : m = m' := by simpa using e2
      subst e3
      exact (hm h2).up t2 fun hn => ⟨hn, rfl⟩
  · have := (hm h2).refs j hj
    rw [← g.len]
    omega
/-- an owned object is written -/
theorem Ga.write (g : Ga K B θ own F H) {i : Nat} {a : Addr} {o : HO} {m : MO} (ha : θ[i]? = some a) (hn : F a = none) (hm : Mo K θ F (upd H a o) a m) :
    Ga K B θ (own.set i m) F (upd H a o) ∧ Tr B θ F H θ F (upd H a o) := by
  have hB : ¬ B a := fun hb => (g.out a hb).2.2 (List.mem_of_getElem? ha)
  have t : Tr B θ F H θ F (upd H a o) := ⟨⟨[], (List.append_nil _).symm⟩, Same.refl _, fun b hb => upd_ne fun z => hB (z ▸ hb)⟩
  refine ⟨⟨by simp [g.len], g.nd, fun b u e => ?_, fun b hb => ?_, fun j b m' e1 e2 => ?_, g.cl.set fun j hj => ?_⟩, t⟩
  · rw [upd_ne (ne_of_none e hn)]; exact g.ex b u e
  · have z : b ≠ a := fun z => hB (z ▸ hb)
    obtain ⟨q1, q2, q3⟩ := g.out b hb
    exact ⟨q1, by rw [upd_ne z]; exact q2, q3⟩
  · by_cases hj : j = i
    · subst hj
      rw [ha] at e1; cases e1
      have hi : j < own.length := by rw [← g.len]; exact (List.getElem?_eq_some_iff.mp ha).1
      rw [List.getElem?_set_self hi] at e2
      cases e2
      exact hm
    · rw [List.getElem?_set_ne (Ne.symm hj)] at e2
      have z : b ≠ a := fun z => by
        subst z
        have h1 := List.getElem?_eq_some_iff.mp e1
        have h2 := List.getElem?_eq_some_iff.mp ha
        exact hj ((List.getElem_inj g.nd).mp (h1.2.trans h2.2.symm))
      exact (g.mo j b m' e1 e2).up t fun hn => ⟨hn, upd_ne z⟩
  · have := hm.refs j hj
    rw [← g.len]
    exact this
/-- an owned list of frozen data becomes frozen -/
theorem Ga.freeze (g : Ga K B θ own F H) {i : Nat} {a : Addr} {ds : List D} (ha : θ[i]? = some a) (hm : own[i]? = some (.lst (ds.map C.fr))) :
    ∃ F', Ga K B θ (own.set i (.frz (.list ds))) F' H ∧ Tr B θ F H θ F' H ∧ Rp K F' (.ref a) (.list ds) := by
  obtain ⟨hn, vs, e, r⟩ := g.mo i a _ ha hm
  have hB : ¬ B a := fun hb => (g.out a hb).2.2 (List.mem_of_getElem? ha)
  have sF : Same F (upd F a (.lst vs)) := fun b u q => by rw [upd_ne (ne_of_none q hn)]; exact q
  have t : Tr B θ F H θ (upd F a (.lst vs)) H := ⟨⟨[], (List.append_nil _).symm⟩, sF, fun b hb => rfl⟩
  have hd : Rp K (upd F a (.lst vs)) (.ref a) (.list ds) := .lst upd_same (rpAll_mono sF ds vs (rpAll_paired r))
  refine ⟨upd F a (.lst vs), ⟨by simp [g.len], g.nd, fun b u q => ?_, fun b hb => ?_, fun j b m' e1 e2 => ?_, g.cl.set fun j hj => by cases hj⟩, t, hd⟩
  · by_cases z : b = a
    · subst z; rw [upd_same] at q; cases q; exact e
    · rw [upd_ne z] at q; exact g.ex b u q
  · have z : b ≠ a := fun z => hB (z ▸ hb)
    obtain ⟨q1, q2, q3⟩ := g.out b hb
    exact ⟨by rw [upd_ne z]; exact q1, q2, q3⟩
  · by_cases hj : j = i
    · subst hj
      rw [ha] at e1; cases e1
      have hi : j < own.length := by rw [← g.len]; exact (List.getElem?_eq_some_iff.mp ha).1
      rw [List.getElem?_set_self hi] at e2
      cases e2
      exact ⟨⟨_, upd_same⟩, hd⟩
    · rw [List.getElem?_set_ne (Ne.symm hj)] at e2
      have z : b ≠ a := fun z => by
        subst z
        have h1 := List.getElem?_eq_some_iff.mp e1
        have h2 := List.getElem?_eq_some_iff.mp ha
        exact hj ((List.getElem_inj g.nd).mp (h1.2.trans h2.2.symm))
      exact (g.mo j b m' e1 e2).up t fun q => ⟨by rw [upd_ne z]; exact q, rfl⟩
/-- the table's tail is forgotten -/
theorem Ga.take (g : Ga K B θ own F H) {n : Nat} (hc : Cl (own.take n)) : Ga K B (θ.take n) (own.take n) F H := by
  refine ⟨by simp [g.len], g.nd.sublist (List.take_sublist _ _), g.ex, fun b hb => ?_, fun i a m e1 e2 => ?_, hc⟩
  · obtain ⟨q1, q2, q3⟩ := g.out b hb
    exact ⟨q1, q2, fun h => q3 (List.mem_of_mem_take h)⟩
  · have hi : i < n := by
      have := (List.getElem?_eq_some_iff.mp e1).1
      rw [List.length_take] at this
      omega
    rw [List.getElem?_take_of_lt hi] at e1 e2
    have h := g.mo i a m e1 e2
    have hr : ∀ j ∈ m.refs, j < n := fun j hj => by
      have := hc m (List.mem_of_getElem? (by rw [List.getElem?_take_of_lt hi]; exact e2)) j hj
      rw [List.length_take] at this
      omega
    have crt : ∀ (v : V) (c : C), (∀ j ∈ c.refs, j < n) → Cr K θ F v c → Cr K (θ.take n) F v c := fun v c hj h => by
      cases c with
      | fr d => exact h
      | hd k =>
        obtain ⟨b, e, r⟩ := h
        exact ⟨b, by rw [List.getElem?_take_of_lt (hj k (by simp [C.refs]))]; exact e, r⟩
      | sc ns => exact h
    have pl : ∀ {vs : List V} {cs : List C}, (∀ j ∈ cs.flatMap C.refs, j < n) → Paired (Cr K θ F) vs cs → Paired (Cr K (θ.take n) F) vs cs := by
      intro vs cs hj r
      induction r with
      | nil => exact .nil
      | cons r t ih => exact .cons (crt _ _ (fun j q => hj j (by rw [List.flatMap_cons]; exact List.mem_append_left _ q)) r) (ih fun j q => hj j (by rw [List.flatMap_cons]; exact List.mem_append_right _ q))
    have pl2 : ∀ {κ : Type} {vs : List (κ × V)} {cs : List (κ × C)}, (∀ j ∈ cs.flatMap (fun p => p.2.refs), j < n) → Paired (fun (p : κ × V) (q : κ × C) => p.1 = q.1 ∧ Cr K θ F p.2 q.2) vs cs → Paired (fun (p : κ × V) (q : κ × C) => p.1 = q.1 ∧ Cr K (θ.take n) F p.2 q.2) vs cs := by
      intro κ vs cs hj r
      induction r with
      | nil => exact .nil
      | cons r t ih => exact .cons ⟨r.1, crt _ _ (fun j q => hj j (by rw [List.flatMap_cons]; exact List.mem_append_left _ q)) r.2⟩ (ih fun j q => hj j (by rw [List.flatMap_cons]; exact List.mem_append_right _ q))
    cases m with
    | lst cs => obtain ⟨hn, vs, e, r⟩ := h; exact ⟨hn, vs, e, pl hr r⟩
    | frz d => exact h
    | ins c fs => obtain ⟨hn, dx, vs, e, r⟩ := h; exact ⟨hn, dx, vs, e, pl2 hr r⟩
    | dk kvs => obtain ⟨hn, vs, e, r⟩ := h; exact ⟨hn, vs, e, pl2 hr r⟩
end
end Zd

/-! Zd2: what an expression gives, at the level of data. -/
namespace Zd
open PySem L2

abbrev KC := C → Ts → Prop
abbrev WE := Sl → Ts → KC → Prop
abbrev WT := Sl → Ts → (Bool → Ts → Prop) → Prop
abbrev WA := Sl → Ts → (List C → Ts → Prop) → Prop
abbrev F1 := C → Ts → KC → Prop
abbrev F2 := C → C → Ts → KC → Prop
abbrev FA := List C → Ts → KC → Prop

section
variable (K : PySem.W.Frag)
/-- behind: a later state, a value for the cell -/
def Bk (B : Addr → Prop) (θ : List Addr) (F H : Hp) (Q : KC) (Qv : VK) : Prop :=
  ∀ θ' own' F' H' v c, Ga K B θ' own' F' H' → Tr B θ F H θ' F' H' → Cr K θ' F' v c → Q c own' → Qv v H'
def BkT (B : Addr → Prop) (θ : List Addr) (F H : Hp) (Q : Bool → Ts → Prop) (Qv : Bool → Hp → Prop) : Prop :=
  ∀ θ' own' F' H' b, Ga K B θ' own' F' H' → Tr B θ F H θ' F' H' → Q b own' → Qv b H'
def BkA (B : Addr → Prop) (θ : List Addr) (F H : Hp) (Q : List C → Ts → Prop) (Qv : List V → Hp → Prop) : Prop :=
  ∀ θ' own' F' H' vs cs, Ga K B θ' own' F' H' → Tr B θ F H θ' F' H' → Paired (Cr K θ' F') vs cs → Q cs own' → Qv vs H'
def SE (t : TE) (w : WE) : Prop := ∀ ss own Q, w ss own Q → ∀ B θ F H σ, Ga K B θ own F H → SlR K θ F σ ss → ∀ Qv : VK, Bk K B θ F H Q Qv → t σ H Qv
def ST (t : TT) (w : WT) : Prop := ∀ ss own Q, w ss own Q → ∀ B θ F H σ, Ga K B θ own F H → SlR K θ F σ ss → ∀ Qv, BkT K B θ F H Q Qv → t σ H Qv
def SA (t : TA) (w : WA) : Prop := ∀ ss own Q, w ss own Q → ∀ B θ F H σ, Ga K B θ own F H → SlR K θ F σ ss → ∀ Qv, BkA K B θ F H Q Qv → t σ H Qv
def S1 (r : V → Hp → VK → Prop) (f : F1) : Prop := ∀ c own Q, f c own Q → ∀ B θ F H v, Ga K B θ own F H → Cr K θ F v c → ∀ Qv : VK, Bk K B θ F H Q Qv → r v H Qv
def S2 (r : R2) (f : F2) : Prop := ∀ c d own Q, f c d own Q → ∀ B θ F H v u, Ga K B θ own F H → Cr K θ F v c → Cr K θ F u d → ∀ Qv : VK, Bk K B θ F H Q Qv → r v u H Qv
def SN (r : List V → Hp → VK → Prop) (f : FA) : Prop := ∀ cs own Q, f cs own Q → ∀ B θ F H vs, Ga K B θ own F H → Paired (Cr K θ F) vs cs → ∀ Qv : VK, Bk K B θ F H Q Qv → r vs H Qv
end
structure AE (X : Cx) (e : Expr) (t : TE) (w : WE) : Prop where
  p : PE X e t
  s : SE X.K t w
structure AT (X : Cx) (e : Expr) (t : TT) (w : WT) : Prop where
  p : PT X e t
  s : ST X.K t w
structure AW (X : Cx) (e : Expr) (t : TT) (w : WT) : Prop where
  p : PW X e t
  s : ST X.K t w
structure AA (X : Cx) (es : List Expr) (t : TA) (w : WA) : Prop where
  p : PA X es t
  s : SA X.K t w
theorem AW.at {X : Cx} {e : Expr} {t : TT} {w : WT} (h : AW X e t w) : AT X e t w := ⟨h.p.pt, h.s⟩

section
variable {K : PySem.W.Frag} {B : Addr → Prop} {θ θ1 : List Addr} {own : Ts} {F F1 H H1 : Hp} {Q : KC} {Qv : VK}
theorem Bk.up (t : Tr B θ F H θ1 F1 H1) (h : Bk K B θ F H Q Qv) : Bk K B θ1 F1 H1 Q Qv := fun θ' own' F' H' v c g t' r q => h θ' own' F' H' v c g (t.trans t') r q
theorem BkT.up {Q : Bool → Ts → Prop} {Qv : Bool → Hp → Prop} (t : Tr B θ F H θ1 F1 H1) (h : BkT K B θ F H Q Qv) : BkT K B θ1 F1 H1 Q Qv := fun θ' own' F' H' v g t' q => h θ' own' F' H' v g (t.trans t') q
theorem BkA.up {Q : List C → Ts → Prop} {Qv : List V → Hp → Prop} (t : Tr B θ F H θ1 F1 H1) (h : BkA K B θ F H Q Qv) : BkA K B θ1 F1 H1 Q Qv := fun θ' own' F' H' v c g t' r q => h θ' own' F' H' v c g (t.trans t') r q
theorem Bk.here {v : V} {c : C} (h : Bk K B θ F H Q Qv) (g : Ga K B θ own F H) (r : Cr K θ F v c) (q : Q c own) : Qv v H := h θ own F H v c g Tr.refl r q
/-- a new frozen object as the answer -/
theorem Bk.new {p : Addr} {o : HO} {d : D} (h : Bk K B θ F H Q Qv) (g : Ga K B θ own F H) (hp : H p = none) (q : Q (.fr d) own) (r : ∀ F', Same F F' → F' p = some o → Rp K F' (.ref p) d) : Qv (.ref p) (upd H p o) := by
  obtain ⟨g1, t1⟩ := g.newF (o := o) hp
  exact h θ own _ _ _ (.fr d) g1 t1 (r _ t1.ex upd_same) q
theorem Bk.newH {p : Addr} {vs : List V} {cs : List C} (h : Bk K B θ F H Q Qv) (g : Ga K B θ own F H) (hp : H p = none) (r : Paired (Cr K θ F) vs cs) (q : Q (.hd own.length) (own ++ [.lst cs])) : Qv (.ref p) (upd H p (.lst vs)) := by
  obtain ⟨g1, t1⟩ := g.newH (o := .lst vs) (m := .lst cs) hp (fun hn => ⟨hn, vs, upd_same, r⟩) (fun d z => by cases z)
  refine h _ _ _ _ _ (.hd own.length) g1 t1 ⟨p, ?_, rfl⟩ q
  rw [← g.len, List.getElem?_append_right (Nat.le_refl _), Nat.sub_self]
  rfl
end

/-! ### names, constants -/
/-- what a cell is now -/
def res (own : Ts) : C → C
  | .hd h => match own[h]? with
    | some (.frz d) => .fr d
    | _ => .hd h
  | c => c
def frs : List C → Option (List D)
  | [] => some []
  | .fr d :: cs => (frs cs).map (d :: ·)
  | _ :: _ => none
theorem frs_map : ∀ (ds : List D), frs (ds.map C.fr) = some ds
  | [] => rfl
  | d :: ds => by rw [List.map_cons, frs, frs_map ds]; rfl
theorem of_frs : ∀ {cs : List C} {ds : List D}, frs cs = some ds → cs = ds.map C.fr
  | [], ds, h => by cases h; rfl
  | .fr d :: cs, ds, h => by
    rw [frs] at h
    cases e : frs cs with
    | none => rw [e] at h; cases h
    | some es => rw [e] at h; cases h; rw [List.map_cons, of_frs e]
  | .hd _ :: _, _, h => by cases h
  | .sc _ :: _, _, h => by cases h
def wVar (i : Nat) : WE := fun ss own Q => match ss[i]? with
  | some (some c) => Q (res own c) own
  | _ => False
/-- an owned list of data is read as a value: it is frozen -/
def frzC (own : Ts) (Q : KC) : C → Prop
  | .hd h => match own[h]? with
    | some (.lst cs) => (match frs cs with
      | some ds => Q (.fr (.list ds)) (own.set h (.frz (.list ds)))
      | none => Q (.hd h) own)
    | _ => Q (.hd h) own
  | c => Q c own
def wFrz (w : WE) : WE := fun ss own Q => w ss own fun c own1 => frzC own1 Q c
def wC (d : D) : WE := fun _ own Q => Q (.fr d) own
section
variable {K : PySem.W.Frag} {t : TE} {w : WE}
theorem Cr.res {B : Addr → Prop} {θ : List Addr} {own : Ts} {F H : Hp} {v : V} {c : C} (g : Ga K B θ own F H) (r : Cr K θ F v c) : Cr K θ F v (res own c) := by
  cases c with
  | fr d => exact r
  | sc ns => exact r
  | hd h =>
    cases e : own[h]? with
    | none => simp only [Zd.res, e]; exact r
    | some m =>
      cases m with
      | frz d =>
        simp only [Zd.res, e]
        obtain ⟨a, ha, rfl⟩ := r
        exact (g.mo h a _ ha e).2
      | _ => simp only [Zd.res, e]; exact r
theorem se_var {i : Nat} : SE K (tVar i) (wVar i) := by
  intro ss own Q h B θ F H σ g s Qv k
  unfold wVar at h
  cases e : ss[i]? with
  | none => rw [e] at h; exact h.elim
  | some o =>
    cases o with
    | none => rw [e] at h; exact h.elim
    | some c =>
      rw [e] at h
      obtain ⟨v, e1, r⟩ := s.2 i c e
      exact ⟨v, e1, k.here g (r.res g) h⟩
theorem se_c {v : V} {d : D} (hd : ∀ H, Rp K H v d) : SE K (tC v) (wC d) := fun ss own Q h B θ F H σ g s Qv k => k.here (c := .fr d) g (hd F) h
theorem se_frz (h : SE K t w) : SE K t (wFrz w) := by
  intro ss own Q hw B θ F H σ g s Qv k
  refine h ss own _ hw B θ F H σ g s Qv fun θ1 own1 F1 H1 v c g1 t1 r q => ?_
  cases c with
  | fr d => exact k _ _ _ _ _ _ g1 t1 r q
  | sc ns => exact k _ _ _ _ _ _ g1 t1 r q
  | hd i =>
    cases e : own1[i]? with
    | none => simp only [frzC, e] at q; exact k _ _ _ _ _ _ g1 t1 r q
    | some m =>
      cases m with
      | lst cs =>
        cases e2 : frs cs with
        | none => simp only [frzC, e, e2] at q; exact k _ _ _ _ _ _ g1 t1 r q
        | some ds =>
          simp only [frzC, e, e2] at q
          obtain ⟨a, ha, rfl⟩ := r
          obtain ⟨F2, g2, t2, r2⟩ := g1.freeze ha (by rw [e, of_frs e2])
          exact k _ _ _ _ _ (.fr (.list ds)) g2 (t1.trans t2) r2 q
      | _ => simp only [frzC, e] at q; exact k _ _ _ _ _ _ g1 t1 r q
end

/-! ### operators -/
def wOp (f : F2) (wa wb : WE) : WE := fun ss own Q => wa ss own fun c o1 => wb ss o1 fun d o2 => f c d o2 Q
def wUn (f : F1) (wa : WE) : WE := fun ss own Q => wa ss own fun c o1 => f c o1 Q
section
variable {K : PySem.W.Frag} {ta tb tc : TE} {wa wb wc : WE} {r r' : R2} {f f' : F2}
theorem se_op (ha : SE K ta wa) (hb : SE K tb wb) (hr : S2 K r f) : SE K (tOp r ta tb) (wOp f wa wb) := by
  intro ss own Q hw B θ F H σ g s Qv k
  refine ha ss own _ hw B θ F H σ g s _ fun θ1 own1 F1 H1 v c g1 t1 r1 q1 => ?_
  refine hb ss own1 _ q1 B θ1 F1 H1 σ g1 (s.up t1) _ fun θ2 own2 F2 H2 u d g2 t2 r2 q2 => ?_
  exact hr c d own2 Q q2 B θ2 F2 H2 v u g2 (r1.up t2) r2 Qv (k.up (t1.trans t2))
theorem se_un {r : V → Hp → VK → Prop} {f : F1} (ha : SE K ta wa) (hr : S1 K r f) : SE K (tUn r ta) (wUn f wa) := by
  intro ss own Q hw B θ F H σ g s Qv k
  refine ha ss own _ hw B θ F H σ g s _ fun θ1 own1 F1 H1 v c g1 t1 r1 q1 => ?_
  exact hr c own1 Q q1 B θ1 F1 H1 v g1 r1 Qv (k.up t1)
/-- ints -/
def fI (f : Int → Int → D) : F2 := fun c d own Q => match c, d with
  | .fr (.int i), .fr (.int j) => Q (.fr (f i j)) own
  | _, _ => False
def fIC (P : Int → Int → Prop) (f : Int → Int → D) : F2 := fun c d own Q => match c, d with
  | .fr (.int i), .fr (.int j) => P i j ∧ Q (.fr (f i j)) own
  | _, _ => False
theorem cr_int {θ : List Addr} {F : Hp} {v : V} {i : Int} (r : Cr K θ F v (.fr (.int i))) : v = .int i := by
  cases r with | int i => rfl
theorem cr_str {θ : List Addr} {F : Hp} {v : V} {i : Str} (r : Cr K θ F v (.fr (.str i))) : v = .str i := by
  cases r with | str i => rfl
theorem cr_bl {θ : List Addr} {F : Hp} {v : V} {i : Bool} (r : Cr K θ F v (.fr (.bool i))) : v = .bl i := by
  cases r with | bl i => rfl
theorem cr_tup {θ : List Addr} {F : Hp} {v : V} {ds : List D} (r : Cr K θ F v (.fr (.tuple ds))) : ∃ a xs, v = .ref a ∧ SqT K F a xs ∧ RpAll K F xs ds := by
  cases r with | tup h1 h2 => exact ⟨_, _, rfl, h1, h2⟩
theorem cr_lst {θ : List Addr} {F : Hp} {v : V} {ds : List D} (r : Cr K θ F v (.fr (.list ds))) : ∃ a xs, v = .ref a ∧ F a = some (.lst xs) ∧ RpAll K F xs ds := by
  cases r with | lst h1 h2 => exact ⟨_, _, rfl, h1, h2⟩
theorem s2_I0 {g : Int → Int → V} {f : Int → Int → D} (h : ∀ i j H, Rp K H (g i j) (f i j)) : S2 K (rI0 g) (fI f) := by
  intro c d own Q hq B θ F H v u gg r1 r2 Qv k
  unfold fI at hq
  split at hq
  · rename_i i j
    cases cr_int r1
    cases cr_int r2
    exact ⟨i, j, rfl, rfl, k.here (c := .fr (f i j)) gg (h i j F) hq⟩
  · exact hq.elim
theorem s2_I {P : Int → Int → Prop} {g : Int → Int → V} {f : Int → Int → D} (h : ∀ i j H, Rp K H (g i j) (f i j)) : S2 K (rI P g) (fIC P f) := by
  intro c d own Q hq B θ F H v u gg r1 r2 Qv k
  unfold fIC at hq
  split at hq
  · rename_i i j
    cases cr_int r1
    cases cr_int r2
    exact ⟨i, j, rfl, rfl, hq.1, k.here (c := .fr (f i j)) gg (h i j F) hq.2⟩
  · exact hq.elim
theorem s1_neg : S1 K (rU fun i => .int (-i)) (fun c own Q => match c with | .fr (.int i) => Q (.fr (.int (-i))) own | _ => False) := by
  intro c own Q hq B θ F H v gg r1 Qv k
  split at hq
  · rename_i i
    cases cr_int r1
    exact ⟨i, rfl, k.here (c := .fr (.int (-i))) gg (.int _) hq⟩
  · exact hq.elim
end
/-- the sizes that sequences may have -/
abbrev SZ : Nat := 16777216
theorem szl {n : Nat} (h : n ≤ SZ) : n ≤ sizeLine := by rw [sizeLine_eq]; exact h
theorem szlt {n : Nat} (h : n < SZ) : n < sizeLine := by rw [sizeLine_eq]; exact h
/-- + : ints, texts, tuples, lists -/
def fAdd : F2 := fun c d own Q => match c, d with
  | .fr (.int i), .fr (.int j) => Q (.fr (.int (i + j))) own
  | .fr (.str x), .fr (.str y) => x.length + y.length ≤ SZ ∧ Q (.fr (.str (x ++ y))) own
  | .fr (.tuple x), .fr (.tuple y) => x.length + y.length ≤ SZ ∧ Q (.fr (.tuple (x ++ y))) own
  | .fr (.list x), .fr (.list y) => x.length + y.length ≤ SZ ∧ Q (.fr (.list (x ++ y))) own
  | _, _ => False
def rAddStr : R2 := fun x y H Q => ∃ i j, x = .str i ∧ y = .str j ∧ i.length + j.length ≤ sizeLine ∧ Q (.str (i ++ j)) H
def rAddAll (K : PySem.W.Frag) : R2 := fun x y H Q => rI0 (fun i j => .int (i + j)) x y H Q ∨ rAddStr x y H Q ∨ rCatA K x y H Q ∨ rCat x y H Q
theorem op_addAll {X : Cx} : OpR X (binaryOp .Add) (rAddAll X.K) := op_add.or ((show OpR X (binaryOp .Add) rAddStr from op_add_str).or (op_catA.or op_cat))
section
variable {K : PySem.W.Frag}
theorem s2_add : S2 K (rAddAll K) fAdd := by
  intro c d own Q hq B θ F H v u gg r1 r2 Qv k
  unfold fAdd at hq
  split at hq
  · rename_i i j
    cases cr_int r1
    cases cr_int r2
    exact .inl ⟨i, j, rfl, rfl, k.here (c := .fr (.int (i + j))) gg (.int _) hq⟩
  · rename_i x y
    cases cr_str r1
    cases cr_str r2
    exact .inr (.inl ⟨x, y, rfl, rfl, szl hq.1, k.here (c := .fr (.str (x ++ y))) gg (.str _) hq.2⟩)
  · rename_i x y
    obtain ⟨a, xs, rfl, h1, h2⟩ := cr_tup r1
    obtain ⟨b, ys, rfl, h3, h4⟩ := cr_tup r2
    have l1 := rpAll_len h2
    have l2 := rpAll_len h4
    refine .inr (.inr (.inl ⟨a, b, xs, ys, rfl, rfl, same_t gg.ex h1, same_t gg.ex h3, by rw [l1, l2]; exact szl hq.1, fun e => ?_, fun _ e => ?_, fun _ _ p hp => ?_⟩))
    · subst e
      cases h2
      exact k.here (c := .fr (.tuple ([] ++ y))) gg (.tup h3 h4) hq.2
    · subst e
      cases h4
      exact k.here (c := .fr (.tuple (x ++ []))) gg (by rw [List.append_nil]; exact .tup h1 h2) hq.2
    · exact k.new (d := .tuple (x ++ y)) gg hp hq.2 fun F' e hF => .tup (SqT.of hF) (rpAll_app (rpAll_mono e _ _ h2) (rpAll_mono e _ _ h4))
  · rename_i x y
    obtain ⟨a, xs, rfl, h1, h2⟩ := cr_lst r1
    obtain ⟨b, ys, rfl, h3, h4⟩ := cr_lst r2
    have l1 := rpAll_len h2
    have l2 := rpAll_len h4
    refine .inr (.inr (.inr ⟨a, b, xs, ys, rfl, rfl, gg.ex _ _ h1, gg.ex _ _ h3, by rw [l1, l2]; exact szl hq.1, fun p hp => ?_⟩))
    exact k.new (d := .list (x ++ y)) gg hp hq.2 fun F' e hF => .lst hF (rpAll_app (rpAll_mono e _ _ h2) (rpAll_mono e _ _ h4))
  · exact hq.elim
/-- == of data -/
def fEq : F2 := fun c d own Q => match c, d with
  | .fr x, .fr y => SeqAt.shaped x = true ∧ SeqAt.shaped y = true ∧ Q (.fr (.bool (PyData.eqv x y))) own
  | _, _ => False
def fNe : F2 := fun c d own Q => match c, d with
  | .fr x, .fr y => SeqAt.shaped x = true ∧ SeqAt.shaped y = true ∧ Q (.fr (.bool (!PyData.eqv x y))) own
  | _, _ => False
theorem s2_eq : S2 K (rEqD K) fEq := by
  intro c d own Q hq B θ F H v u gg r1 r2 Qv k
  unfold fEq at hq
  split at hq
  · rename_i x y
    exact ⟨x, y, Rp.dp x v (rp_mono gg.ex x v r1), Rp.dp y u (rp_mono gg.ex y u r2), hq.1, hq.2.1, k.here (c := .fr (.bool (PyData.eqv x y))) gg (.bl _) hq.2.2⟩
  · exact hq.elim
theorem s2_ne : S2 K (rNeD K) fNe := by
  intro c d own Q hq B θ F H v u gg r1 r2 Qv k
  unfold fNe at hq
  split at hq
  · rename_i x y
    exact ⟨x, y, Rp.dp x v (rp_mono gg.ex x v r1), Rp.dp y u (rp_mono gg.ex y u r2), hq.1, hq.2.1, k.here (c := .fr (.bool (!PyData.eqv x y))) gg (.bl _) hq.2.2⟩
  · exact hq.elim
end

/-! ### subscripts, slices -/
/-- a choice; a call: what follows is hidden from simp -/
class Hd (α : Type) where
  v : α
def ItB (b : Bool) [x : Hd Prop] [y : Hd Prop] : Prop := match b with
  | true => x.v
  | false => y.v
def Itf (b : Bool) (x y : Prop) : Prop := @ItB b ⟨x⟩ ⟨y⟩
theorem itb_t {x y : Hd Prop} : @ItB true x y = x.v := rfl
theorem itb_f {x y : Hd Prop} : @ItB false x y = y.v := rfl
theorem itf {b : Bool} {x y : Prop} (h1 : b = true → x) (h2 : b = false → y) : Itf b x y := by
  cases b with
  | true => exact h1 rfl
  | false => exact h2 rfl
theorem itd' {p : Prop} {i : Decidable p} {x y : Hd Prop} (h1 : p → x.v) (h2 : ¬p → y.v) : @ItB (decide p) x y := by
  by_cases h : p
  · rw [decide_eq_true h]; exact h1 h
  · rw [decide_eq_false h]; exact h2 h
theorem itb {b : Bool} {x y : Hd Prop} (h1 : b = true → x.v) (h2 : b = false → y.v) : @ItB b x y := by
  cases b with
  | true => exact h1 rfl
  | false => exact h2 rfl
theorem itd {p : Prop} {i : Decidable p} {x y : Prop} (h1 : p → x) (h2 : ¬p → y) : Itf (decide p) x y := itf (fun h => h1 (of_decide_eq_true h)) fun h => h2 (of_decide_eq_false h)
/-- it is there, and P of it -/
def OpB {α : Type} (o : Option α) [P : Hd (α → Prop)] : Prop := match o with
  | some x => P.v x
  | none => False
def optP {α : Type} (o : Option α) (P : α → Prop) : Prop := @OpB α o ⟨P⟩
theorem opb_some {α : Type} {x : α} {P : Hd (α → Prop)} : @OpB α (some x) P = P.v x := rfl
theorem opb_of {α : Type} {o : Option α} {x : α} {P : Hd (α → Prop)} (h : o = some x) (k : P.v x) : @OpB α o P := by
  rw [h]
  exact k
theorem optP_some {α : Type} {x : α} {P : α → Prop} : optP (some x) P = P x := rfl
theorem of_mt {α : Type} {o : Option α} {P : α → Prop} (h : optP o P) : ∃ x, o = some x ∧ P x := by
  cases o with
  | none => exact h.elim
  | some x => exact ⟨x, rfl, h⟩
theorem optP_of {α : Type} {o : Option α} {x : α} {P : α → Prop} (e : o = some x) (h : P x) : optP o P := by
  rw [e]
  exact h
/-- the item of a frozen or owned sequence -/
def fIx : F2 := fun c d own Q => match c, d with
  | .fr (.list ds), .fr (.int i) => optP (atI ds i) fun x => Q (.fr x) own
  | .fr (.tuple ds), .fr (.int i) => optP (atI ds i) fun x => Q (.fr x) own
  | .fr (.str z), .fr (.int i) => z.length ≤ SZ ∧ optP (atI z.cps.toList i) fun x => Q (.fr (.str ⟨#[x]⟩)) own
  | .hd h, .fr (.int i) => (match own[h]? with
    | some (.lst cs) => optP (atI cs i) fun x => Q (res own x) own
    | _ => False)
  | _, _ => False
section
variable {K : PySem.W.Frag}
theorem atI_map {α β : Type} {P : α → β → Prop} {xs : List α} {ys : List β} {i : Int} {y : β} (hp : ∀ (j : Nat) b, ys[j]? = some b → ∃ a, xs[j]? = some a ∧ P a b) (hl : xs.length = ys.length) (h : atI ys i = some y) : ∃ x, atI xs i = some x ∧ P x y := by
  unfold atI at h ⊢
  rw [hl]
  cases e : ixN ys.length i with
  | none => rw [e] at h; cases h
  | some j =>
    rw [e] at h
    exact hp j y h
theorem s2_ix : S2 K (rIx K) fIx := by
  intro c d own Q hq B θ F H v u gg r1 r2 Qv k
  unfold fIx at hq
  split at hq
  · rename_i ds i
    obtain ⟨a, xs, rfl, h1, h2⟩ := cr_lst r1
    cases cr_int r2
    obtain ⟨x, hx, q⟩ := of_mt hq
    obtain ⟨y, hy, ry⟩ := atI_map (fun j b e => rpAll_get h2 e) (rpAll_len h2) hx
    exact .inl ⟨a, xs, i, y, rfl, rfl, SqL.of (gg.ex _ _ h1), hy, k.here (c := .fr x) gg ry q⟩
  · rename_i ds i
    obtain ⟨a, xs, rfl, h1, h2⟩ := cr_tup r1
    cases cr_int r2
    obtain ⟨x, hx, q⟩ := of_mt hq
    obtain ⟨y, hy, ry⟩ := atI_map (fun j b e => rpAll_get h2 e) (rpAll_len h2) hx
    exact .inr (.inl ⟨a, xs, i, y, rfl, rfl, same_t gg.ex h1, hy, k.here (c := .fr x) gg ry q⟩)
  · rename_i z i
    cases cr_str r1
    cases cr_int r2
    obtain ⟨hz, hq⟩ := hq
    obtain ⟨x, hx, q⟩ := of_mt hq
    exact .inr (.inr ⟨z, i, x, rfl, rfl, szl hz, hx, k.here (c := .fr (.str ⟨#[x]⟩)) gg (.str _) q⟩)
  · rename_i h i
    obtain ⟨a, ha, rfl⟩ := r1
    cases cr_int r2
    split at hq
    · rename_i cs e
      obtain ⟨_, vs, hv, rv⟩ := gg.mo h a _ ha e
      obtain ⟨x, hx, q⟩ := of_mt hq
      obtain ⟨y, hy, ry⟩ := atI_map (fun j b e => paired_getL rv e) (paired_len rv) hx
      exact .inl ⟨a, vs, i, y, rfl, rfl, SqL.of hv, hy, k.here gg (Cr.res gg ry) q⟩
    · exact hq.elim
  · exact hq.elim
end
abbrev WO := Sl → Ts → (Option Int → Ts → Prop) → Prop
def SO (K : PySem.W.Frag) (t : TO) (w : WO) : Prop := ∀ ss own Q, w ss own Q → ∀ B θ F H σ, Ga K B θ own F H → SlR K θ F σ ss → ∀ Qv : Option Int → Hp → Prop,
  (∀ θ' own' F' H' o, Ga K B θ' own' F' H' → Tr B θ F H θ' F' H' → Q o own' → Qv o H') → t σ H Qv
structure AO (X : Cx) (e : Option Expr) (t : TO) (w : WO) : Prop where
  p : PO X e t
  s : SO X.K t w
def wNoPart : WO := fun _ own Q => Q none own
def wPart (w : WE) : WO := fun ss own Q => w ss own fun c o1 => match c with
  | .fr (.int i) => Q (some i) o1
  | _ => False
/-- the items of ds[lo:hi] -/
def cutD {α : Type} (xs : List α) (lo hi : Option Int) : List α := (xs.drop (HT.sIx xs.length 0 lo)).take (HT.sIx xs.length xs.length hi - HT.sIx xs.length 0 lo)
abbrev FS := C → Option Int → Option Int → Ts → KC → Prop
def fSl : FS := fun c lo hi own Q => match c with
  | .fr (.list ds) => Q (.fr (.list (cutD ds lo hi))) own
  | .fr (.tuple ds) => Q (.fr (.tuple (cutD ds lo hi))) own
  | .fr (.str z) => z.length ≤ SZ ∧ Q (.fr (.str (cutS z lo hi))) own
  | .sc ns => Q (.fr (.list (cutD (ns.map PyData.int) lo hi))) own
  | .hd h => (match own[h]? with
    | some (.lst cs) => (match frs cs with
      | some ds => Q (.fr (.list (cutD ds lo hi))) own
      | none => False)
    | _ => False)
  | _ => False
/-- a new owned list -/
def fSlH : FS := fun c lo hi own Q => match c with
  | .fr (.list ds) => Q (.hd own.length) (own ++ [.lst ((cutD ds lo hi).map C.fr)])
  | .hd h => (match own[h]? with
    | some (.lst cs) => Q (.hd own.length) (own ++ [.lst (cutD cs lo hi)])
    | _ => False)
  | _ => False
end Zd

/-! Zd3: slices, displays, tests, argument lists, built-in calls. -/
namespace Zd
open PySem L2

/-! ### slices -/
def SSl (K : PySem.W.Frag) (r : V → Option Int → Option Int → Hp → VK → Prop) (f : FS) : Prop := ∀ c lo hi own Q, f c lo hi own Q → ∀ B θ F H v, Ga K B θ own F H → Cr K θ F v c → ∀ Qv : VK, Bk K B θ F H Q Qv → r v lo hi H Qv
def wSl (f : FS) (we : WE) (wl wh : WO) : WE := fun ss own Q => we ss own fun c o1 => wl ss o1 fun lo o2 => wh ss o2 fun hi o3 => f c lo hi o3 Q
def rSlAll (K : PySem.W.Frag) : V → Option Int → Option Int → Hp → VK → Prop := fun x lo hi H Q => rSlL K x lo hi H Q ∨ rSlA K x lo hi H Q ∨ rSlS x lo hi H Q
theorem sl_all {X : Cx} : L2.SlR X (rSlAll X.K) := sl_list.or (sl_tupA.or sl_str)
theorem paired_cut {α β : Type} {P : α → β → Prop} {xs : List α} {ys : List β} (h : Paired P xs ys) (lo hi : Option Int) : Paired P ((xs.drop (HT.sIx xs.length 0 lo)).take (HT.sIx xs.length xs.length hi - HT.sIx xs.length 0 lo)) (cutD ys lo hi) := by
  unfold cutD
  rw [paired_len h]
  exact paired_take _ (paired_drop _ h)
theorem ints_rp {K : PySem.W.Frag} {F : Hp} : ∀ (ns : List Int), RpAll K F (ns.map V.int) (ns.map PyData.int)
  | [] => .nil
  | n :: ns => .cons (.int n) (ints_rp ns)
theorem rp_paired {K : PySem.W.Frag} {F : Hp} : ∀ {vs : List V} {ds : List D}, RpAll K F vs ds → Paired (Rp K F) vs ds
  | _, _, .nil => .nil
  | _, _, .cons h t => .cons h (rp_paired t)
theorem paired_rp {K : PySem.W.Frag} {F : Hp} : ∀ {vs : List V} {ds : List D}, Paired (Rp K F) vs ds → RpAll K F vs ds
  | _, _, .nil => .nil
  | _, _, .cons h t => .cons h (paired_rp t)
section
variable {K : PySem.W.Frag} {te : TE} {we : WE} {tl th : TO} {wl wh : WO}
theorem rp_cut {F : Hp} {vs : List V} {ds : List D} (h : RpAll K F vs ds) (lo hi : Option Int) : RpAll K F (cutV vs lo hi) (cutD ds lo hi) := paired_rp (paired_cut (rp_paired h) lo hi)
theorem so_none : SO K tNoPart wNoPart := fun ss own Q h B θ F H σ g s Qv k => k θ own F H none g Tr.refl h
theorem so_some (h : SE K te we) : SO K (tPart te) (wPart we) := by
  intro ss own Q hw B θ F H σ g s Qv k
  refine h ss own _ hw B θ F H σ g s _ fun θ1 own1 F1 H1 v c g1 t1 r1 q1 => ?_
  dsimp only at q1
  split at q1
  · rename_i i
    cases cr_int r1
    exact ⟨i, rfl, k _ _ _ _ _ g1 t1 q1⟩
  · exact q1.elim
theorem se_slice {r : V → Option Int → Option Int → Hp → VK → Prop} {f : FS} (hr : SSl K r f) (h : SE K te we) (hl : SO K tl wl) (hh : SO K th wh) : SE K (tSl r te tl th) (wSl f we wl wh) := by
  intro ss own Q hw B θ F H σ g s Qv k
  refine h ss own _ hw B θ F H σ g s _ fun θ1 own1 F1 H1 v c g1 t1 r1 q1 => ?_
  refine hl ss own1 _ q1 B θ1 F1 H1 σ g1 (s.up t1) _ fun θ2 own2 F2 H2 lo g2 t2 q2 => ?_
  refine hh ss own2 _ q2 B θ2 F2 H2 σ g2 (s.up (t1.trans t2)) _ fun θ3 own3 F3 H3 hi g3 t3 q3 => ?_
  exact hr c lo hi own3 Q q3 B θ3 F3 H3 v g3 (r1.up (t2.trans t3)) Qv (k.up ((t1.trans t2).trans t3))
theorem ss_all : SSl K (rSlAll K) fSl := by
  intro c lo hi own Q hq B θ F H v gg r1 Qv k
  unfold fSl at hq
  split at hq
  · rename_i ds
    obtain ⟨a, xs, rfl, h1, h2⟩ := cr_lst r1
    exact .inl ⟨a, xs, rfl, SqL.of (gg.ex _ _ h1), fun p hp => k.new (d := .list (cutD ds lo hi)) gg hp hq fun F' e hF => .lst hF (rp_cut (rpAll_mono e _ _ h2) lo hi)⟩
  · rename_i ds
    obtain ⟨a, xs, rfl, h1, h2⟩ := cr_tup r1
    refine .inr (.inl ⟨a, xs, rfl, same_t gg.ex h1, fun e => ?_, fun _ p hp => k.new (d := .tuple (cutD ds lo hi)) gg hp hq fun F' e hF => .tup (SqT.of hF) (rp_cut (rpAll_mono e _ _ h2) lo hi)⟩)
    have e2 : cutD ds lo hi = ds := by
      unfold cutD
      rw [← rpAll_len h2, e.1, e.2, List.drop_zero, Nat.sub_zero, rpAll_len h2, List.take_length]
    exact k.here (c := .fr (.tuple (cutD ds lo hi))) gg (by rw [e2]; exact r1) hq
  · rename_i z
    cases cr_str r1
    exact .inr (.inr ⟨z, rfl, szl hq.1, k.here (c := .fr (.str (cutS z lo hi))) gg (.str _) hq.2⟩)
  · rename_i ns
    obtain ⟨a, rfl, h1⟩ := r1
    exact .inl ⟨a, _, rfl, same_l gg.ex h1, fun p hp => k.new (d := .list (cutD (ns.map PyData.int) lo hi)) gg hp hq fun F' e hF => .lst hF (rp_cut (ints_rp ns) lo hi)⟩
  · rename_i h
    obtain ⟨a, ha, rfl⟩ := r1
    split at hq
    · rename_i cs e
      split at hq
      · rename_i ds e2
        obtain ⟨_, vs, hv, rv⟩ := gg.mo h a _ ha e
        rw [of_frs e2] at rv
        have rv := rpAll_paired rv
        exact .inl ⟨a, vs, rfl, SqL.of hv, fun p hp => k.new (d := .list (cutD ds lo hi)) gg hp hq fun F' e hF => .lst hF (rp_cut (rpAll_mono e _ _ rv) lo hi)⟩
      · exact hq.elim
    · exact hq.elim
  · exact hq.elim
theorem ss_allH : SSl K (rSlAll K) fSlH := by
  intro c lo hi own Q hq B θ F H v gg r1 Qv k
  unfold fSlH at hq
  split at hq
  · rename_i ds
    obtain ⟨a, xs, rfl, h1, h2⟩ := cr_lst r1
    exact .inl ⟨a, xs, rfl, SqL.of (gg.ex _ _ h1), fun p hp => k.newH gg hp (paired_rpAll (rp_cut h2 lo hi)) hq⟩
  · rename_i h
    obtain ⟨a, ha, rfl⟩ := r1
    split at hq
    · rename_i cs e
      obtain ⟨_, vs, hv, rv⟩ := gg.mo h a _ ha e
      exact .inl ⟨a, vs, rfl, SqL.of hv, fun p hp => k.newH gg hp (paired_cut rv lo hi) hq⟩
    · exact hq.elim
  · exact hq.elim
end

/-! ### argument lists, displays -/
def wNil : WA := fun _ own Q => Q [] own
def wCons (we : WE) (wa : WA) : WA := fun ss own Q => we ss own fun c o1 => wa ss o1 fun cs o2 => Q (c :: cs) o2
def wTup (wa : WA) : WE := fun ss own Q => wa ss own fun cs o1 => match frs cs with
  | some ds => ds.length ≤ SZ ∧ Q (.fr (.tuple ds)) o1
  | none => False
def wLst (wa : WA) : WE := fun ss own Q => wa ss own fun cs o1 => match frs cs with
  | some ds => ds.length ≤ SZ ∧ Q (.fr (.list ds)) o1
  | none => False
def wLstH (wa : WA) : WE := fun ss own Q => wa ss own fun cs o1 => cs.length ≤ SZ ∧ Q (.hd o1.length) (o1 ++ [.lst cs])
section
variable {K : PySem.W.Frag} {te : TE} {we : WE} {ta : TA} {wa : WA}
theorem sa_nil : SA K tNil wNil := fun ss own Q h B θ F H σ g s Qv k => k θ own F H [] [] g Tr.refl .nil h
theorem paired_up {B : Addr → Prop} {θ θ' : List Addr} {F F' H H' : Hp} {vs : List V} {cs : List C} (t : Tr B θ F H θ' F' H') (h : Paired (Cr K θ F) vs cs) : Paired (Cr K θ' F') vs cs := paired_mono (fun _ _ r => r.up t) h
theorem sa_cons (h : SE K te we) (ha : SA K ta wa) : SA K (tCons te ta) (wCons we wa) := by
  intro ss own Q hw B θ F H σ g s Qv k
  refine h ss own _ hw B θ F H σ g s _ fun θ1 own1 F1 H1 v c g1 t1 r1 q1 => ?_
  refine ha ss own1 _ q1 B θ1 F1 H1 σ g1 (s.up t1) _ fun θ2 own2 F2 H2 vs cs g2 t2 r2 q2 => ?_
  exact k _ _ _ _ _ _ g2 (t1.trans t2) (.cons (r1.up t2) r2) q2
theorem se_tup (ha : SA K ta wa) : SE K (tTup ta) (wTup wa) := by
  intro ss own Q hw B θ F H σ g s Qv k
  refine ha ss own _ hw B θ F H σ g s _ fun θ1 own1 F1 H1 vs cs g1 t1 r1 q1 => ?_
  dsimp only at q1
  split at q1
  · rename_i ds e
    rw [of_frs e] at r1
    have r1 := rpAll_paired r1
    exact ⟨by rw [rpAll_len r1]; exact szl q1.1, fun p hp => (k.up t1).new (d := .tuple ds) g1 hp q1.2 fun F' e hF => .tup (SqT.of hF) (rpAll_mono e _ _ r1)⟩
  · exact q1.elim
theorem se_lst (ha : SA K ta wa) : SE K (tLst ta) (wLst wa) := by
  intro ss own Q hw B θ F H σ g s Qv k
  refine ha ss own _ hw B θ F H σ g s _ fun θ1 own1 F1 H1 vs cs g1 t1 r1 q1 => ?_
  dsimp only at q1
  split at q1
  · rename_i ds e
    rw [of_frs e] at r1
    have r1 := rpAll_paired r1
    exact ⟨by rw [rpAll_len r1]; exact szl q1.1, fun p hp => (k.up t1).new (d := .list ds) g1 hp q1.2 fun F' e hF => .lst hF (rpAll_mono e _ _ r1)⟩
  · exact q1.elim
theorem se_lstH (ha : SA K ta wa) : SE K (tLst ta) (wLstH wa) := by
  intro ss own Q hw B θ F H σ g s Qv k
  refine ha ss own _ hw B θ F H σ g s _ fun θ1 own1 F1 H1 vs cs g1 t1 r1 q1 => ?_
  exact ⟨by rw [paired_len r1]; exact szl q1.1, fun p hp => (k.up t1).newH g1 hp r1 q1.2⟩
end

/-! ### tests -/
def wTest (w : WE) : WT := fun ss own Q => w ss own fun c o1 => match c with
  | .fr (.bool b) => Q b o1
  | _ => False
def wNot (w : WT) : WT := fun ss own Q => w ss own fun b o1 => Q (!b) o1
def wAnd (w w' : WT) : WT := fun ss own Q => w ss own fun b o1 => Itf b (w' ss o1 Q) (Q false o1)
def wOr (w w' : WT) : WT := fun ss own Q => w ss own fun b o1 => Itf b (Q true o1) (w' ss o1 Q)
def wChain (f f' : F2) (wa wb wc : WE) : WE := fun ss own Q => wa ss own fun c o1 => wb ss o1 fun d o2 => f c d o2 fun z o3 => match z with
  | .fr (.bool b) => Itf b (wc ss o3 fun e o4 => f' d e o4 Q) (Q (.fr (.bool false)) o3)
  | _ => False
def wIf (w : WT) (wa wb : WE) : WE := fun ss own Q => w ss own fun b o1 => Itf b (wa ss o1 Q) (wb ss o1 Q)
def wAndV (wa wb : WE) : WE := fun ss own Q => wa ss own fun c o1 => match c with
  | .fr (.bool b) => Itf b (wb ss o1 Q) (Q (.fr (.bool false)) o1)
  | _ => False
def wOrV (wa wb : WE) : WE := fun ss own Q => wa ss own fun c o1 => match c with
  | .fr (.bool b) => Itf b (Q (.fr (.bool true)) o1) (wb ss o1 Q)
  | _ => False
def wNotV (wa : WE) : WE := fun ss own Q => wa ss own fun c o1 => match c with
  | .fr (.bool b) => Q (.fr (.bool (!b))) o1
  | _ => False
def wIsN (wa : WE) : WE := fun ss own Q => wa ss own fun c o1 => match c with
  | .fr .none => Q (.fr (.bool true)) o1
  | _ => Q (.fr (.bool false)) o1
def wNotN (wa : WE) : WE := fun ss own Q => wa ss own fun c o1 => match c with
  | .fr .none => Q (.fr (.bool false)) o1
  | _ => Q (.fr (.bool true)) o1
section
variable {K : PySem.W.Frag} {te ta tb tc : TE} {we wa wb wc : WE} {t t' : TT} {w w' : WT} {r r' : R2} {f f' : F2}
theorem test_core (h : SE K te we) : ∀ ss own Q, wTest we ss own Q → ∀ B θ F H σ, Ga K B θ own F H → Zd.SlR K θ F σ ss → ∀ Qv : Bool → Hp → Prop, BkT K B θ F H Q Qv → te σ H fun x H1 => ∃ b, x = .bl b ∧ Qv b H1 := by
  intro ss own Q hw B θ F H σ g s Qv k
  refine h ss own _ hw B θ F H σ g s _ fun θ1 own1 F1 H1 v c g1 t1 r1 q1 => ?_
  dsimp only at q1
  split at q1
  · rename_i b
    cases cr_bl r1
    exact ⟨b, rfl, k _ _ _ _ _ g1 t1 q1⟩
  · exact q1.elim
theorem st_B (h : SE K te we) : ST K (tB te) (wTest we) := test_core h
theorem st_test (h : SE K te we) : ST K (tTest te) (wTest we) := test_core h
theorem st_not (h : ST K t w) : ST K (tNot t) (wNot w) := by
  intro ss own Q hw B θ F H σ g s Qv k
  exact h ss own _ hw B θ F H σ g s _ fun θ1 own1 F1 H1 b g1 t1 q1 => k _ _ _ _ _ g1 t1 q1
theorem st_and (h : ST K t w) (h' : ST K t' w') : ST K (tAnd t t') (wAnd w w') := by
  intro ss own Q hw B θ F H σ g s Qv k
  refine h ss own _ hw B θ F H σ g s _ fun θ1 own1 F1 H1 b g1 t1 q1 => ?_
  cases b with
  | true => exact h' ss own1 Q q1 B θ1 F1 H1 σ g1 (s.up t1) Qv (k.up t1)
  | false => exact k _ _ _ _ _ g1 t1 q1
theorem st_or (h : ST K t w) (h' : ST K t' w') : ST K (tOr t t') (wOr w w') := by
  intro ss own Q hw B θ F H σ g s Qv k
  refine h ss own _ hw B θ F H σ g s _ fun θ1 own1 F1 H1 b g1 t1 q1 => ?_
  cases b with
  | true => exact k _ _ _ _ _ g1 t1 q1
  | false => exact h' ss own1 Q q1 B θ1 F1 H1 σ g1 (s.up t1) Qv (k.up t1)
theorem se_chain (ha : SE K ta wa) (hb : SE K tb wb) (hc : SE K tc wc) (hr : S2 K r f) (hr' : S2 K r' f') : SE K (tChain r r' ta tb tc) (wChain f f' wa wb wc) := by
  intro ss own Q hw B θ F H σ g s Qv k
  refine ha ss own _ hw B θ F H σ g s _ fun θ1 own1 F1 H1 v c g1 t1 r1 q1 => ?_
  refine hb ss own1 _ q1 B θ1 F1 H1 σ g1 (s.up t1) _ fun θ2 own2 F2 H2 u d g2 t2 r2 q2 => ?_
  refine hr c d own2 _ q2 B θ2 F2 H2 v u g2 (r1.up t2) r2 _ fun θ3 own3 F3 H3 x z g3 t3 r3 q3 => ?_
  dsimp only at q3
  split at q3
  · rename_i b
    cases cr_bl r3
    refine ⟨b, rfl, ?_⟩
    cases b with
    | true =>
      refine hc ss own3 _ q3 B θ3 F3 H3 σ g3 (s.up ((t1.trans t2).trans t3)) _ fun θ4 own4 F4 H4 y e g4 t4 r4 q4 => ?_
      exact hr' d e own4 Q q4 B θ4 F4 H4 u y g4 (r2.up (t3.trans t4)) r4 Qv (k.up (((t1.trans t2).trans t3).trans t4))
    | false => exact k _ _ _ _ _ (.fr (.bool false)) g3 ((t1.trans t2).trans t3) (.bl _) q3
  · exact q3.elim
theorem se_if (h : ST K t w) (ha : SE K ta wa) (hb : SE K tb wb) : SE K (tIf t ta tb) (wIf w wa wb) := by
  intro ss own Q hw B θ F H σ g s Qv k
  refine h ss own _ hw B θ F H σ g s _ fun θ1 own1 F1 H1 b g1 t1 q1 => ?_
  cases b with
  | true => exact ha ss own1 Q q1 B θ1 F1 H1 σ g1 (s.up t1) Qv (k.up t1)
  | false => exact hb ss own1 Q q1 B θ1 F1 H1 σ g1 (s.up t1) Qv (k.up t1)
theorem se_andV (ha : SE K ta wa) (hb : SE K tb wb) : SE K (tAndV ta tb) (wAndV wa wb) := by
  intro ss own Q hw B θ F H σ g s Qv k
  refine ha ss own _ hw B θ F H σ g s _ fun θ1 own1 F1 H1 v c g1 t1 r1 q1 => ?_
  dsimp only at q1
  split at q1
  · rename_i b
    cases cr_bl r1
    refine ⟨b, rfl, ?_⟩
    cases b with
    | true => exact hb ss own1 Q q1 B θ1 F1 H1 σ g1 (s.up t1) Qv (k.up t1)
    | false => exact k _ _ _ _ _ (.fr (.bool false)) g1 t1 (.bl _) q1
  · exact q1.elim
theorem se_orV (ha : SE K ta wa) (hb : SE K tb wb) : SE K (tOrV ta tb) (wOrV wa wb) := by
  intro ss own Q hw B θ F H σ g s Qv k
  refine ha ss own _ hw B θ F H σ g s _ fun θ1 own1 F1 H1 v c g1 t1 r1 q1 => ?_
  dsimp only at q1
  split at q1
  · rename_i b
    cases cr_bl r1
    refine ⟨b, rfl, ?_⟩
    cases b with
    | true => exact k _ _ _ _ _ (.fr (.bool true)) g1 t1 (.bl _) q1
    | false => exact hb ss own1 Q q1 B θ1 F1 H1 σ g1 (s.up t1) Qv (k.up t1)
  · exact q1.elim
theorem se_notV (ha : SE K ta wa) : SE K (tNotV ta) (wNotV wa) := by
  intro ss own Q hw B θ F H σ g s Qv k
  refine ha ss own _ hw B θ F H σ g s _ fun θ1 own1 F1 H1 v c g1 t1 r1 q1 => ?_
  dsimp only at q1
  split at q1
  · rename_i b
    cases cr_bl r1
    exact ⟨b, rfl, k _ _ _ _ _ (.fr (.bool (!b))) g1 t1 (.bl _) q1⟩
  · exact q1.elim
theorem cr_non {θ : List Addr} {F : Hp} {v : V} {c : C} (r : Cr K θ F v c) : (v = .non ∧ c = .fr .none) ∨ (v ≠ .non ∧ c ≠ .fr .none) := by
  cases c with
  | fr d => cases r <;> first | exact .inl ⟨rfl, rfl⟩ | exact .inr ⟨(fun z => nomatch z), (fun z => nomatch z)⟩
  | hd h => obtain ⟨a, _, rfl⟩ := r; exact .inr ⟨(fun z => nomatch z), (fun z => nomatch z)⟩
  | sc h => obtain ⟨a, rfl, _⟩ := r; exact .inr ⟨(fun z => nomatch z), (fun z => nomatch z)⟩
theorem se_isN (ha : SE K ta wa) : SE K (tIsN ta) (wIsN wa) := by
  intro ss own Q hw B θ F H σ g s Qv k
  refine ha ss own _ hw B θ F H σ g s _ fun θ1 own1 F1 H1 v c g1 t1 r1 q1 => ?_
  rcases cr_non r1 with ⟨rfl, rfl⟩ | ⟨n1, n2⟩
  · exact k _ _ _ _ _ (.fr (.bool true)) g1 t1 (.bl _) q1
  · rw [decide_eq_false n1]
    refine k _ _ _ _ _ (.fr (.bool false)) g1 t1 (.bl _) ?_
    dsimp only at q1
    split at q1
    · exact absurd rfl n2
    · exact q1
theorem se_notN (ha : SE K ta wa) : SE K (tNotN ta) (wNotN wa) := by
  intro ss own Q hw B θ F H σ g s Qv k
  refine ha ss own _ hw B θ F H σ g s _ fun θ1 own1 F1 H1 v c g1 t1 r1 q1 => ?_
  rcases cr_non r1 with ⟨rfl, rfl⟩ | ⟨n1, n2⟩
  · exact k _ _ _ _ _ (.fr (.bool false)) g1 t1 (.bl _) q1
  · rw [decide_eq_false n1]
    refine k _ _ _ _ _ (.fr (.bool true)) g1 t1 (.bl _) ?_
    dsimp only at q1
    split at q1
    · exact absurd rfl n2
    · exact q1
end

/-! ### built-in calls -/
def wCB (f : FA) (wa : WA) : WE := fun ss own Q => wa ss own fun cs o1 => f cs o1 Q
theorem se_cb {K : PySem.W.Frag} {r : List V → Hp → VK → Prop} {f : FA} {ta : TA} {wa : WA} (ha : SA K ta wa) (hr : SN K r f) : SE K (tCB r ta) (wCB f wa) := by
  intro ss own Q hw B θ F H σ g s Qv k
  refine ha ss own _ hw B θ F H σ g s _ fun θ1 own1 F1 H1 vs cs g1 t1 r1 q1 => ?_
  exact hr cs own1 Q q1 B θ1 F1 H1 vs g1 r1 Qv (k.up t1)
def fLen : FA := fun cs own Q => match cs with
  | [.fr (.list ds)] => Q (.fr (.int ds.length)) own
  | [.fr (.tuple ds)] => Q (.fr (.int ds.length)) own
  | [.fr (.str z)] => z.length ≤ SZ ∧ Q (.fr (.int z.length)) own
  | [.sc ns] => Q (.fr (.int ns.length)) own
  | [.hd h] => (match own[h]? with
    | some (.lst xs) => Q (.fr (.int xs.length)) own
    | _ => False)
  | _ => False
def fInt : FA := fun cs own Q => match cs with
  | [.fr (.int i)] => Q (.fr (.int i)) own
  | [.fr (.bool b)] => Q (.fr (.int (if b then 1 else 0))) own
  | _ => False
def fAbs : FA := fun cs own Q => match cs with
  | [.fr (.int i)] => Q (.fr (.int (if i < 0 then -i else i))) own
  | _ => False
def fMax2 : FA := fun cs own Q => match cs with
  | [.fr (.int i), .fr (.int j)] => Q (.fr (.int (if j > i then j else i))) own
  | _ => False
def fMin2 : FA := fun cs own Q => match cs with
  | [.fr (.int i), .fr (.int j)] => Q (.fr (.int (if j < i then j else i))) own
  | _ => False
/-- the intsD of a list of data -/
def intsD : List D → Option (List Int)
  | [] => some []
  | .int i :: ds => (intsD ds).map (i :: ·)
  | _ :: _ => none
def boolsD : List D → Option (List Bool)
  | [] => some []
  | .bool i :: ds => (boolsD ds).map (i :: ·)
  | _ :: _ => none
theorem ints_map : ∀ (ns : List Int), intsD (ns.map PyData.int) = some ns
  | [] => rfl
  | n :: ns => by rw [List.map_cons, intsD, ints_map ns]; rfl
theorem bools_map : ∀ (ns : List Bool), boolsD (ns.map PyData.bool) = some ns
  | [] => rfl
  | n :: ns => by rw [List.map_cons, boolsD, bools_map ns]; rfl
def fSum : FA := fun cs own Q => match cs with
  | [.fr (.list ds)] => (match intsD ds with | some ns => Q (.fr (.int ns.sum)) own | none => False)
  | _ => False
def minI (ns : List Int) : Int := ns.min?.getD 0
def maxI (ns : List Int) : Int := ns.max?.getD 0
def fMinL : FA := fun cs own Q => match cs with
  | [.fr (.list ds)] => (match intsD ds with | some ns => ns ≠ [] ∧ Q (.fr (.int (minI ns))) own | none => False)
  | _ => False
def fMaxL : FA := fun cs own Q => match cs with
  | [.fr (.list ds)] => (match intsD ds with | some ns => ns ≠ [] ∧ Q (.fr (.int (maxI ns))) own | none => False)
  | _ => False
def fAll : FA := fun cs own Q => match cs with
  | [.fr (.list ds)] => (match boolsD ds with | some ns => Q (.fr (.bool (ns.all id))) own | none => False)
  | _ => False
def fAny : FA := fun cs own Q => match cs with
  | [.fr (.list ds)] => (match boolsD ds with | some ns => Q (.fr (.bool (ns.any id))) own | none => False)
  | _ => False
def fTupleOf : FA := fun cs own Q => match cs with
  | [.fr (.list ds)] => Q (.fr (.tuple ds)) own
  | [.fr (.tuple ds)] => Q (.fr (.tuple ds)) own
  | _ => False
def fListOf : FA := fun cs own Q => match cs with
  | [.fr (.list ds)] => Q (.fr (.list ds)) own
  | [.fr (.tuple ds)] => Q (.fr (.list ds)) own
  | _ => False
def fListOfH : FA := fun cs own Q => match cs with
  | [.fr (.list ds)] => Q (.hd own.length) (own ++ [.lst (ds.map C.fr)])
  | [.fr (.tuple ds)] => Q (.hd own.length) (own ++ [.lst (ds.map C.fr)])
  | [.hd h] => (match own[h]? with
    | some (.lst xs) => Q (.hd own.length) (own ++ [.lst xs])
    | _ => False)
  | _ => False
theorem minI_eq {ns : List Int} {m : Int} (h : m ∈ ns) (hm : ∀ y ∈ ns, m ≤ y) : minI ns = m := by
  have e : ns.min? = some m := by
    rw [List.min?_eq_some_iff]
    exact ⟨h, hm⟩
  unfold minI
  rw [e]
  rfl
theorem maxI_eq {ns : List Int} {m : Int} (h : m ∈ ns) (hm : ∀ y ∈ ns, y ≤ m) : maxI ns = m := by
  have e : ns.max? = some m := by
    rw [List.max?_eq_some_iff]
    exact ⟨h, hm⟩
  unfold maxI
  rw [e]
  rfl
section
variable {K : PySem.W.Frag}
theorem paired1 {α β : Type} {P : α → β → Prop} {xs : List α} {y : β} (h : Paired P xs [y]) : ∃ x, xs = [x] ∧ P x y := by
  cases h with
  | cons r t => cases t; exact ⟨_, rfl, r⟩
theorem paired2 {α β : Type} {P : α → β → Prop} {xs : List α} {y z : β} (h : Paired P xs [y, z]) : ∃ x u, xs = [x, u] ∧ P x y ∧ P u z := by
  cases h with
  | cons r t => cases t with | cons r2 t2 => cases t2; exact ⟨_, _, rfl, r, r2⟩
theorem of_ints {θ : List Addr} {F : Hp} : ∀ {ds : List D} {ns : List Int} {vs : List V}, intsD ds = some ns → RpAll K F vs ds → vs = ns.map V.int
  | [], ns, vs, e, h => by cases e; cases h; rfl
  | .int i :: ds, ns, vs, e, h => by
    rw [intsD] at e
    cases e2 : intsD ds with
    | none => rw [e2] at e; cases e
    | some es =>
      rw [e2] at e
      cases e
      cases h with
      | cons h1 h2 =>
        cases h1
        rw [List.map_cons, of_ints (θ := θ) e2 h2]
  | .none :: _, _, _, e, _ => by cases e
  | .bool _ :: _, _, _, e, _ => by cases e
  | .str _ :: _, _, _, e, _ => by cases e
  | .list _ :: _, _, _, e, _ => by cases e
  | .tuple _ :: _, _, _, e, _ => by cases e
  | .dict _ :: _, _, _, e, _ => by cases e
theorem of_bools {θ : List Addr} {F : Hp} : ∀ {ds : List D} {ns : List Bool} {vs : List V}, boolsD ds = some ns → RpAll K F vs ds → vs = ns.map V.bl
  | [], ns, vs, e, h => by cases e; cases h; rfl
  | .bool i :: ds, ns, vs, e, h => by
    rw [boolsD] at e
    cases e2 : boolsD ds with
    | none => rw [e2] at e; cases e
    | some es =>
      rw [e2] at e
      cases e
      cases h with
      | cons h1 h2 =>
        cases h1
        rw [List.map_cons, of_bools (θ := θ) e2 h2]
  | .none :: _, _, _, e, _ => by cases e
  | .int _ :: _, _, _, e, _ => by cases e
  | .str _ :: _, _, _, e, _ => by cases e
  | .list _ :: _, _, _, e, _ => by cases e
  | .tuple _ :: _, _, _, e, _ => by cases e
  | .dict _ :: _, _, _, e, _ => by cases e
theorem sn_len : SN K (fun xs H Q => ∃ x n, xs = [x] ∧ LenV K x H n ∧ Q (.int n) H) fLen := by
  intro cs own Q hq B θ F H vs gg rs Qv k
  unfold fLen at hq
  split at hq
  · rename_i ds
    obtain ⟨v, rfl, r⟩ := paired1 rs
    obtain ⟨a, xs, rfl, h1, h2⟩ := cr_lst r
    exact ⟨_, _, rfl, .inl ⟨xs, SqL.of (gg.ex _ _ h1), rfl⟩, by rw [rpAll_len h2]; exact k.here (c := .fr (.int ds.length)) gg (.int _) hq⟩
  · rename_i ds
    obtain ⟨v, rfl, r⟩ := paired1 rs
    obtain ⟨a, xs, rfl, h1, h2⟩ := cr_tup r
    exact ⟨_, _, rfl, .inr ⟨xs, same_t gg.ex h1, rfl⟩, by rw [rpAll_len h2]; exact k.here (c := .fr (.int ds.length)) gg (.int _) hq⟩
  · rename_i z
    obtain ⟨v, rfl, r⟩ := paired1 rs
    cases cr_str r
    exact ⟨_, _, rfl, ⟨szl hq.1, rfl⟩, k.here (c := .fr (.int z.length)) gg (.int _) hq.2⟩
  · rename_i ns
    obtain ⟨v, rfl, a, rfl, h1⟩ := paired1 rs
    exact ⟨_, _, rfl, .inl ⟨_, same_l gg.ex h1, rfl⟩, by rw [List.length_map]; exact k.here (c := .fr (.int ns.length)) gg (.int _) hq⟩
  · rename_i h
    obtain ⟨v, rfl, a, ha, rfl⟩ := paired1 rs
    split at hq
    · rename_i xs e
      obtain ⟨_, ws, hv, rv⟩ := gg.mo h a _ ha e
      exact ⟨_, _, rfl, .inl ⟨ws, SqL.of hv, rfl⟩, by rw [paired_len rv]; exact k.here (c := .fr (.int xs.length)) gg (.int _) hq⟩
    · exact hq.elim
  · exact hq.elim
theorem sn_int : SN K (fun xs H Q => (∃ i, xs = [.int i] ∧ Q (.int i) H) ∨ ∃ k, xs = [.bl k] ∧ Q (.int (if k then 1 else 0)) H) fInt := by
  intro cs own Q hq B θ F H vs gg rs Qv k
  unfold fInt at hq
  split at hq
  · rename_i i
    obtain ⟨v, rfl, r⟩ := paired1 rs
    cases cr_int r
    exact .inl ⟨i, rfl, k.here (c := .fr (.int i)) gg (.int _) hq⟩
  · rename_i i
    obtain ⟨v, rfl, r⟩ := paired1 rs
    cases cr_bl r
    exact .inr ⟨i, rfl, k.here (c := .fr (.int (if i then 1 else 0))) gg (.int _) hq⟩
  · exact hq.elim
theorem sn_abs : SN K (fun xs H Q => ∃ i, xs = [.int i] ∧ Q (.int (if i < 0 then -i else i)) H) fAbs := by
  intro cs own Q hq B θ F H vs gg rs Qv k
  unfold fAbs at hq
  split at hq
  · rename_i i
    obtain ⟨v, rfl, r⟩ := paired1 rs
    cases cr_int r
    exact ⟨i, rfl, k.here (c := .fr (.int (if i < 0 then -i else i))) gg (.int _) hq⟩
  · exact hq.elim
theorem sn_max2 : SN K (fun xs H Q => ∃ i j, xs = [.int i, .int j] ∧ Q (.int (if j > i then j else i)) H) fMax2 := by
  intro cs own Q hq B θ F H vs gg rs Qv k
  unfold fMax2 at hq
  split at hq
  · rename_i i j
    obtain ⟨v, u, rfl, r, r2⟩ := paired2 rs
    cases cr_int r
    cases cr_int r2
    exact ⟨i, j, rfl, k.here (c := .fr (.int (if j > i then j else i))) gg (.int _) hq⟩
  · exact hq.elim
theorem sn_min2 : SN K (fun xs H Q => ∃ i j, xs = [.int i, .int j] ∧ Q (.int (if j < i then j else i)) H) fMin2 := by
  intro cs own Q hq B θ F H vs gg rs Qv k
  unfold fMin2 at hq
  split at hq
  · rename_i i j
    obtain ⟨v, u, rfl, r, r2⟩ := paired2 rs
    cases cr_int r
    cases cr_int r2
    exact ⟨i, j, rfl, k.here (c := .fr (.int (if j < i then j else i))) gg (.int _) hq⟩
  · exact hq.elim
theorem sn_sum : SN K (rSum K) fSum := by
  intro cs own Q hq B θ F H vs gg rs Qv k
  unfold fSum at hq
  split at hq
  · rename_i ds
    obtain ⟨v, rfl, r⟩ := paired1 rs
    obtain ⟨a, xs, rfl, h1, h2⟩ := cr_lst r
    split at hq
    · rename_i ns e
      cases of_ints (θ := θ) e h2
      exact ⟨a, ns, rfl, SqL.of (gg.ex _ _ h1), k.here (c := .fr (.int ns.sum)) gg (.int _) hq⟩
    · exact hq.elim
  · exact hq.elim
theorem sn_minL : SN K (rMin K) fMinL := by
  intro cs own Q hq B θ F H vs gg rs Qv k
  unfold fMinL at hq
  split at hq
  · rename_i ds
    obtain ⟨v, rfl, r⟩ := paired1 rs
    obtain ⟨a, xs, rfl, h1, h2⟩ := cr_lst r
    split at hq
    · rename_i ns e
      cases of_ints (θ := θ) e h2
      refine ⟨a, ns, rfl, SqL.of (gg.ex _ _ h1), List.length_pos_iff.mpr hq.1, fun m hm hl => ?_⟩
      rw [← minI_eq hm hl]
      exact k.here (c := .fr (.int (minI ns))) gg (.int _) hq.2
    · exact hq.elim
  · exact hq.elim
theorem sn_maxL : SN K (rMax K) fMaxL := by
  intro cs own Q hq B θ F H vs gg rs Qv k
  unfold fMaxL at hq
  split at hq
  · rename_i ds
    obtain ⟨v, rfl, r⟩ := paired1 rs
    obtain ⟨a, xs, rfl, h1, h2⟩ := cr_lst r
    split at hq
    · rename_i ns e
      cases of_ints (θ := θ) e h2
      refine ⟨a, ns, rfl, SqL.of (gg.ex _ _ h1), List.length_pos_iff.mpr hq.1, fun m hm hl => ?_⟩
      rw [← maxI_eq hm hl]
      exact k.here (c := .fr (.int (maxI ns))) gg (.int _) hq.2
    · exact hq.elim
  · exact hq.elim
theorem sn_all : SN K (rAll K) fAll := by
  intro cs own Q hq B θ F H vs gg rs Qv k
  unfold fAll at hq
  split at hq
  · rename_i ds
    obtain ⟨v, rfl, r⟩ := paired1 rs
    obtain ⟨a, xs, rfl, h1, h2⟩ := cr_lst r
    split at hq
    · rename_i ns e
      cases of_bools (θ := θ) e h2
      exact ⟨a, ns, rfl, SqL.of (gg.ex _ _ h1), k.here (c := .fr (.bool (ns.all id))) gg (.bl _) hq⟩
    · exact hq.elim
  · exact hq.elim
theorem sn_any : SN K (rAny K) fAny := by
  intro cs own Q hq B θ F H vs gg rs Qv k
  unfold fAny at hq
  split at hq
  · rename_i ds
    obtain ⟨v, rfl, r⟩ := paired1 rs
    obtain ⟨a, xs, rfl, h1, h2⟩ := cr_lst r
    split at hq
    · rename_i ns e
      cases of_bools (θ := θ) e h2
      exact ⟨a, ns, rfl, SqL.of (gg.ex _ _ h1), k.here (c := .fr (.bool (ns.any id))) gg (.bl _) hq⟩
    · exact hq.elim
  · exact hq.elim
theorem sn_tupleOf : SN K (fun xs H Q => ∃ p ys, xs = [.ref p] ∧ ((SqL K H p ys ∧ ∀ l, H l = none → Q (.ref l) (upd H l (.tup ys))) ∨ (SqT K H p ys ∧ Q (.ref p) H))) fTupleOf := by
  intro cs own Q hq B θ F H vs gg rs Qv k
  unfold fTupleOf at hq
  split at hq
  · rename_i ds
    obtain ⟨v, rfl, r⟩ := paired1 rs
    obtain ⟨a, xs, rfl, h1, h2⟩ := cr_lst r
    exact ⟨a, xs, rfl, .inl ⟨SqL.of (gg.ex _ _ h1), fun p hp => k.new (d := .tuple ds) gg hp hq fun F' e hF => .tup (SqT.of hF) (rpAll_mono e _ _ h2)⟩⟩
  · rename_i ds
    obtain ⟨v, rfl, r⟩ := paired1 rs
    obtain ⟨a, xs, rfl, h1, h2⟩ := cr_tup r
    exact ⟨a, xs, rfl, .inr ⟨same_t gg.ex h1, k.here gg r hq⟩⟩
  · exact hq.elim
theorem sn_listOf : SN K (fun xs H Q => ∃ p ys, xs = [.ref p] ∧ (SqL K H p ys ∨ SqT K H p ys) ∧ ∀ l, H l = none → Q (.ref l) (upd H l (.lst ys))) fListOf := by
  intro cs own Q hq B θ F H vs gg rs Qv k
  unfold fListOf at hq
  split at hq
  · rename_i ds
    obtain ⟨v, rfl, r⟩ := paired1 rs
    obtain ⟨a, xs, rfl, h1, h2⟩ := cr_lst r
    exact ⟨a, xs, rfl, .inl (SqL.of (gg.ex _ _ h1)), fun p hp => k.new (d := .list ds) gg hp hq fun F' e hF => .lst hF (rpAll_mono e _ _ h2)⟩
  · rename_i ds
    obtain ⟨v, rfl, r⟩ := paired1 rs
    obtain ⟨a, xs, rfl, h1, h2⟩ := cr_tup r
    exact ⟨a, xs, rfl, .inr (same_t gg.ex h1), fun p hp => k.new (d := .list ds) gg hp hq fun F' e hF => .lst hF (rpAll_mono e _ _ h2)⟩
  · exact hq.elim
theorem sn_listOfH : SN K (fun xs H Q => ∃ p ys, xs = [.ref p] ∧ (SqL K H p ys ∨ SqT K H p ys) ∧ ∀ l, H l = none → Q (.ref l) (upd H l (.lst ys))) fListOfH := by
  intro cs own Q hq B θ F H vs gg rs Qv k
  unfold fListOfH at hq
  split at hq
  · rename_i ds
    obtain ⟨v, rfl, r⟩ := paired1 rs
    obtain ⟨a, xs, rfl, h1, h2⟩ := cr_lst r
    exact ⟨a, xs, rfl, .inl (SqL.of (gg.ex _ _ h1)), fun p hp => k.newH gg hp (paired_rpAll h2) hq⟩
  · rename_i ds
    obtain ⟨v, rfl, r⟩ := paired1 rs
    obtain ⟨a, xs, rfl, h1, h2⟩ := cr_tup r
    exact ⟨a, xs, rfl, .inr (same_t gg.ex h1), fun p hp => k.newH gg hp (paired_rpAll h2) hq⟩
  · rename_i h
    obtain ⟨v, rfl, a, ha, rfl⟩ := paired1 rs
    split at hq
    · rename_i xs e
      obtain ⟨_, ws, hv, rv⟩ := gg.mo h a _ ha e
      exact ⟨a, ws, rfl, .inl (SqL.of hv), fun p hp => k.newH gg hp rv hq⟩
    · exact hq.elim
  · exact hq.elim
end
/-- isinstance(x, T), T a built-in type -/
def isT : D → String → Option Bool
  | .none, t => kitB "NoneType" t
  | .bool _, t => kitB "bool" t
  | .int _, t => kitB "int" t
  | .str _, t => kitB "str" t
  | .list _, t => kitB "list" t
  | .tuple _, t => kitB "tuple" t
  | .dict _, _ => none
def wIsi (T : String) (we : WE) : WE := fun ss own Q => we ss own fun c o1 => match c with
  | .fr d => (match isT d T with
    | some b => Q (.fr (.bool b)) o1
    | none => False)
  | _ => False
theorem se_isi {K : PySem.W.Frag} {te : TE} {we : WE} {T : String} (h : SE K te we) : SE K (tCB (rIsi K) (tCons te (tCons (tC (.ty T)) tNil))) (wIsi T we) := by
  intro ss own Q hw B θ F H σ g s Qv k
  refine h ss own _ hw B θ F H σ g s _ fun θ1 own1 F1 H1 v c g1 t1 r1 q1 => ?_
  dsimp only at q1
  split at q1
  · rename_i d
    split at q1
    · rename_i b e
      have fin : Qv (.bl b) H1 := k _ _ _ _ _ (.fr (.bool b)) g1 t1 (.bl _) q1
      cases r1 with
      | non => exact ⟨_, _, _, _, b, rfl, .ty T, .base .non, kit_ty e, fin⟩
      | bl x => exact ⟨_, _, _, _, b, rfl, .ty T, .base (.bl x), kit_ty e, fin⟩
      | int x => exact ⟨_, _, _, _, b, rfl, .ty T, .base (.int x), kit_ty e, fin⟩
      | str x => exact ⟨_, _, _, _, b, rfl, .ty T, .base (.str x), kit_ty e, fin⟩
      | lst h1 h2 => exact ⟨_, _, _, _, b, rfl, .ty T, .base (.lst (g1.ex _ _ h1)), kit_ty e, fin⟩
      | tup h1 h2 =>
        rcases h1 with (h1 | ⟨o, h1⟩) | ⟨o, its, n, h1, h3, _⟩
        · exact ⟨_, _, _, _, b, rfl, .ty T, .base (.tup (g1.ex _ _ h1)), kit_ty e, fin⟩
        · exact ⟨_, _, _, _, b, rfl, .ty T, .fTuple (g1.ex _ _ h1), kit_ty e, fin⟩
        · exact ⟨_, _, _, _, b, rfl, .ty T, .kTuple h1 h3, kit_ty e, fin⟩
    · exact q1.elim
  · exact q1.elim
end Zd

/-! Zd4: targets, what is walked, comprehensions, statements, methods, calls, defs. -/
namespace Zd
open PySem L2 RZ RT

/-! ### targets -/
abbrev WG := C → Sl → Ts → (Sl → Ts → Prop) → Prop
abbrev WGs := List C → Sl → Ts → (Sl → Ts → Prop) → Prop
def SG (K : PySem.W.Frag) (js : List Nat) (g : TG) (w : WG) : Prop := ∀ c ss own Q, w c ss own Q → ∀ B θ F H σ v, Ga K B θ own F H → Zd.SlR K θ F σ ss → Cr K θ F v c → ∀ R : St → Hp → Prop,
  (∀ θ' own' F' H' σ' ss', Ga K B θ' own' F' H' → Tr B θ F H θ' F' H' → Zd.SlR K θ' F' σ' ss' → (∀ ws, (∀ j ∈ js, j ∈ ws) → wipe σ' ws = wipe σ ws) → Q ss' own' → R σ' H') → g v σ H R
def SGs (K : PySem.W.Frag) (js : List Nat) (g : TGs) (w : WGs) : Prop := ∀ cs ss own Q, w cs ss own Q → ∀ B θ F H σ vs, Ga K B θ own F H → Zd.SlR K θ F σ ss → Paired (Cr K θ F) vs cs → ∀ R : St → Hp → Prop,
  (∀ θ' own' F' H' σ' ss', Ga K B θ' own' F' H' → Tr B θ F H θ' F' H' → Zd.SlR K θ' F' σ' ss' → (∀ ws, (∀ j ∈ js, j ∈ ws) → wipe σ' ws = wipe σ ws) → Q ss' own' → R σ' H') → g vs σ H R
structure AG (X : Cx) (tg : Expr) (js : List Nat) (g : TG) (w : WG) : Prop where
  p : PG X tg g
  s : SG X.K js g w
structure AGs (X : Cx) (tg : List Expr) (js : List Nat) (g : TGs) (w : WGs) : Prop where
  p : PGs X tg g
  s : SGs X.K js g w
def wName (i : Nat) : WG := fun c ss own Q => Q (ss.set i (some c)) own
def wGNil : WGs := fun cs ss own Q => cs = [] ∧ Q ss own
def wGCons (g : WG) (gs : WGs) : WGs := fun cs ss own Q => match cs with
  | c :: r => g c ss own fun ss' own' => gs r ss' own' Q
  | [] => False
def wGTup (n : Nat) (gs : WGs) : WG := fun c ss own Q => match c with
  | .fr (.tuple ds) => ds.length = n ∧ gs (ds.map C.fr) ss own Q
  | _ => False
theorem wipe_in {σ : St} {j : Nat} {x : Option V} : ∀ {ws : List Nat}, j ∈ ws → wipe (σ.set j x) ws = wipe σ ws := by
  have comm : ∀ (ws : List Nat), wipe (σ.set j x) ws = (wipe σ ws).set j x ∨ wipe (σ.set j x) ws = wipe σ ws := by
    intro ws
    induction ws with
    | nil => exact .inl rfl
    | cons v ws ih =>
      unfold wipe
      rcases ih with e | e
      · rw [e]
        by_cases h : j = v
        · subst h
          exact .inr (by rw [List.set_set])
        · exact .inl (List.set_comm _ _ h)
      · exact .inr (by rw [e])
  intro ws
  induction ws with
  | nil => intro h; cases h
  | cons v ws ih =>
    intro h
    unfold wipe
    by_cases hj : j ∈ ws
    · rw [ih hj]
    · have e : j = v := by
        rcases List.mem_cons.mp h with h | h
        · exact h
        · exact absurd h hj
      subst e
      rcases comm ws with e | e
      · rw [e, List.set_set]
      · rw [e]
section
variable {K : PySem.W.Frag} {g : TG} {gs : TGs} {w : WG} {ws : WGs} {js ks : List Nat}
theorem slr_set {θ : List Addr} {F : Hp} {σ : St} {ss : Sl} {i : Nat} {v : V} {c : C} (s : Zd.SlR K θ F σ ss) (r : Cr K θ F v c) : Zd.SlR K θ F (σ.set i (some v)) (ss.set i (some c)) := by
  refine ⟨by simp [s.1], fun j d e => ?_⟩
  by_cases hj : i = j
  · subst hj
    have hi : i < ss.length := by
      have := (List.getElem?_eq_some_iff.mp e).1
      rwa [List.length_set] at this
    rw [List.getElem?_set_self hi] at e
    cases e
    exact ⟨v, List.getElem?_set_self (by rw [s.1]; exact hi), r⟩
  · rw [List.getElem?_set_ne hj] at e
    obtain ⟨u, h1, h2⟩ := s.2 j d e
    exact ⟨u, by rw [List.getElem?_set_ne hj]; exact h1, h2⟩
theorem sg_name {i : Nat} : SG K [i] (gName i) (wName i) := by
  intro c ss own Q hq B θ F H σ v g s r R k
  exact k θ own F H _ _ g Tr.refl (slr_set s r) (fun ws h => wipe_in (h i (by simp))) hq
theorem sgs_nil : SGs K [] gNil wGNil := by
  intro cs ss own Q hq B θ F H σ vs g s r R k
  obtain ⟨rfl, hq⟩ := hq
  cases r
  exact ⟨rfl, k θ own F H _ _ g Tr.refl s (fun _ _ => rfl) hq⟩
theorem sgs_cons (h : SG K js g w) (hs : SGs K ks gs ws) : SGs K (js ++ ks) (gCons g gs) (wGCons w ws) := by
  intro cs ss own Q hq B θ F H σ vs gg s r R k
  cases r with
  | nil => exact hq.elim
  | cons r1 r2 =>
    refine ⟨_, _, rfl, ?_⟩
    refine h _ ss own _ hq B θ F H σ _ gg s r1 _ fun θ1 own1 F1 H1 σ1 ss1 g1 t1 s1 e1 q1 => ?_
    refine hs _ ss1 own1 _ q1 B θ1 F1 H1 σ1 _ g1 s1 (paired_up t1 r2) _ fun θ2 own2 F2 H2 σ2 ss2 g2 t2 s2 e2 q2 => ?_
    exact k θ2 own2 F2 H2 σ2 ss2 g2 (t1.trans t2) s2 (fun zs hz => (e2 zs fun j hj => hz j (List.mem_append_right _ hj)).trans (e1 zs fun j hj => hz j (List.mem_append_left _ hj))) q2
theorem sg_tup {n : Nat} (hs : SGs K js gs ws) : SG K js (gTup K n gs) (wGTup n ws) := by
  intro c ss own Q hq B θ F H σ v gg s r R k
  unfold wGTup at hq
  split at hq
  · rename_i ds
    obtain ⟨a, xs, rfl, h1, h2⟩ := cr_tup r
    exact ⟨a, xs, rfl, same_t gg.ex h1, by rw [rpAll_len h2]; exact hq.1, hs _ ss own _ hq.2 B θ F H σ xs gg s (paired_rpAll h2) R k⟩
  · exact hq.elim
end

/-! ### what is walked -/
abbrev WI := Sl → Ts → (List D → Ts → Prop) → Prop
/-- the iterator J gives these items, whatever is added to F -/
structure Wk (K : PySem.W.Frag) (F : Hp) (J : It) (items : List D) : Prop where
  ex : ∃ (G : Hp → Prop) (Y : Nat → Hp → V → Hp → Prop), Walk J items.length G Y ∧ (∀ H, Same F H → G H) ∧ ∀ i H x H', i < items.length → Same F H → Y i H x H' →
    ∃ d, items[i]? = some d ∧ ((H' = H ∧ Rp K F x d) ∨ ∃ T o, H T = none ∧ H' = upd H T o ∧ x = .ref T ∧ ∀ F', Same F F' → F' T = some o → Rp K F' x d)
def SI (K : PySem.W.Frag) (wi : TI) (w : WI) : Prop := ∀ ss own Q, w ss own Q → ∀ B θ F H σ, Ga K B θ own F H → Zd.SlR K θ F σ ss → ∀ R : It → Hp → Prop,
  (∀ θ' own' F' H' J items, Ga K B θ' own' F' H' → Tr B θ F H θ' F' H' → Wk K F' J items → Q items own' → R J H') → wi σ H R
structure AI (X : Cx) (tg iter : Expr) (wi : TI) (w : WI) : Prop where
  p : PI X tg iter wi
  s : SI X.K wi w
def wiList (we : WE) : WI := fun ss own Q => we ss own fun c o1 => match c with
  | .fr (.list ds) => Q ds o1
  | .sc ns => Q (ns.map PyData.int) o1
  | _ => False
def wiTup (we : WE) : WI := fun ss own Q => we ss own fun c o1 => match c with
  | .fr (.tuple ds) => Q ds o1
  | _ => False
def wiStr (we : WE) : WI := fun ss own Q => we ss own fun c o1 => match c with
  | .fr (.str z) => Q (z.cps.toList.map fun x => .str ⟨#[x]⟩) o1
  | _ => False
def rangeD (lo : Int) (n : Nat) : List D := (List.range n).map fun (i : Nat) => PyData.int (lo + (i : Int))
theorem rangeD_length {lo : Int} {n : Nat} : (rangeD lo n).length = n := by simp [rangeD]
theorem rangeD_get {lo : Int} {n i : Nat} (h : i < n) : (rangeD lo n)[i]? = some (.int (lo + (i : Int))) := by simp [rangeD, h]
theorem of_rangeD {lo : Int} {n i : Nat} {d : D} (h : (rangeD lo n)[i]? = some d) : i < n ∧ d = .int (lo + (i : Int)) := by
  have hi : i < n := by have := (List.getElem?_eq_some_iff.mp h).1; rwa [rangeD_length] at this
  rw [rangeD_get hi] at h
  exact ⟨hi, (Option.some.inj h).symm⟩
def wiR1 (wa : WA) : WI := fun ss own Q => wa ss own fun cs o1 => match cs with
  | [.fr (.int j)] => (-(2 ^ 62) ≤ j ∧ j < 2 ^ 62) ∧ Q (rangeD 0 j.toNat) o1
  | _ => False
def wiR2 (wa : WA) : WI := fun ss own Q => wa ss own fun cs o1 => match cs with
  | [.fr (.int i), .fr (.int j)] => (-(2 ^ 62) ≤ i ∧ i < 2 ^ 62 ∧ -(2 ^ 62) ≤ j ∧ j < 2 ^ 62) ∧ Q (rangeD i (j - i).toNat) o1
  | _ => False
/-- zip of two lists, of two tuples -/
def wiZip (wa : WA) : WI := fun ss own Q => wa ss own fun cs o1 => match cs with
  | [.fr (.list xs), .fr (.list ys)] => Q ((xs.zip ys).map fun p => .tuple [p.1, p.2]) o1
  | [.fr (.tuple xs), .fr (.tuple ys)] => Q ((xs.zip ys).map fun p => .tuple [p.1, p.2]) o1
  | _ => False
def wiRev (we : WE) : WI := fun ss own Q => we ss own fun c o1 => match c with
  | .fr (.list ds) => Q ds.reverse o1
  | .fr (.tuple ds) => Q ds.reverse o1
  | _ => False
section
variable {K : PySem.W.Frag} {F : Hp} {te : TE} {we : WE} {ta : TA} {wa : WA}
theorem wk_of {J : It} {items : List D} {G : Hp → Prop} {Y : Nat → Hp → V → Hp → Prop} (h : Walk J items.length G Y) (hg : ∀ H, Same F H → G H) (hy : ∀ i H x H', Y i H x H' → ∃ d, items[i]? = some d ∧ H' = H ∧ Rp K F x d) : Wk K F J items :=
  ⟨G, Y, h, hg, fun i H x H' _ _ y => let ⟨d, e, a, b⟩ := hy i H x H' y; ⟨d, e, .inl ⟨a, b⟩⟩⟩
theorem wk_list {a : Addr} {xs : List V} {ds : List D} (h : SqL K F a xs) (r : RpAll K F xs ds) : Wk K F (Itl K a) ds := by
  refine wk_of (G := fun H => SqL K H a xs) (Y := YAt xs) (by rw [← rpAll_len r]; exact walk_list) (fun H e => same_l e h) fun i H x H' y => ?_
  obtain ⟨d, e, rd⟩ := rpAll_getV r y.2
  exact ⟨d, e, y.1, rd⟩
theorem wk_tup {a : Addr} {xs : List V} {ds : List D} (h : SqT K F a xs) (r : RpAll K F xs ds) : Wk K F (Itt K a) ds := by
  refine wk_of (G := fun H => SqT K H a xs) (Y := YAt xs) (by rw [← rpAll_len r]; exact walk_tup) (fun H e => same_t e h) fun i H x H' y => ?_
  obtain ⟨d, e, rd⟩ := rpAll_getV r y.2
  exact ⟨d, e, y.1, rd⟩
theorem wk_range {lo : Int} {n : Nat} : Wk K F (Itr lo n) (rangeD lo n) := by
  refine ⟨fun _ => True, YFn fun i => .int (lo + i), by rw [rangeD_length]; exact walk_range, fun _ _ => trivial, fun i H x H' hi _ y => ?_⟩
  obtain ⟨e1, e2⟩ := y
  rw [rangeD_length] at hi
  exact ⟨_, rangeD_get hi, .inl ⟨e1, by rw [e2]; exact .int _⟩⟩
theorem rp_pair {F F' : Hp} {T : Addr} {x y : V} {d e : D} (s : Same F F') (h : F' T = some (.tup [x, y])) (hx : Rp K F x d) (hy : Rp K F y e) : Rp K F' (.ref T) (.tuple [d, e]) :=
  .tup (SqT.of h) (.cons (rp_mono s _ _ hx) (.cons (rp_mono s _ _ hy) .nil))
theorem wk_pair {J : It} {ds es : List D} {xs ys : Nat → Option V} {G : Hp → Prop} (h : Walk J (min ds.length es.length) G (YPair xs ys)) (hg : ∀ H, Same F H → G H)
    (hx : ∀ i v, xs i = some v → ∃ d, ds[i]? = some d ∧ Rp K F v d) (hy : ∀ i v, ys i = some v → ∃ d, es[i]? = some d ∧ Rp K F v d) : Wk K F J ((ds.zip es).map fun p => .tuple [p.1, p.2]) := by
  refine ⟨G, YPair xs ys, by rw [List.length_map, List.length_zip]; exact h, hg, fun i H v H' hi _ y => ?_⟩
  obtain ⟨T, x, z, e1, e2, e3, e4, e5⟩ := y
  obtain ⟨d, h1, r1⟩ := hx i x e4
  obtain ⟨d', h2, r2⟩ := hy i z e5
  subst e1
  refine ⟨.tuple [d, d'], ?_, .inr ⟨T, _, e2, e3, rfl, fun F' s hF => rp_pair s hF r1 r2⟩⟩
  rw [List.getElem?_map, List.getElem?_zip_eq_some (z := (d, d')) |>.mpr ⟨h1, h2⟩]
  rfl
theorem walk_zipT {a b : Addr} {xs ys : List V} {n : Nat} (hn : n = min xs.length ys.length) : Walk (ItzT K a b) n (fun H => SqT K H a xs ∧ SqT K H b ys) (YPair (fun i => xs[i]?) (fun i => ys[i]?)) := by
  subst hn
  refine ⟨fun i _ hi q => ?_, fun _ q => ⟨xs, ys, q.1, q.2, by omega⟩, fun i H v H' _ q y => ?_⟩
  · have h1 : i < xs.length := by omega
    have h2 : i < ys.length := by omega
    exact ⟨xs, ys, xs[i], ys[i], q.1, q.2, by simp [h1], by simp [h2]⟩
  · obtain ⟨T, x, z, h1, h2, h3, h4, h5⟩ := y
    exact ⟨T, x, z, h1, h2, h3, h4 xs q.1, h5 ys q.2⟩
theorem walk_revT {a : Addr} {xs : List V} : Walk (ItvT K a xs.length) xs.length (fun H => SqT K H a xs) (fun i H x H' => H' = H ∧ xs[xs.length - 1 - i]? = some x) :=
  ⟨fun i _ hi q => ⟨hi, xs, xs[xs.length - 1 - i]'(by omega), q, by simp [show xs.length - 1 - i < xs.length by omega]⟩, fun _ _ => Nat.le_refl _, fun _ _ _ _ _ q y => ⟨y.1, y.2 xs q⟩⟩
theorem si_list (h : SE K te we) : SI K (iList K te) (wiList we) := by
  intro ss own Q hw B θ F H σ g s R k
  refine h ss own _ hw B θ F H σ g s _ fun θ1 own1 F1 H1 v c g1 t1 r1 q1 => ?_
  dsimp only at q1
  split at q1
  · rename_i ds
    obtain ⟨a, xs, rfl, h1, h2⟩ := cr_lst r1
    exact ⟨a, rfl, ⟨xs, SqL.of (g1.ex _ _ h1)⟩, k _ _ _ _ _ _ g1 t1 (wk_list (SqL.of h1) h2) q1⟩
  · rename_i ns
    obtain ⟨a, rfl, h1⟩ := r1
    exact ⟨a, rfl, ⟨_, same_l g1.ex h1⟩, k _ _ _ _ _ _ g1 t1 (wk_list h1 (ints_rp ns)) q1⟩
  · exact q1.elim
theorem si_tup (h : SE K te we) : SI K (iTup K te) (wiTup we) := by
  intro ss own Q hw B θ F H σ g s R k
  refine h ss own _ hw B θ F H σ g s _ fun θ1 own1 F1 H1 v c g1 t1 r1 q1 => ?_
  dsimp only at q1
  split at q1
  · rename_i ds
    obtain ⟨a, xs, rfl, h1, h2⟩ := cr_tup r1
    exact ⟨a, rfl, ⟨xs, same_t g1.ex h1⟩, k _ _ _ _ _ _ g1 t1 (wk_tup h1 h2) q1⟩
  · exact q1.elim
theorem si_str (h : SE K te we) : SI K (iStr te) (wiStr we) := by
  intro ss own Q hw B θ F H σ g s R k
  refine h ss own _ hw B θ F H σ g s _ fun θ1 own1 F1 H1 v c g1 t1 r1 q1 => ?_
  dsimp only at q1
  split at q1
  · rename_i z
    cases cr_str r1
    refine ⟨z, rfl, k _ _ _ _ _ _ g1 t1 (wk_of (G := fun _ => True) (Y := fun i H v H' => H' = H ∧ ∃ c, z.cps[i]? = some c ∧ v = .str ⟨#[c]⟩) (by rw [List.length_map, Array.length_toList]; exact walk_str) (fun _ _ => trivial) fun i H x H' y => ?_) q1⟩
    obtain ⟨e1, c, e2, e3⟩ := y
    exact ⟨.str ⟨#[c]⟩, by rw [List.getElem?_map, Array.getElem?_toList, e2]; rfl, e1, by rw [e3]; exact .str _⟩
  · exact q1.elim
theorem si_r1 (h : SA K ta wa) : SI K (iRng1 ta) (wiR1 wa) := by
  intro ss own Q hw B θ F H σ g s R k
  refine h ss own _ hw B θ F H σ g s _ fun θ1 own1 F1 H1 vs cs g1 t1 r1 q1 => ?_
  dsimp only at q1
  split at q1
  · rename_i j
    obtain ⟨v, rfl, r⟩ := paired1 r1
    cases cr_int r
    exact ⟨j, rfl, q1.1.1, q1.1.2, k _ _ _ _ _ _ g1 t1 wk_range q1.2⟩
  · exact q1.elim
theorem si_r2 (h : SA K ta wa) : SI K (iRng2 ta) (wiR2 wa) := by
  intro ss own Q hw B θ F H σ g s R k
  refine h ss own _ hw B θ F H σ g s _ fun θ1 own1 F1 H1 vs cs g1 t1 r1 q1 => ?_
  dsimp only at q1
  split at q1
  · rename_i i j
    obtain ⟨v, u, rfl, r, r2⟩ := paired2 r1
    cases cr_int r
    cases cr_int r2
    exact ⟨i, j, rfl, q1.1, k _ _ _ _ _ _ g1 t1 wk_range q1.2⟩
  · exact q1.elim
theorem si_zip (h : SA K ta wa) : SI K (iZipA K ta) (wiZip wa) := by
  intro ss own Q hw B θ F H σ g s R k
  refine h ss own _ hw B θ F H σ g s _ fun θ1 own1 F1 H1 vs cs g1 t1 r1 q1 => ?_
  dsimp only at q1
  split at q1
  · rename_i xs ys
    obtain ⟨v, u, rfl, r, r2⟩ := paired2 r1
    obtain ⟨a, vs, rfl, h1, h2⟩ := cr_lst r
    obtain ⟨b, us, rfl, h3, h4⟩ := cr_lst r2
    refine ⟨a, b, vs, us, rfl, .inl ⟨SqL.of (g1.ex _ _ h1), SqL.of (g1.ex _ _ h3), k _ _ _ _ _ _ g1 t1 (wk_pair (ds := xs) (es := ys) (xs := fun i => vs[i]?) (ys := fun i => us[i]?) (G := fun H => SqL K H a vs ∧ SqL K H b us) (walk_zip (by rw [rpAll_len h2, rpAll_len h4]))
      (fun H e => ⟨SqL.of (e _ _ h1), SqL.of (e _ _ h3)⟩) (fun i v e => rpAll_getV h2 e) fun i v e => rpAll_getV h4 e) q1⟩⟩
  · rename_i xs ys
    obtain ⟨v, u, rfl, r, r2⟩ := paired2 r1
    obtain ⟨a, vs, rfl, h1, h2⟩ := cr_tup r
    obtain ⟨b, us, rfl, h3, h4⟩ := cr_tup r2
    refine ⟨a, b, vs, us, rfl, .inr ⟨same_t g1.ex h1, same_t g1.ex h3, k _ _ _ _ _ _ g1 t1 (wk_pair (ds := xs) (es := ys) (xs := fun i => vs[i]?) (ys := fun i => us[i]?) (G := fun H => SqT K H a vs ∧ SqT K H b us) (walk_zipT (by rw [rpAll_len h2, rpAll_len h4]))
      (fun H e => ⟨same_t e h1, same_t e h3⟩) (fun i v e => rpAll_getV h2 e) fun i v e => rpAll_getV h4 e) q1⟩⟩
  · exact q1.elim
theorem rev_at {xs : List V} {ds : List D} {i : Nat} {x : V} (h2 : RpAll K F xs ds) (hi : i < ds.length) (e : xs[xs.length - 1 - i]? = some x) : ∃ d, ds.reverse[i]? = some d ∧ Rp K F x d := by
  obtain ⟨d, e2, rd⟩ := rpAll_getV h2 e
  exact ⟨d, by rw [List.getElem?_reverse hi, ← rpAll_len h2]; exact e2, rd⟩
theorem si_rev (h : SE K te we) : SI K (iRevA K te) (wiRev we) := by
  intro ss own Q hw B θ F H σ g s R k
  refine h ss own _ hw B θ F H σ g s _ fun θ1 own1 F1 H1 v c g1 t1 r1 q1 => ?_
  dsimp only at q1
  split at q1
  · rename_i ds
    obtain ⟨a, xs, rfl, h1, h2⟩ := cr_lst r1
    refine ⟨a, xs, rfl, .inl ⟨SqL.of (g1.ex _ _ h1), k _ _ _ _ _ _ g1 t1 ⟨_, _, by rw [List.length_reverse, ← rpAll_len h2]; exact walk_rev (K := K) (a := a) (xs := xs), fun H e => SqL.of (e _ _ h1), fun i H x H' hi _ y => ?_⟩ q1⟩⟩
    obtain ⟨d, e, rd⟩ := rev_at h2 (by rwa [List.length_reverse] at hi) y.2
    exact ⟨d, e, .inl ⟨y.1, rd⟩⟩
  · rename_i ds
    obtain ⟨a, xs, rfl, h1, h2⟩ := cr_tup r1
    refine ⟨a, xs, rfl, .inr ⟨same_t g1.ex h1, k _ _ _ _ _ _ g1 t1 ⟨_, _, by rw [List.length_reverse, ← rpAll_len h2]; exact walk_revT (K := K) (a := a) (xs := xs), fun H e => same_t e h1, fun i H x H' hi _ y => ?_⟩ q1⟩⟩
    obtain ⟨d, e, rd⟩ := rev_at h2 (by rwa [List.length_reverse] at hi) y.2
    exact ⟨d, e, .inl ⟨y.1, rd⟩⟩
  · exact q1.elim
end

/-! ### statements -/
structure En where
  nx : Sl → Ts → Prop
  rt : C → Ts → Prop
  bk : Sl → Ts → Prop := fun _ _ => False
  ct : Sl → Ts → Prop := fun _ _ => False
abbrev WS := En → Sl → Ts → Prop
section
variable (K : PySem.W.Frag)
def BkN (B : Addr → Prop) (θ : List Addr) (F H : Hp) (Q : Sl → Ts → Prop) (R : St → Hp → Prop) : Prop :=
  ∀ θ' own' F' H' σ' ss', Ga K B θ' own' F' H' → Tr B θ F H θ' F' H' → Zd.SlR K θ' F' σ' ss' → Q ss' own' → R σ' H'
structure BkS (B : Addr → Prop) (θ : List Addr) (F H : Hp) (E : En) (D : Ends) : Prop where
  nx : BkN K B θ F H E.nx D.nx
  rt : Bk K B θ F H E.rt D.rt
  bk : BkN K B θ F H E.bk D.bk
  ct : BkN K B θ F H E.ct D.ct
def SS (t : TS) (w : WS) : Prop := ∀ E ss own, w E ss own → ∀ B θ F H σ, Ga K B θ own F H → Zd.SlR K θ F σ ss → ∀ D : Ends, BkS K B θ F H E D → t D σ H
end
structure AS (X : Cx) (st : Stmt) (t : TS) (w : WS) : Prop where
  p : PS X st t
  s : SS X.K t w
structure ASs (X : Cx) (st : List Stmt) (t : TS) (w : WS) : Prop where
  p : PSs X st t
  s : SS X.K t w
/-- one statement, then the rest; M holds between them -/
def wSeq (w w' : WS) : WS := fun E ss own => ∃ M : Sl → Ts → Prop, w { E with nx := M } ss own ∧ ∀ ss' own', M ss' own' → w' E ss' own'
theorem seq1 {w w' : WS} {E : En} {ss : Sl} {own : Ts} (h : w { E with nx := w' E } ss own) : wSeq w w' E ss own := ⟨_, h, fun _ _ z => z⟩
theorem seq_cut {w w' : WS} {E : En} {ss : Sl} {own : Ts} (M : Sl → Ts → Prop) (h : w { E with nx := M } ss own) (k : ∀ ss' own', M ss' own' → w' E ss' own') : wSeq w w' E ss own := ⟨M, h, k⟩
def wNext : WS := fun E ss own => E.nx ss own
def wBreak : WS := fun E ss own => E.bk ss own
def wCont : WS := fun E ss own => E.ct ss own
def wNever : WS := fun _ _ _ => False
def wAsg (we : WE) (g : WG) : WS := fun E ss own => we ss own fun c o1 => g c ss o1 E.nx
def wRet (we : WE) : WS := fun E ss own => we ss own E.rt
def wRetN : WS := fun E _ own => E.rt (.fr .none) own
def wDrop (we : WE) : WS := fun E ss own => we ss own fun _ o1 => E.nx ss o1
def wIfS (wt : WT) (wa wb : WS) : WS := fun E ss own => wt ss own fun b o1 => Itf b (wa E ss o1) (wb E ss o1)
def wFor (wi : WI) (g : WG) (wb : WS) : WS := fun E ss own => ∃ I : List D → Ts → Prop, wi ss own I ∧ ∀ items o1, I items o1 → ∃ P : Nat → Sl → Ts → Prop, P 0 ss o1 ∧
  (∀ (i : Nat) d ss' own', items[i]? = some d → P i ss' own' → g (.fr d) ss' own' fun ss2 own2 => wb { E with nx := P (i + 1), ct := P (i + 1), bk := E.nx } ss2 own2) ∧ ∀ ss' own', P items.length ss' own' → E.nx ss' own'
def wWhile (wt : WT) (wb : WS) : WS := fun E ss own => ∃ P : Nat → Sl → Ts → Prop, (∃ m, P m ss own) ∧ ∀ m ss' own', P m ss' own' →
  wt ss' own' fun b o1 => Itf b (wb { E with nx := fun s2 o2 => ∃ m', m' < m ∧ P m' s2 o2, ct := fun s2 o2 => ∃ m', m' < m ∧ P m' s2 o2, bk := E.nx } ss' o1) (E.nx ss' o1)
/-- x op= e -/
def wAug (i : Nat) (f : F2) (we : WE) : WS := fun E ss own => match ss[i]? with
  | some (some c) => we ss own fun d o1 => f (res own c) d o1 fun e o2 => E.nx (ss.set i (some e)) o2
  | _ => False
/-- a, b = x, y -/
def wPar (i j : Nat) (wa : WA) : WS := fun E ss own => wa ss own fun cs o1 => match cs with
  | [c, d] => E.nx ((ss.set i (some c)).set j (some d)) o1
  | _ => False
/-- xs[i] = v -/
def setI (cs : List C) (k : Int) (v : C) : Option (List C) := (ixN cs.length k).map fun j => cs.set j v
def fSet (o i v : C) (own : Ts) (Q : Ts → Prop) : Prop := match o, i with
  | .hd h, .fr (.int k) => (match own[h]? with
    | some (.lst cs) => optP (setI cs k v) fun cs' => Q (own.set h (.lst cs'))
    | _ => False)
  | _, _ => False
def wSet (wo wi : WE) : WG := fun c ss own Q => wo ss own fun o o1 => wi ss o1 fun i o2 => fSet o i c o2 fun o3 => Q ss o3
/-- xs[i] of an owned list -/
def fGet : F2 := fun c d own Q => match c, d with
  | .hd h, .fr (.int i) => (match own[h]? with
    | some (.lst cs) => optP (atI cs i) fun x => Q (res own x) own
    | _ => False)
  | _, _ => False
/-- xs[i] op= e -/
def wAugS (f : F2) (wo wi we : WE) : WS := fun E ss own => wo ss own fun o o1 => wi ss o1 fun i o2 => fGet o i o2 fun x o3 => we ss o3 fun y o4 => f x y o4 fun z o5 => fSet o i z o5 fun o6 => E.nx ss o6
end Zd

/-! Zd5: statements, comprehensions, methods, calls, defs: that they are sound. -/
namespace Zd
open PySem L2 RZ RT

section
variable {K : PySem.W.Frag} {B : Addr → Prop} {θ θ1 : List Addr} {F F1 H H1 : Hp} {E : En} {D : Ends}
theorem BkN.up {Q : Sl → Ts → Prop} {R : St → Hp → Prop} (t : Tr B θ F H θ1 F1 H1) (h : BkN K B θ F H Q R) : BkN K B θ1 F1 H1 Q R := fun θ' own' F' H' σ ss g t' s q => h θ' own' F' H' σ ss g (t.trans t') s q
theorem BkS.up (t : Tr B θ F H θ1 F1 H1) (h : BkS K B θ F H E D) : BkS K B θ1 F1 H1 E D := ⟨h.nx.up t, h.rt.up t, h.bk.up t, h.ct.up t⟩
end
section
variable {K : PySem.W.Frag} {t u ts tb : TS} {w w' wb : WS} {te ta tb' : TE} {we wa we' : WE} {tt : TT} {wt : WT} {ta' : TA} {wa' : WA}
theorem ss_seq (h : SS K t w) (h' : SS K u w') : SS K (tSeq t u) (wSeq w w') := by
  intro E ss own hw B θ F H σ g s D k
  obtain ⟨M, hw, hm⟩ := hw
  refine h _ ss own hw B θ F H σ g s _ ⟨fun θ1 own1 F1 H1 σ1 ss1 g1 t1 s1 q1 => ?_, k.rt, k.bk, k.ct⟩
  exact h' E ss1 own1 (hm ss1 own1 q1) B θ1 F1 H1 σ1 g1 s1 D (k.up t1)
theorem ss_next : SS K tNext wNext := fun E ss own h B θ F H σ g s D k => k.nx θ own F H σ ss g Tr.refl s h
theorem ss_brk : SS K tBreak wBreak := fun E ss own h B θ F H σ g s D k => k.bk θ own F H σ ss g Tr.refl s h
theorem ss_cont : SS K tCont wCont := fun E ss own h B θ F H σ g s D k => k.ct θ own F H σ ss g Tr.refl s h
theorem ss_never {t : TS} : SS K t wNever := fun E ss own h => h.elim
theorem ss_ret (h : SE K te we) : SS K (tRet te) (wRet we) := by
  intro E ss own hw B θ F H σ g s D k
  exact h ss own _ hw B θ F H σ g s _ k.rt
theorem ss_retN : SS K tRetN wRetN := fun E ss own h B θ F H σ g s D k => k.rt θ own F H _ (.fr .none) g Tr.refl .non h
theorem ss_drop (h : SE K te we) : SS K (tDrop te) (wDrop we) := by
  intro E ss own hw B θ F H σ g s D k
  exact h ss own _ hw B θ F H σ g s _ fun θ1 own1 F1 H1 v c g1 t1 r1 q1 => k.nx _ _ _ _ _ _ g1 t1 (s.up t1) q1
theorem ss_asg {js : List Nat} {tg : TG} {wg : WG} (h : SE K te we) (hg : SG K js tg wg) : SS K (tAsg te tg) (wAsg we wg) := by
  intro E ss own hw B θ F H σ g s D k
  refine h ss own _ hw B θ F H σ g s _ fun θ1 own1 F1 H1 v c g1 t1 r1 q1 => ?_
  exact hg c ss own1 _ q1 B θ1 F1 H1 σ v g1 (s.up t1) r1 _ fun θ2 own2 F2 H2 σ2 ss2 g2 t2 s2 _ q2 => k.nx _ _ _ _ _ _ g2 (t1.trans t2) s2 q2
theorem ss_if (h : ST K tt wt) (ha : SS K t w) (hb : SS K u w') : SS K (tIfS tt t u) (wIfS wt w w') := by
  intro E ss own hw B θ F H σ g s D k
  refine h ss own _ hw B θ F H σ g s _ fun θ1 own1 F1 H1 b g1 t1 q1 => ?_
  cases b with
  | true => exact ha E ss own1 q1 B θ1 F1 H1 σ g1 (s.up t1) D (k.up t1)
  | false => exact hb E ss own1 q1 B θ1 F1 H1 σ g1 (s.up t1) D (k.up t1)
theorem ss_par {i j : Nat} (h : SA K ta' wa') : SS K (tPar i j ta') (wPar i j wa') := by
  intro E ss own hw B θ F H σ g s D k
  refine h ss own _ hw B θ F H σ g s _ fun θ1 own1 F1 H1 vs cs g1 t1 r1 q1 => ?_
  dsimp only at q1
  split at q1
  · rename_i c d
    obtain ⟨v, u, rfl, r, r2⟩ := paired2 r1
    exact ⟨v, u, rfl, k.nx _ _ _ _ _ _ g1 t1 (slr_set (slr_set (s.up t1) r) r2) q1⟩
  · exact q1.elim
theorem ss_aug {i : Nat} {r : R2} {f : F2} (h : SE K te we) (hr : S2 K r f) : SS K (tAug i te r) (wAug i f we) := by
  intro E ss own hw B θ F H σ g s D k
  unfold wAug at hw
  split at hw
  · rename_i c e
    obtain ⟨v, e1, r1⟩ := s.2 i c e
    refine ⟨v, e1, ?_⟩
    refine h ss own _ hw B θ F H σ g s _ fun θ1 own1 F1 H1 u d g1 t1 r2 q1 => ?_
    refine hr _ d own1 _ q1 B θ1 F1 H1 v u g1 ((r1.res g).up t1) r2 _ fun θ2 own2 F2 H2 x e g2 t2 r3 q2 => ?_
    exact k.nx _ _ _ _ _ _ g2 (t1.trans t2) (slr_set (s.up (t1.trans t2)) r3) q2
  · exact hw.elim
/-- a for loop -/
theorem ss_for {wi : TI} {wI : WI} {js : List Nat} {tg : TG} {wg : WG} (hi : SI K wi wI) (hg : SG K js tg wg) (hb : SS K tb wb) : SS K (tFor wi tg tb) (wFor wI wg wb) := by
  rintro E ss own ⟨I, hw, hk⟩ B θ F H σ g s D k
  refine hi ss own _ hw B θ F H σ g s _ fun θ1 own1 F1 H1 J items g1 t1 wk q1 => ?_
  obtain ⟨P, p0, ps, pd⟩ := hk _ _ q1
  obtain ⟨G, Y, W, hG, hY⟩ := wk.ex
  refine for_it W (fun i σ' H' => ∃ θ' own' F' ss', Ga K B θ' own' F' H' ∧ Tr B θ1 F1 H1 θ' F' H' ∧ Zd.SlR K θ' F' σ' ss' ∧ P i ss' own') ⟨θ1, own1, F1, ss, g1, Tr.refl, s.up t1, p0⟩ ?_ ?_ ?_
  · rintro i σ' H' _ ⟨θ', own', F', ss', g', t', s', p⟩
    exact hG H' (t'.ex.trans g'.ex)
  · rintro i x σ' H' H2 hi ⟨θ', own', F', ss', g', t', s', p⟩ y
    obtain ⟨d, ed, y⟩ := hY i H' x H2 hi (t'.ex.trans g'.ex) y
    have fin : ∀ F'' , Ga K B θ' own' F'' H2 → Tr B θ' F' H' θ' F'' H2 → Rp K F'' x d → tg x σ' H2 fun σ2 H3 => tb { D with nx := fun σ H => ∃ θ' own' F' ss', Ga K B θ' own' F' H ∧ Tr B θ1 F1 H1 θ' F' H ∧ Zd.SlR K θ' F' σ ss' ∧ P (i + 1) ss' own', ct := fun σ H => ∃ θ' own' F' ss', Ga K B θ' own' F' H ∧ Tr B θ1 F1 H1 θ' F' H ∧ Zd.SlR K θ' F' σ ss' ∧ P (i + 1) ss' own', bk := D.nx } σ2 H3 := by
      intro F'' g2 t2 rx
      refine hg (.fr d) ss' own' _ (ps i d ss' own' ed p) B θ' F'' H2 σ' x g2 (s'.up t2) rx _ fun θ3 own3 F3 H3 σ3 ss3 g3 t3 s3 _ q3 => ?_
      have t13 := (t'.trans t2).trans t3
      refine hb _ ss3 own3 q3 B θ3 F3 H3 σ3 g3 s3 _ ⟨?_, (k.up (t1.trans t13)).rt, ?_, ?_⟩
      · exact fun θ4 own4 F4 H4 σ4 ss4 g4 t4 s4 q4 => ⟨θ4, own4, F4, ss4, g4, t13.trans t4, s4, q4⟩
      · exact fun θ4 own4 F4 H4 σ4 ss4 g4 t4 s4 q4 => k.nx _ _ _ _ _ _ g4 ((t1.trans t13).trans t4) s4 q4
      · exact fun θ4 own4 F4 H4 σ4 ss4 g4 t4 s4 q4 => ⟨θ4, own4, F4, ss4, g4, t13.trans t4, s4, q4⟩
    rcases y with ⟨rfl, rx⟩ | ⟨T, o, hT, rfl, rfl, rx⟩
    · exact fin F' g' Tr.refl (rp_mono t'.ex _ _ rx)
    · obtain ⟨g2, t2⟩ := g'.newF (o := o) hT
      exact fin _ g2 t2 (rx _ (t'.ex.trans t2.ex) upd_same)
  · rintro σ' H' ⟨θ', own', F', ss', g', t', s', p⟩
    exact k.nx _ _ _ _ _ _ g' (t1.trans t') s' (pd ss' own' p)
theorem ss_while (h : ST K tt wt) (hb : SS K tb wb) : SS K (tWhile tt tb) (wWhile wt wb) := by
  intro E ss own hw B θ F H σ g s D k
  obtain ⟨P, ⟨m0, p0⟩, ps⟩ := hw
  refine ⟨fun m σ' H' => ∃ θ' own' F' ss', Ga K B θ' own' F' H' ∧ Tr B θ F H θ' F' H' ∧ Zd.SlR K θ' F' σ' ss' ∧ P m ss' own', ⟨m0, θ, own, F, ss, g, Tr.refl, s, p0⟩, ?_⟩
  rintro m σ' H' ⟨θ', own', F', ss', g', t', s', p⟩
  refine h ss' own' _ (ps m ss' own' p) B θ' F' H' σ' g' s' _ fun θ1 own1 F1 H1 b g1 t1 q1 => ?_
  cases b with
  | true =>
    have t01 := t'.trans t1
    refine ⟨fun σ2 H2 => ∃ m', m' < m ∧ ∃ θ' own' F' ss', Ga K B θ' own' F' H2 ∧ Tr B θ F H θ' F' H2 ∧ Zd.SlR K θ' F' σ2 ss' ∧ P m' ss' own', fun _ _ z => z, ?_⟩
    have nx : BkN K B θ1 F1 H1 (fun s2 o2 => ∃ m', m' < m ∧ P m' s2 o2) fun σ2 H2 => ∃ m', m' < m ∧ ∃ θ' own' F' ss', Ga K B θ' own' F' H2 ∧ Tr B θ F H θ' F' H2 ∧ Zd.SlR K θ' F' σ2 ss' ∧ P m' ss' own' :=
      fun θ4 own4 F4 H4 σ4 ss4 g4 t4 s4 ⟨m', hm, q4⟩ => ⟨m', hm, θ4, own4, F4, ss4, g4, t01.trans t4, s4, q4⟩
    exact hb _ ss' own1 q1 B θ1 F1 H1 σ' g1 (s'.up t1) _ ⟨nx, (k.up t01).rt, (k.up t01).nx, nx⟩
  | false => exact k.nx _ _ _ _ _ _ g1 (t'.trans t1) (s'.up t1) q1
/-- stores in lists -/
theorem set_core {o i c : C} {own : Ts} {Q : Ts → Prop} (hq : fSet o i c own Q) {B : Addr → Prop} {θ : List Addr} {F H : Hp} {vo vi v : V} (g : Ga K B θ own F H) (ro : Cr K θ F vo o) (ri : Cr K θ F vi i) (r : Cr K θ F v c)
    {R : Hp → Prop} (k : ∀ own' H', Ga K B θ own' F H' → Tr B θ F H θ F H' → Q own' → R H') : rSetL vo vi v H R := by
  unfold fSet at hq
  split at hq
  · rename_i h z
    obtain ⟨a, ha, rfl⟩ := ro
    cases cr_int ri
    split at hq
    · rename_i cs e
      obtain ⟨cs', ecs, hq⟩ := of_mt hq
      unfold setI at ecs
      obtain ⟨j, ej, ecs⟩ := Option.map_eq_some_iff.mp ecs
      subst ecs
      obtain ⟨hn, vs, hv, rv⟩ := g.mo h a _ ha e
      obtain ⟨g1, t1⟩ := g.write (o := .lst (vs.set j v)) (m := .lst (cs.set j c)) ha hn ⟨hn, _, upd_same, paired_set r j rv⟩
      exact ⟨a, vs, z, j, rfl, rfl, hv, by rw [paired_len rv]; exact ej, k _ _ g1 t1 hq⟩
    · exact hq.elim
  · exact hq.elim
theorem sg_set {to ti : TE} {wo wi : WE} (ho : SE K to wo) (hi : SE K ti wi) : SG K [] (gSub to ti rSetL) (wSet wo wi) := by
  intro c ss own Q hq B θ F H σ v g s r R k
  refine ho ss own _ hq B θ F H σ g s _ fun θ1 own1 F1 H1 vo o g1 t1 r1 q1 => ?_
  refine hi ss own1 _ q1 B θ1 F1 H1 σ g1 (s.up t1) _ fun θ2 own2 F2 H2 vi i g2 t2 r2 q2 => ?_
  exact set_core q2 g2 (r1.up t2) r2 (r.up (t1.trans t2)) fun own3 H3 g3 t3 q3 => k _ _ _ _ _ _ g3 ((t1.trans t2).trans t3) (s.up ((t1.trans t2).trans t3)) (fun _ _ => rfl) q3
theorem ss_augS {to ti : TE} {wo wi : WE} {r : R2} {f : F2} (ho : SE K to wo) (hi : SE K ti wi) (h : SE K te we) (hr : S2 K r f) : SS K (tAugS to ti te (rIxL K) r rSetL) (wAugS f wo wi we) := by
  intro E ss own hw B θ F H σ g s D k
  refine ho ss own _ hw B θ F H σ g s _ fun θ1 own1 F1 H1 vo o g1 t1 r1 q1 => ?_
  refine hi ss own1 _ q1 B θ1 F1 H1 σ g1 (s.up t1) _ fun θ2 own2 F2 H2 vi i g2 t2 r2 q2 => ?_
  have fin : ∀ (vx : V) x, Cr K θ2 F2 vx x → (we ss own2 fun y o4 => f x y o4 fun z o5 => fSet o i z o5 fun o6 => E.nx ss o6) → te σ H2 fun y H4 => r vx y H4 fun z H5 => rSetL vo vi z H5 fun H6 => D.nx σ H6 := by
    intro vx x rx q3
    refine h ss own2 _ q3 B θ2 F2 H2 σ g2 (s.up (t1.trans t2)) _ fun θ4 own4 F4 H4 vy y g4 t4 r4 q4 => ?_
    refine hr x y own4 _ q4 B θ4 F4 H4 vx vy g4 (rx.up t4) r4 _ fun θ5 own5 F5 H5 vz z g5 t5 r5 q5 => ?_
    exact set_core q5 g5 (r1.up ((t2.trans t4).trans t5)) (r2.up (t4.trans t5)) r5 fun own6 H6 g6 t6 q6 => k.nx _ _ _ _ _ _ g6 ((((t1.trans t2).trans t4).trans t5).trans t6) (s.up ((((t1.trans t2).trans t4).trans t5).trans t6)) q6
  dsimp only at q2
  unfold fGet at q2
  split at q2
  · rename_i hh z
    obtain ⟨a, ha, rfl⟩ := r1.up t2
    cases cr_int r2
    split at q2
    · rename_i cs e
      obtain ⟨_, vs, hv, rv⟩ := g2.mo hh a _ ha e
      obtain ⟨x, hx, q⟩ := of_mt q2
      obtain ⟨y, hy, ry⟩ := atI_map (fun j b e => paired_getL rv e) (paired_len rv) hx
      exact ⟨a, vs, z, y, rfl, rfl, SqL.of hv, hy, fin y _ (Cr.res g2 ry) q⟩
    · exact q2.elim
  · exact q2.elim
theorem pget_list {X : Cx} : PGet X (rIxL X.K) := by
  intro pins s σ H x y v u Q I rx ry h
  obtain ⟨p, xs, i, z, rfl, rfl, hq, he, q⟩ := h
  cases rx
  obtain ⟨t, rfl⟩ := ry
  obtain ⟨its, r, pl, hz⟩ := I.list hq
  obtain ⟨j, h1, h2, h3, h4, h5⟩ := atI_get he
  obtain ⟨w, ew, rw'⟩ := r.get h2
  have hl := r.length
  have hn := line63
  have fin : EP X pins σ Q w s := ⟨z, H, I, rw', q⟩
  by_cases h0 : 0 ≤ i
  · have hj : i.toNat = j := by
      rw [PySem.seqIndex_of h0 h5] at h1
      exact Option.some.inj h1
    exact wpAny_getItem_list pl.isList h0 (by omega) (by rw [hj]; simpa using ew) fin
  · have hj : (i + (its.toArray.size : Int)).toNat = j := by
      rw [PySem.seqIndex_neg (by omega) h4] at h1
      rw [List.size_toArray, ← hl]
      exact Option.some.inj h1
    exact wpAny_getItem_list_neg pl.isList (by omega) (by rw [List.size_toArray] <;> omega) (by omega) (by rw [hj]; simpa using ew) fin
end
end Zd

/-! Zd6: comprehensions, methods of lists and texts, calls of the text's defs, a def's promise. -/
namespace Zd
open PySem L2 RZ RT

def wipeS (ss : Sl) : List Nat → Sl
  | [] => ss
  | v :: vs => (wipeS ss vs).set v none
def wLcG (wI : WI) (wg : WG) (wt : WT) (we : WE) (vs : List Nat) (fin : List C → Ts → KC → Prop) : WE := fun ss own Q => ∃ I : List D → Ts → Prop, wI ss own I ∧ ∀ items o1, I items o1 → ∃ P : Nat → List C → Ts → Prop, P 0 [] o1 ∧
  (∀ (i : Nat) d acc own', items[i]? = some d → P i acc own' → wg (.fr d) (wipeS ss vs) own' fun ss2 own2 => wt ss2 own2 fun b own3 =>
    Itf b (we ss2 own3 fun c own4 => acc.length < SZ ∧ P (i + 1) (acc ++ [c]) own4) (P (i + 1) acc own3)) ∧ ∀ acc own', P items.length acc own' → fin acc own' Q
def finL : List C → Ts → KC → Prop := fun acc own Q => match frs acc with
  | some ds => Q (.fr (.list ds)) own
  | none => False
def finH : List C → Ts → KC → Prop := fun acc own Q => Q (.hd own.length) (own ++ [.lst acc])
def LcB (wI : WI) (wg : WG) (wt : WT) (we : WE) (vs : List Nat) (ss : Sl) (own : Ts) [q : Hd KC] : Prop := wLcG wI wg wt we vs finL ss own q.v
def LcHB (wI : WI) (wg : WG) (wt : WT) (we : WE) (vs : List Nat) (ss : Sl) (own : Ts) [q : Hd KC] : Prop := wLcG wI wg wt we vs finH ss own q.v
def wLc (wI : WI) (wg : WG) (wt : WT) (we : WE) (vs : List Nat) : WE := fun ss own Q => @LcB wI wg wt we vs ss own ⟨Q⟩
def wLcH (wI : WI) (wg : WG) (wt : WT) (we : WE) (vs : List Nat) : WE := fun ss own Q => @LcHB wI wg wt we vs ss own ⟨Q⟩
def wYes : WT := fun _ own Q => Q true own
structure ATs (X : Cx) (ifs : List Expr) (t : TT) (w : WT) : Prop where
  p : PTs X ifs t
  s : ST X.K t w
section
variable {K : PySem.W.Frag} {B : Addr → Prop} {θ θ' θ1 : List Addr} {own : Ts} {F F' F1 H H' H1 : Hp}
theorem st_yes : ST K tYes wYes := fun ss own Q h B θ F H σ g s Qv k => k θ own F H true g Tr.refl h
theorem slr_wipe {σ : St} {ss : Sl} (s : Zd.SlR K θ F σ ss) : ∀ (vs : List Nat), Zd.SlR K θ F (wipe σ vs) (wipeS ss vs)
  | [] => s
  | v :: vs => by
    have ih := slr_wipe s vs
    unfold wipe wipeS
    refine ⟨by simp [ih.1], fun j d e => ?_⟩
    by_cases hj : v = j
    · subst hj
      have hi : v < (wipeS ss vs).length := by
        have := (List.getElem?_eq_some_iff.mp e).1
        rwa [List.length_set] at this
      rw [List.getElem?_set_self hi] at e
      cases e
    · rw [List.getElem?_set_ne hj] at e
      obtain ⟨u, h1, h2⟩ := ih.2 j d e
      exact ⟨u, by rw [List.getElem?_set_ne hj]; exact h1, h2⟩
theorem wipe_at {σ : St} {i : Nat} : ∀ {vs : List Nat}, i ∈ vs → (wipe σ vs)[i]? = if i < σ.length then some none else none
  | [], h => by cases h
  | v :: vs, h => by
    unfold wipe
    by_cases hv : v = i
    · subst hv
      by_cases hl : v < σ.length
      · rw [if_pos hl, List.getElem?_set_self (by rw [wipe_length]; exact hl)]
      · rw [if_neg hl, List.getElem?_eq_none (by rw [List.length_set, wipe_length]; omega)]
    · rw [List.getElem?_set_ne hv]
      rcases List.mem_cons.mp h with h | h
      · exact absurd h.symm hv
      · exact wipe_at h
theorem wipe_wipe (σ : St) (vs : List Nat) : wipe (wipe σ vs) vs = wipe σ vs := by
  refine List.ext_getElem? fun i => ?_
  by_cases h : i ∈ vs
  · rw [wipe_at h, wipe_at h, wipe_length]
  · rw [wipe_out h]
theorem Tr.res {B' : Addr → Prop} (t : Tr B' θ F H θ' F' H') (h : ∀ b, B b → B' b) : Tr B θ F H θ' F' H' := ⟨t.th, t.ex, fun b hb => t.fr b (h b hb)⟩
theorem Ga.hide (g : Ga K B θ own F H) {p : Addr} {o : HO} (h : H p = none) : Ga K (fun b => B b ∨ b = p) θ own F (upd H p o) ∧ Tr B θ F H θ F (upd H p o) := by
  obtain ⟨h1, h2, h3⟩ := g.fresh h
  have t : Tr B θ F H θ F (upd H p o) := ⟨⟨[], (List.append_nil _).symm⟩, Same.refl _, fun b hb => upd_ne fun z => h3 (z ▸ hb)⟩
  refine ⟨⟨g.len, g.nd, fun b u e => by rw [upd_ne (ne_of_none e h2)]; exact g.ex b u e, fun b hb => ?_, fun i a m e1 e2 => ?_, g.cl⟩, t⟩
  · rcases hb with hb | rfl
    · have z : b ≠ p := fun z => h3 (z ▸ hb)
      obtain ⟨q1, q2, q3⟩ := g.out b hb
      exact ⟨q1, by rw [upd_ne z]; exact q2, q3⟩
    · exact ⟨h2, by rw [upd_same]; exact (fun z => nomatch z), h1⟩
  · have z : a ≠ p := fun z => h1 (z ▸ List.mem_of_getElem? e1)
    exact (g.mo i a m e1 e2).up t fun hn => ⟨hn, upd_ne z⟩
theorem Ga.bset (g : Ga K B θ own F H) {p : Addr} {o : HO} (h : B p) : Ga K B θ own F (upd H p o) := by
  obtain ⟨q1, q2, q3⟩ := g.out p h
  have t : Tr (fun _ => False) θ F H θ F (upd H p o) := ⟨⟨[], (List.append_nil _).symm⟩, Same.refl _, fun b hb => hb.elim⟩
  refine ⟨g.len, g.nd, fun b u e => by rw [upd_ne (ne_of_none e q1)]; exact g.ex b u e, fun b hb => ?_, fun i a m e1 e2 => ?_, g.cl⟩
  · obtain ⟨r1, r2, r3⟩ := g.out b hb
    refine ⟨r1, ?_, r3⟩
    by_cases z : b = p
    · subst z; rw [upd_same]; exact fun z => nomatch z
    · rw [upd_ne z]; exact r2
  · have z : a ≠ p := fun z => q3 (z ▸ List.mem_of_getElem? e1)
    exact (g.mo i a m e1 e2).up t fun hn => ⟨hn, upd_ne z⟩
/-- the hidden list becomes frozen -/
theorem Ga.unhideF {p : Addr} {vs : List V} {ds : List D} (g : Ga K (fun b => B b ∨ b = p) θ own F H) (hB : ¬ B p) (hp : H p = some (.lst vs)) (r : RpAll K F vs ds) :
    Ga K B θ own (upd F p (.lst vs)) H ∧ Tr B θ F H θ (upd F p (.lst vs)) H ∧ Rp K (upd F p (.lst vs)) (.ref p) (.list ds) := by
  obtain ⟨q1, q2, q3⟩ := g.out p (.inr rfl)
  have sF : Same F (upd F p (.lst vs)) := fun b u q => by rw [upd_ne (ne_of_none q q1)]; exact q
  have t : Tr B θ F H θ (upd F p (.lst vs)) H := ⟨⟨[], (List.append_nil _).symm⟩, sF, fun b hb => rfl⟩
  refine ⟨⟨g.len, g.nd, fun b u e => ?_, fun b hb => ?_, fun i a m e1 e2 => ?_, g.cl⟩, t, .lst upd_same (rpAll_mono sF ds vs r)⟩
  · by_cases z : b = p
    · subst z; rw [upd_same] at e; cases e; exact hp
    · rw [upd_ne z] at e; exact g.ex b u e
  · have z : b ≠ p := fun z => hB (z ▸ hb)
    obtain ⟨r1, r2, r3⟩ := g.out b (.inl hb)
    exact ⟨by rw [upd_ne z]; exact r1, r2, r3⟩
  · have z : a ≠ p := fun z => q3 (z ▸ List.mem_of_getElem? e1)
    exact (g.mo i a m e1 e2).up t fun hn => ⟨by rw [upd_ne z]; exact hn, rfl⟩
/-- the hidden list becomes owned -/
theorem Ga.unhideH {p : Addr} {vs : List V} {cs : List C} (g : Ga K (fun b => B b ∨ b = p) θ own F H) (hB : ¬ B p) (hp : H p = some (.lst vs)) (r : Paired (Cr K θ F) vs cs) :
    Ga K B (θ ++ [p]) (own ++ [.lst cs]) F H ∧ Tr B θ F H (θ ++ [p]) F H := by
  obtain ⟨q1, q2, q3⟩ := g.out p (.inr rfl)
  have t : Tr B θ F H (θ ++ [p]) F H := ⟨⟨[p], rfl⟩, Same.refl _, fun b hb => rfl⟩
  refine ⟨⟨by simp [g.len], ?_, g.ex, fun b hb => ?_, fun i a m' e1 e2 => ?_, g.cl.app fun j hj => ?_⟩, t⟩
  · rw [List.nodup_append]
    refine ⟨g.nd, by simp, fun a ha b hb => ?_⟩
    have : b = p := by simpa using hb
    subst this
    exact fun z => q3 (z ▸ ha)
  · have z : b ≠ p := fun z => hB (z ▸ hb)
    obtain ⟨r1, r2, r3⟩ := g.out b (.inl hb)
    refine ⟨r1, r2, fun hm => ?_⟩
    rcases List.mem_append.mp hm with hm | hm
    · exact r3 hm
    · exact z (by simpa using hm)
  · rcases get_app e1 with ⟨hi, e1⟩ | ⟨hi, rfl⟩
    · rw [List.getElem?_append_left (by rw [← g.len]; exact hi)] at e2
      exact (g.mo i a m' e1 e2).up t fun hn => ⟨hn, rfl⟩
    · rw [hi, g.len, List.getElem?_append_right (Nat.le_refl _)] at e2
      have e3 : MO.lst cs = m' := by simpa using e2
      subst e3
      exact ⟨q1, vs, hp, paired_up t r⟩
  · have := refs_of (vs := vs) r j hj
    rw [← g.len]
    omega
/-- how a comprehension ends -/
def SF (K : PySem.W.Frag) (fin : List C → Ts → KC → Prop) : Prop := ∀ acc own Q, fin acc own Q → ∀ (B : Addr → Prop) θ F H p vs, Ga K (fun b => B b ∨ b = p) θ own F H → ¬ B p → H p = some (.lst vs) → Paired (Cr K θ F) vs acc → ∀ Qv, Bk K B θ F H Q Qv → Qv (.ref p) H
theorem sf_L : SF K finL := by
  intro acc own Q hq B θ F H p vs g hB hp r Qv k
  unfold finL at hq
  split at hq
  · rename_i ds e
    rw [of_frs e] at r
    obtain ⟨g1, t1, r1⟩ := g.unhideF hB hp (rpAll_paired r)
    exact k _ _ _ _ _ (.fr (.list ds)) g1 t1 r1 hq
  · exact hq.elim
theorem sf_H : SF K finH := by
  intro acc own Q hq B θ F H p vs g hB hp r Qv k
  obtain ⟨g1, t1⟩ := g.unhideH hB hp r
  refine k _ _ _ _ _ (.hd own.length) g1 t1 ⟨p, ?_, rfl⟩ hq
  rw [← g.len, List.getElem?_append_right (Nat.le_refl _), Nat.sub_self]
  rfl
theorem se_lcG {wi : TI} {wI : WI} {js vs : List Nat} {tg : TG} {wg : WG} {tt : TT} {wt : WT} {te : TE} {we : WE} {fin : List C → Ts → KC → Prop} (hf : SF K fin) (hi : SI K wi wI) (hg : SG K js tg wg) (ht : ST K tt wt) (he : SE K te we) (hj : ∀ j ∈ js, j ∈ vs) :
    SE K (tLc wi tg tt te vs) (wLcG wI wg wt we vs fin) := by
  rintro ss own Q ⟨I, hw, hkk⟩ B θ F H σ g s Qv k
  refine hi ss own _ hw B θ F H σ g s _ fun θ1 own1 F1 H1 J items g1 t1 wk q1 => ?_
  replace q1 := hkk _ _ q1
  obtain ⟨P, p0, ps, pd⟩ := q1
  obtain ⟨G, Y, W, hG, hY⟩ := wk.ex
  intro Dl hD
  have hB : ¬ B Dl := (g1.fresh hD).2.2
  obtain ⟨gh, th⟩ := g1.hide (o := .lst []) hD
  refine lc_it W (fun i H' => ∃ θ' own' F' acc ws, Ga K (fun b => B b ∨ b = Dl) θ' own' F' H' ∧ Tr B θ1 F1 H1 θ' F' H' ∧ P i acc own' ∧ H' Dl = some (.lst ws) ∧ Paired (Cr K θ' F') ws acc)
    ⟨θ1, own1, F1, [], [], gh, th, p0, upd_same, .nil⟩ ?_ ?_ ?_
  · rintro i H' _ ⟨θ', own', F', acc, ws, g', t', _⟩
    exact hG H' (t'.ex.trans g'.ex)
  · rintro i x H' H2 hi ⟨θ', own', F', acc, ws, g', t', p, hl, rl⟩ y
    obtain ⟨d, ed, y⟩ := hY i H' x H2 hi (t'.ex.trans g'.ex) y
    have core : ∀ F'', Ga K (fun b => B b ∨ b = Dl) θ' own' F'' H2 → Tr (fun b => B b ∨ b = Dl) θ' F' H' θ' F'' H2 → Rp K F'' x d → tg x (wipe σ vs) H2 fun σ2 H3 => wipe σ2 vs = wipe σ vs ∧ tt σ2 H3 fun b H4 =>
        if b = true then te σ2 H4 fun y H5 => ∃ acc, H5 Dl = some (.lst acc) ∧ acc.length < sizeLine ∧ (∃ θ' own' F' acc' ws, Ga K (fun b => B b ∨ b = Dl) θ' own' F' (upd H5 Dl (.lst (acc ++ [y]))) ∧ Tr B θ1 F1 H1 θ' F' (upd H5 Dl (.lst (acc ++ [y]))) ∧ P (i + 1) acc' own' ∧ (upd H5 Dl (.lst (acc ++ [y]))) Dl = some (.lst ws) ∧ Paired (Cr K θ' F') ws acc')
        else (∃ θ' own' F' acc ws, Ga K (fun b => B b ∨ b = Dl) θ' own' F' H4 ∧ Tr B θ1 F1 H1 θ' F' H4 ∧ P (i + 1) acc own' ∧ H4 Dl = some (.lst ws) ∧ Paired (Cr K θ' F') ws acc) := by
      intro F'' g2 t2 rx
      have st : Zd.SlR K θ' F'' (wipe σ vs) (wipeS ss vs) := slr_wipe (((s.up t1).up t').up t2) vs
      refine hg (.fr d) (wipeS ss vs) own' _ (ps i d acc own' ed p) _ θ' F'' H2 _ x g2 st rx _ fun θ3 own3 F3 H3 σ3 ss3 g3 t3 s3 e3 q3 => ?_
      refine ⟨(e3 vs hj).trans (wipe_wipe σ vs), ?_⟩
      refine ht ss3 own3 _ q3 _ θ3 F3 H3 σ3 g3 s3 _ fun θ4 own4 F4 H4 b g4 t4 q4 => ?_
      have t24 := (t2.trans t3).trans t4
      have inl : ∀ b, B b → B b ∨ b = Dl := fun b h => .inl h
      cases b with
      | false => exact ⟨θ4, own4, F4, acc, ws, g4, t'.trans (t24.res inl), q4, (t24.fr Dl (.inr rfl)).trans hl, paired_up t24 rl⟩
      | true =>
        refine he ss3 own4 _ q4 _ θ4 F4 H4 σ3 g4 (s3.up t4) _ fun θ5 own5 F5 H5 v c g5 t5 r5 q5 => ?_
        have t25 := t24.trans t5
        have e5 := (t25.fr Dl (.inr rfl)).trans hl
        have r6 := paired_up t25 rl
        refine ⟨ws, e5, by rw [paired_len rl]; exact szlt q5.1, θ5, own5, F5, acc ++ [c], ws ++ [v], g5.bset (.inr rfl), ?_, q5.2, upd_same, paired_app r6 (.cons r5 .nil)⟩
        have tb : Tr B θ5 F5 H5 θ5 F5 (upd H5 Dl (.lst (ws ++ [v]))) := ⟨⟨[], (List.append_nil _).symm⟩, Same.refl _, fun b hb => upd_ne fun z => hB (z ▸ hb)⟩
        exact (t'.trans (t25.res inl)).trans tb
    rcases y with ⟨rfl, rx⟩ | ⟨T, o, hT, rfl, rfl, rx⟩
    · exact core F' g' Tr.refl (rp_mono t'.ex _ _ rx)
    · obtain ⟨g2, t2⟩ := g'.newF (o := o) hT
      exact core _ g2 t2 (rx _ (t'.ex.trans t2.ex) upd_same)
  · rintro H' ⟨θ', own', F', acc, ws, g', t', p, hl, rl⟩
    exact hf acc own' Q (pd acc own' p) B θ' F' H' Dl ws g' hB hl rl Qv ((k.up t1).up t')
end

/-! ### methods -/
abbrev FM := C → List C → Ts → KC → Prop
def SM (K : PySem.W.Frag) (r : V → List V → Hp → VK → Prop) (f : FM) : Prop := ∀ c cs own Q, f c cs own Q → ∀ B θ F H v vs, Ga K B θ own F H → Cr K θ F v c → Paired (Cr K θ F) vs cs → ∀ Qv : VK, Bk K B θ F H Q Qv → r v vs H Qv
def isLst (own : Ts) : C → Prop
  | .fr (.list _) => True
  | .hd h => ∃ cs, own[h]? = some (.lst cs)
  | _ => False
def isStr : C → Prop
  | .fr (.str _) => True
  | _ => False
/-- a method of a list; of a text -/
def wBL (f : FM) (wo : WE) (wa : WA) : WE := fun ss own Q => wo ss own fun c o1 => isLst o1 c ∧ wa ss o1 fun cs o2 => f c cs o2 Q
def wBS (f : FM) (wo : WE) (wa : WA) : WE := fun ss own Q => wo ss own fun c o1 => isStr c ∧ wa ss o1 fun cs o2 => f c cs o2 Q
def fAppend : FM := fun c cs own Q => match c, cs with
  | .hd h, [x] => (match own[h]? with
    | some (.lst xs) => xs.length < SZ ∧ Q (.fr .none) (own.set h (.lst (xs ++ [x])))
    | _ => False)
  | _, _ => False
def fPopAt : FM := fun c cs own Q => match c, cs with
  | .hd h, [.fr (.int i)] => (match own[h]? with
    | some (.lst xs) => xs.length ≤ SZ ∧ ∃ k y, ixN xs.length i = some k ∧ xs[k]? = some y ∧ Q (res (own.set h (.lst (xs.eraseIdx k))) y) (own.set h (.lst (xs.eraseIdx k)))
    | _ => False)
  | _, _ => False
def fPop : FM := fun c cs own Q => match c, cs with
  | .hd h, [] => (match own[h]? with
    | some (.lst xs) => ∃ y, xs[xs.length - 1]? = some y ∧ Q (res (own.set h (.lst xs.dropLast)) y) (own.set h (.lst xs.dropLast))
    | _ => False)
  | _, _ => False
def fCountI : FM := fun c cs own Q => match c, cs with
  | .fr (.list ds), [.fr (.int i)] => (match intsD ds with
    | some ns => Q (.fr (.int (ns.count i))) own
    | none => False)
  | _, _ => False
/-- xs.extend(ys), ys frozen data -/
def fExtend : FM := fun c cs own Q => match c, cs with
  | .hd h, [.fr (.list ds)] => (match own[h]? with
    | some (.lst xs) => xs.length + ds.length ≤ SZ ∧ Q (.fr .none) (own.set h (.lst (xs ++ ds.map C.fr)))
    | _ => False)
  | _, _ => False
section
variable {K : PySem.W.Frag} {to : TE} {wo : WE} {ta : TA} {wa : WA} {r : V → List V → Hp → VK → Prop} {f : FM}
theorem se_bl (ho : SE K to wo) (ha : SA K ta wa) (hm : SM K r f) : SE K (tBM K "list" r to ta) (wBL f wo wa) := by
  intro ss own Q hw B θ F H σ g s Qv k
  refine ho ss own _ hw B θ F H σ g s _ fun θ1 own1 F1 H1 v c g1 t1 r1 q1 => ?_
  refine ⟨?_, ?_⟩
  · have q := q1.1
    unfold isLst at q
    split at q
    · obtain ⟨a, xs, rfl, h1, h2⟩ := cr_lst r1
      exact .inl ⟨rfl, xs, SqL.of (g1.ex _ _ h1)⟩
    · rename_i h
      obtain ⟨cs, e⟩ := q
      obtain ⟨a, ha, rfl⟩ := r1
      obtain ⟨_, vs, hv, _⟩ := g1.mo h a _ ha e
      exact .inl ⟨rfl, vs, SqL.of hv⟩
    · exact q.elim
  · refine ha ss own1 _ q1.2 B θ1 F1 H1 σ g1 (s.up t1) _ fun θ2 own2 F2 H2 vs cs g2 t2 r2 q2 => ?_
    exact hm c cs own2 Q q2 B θ2 F2 H2 v vs g2 (r1.up t2) r2 Qv (k.up (t1.trans t2))
theorem se_bs (ho : SE K to wo) (ha : SA K ta wa) (hm : SM K r f) : SE K (tBM K "str" r to ta) (wBS f wo wa) := by
  intro ss own Q hw B θ F H σ g s Qv k
  refine ho ss own _ hw B θ F H σ g s _ fun θ1 own1 F1 H1 v c g1 t1 r1 q1 => ?_
  refine ⟨?_, ?_⟩
  · have q := q1.1
    unfold isStr at q
    split at q
    · cases cr_str r1
      rfl
    · exact q.elim
  · refine ha ss own1 _ q1.2 B θ1 F1 H1 σ g1 (s.up t1) _ fun θ2 own2 F2 H2 vs cs g2 t2 r2 q2 => ?_
    exact hm c cs own2 Q q2 B θ2 F2 H2 v vs g2 (r1.up t2) r2 Qv (k.up (t1.trans t2))
/-- without arguments -/
theorem se_bl0 (ho : SE K to wo) (hm : SM K r f) : SE K (tBM0 K "list" r to) (wBL f wo wNil) := by
  intro ss own Q hw B θ F H σ g s Qv k
  refine ho ss own _ hw B θ F H σ g s _ fun θ1 own1 F1 H1 v c g1 t1 r1 q1 => ?_
  refine ⟨?_, ?_⟩
  · have q := q1.1
    unfold isLst at q
    split at q
    · obtain ⟨a, xs, rfl, h1, h2⟩ := cr_lst r1
      exact .inl ⟨rfl, xs, SqL.of (g1.ex _ _ h1)⟩
    · rename_i h
      obtain ⟨cs, e⟩ := q
      obtain ⟨a, ha, rfl⟩ := r1
      obtain ⟨_, vs, hv, _⟩ := g1.mo h a _ ha e
      exact .inl ⟨rfl, vs, SqL.of hv⟩
    · exact q.elim
  · exact hm c [] own1 Q q1.2 B θ1 F1 H1 v [] g1 r1 .nil Qv (k.up t1)
theorem paired_erase {α β : Type} {P : α → β → Prop} : ∀ {xs : List α} {ys : List β} (i : Nat), Paired P xs ys → Paired P (xs.eraseIdx i) (ys.eraseIdx i)
  | _, _, _, .nil => .nil
  | _, _, 0, .cons _ t => t
  | _, _, i + 1, .cons r t => .cons r (paired_erase i t)
theorem paired_dropLast {α β : Type} {P : α → β → Prop} {xs : List α} {ys : List β} (h : Paired P xs ys) : Paired P xs.dropLast ys.dropLast := by
  rw [List.dropLast_eq_take, List.dropLast_eq_take, paired_len h]
  exact paired_take _ h
theorem sm_append : SM K rAppend fAppend := by
  intro c cs own Q hq B θ F H v vs g r rs Qv k
  unfold fAppend at hq
  split at hq
  · rename_i h x
    obtain ⟨a, ha, rfl⟩ := r
    obtain ⟨u, rfl, ru⟩ := paired1 rs
    split at hq
    · rename_i xs e
      obtain ⟨hn, ws, hv, rv⟩ := g.mo h a _ ha e
      obtain ⟨g1, t1⟩ := g.write (o := .lst (ws ++ [u])) (m := .lst (xs ++ [x])) ha hn ⟨hn, _, upd_same, paired_app rv (.cons ru .nil)⟩
      exact ⟨a, ws, u, rfl, rfl, hv, by rw [paired_len rv]; exact szlt hq.1, k _ _ _ _ _ (.fr .none) g1 t1 .non hq.2⟩
    · exact hq.elim
  · exact hq.elim
theorem sm_popAt : SM K rPopAt fPopAt := by
  intro c cs own Q hq B θ F H v vs g r rs Qv k
  unfold fPopAt at hq
  split at hq
  · rename_i h i
    obtain ⟨a, ha, rfl⟩ := r
    obtain ⟨u, rfl, ru⟩ := paired1 rs
    cases cr_int ru
    split at hq
    · rename_i xs e
      obtain ⟨hz, j, y, ej, ey, hq⟩ := hq
      obtain ⟨hn, ws, hv, rv⟩ := g.mo h a _ ha e
      obtain ⟨z, ez, rz⟩ := paired_getL rv ey
      obtain ⟨g1, t1⟩ := g.write (o := .lst (ws.eraseIdx j)) (m := .lst (xs.eraseIdx j)) ha hn ⟨hn, _, upd_same, paired_erase j rv⟩
      obtain ⟨h1, h2, h3, h4⟩ := ixN_seq ej
      refine ⟨a, ws, i, j, z, rfl, rfl, hv, by unfold SZ at hz; omega, by unfold SZ at hz; omega, by rw [paired_len rv]; exact h1, ez, ?_⟩
      exact k _ _ _ _ _ _ g1 t1 ((rz.up t1).res g1) hq
    · exact hq.elim
  · exact hq.elim
theorem sm_pop : SM K rPop fPop := by
  intro c cs own Q hq B θ F H v vs g r rs Qv k
  unfold fPop at hq
  split at hq
  · rename_i h
    obtain ⟨a, ha, rfl⟩ := r
    cases rs
    split at hq
    · rename_i xs e
      obtain ⟨y, ey, hq⟩ := hq
      obtain ⟨hn, ws, hv, rv⟩ := g.mo h a _ ha e
      obtain ⟨z, ez, rz⟩ := paired_getL rv ey
      obtain ⟨g1, t1⟩ := g.write (o := .lst ws.dropLast) (m := .lst xs.dropLast) ha hn ⟨hn, _, upd_same, paired_dropLast rv⟩
      refine ⟨a, ws, z, rfl, rfl, hv, by rw [paired_len rv]; exact ez, ?_⟩
      exact k _ _ _ _ _ _ g1 t1 ((rz.up t1).res g1) hq
    · exact hq.elim
  · exact hq.elim
theorem sm_countI : SM K (rCntI K) fCountI := by
  intro c cs own Q hq B θ F H v vs g r rs Qv k
  unfold fCountI at hq
  split at hq
  · rename_i ds i
    obtain ⟨a, xs, rfl, h1, h2⟩ := cr_lst r
    obtain ⟨u, rfl, ru⟩ := paired1 rs
    cases cr_int ru
    split at hq
    · rename_i ns e
      cases of_ints (θ := θ) e h2
      exact ⟨a, ns, i, rfl, rfl, SqL.of (g.ex _ _ h1), k.here (c := .fr (.int (ns.count i))) g (.int _) hq⟩
    · exact hq.elim
  · exact hq.elim
theorem sm_extend : SM K rExtend fExtend := by
  intro c cs own Q hq B θ F H v vs g r rs Qv k
  unfold fExtend at hq
  split at hq
  · rename_i h ds
    obtain ⟨a, ha, rfl⟩ := r
    obtain ⟨u, rfl, ru⟩ := paired1 rs
    obtain ⟨b, zs, rfl, h1, h2⟩ := cr_lst ru
    split at hq
    · rename_i xs e
      obtain ⟨hn, ws, hv, rv⟩ := g.mo h a _ ha e
      obtain ⟨g1, t1⟩ := g.write (o := .lst (ws ++ zs)) (m := .lst (xs ++ ds.map C.fr)) ha hn ⟨hn, _, upd_same, paired_app rv (paired_rpAll h2)⟩
      exact ⟨a, b, ws, zs, rfl, rfl, hv, g.ex _ _ h1, by rw [paired_len rv, rpAll_len h2]; exact szl hq.1, k _ _ _ _ _ (.fr .none) g1 t1 .non hq.2⟩
    · exact hq.elim
  · exact hq.elim
end

/-! ### calls of the text's defs, a def's promise -/
/-- the promise by the level of data: f tells what is asked and what comes -/
def spA (K : PySem.W.Frag) (n : Nat) (f : FA) : Sp := fun vs H Q _ => ∃ (B : Addr → Prop) (θ : List Addr) (own : Ts) (F : Hp) (cs : List C) (Q0 : KC),
  Ga K B θ own F H ∧ Paired (Cr K θ F) vs cs ∧ cs.length = n ∧ f cs own Q0 ∧ Bk K B θ F H Q0 Q
def CalB (f : FA) (cs : List C) (own : Ts) [q : Hd KC] : Prop := f cs own q.v
def Cal (f : FA) (cs : List C) (own : Ts) (Q : KC) : Prop := @CalB f cs own ⟨Q⟩
def wCall (n : Nat) (f : FA) (wa : WA) : WE := fun ss own Q => wa ss own fun cs o1 => cs.length = n ∧ Cal f cs o1 Q
theorem se_call {K : PySem.W.Frag} {n : Nat} {f : FA} {ta : TA} {wa : WA} (ha : SA K ta wa) : SE K (tCall (spA K n f) [] E0 ta) (wCall n f wa) := by
  intro ss own Q hw B θ F H σ g s Qv k
  refine ha ss own _ hw B θ F H σ g s _ fun θ1 own1 F1 H1 vs cs g1 t1 r1 q1 => ?_
  rw [List.append_nil]
  exact ⟨B, θ1, own1, F1, cs, Q, g1, r1, q1.1, q1.2, k.up t1⟩
/-- where a def ends: what it made for itself is forgotten -/
def EndQ (n : Nat) (Q : KC) : KC := fun c own => ∃ k, n ≤ k ∧ (∀ j ∈ c.refs, j < k) ∧ Cl (own.take k) ∧ Q c (own.take k)
def enF (n : Nat) (Q : KC) : En := { nx := fun _ own => EndQ n Q (.fr .none) own, rt := EndQ n Q }
def startS (N : List Str) (cs : List C) : Sl := cs.map some ++ List.replicate (N.length - cs.length) none
theorem bk_end {K : PySem.W.Frag} {B : Addr → Prop} {θ : List Addr} {own : Ts} {F H : Hp} {Q0 : KC} {Q : VK} (g0 : Ga K B θ own F H) (k : Bk K B θ F H Q0 Q) : Bk K B θ F H (EndQ own.length Q0) Q := by
  intro θ' own' F' H' v c g t r ⟨m, hm, hc, hcl, q⟩
  obtain ⟨r', rfl⟩ := t.th
  have g2 := g.take hcl
  refine k _ _ _ _ v c g2 ⟨⟨r'.take (m - θ.length), ?_⟩, t.ex, t.fr⟩ ?_ q
  · rw [List.take_append, List.take_of_length_le (by rw [g0.len]; exact hm)]
  · cases c with
    | fr d => exact r
    | sc ns => exact r
    | hd i =>
      obtain ⟨a, e, rr⟩ := r
      exact ⟨a, by rw [List.getElem?_take_of_lt (hc i (by simp [C.refs]))]; exact e, rr⟩
theorem slr_start {K : PySem.W.Frag} {θ : List Addr} {F : Hp} {N : List Str} {vs : List V} {cs : List C} (r : Paired (Cr K θ F) vs cs) : Zd.SlR K θ F (L2.start N vs) (startS N cs) := by
  have hl := paired_len r
  unfold L2.start startS
  refine ⟨by simp [hl], fun i c e => ?_⟩
  by_cases hi : i < cs.length
  · rw [List.getElem?_append_left (by simpa using hi), List.getElem?_map] at e
    cases e2 : cs[i]? with
    | none => rw [e2] at e; cases e
    | some d =>
      rw [e2] at e
      have e3 : d = c := Option.some.inj (Option.some.inj e)
      subst e3
      obtain ⟨v, ev, rv⟩ := paired_getL r e2
      exact ⟨v, by rw [List.getElem?_append_left (by simpa [hl] using hi), List.getElem?_map, ev]; rfl, rv⟩
  · rw [List.getElem?_append_right (by simpa using hi), List.getElem?_replicate] at e
    split at e <;> cases e
theorem body_ok {K : PySem.W.Frag} {N : List Str} {t : TS} {w : WS} {n : Nat} {f : FA} {vs : List V} {H : Hp} {Q : VK} {E : XK} (hs : SS K t w) (hw : ∀ cs own Q, Cl own → cs.length = n → f cs own Q → w (enF own.length Q) (startS N cs) own) (h : spA K n f vs H Q E) :
    t { nx := fun _ H' => Q .non H', rt := Q } (L2.start N vs) H := by
  obtain ⟨B, θ, own, F, cs, Q0, g, r, hl, hf, k⟩ := h
  have k2 := bk_end g k
  refine hs _ _ _ (hw cs own Q0 g.cl hl hf) B θ F H (L2.start N vs) g (slr_start r) _ ⟨?_, k2, ?_, ?_⟩
  · exact fun θ' own' F' H' σ ss g' t' s' q => k2 θ' own' F' H' .non (.fr .none) g' t' .non q
  · exact fun _ _ _ _ _ _ _ _ _ q => q.elim
  · exact fun _ _ _ _ _ _ _ _ _ q => q.elim
end Zd

/-! Zd7: a rule for each construct: its reading by the heap and by data. -/
namespace Zd
open PySem PySem.Spec PyProof.Rows L2 RZ RT
theorem kB {X : Cx} {s : Shared} {H : Hp} {sc : Scope} {e : Env} {fp : List Addr} : (X.blk s H sc e fp).K = X.K := rfl

section
variable {X : Cx} {a b c e : Expr} {es : List Expr} {ta tb tc te : TE} {wa wb wc we : WE} {tA : TA} {wA : WA} {pos p : Pos} {tt tu : TT} {wt wu : WT}
/-! ### names, constants -/
theorem ae_var (i : Nat) {x : Str} (hN : X.N[i]? = some x := by rfl) (hv : Vis X.env.scope x := by first | exact Or.inl rfl | exact Or.inr (Or.inl rfl) | exact Or.inr (Or.inr rfl)) (hd : (x == ("__debug__" : Str)) = false := by decide)
    (hcd : (x == ("__classdict__" : Str)) = false := by decide) : AE X (.Name x pos) (tVar i) (wVar i) := ⟨pe_var hN hv hd hcd, se_var⟩
theorem ae_varF (i : Nat) {x : Str} (hN : X.N[i]? = some x := by rfl) (hv : Vis X.env.scope x := by first | exact Or.inl rfl | exact Or.inr (Or.inl rfl) | exact Or.inr (Or.inr rfl)) (hd : (x == ("__debug__" : Str)) = false := by decide)
    (hcd : (x == ("__classdict__" : Str)) = false := by decide) : AE X (.Name x pos) (tVar i) (wFrz (wVar i)) := ⟨pe_var hN hv hd hcd, se_frz se_var⟩
theorem ae_frz (h : AE X e te we) : AE X e te (wFrz we) := ⟨h.p, se_frz h.s⟩
theorem ae_int {i : Int} {j : Nat} : AE X (.Constant (.int i) j pos) (tC (.int i)) (wC (.int i)) := ⟨pe_int, se_c fun _ => .int i⟩
theorem ae_bl {i : Bool} {j : Nat} : AE X (.Constant (.bool i) j pos) (tC (.bl i)) (wC (.bool i)) := ⟨pe_bl, se_c fun _ => .bl i⟩
theorem ae_non {j : Nat} : AE X (.Constant .none j pos) (tC .non) (wC .none) := ⟨pe_non, se_c fun _ => .non⟩
theorem ae_str {i : Str} {j : Nat} : AE X (.Constant (.str i) j pos) (tC (.str i)) (wC (.str i)) := ⟨pe_str, se_c fun _ => .str i⟩
/-- a module's constant -/
theorem ae_glob {K : PySem.W.Frag} {x : Str} {v : V} {u : Value} {d : D} (hg : Gl X x) (hm : X.mg x = some u) (r : RelV v u) (hd : ∀ H, Rp K H v d) (hdb : (x == ("__debug__" : Str)) = false := by decide) (hK : X.K = K := by first | rfl | exact kB | exact kB.trans kB) : AE X (.Name x pos) (tC v) (wC d) := by
  subst hK
  exact ⟨pe_glob hg hm r hdb, se_c hd⟩

/-! ### operators -/
abbrev rI' (f : Int → Int → Int) : R2 := rI0 fun i j => .int (f i j)
theorem ae_add {K : PySem.W.Frag} (ha : AE X a ta wa) (hb : AE X b tb wb) (hK : X.K = K := by first | rfl | exact kB | exact kB.trans kB) : AE X (.BinOp a .Add b pos) (tOp (rAddAll K) ta tb) (wOp fAdd wa wb) := by
  subst hK
  exact ⟨pe_op op_addAll ha.p hb.p, se_op ha.s hb.s s2_add⟩
def fSub : F2 := fun c d own Q => (fI fun i j => .int (i - j)) c d own Q
def fMul : F2 := fun c d own Q => (fIC CMul fun i j => .int (i * j)) c d own Q
def fDiv : F2 := fun c d own Q => (fIC CDiv fun i j => .int (i / j)) c d own Q
def fMod : F2 := fun c d own Q => (fIC (fun _ j => 0 < j) fun i j => .int (i % j)) c d own Q
def fPow : F2 := fun c d own Q => (fIC CPow fun i j => .int (i ^ j.toNat)) c d own Q
def fShl : F2 := fun c d own Q => (fIC CPow fun i j => .int (i * 2 ^ j.toNat)) c d own Q
def fShr : F2 := fun c d own Q => (fIC (fun _ j => 0 ≤ j) fun i j => .int (i / 2 ^ j.toNat)) c d own Q
def fAnd : F2 := fun c d own Q => (fI fun i j => .int (Builtin.bitAnd i j)) c d own Q
theorem ae_sub (ha : AE X a ta wa) (hb : AE X b tb wb) : AE X (.BinOp a .Sub b pos) (tOp (rI0 fun i j => .int (i - j)) ta tb) (wOp fSub wa wb) := ⟨pe_op op_sub ha.p hb.p, se_op ha.s hb.s (s2_I0 fun _ _ _ => .int _)⟩
theorem ae_mul (ha : AE X a ta wa) (hb : AE X b tb wb) : AE X (.BinOp a .Mult b pos) (tOp (rI CMul fun i j => .int (i * j)) ta tb) (wOp fMul wa wb) := ⟨pe_op op_mul ha.p hb.p, se_op ha.s hb.s (s2_I fun _ _ _ => .int _)⟩
theorem ae_div (ha : AE X a ta wa) (hb : AE X b tb wb) : AE X (.BinOp a .FloorDiv b pos) (tOp (rI CDiv fun i j => .int (i / j)) ta tb) (wOp fDiv wa wb) := ⟨pe_op op_fdiv ha.p hb.p, se_op ha.s hb.s (s2_I fun _ _ _ => .int _)⟩
theorem ae_mod (ha : AE X a ta wa) (hb : AE X b tb wb) : AE X (.BinOp a .Mod b pos) (tOp (rI (fun _ j => 0 < j) fun i j => .int (i % j)) ta tb) (wOp fMod wa wb) := ⟨pe_op op_mod ha.p hb.p, se_op ha.s hb.s (s2_I fun _ _ _ => .int _)⟩
theorem ae_pow (ha : AE X a ta wa) (hb : AE X b tb wb) : AE X (.BinOp a .Pow b pos) (tOp (rI CPow fun i j => .int (i ^ j.toNat)) ta tb) (wOp fPow wa wb) := ⟨pe_op op_pow ha.p hb.p, se_op ha.s hb.s (s2_I fun _ _ _ => .int _)⟩
theorem ae_shl (ha : AE X a ta wa) (hb : AE X b tb wb) : AE X (.BinOp a .LShift b pos) (tOp (rI CPow fun i j => .int (i * 2 ^ j.toNat)) ta tb) (wOp fShl wa wb) := ⟨pe_op op_shl ha.p hb.p, se_op ha.s hb.s (s2_I fun _ _ _ => .int _)⟩
theorem ae_shr (ha : AE X a ta wa) (hb : AE X b tb wb) : AE X (.BinOp a .RShift b pos) (tOp (rI (fun _ j => 0 ≤ j) fun i j => .int (i / 2 ^ j.toNat)) ta tb) (wOp fShr wa wb) := ⟨pe_op op_shr ha.p hb.p, se_op ha.s hb.s (s2_I fun _ _ _ => .int _)⟩
theorem ae_and (ha : AE X a ta wa) (hb : AE X b tb wb) : AE X (.BinOp a .BitAnd b pos) (tOp (rI0 fun i j => .int (Builtin.bitAnd i j)) ta tb) (wOp fAnd wa wb) := ⟨pe_op op_and ha.p hb.p, se_op ha.s hb.s (s2_I0 fun _ _ _ => .int _)⟩
def fNeg : F1 := fun c own Q => match c with | .fr (.int i) => Q (.fr (.int (-i))) own | _ => False
theorem ae_neg (ha : AE X a ta wa) : AE X (.UnaryOp .USub a pos) (tUn (rU fun i => .int (-i)) ta) (wUn fNeg wa) := ⟨pe_un un_neg ha.p, se_un ha.s s1_neg⟩

/-! ### comparisons: as a value, as a test -/
def fLt : F2 := fun c d own Q => (fI fun i j => .bool (decide (i < j))) c d own Q
def fLe : F2 := fun c d own Q => (fI fun i j => .bool (decide (i ≤ j))) c d own Q
def fGt : F2 := fun c d own Q => (fI fun i j => .bool (decide (j < i))) c d own Q
def fGe : F2 := fun c d own Q => (fI fun i j => .bool (decide (j ≤ i))) c d own Q
structure CO (X : Cx) (op : CmpOp) (r : R2) (f : F2) : Prop where
  o : OpR X (compareOp op) r
  s : S2 X.K r f
  m : op ≠ .In ∧ op ≠ .NotIn
theorem co_lt : CO X .Lt (rI0 fun i j => .bl (decide (i < j))) fLt := ⟨op_lt, s2_I0 fun _ _ _ => .bl _, by decide⟩
theorem co_le : CO X .LtE (rI0 fun i j => .bl (decide (i ≤ j))) fLe := ⟨op_le, s2_I0 fun _ _ _ => .bl _, by decide⟩
theorem co_gt : CO X .Gt (rI0 fun i j => .bl (decide (j < i))) fGt := ⟨op_gt, s2_I0 fun _ _ _ => .bl _, by decide⟩
theorem co_ge : CO X .GtE (rI0 fun i j => .bl (decide (j ≤ i))) fGe := ⟨op_ge, s2_I0 fun _ _ _ => .bl _, by decide⟩
theorem co_eq {K : PySem.W.Frag} {k : Nat} (hr : Room k X.A) (hK : X.K = K := by first | rfl | exact kB | exact kB.trans kB) : CO X .Eq (rEqD K) fEq := by
  subst hK
  exact ⟨op_eqD hr.units, s2_eq, by decide⟩
theorem co_ne {K : PySem.W.Frag} {k : Nat} (hr : Room k X.A) (hK : X.K = K := by first | rfl | exact kB | exact kB.trans kB) : CO X .NotEq (rNeD K) fNe := by
  subst hK
  exact ⟨op_neD hr.units, s2_ne, by decide⟩
variable {op op' : CmpOp} {r r' : R2} {f f' : F2}
theorem ae_cmp (h : CO X op r f) (ha : AE X a ta wa) (hb : AE X b tb wb) : AE X (.Compare a [op] [b] pos) (tOp r ta tb) (wOp f wa wb) := ⟨pe_cmpR h.o ha.p hb.p (nomark _ h.m.1 h.m.2), se_op ha.s hb.s h.s⟩
theorem at_cmp (h : CO X op r f) (ha : AE X a ta wa) (hb : AE X b tb wb) : AT X (.Compare a [op] [b] pos) (tTest (tOp r ta tb)) (wTest (wOp f wa wb)) := ⟨pt_cmpR h.o ha.p hb.p (nomark _ h.m.1 h.m.2), st_test (se_op ha.s hb.s h.s)⟩
theorem ae_chain (h : CO X op r f) (h' : CO X op' r' f') (ha : AE X a ta wa) (hb : AE X b tb wb) (hc : AE X c tc wc) (hm : lastMarks [op, op'] [b, c] = false := by with_unfolding_all rfl) :
    AE X (.Compare a [op, op'] [b, c] pos) (tChain r r' ta tb tc) (wChain f f' wa wb wc) := ⟨pe_chain h.o h'.o ha.p hb.p hc.p hm, se_chain ha.s hb.s hc.s h.s h'.s⟩
theorem at_chain (h : CO X op r f) (h' : CO X op' r' f') (ha : AE X a ta wa) (hb : AE X b tb wb) (hc : AE X c tc wc) (hm : lastMarks [op, op'] [b, c] = false := by with_unfolding_all rfl) :
    AT X (.Compare a [op, op'] [b, c] pos) (tTest (tChain r r' ta tb tc)) (wTest (wChain f f' wa wb wc)) := ⟨pt_chain h.o h'.o ha.p hb.p hc.p hm, st_test (se_chain ha.s hb.s hc.s h.s h'.s)⟩
theorem ae_isN {j : Nat} (ha : AE X a ta wa) : AE X (.Compare a [.Is] [.Constant .none j p] pos) (tIsN ta) (wIsN wa) := ⟨pe_cmp (pc_isN ha.p), se_isN ha.s⟩
theorem ae_notN {j : Nat} (ha : AE X a ta wa) : AE X (.Compare a [.IsNot] [.Constant .none j p] pos) (tNotN ta) (wNotN wa) := ⟨pe_cmp (pc_notN ha.p), se_notN ha.s⟩
theorem at_isN {j : Nat} (ha : AE X a ta wa) : AT X (.Compare a [.Is] [.Constant .none j p] pos) (tB (tIsN ta)) (wTest (wIsN wa)) := ⟨pt_cmp (pc_isN ha.p), st_B (se_isN ha.s)⟩
theorem at_notN {j : Nat} (ha : AE X a ta wa) : AT X (.Compare a [.IsNot] [.Constant .none j p] pos) (tB (tNotN ta)) (wTest (wNotN wa)) := ⟨pt_cmp (pc_notN ha.p), st_B (se_notN ha.s)⟩

/-! ### tests -/
theorem at_val (h : AE X e te we) (he : ∀ whole, isTrue e X.env whole = (do let v ← whole; standAt e.pos; holding [v] (truthy v)) := by intro _; rfl) : AT X e (tB te) (wTest we) := ⟨pt_val h.p he, st_B h.s⟩
theorem at_not (h : AT X a tt wt) : AT X (.UnaryOp .Not a pos) (tNot tt) (wNot wt) := ⟨pt_not h.p, st_not h.s⟩
theorem aw_and1 (h : AT X a tt wt) : AW X (.BoolOp .And [a] pos) tt wt := ⟨pw_and1 h.p, h.s⟩
theorem aw_or1 (h : AT X a tt wt) : AW X (.BoolOp .Or [a] pos) tt wt := ⟨pw_or1 h.p, h.s⟩
theorem aw_and (h : AT X a tt wt) (h' : AW X (.BoolOp .And (b :: es) pos) tu wu) : AW X (.BoolOp .And (a :: b :: es) pos) (tAnd tt tu) (wAnd wt wu) := ⟨pw_and h.p h'.p, st_and h.s h'.s⟩
theorem aw_or (h : AT X a tt wt) (h' : AW X (.BoolOp .Or (b :: es) pos) tu wu) : AW X (.BoolOp .Or (a :: b :: es) pos) (tOr tt tu) (wOr wt wu) := ⟨pw_or h.p h'.p, st_or h.s h'.s⟩
theorem ae_one {op : BoolOp} (h : AE X a ta wa) : AE X (.BoolOp op [a] pos) ta wa := ⟨pe_one h.p, h.s⟩
theorem ae_andV (ha : AE X a ta wa) (hb : AE X (.BoolOp .And (b :: es) pos) tb wb) : AE X (.BoolOp .And (a :: b :: es) pos) (tAndV ta tb) (wAndV wa wb) := ⟨pe_and ha.p hb.p, se_andV ha.s hb.s⟩
theorem ae_orV (ha : AE X a ta wa) (hb : AE X (.BoolOp .Or (b :: es) pos) tb wb) : AE X (.BoolOp .Or (a :: b :: es) pos) (tOrV ta tb) (wOrV wa wb) := ⟨pe_or ha.p hb.p, se_orV ha.s hb.s⟩
theorem ae_notV (ha : AE X a ta wa) : AE X (.UnaryOp .Not a pos) (tNotV ta) (wNotV wa) := ⟨pe_not ha.p, se_notV ha.s⟩
theorem ae_if (h : AT X c tt wt) (ha : AE X a ta wa) (hb : AE X b tb wb) : AE X (.IfExp c a b pos) (tIf tt ta tb) (wIf wt wa wb) := ⟨pe_ifExp h.p ha.p hb.p, se_if h.s ha.s hb.s⟩

/-! ### sequences -/
theorem aa_nil : AA X [] tNil wNil := ⟨pa_nil, sa_nil⟩
theorem aa_cons (h : AE X e te we) (ha : AA X es tA wA) (hs : starEach (e :: es) X.env = (false, eval e X.env) :: starEach es X.env := by rfl) : AA X (e :: es) (tCons te tA) (wCons we wA) := ⟨pa_cons h.p ha.p hs, sa_cons h.s ha.s⟩
theorem ae_tup {x1 : Nat} (h : AA X es tA wA) : AE X (.Tuple es x1 pos) (tTup tA) (wTup wA) := ⟨pe_tup h.p, se_tup h.s⟩
theorem ae_lst (h : AA X es tA wA) : AE X (.List es pos) (tLst tA) (wLst wA) := ⟨pe_lst h.p, se_lst h.s⟩
theorem ae_lstH (h : AA X es tA wA) : AE X (.List es pos) (tLst tA) (wLstH wA) := ⟨pe_lst h.p, se_lstH h.s⟩
theorem ae_ix {K : PySem.W.Frag} (ha : AE X a ta wa) (hb : AE X b tb wb) (hs : PlainIx b := by intro _ _; rfl) (hK : X.K = K := by first | rfl | exact kB | exact kB.trans kB) : AE X (.Subscript a b pos) (tOp (rIx K) ta tb) (wOp fIx wa wb) := by
  subst hK
  exact ⟨pe_ix ix_seq ha.p hb.p hs, se_op ha.s hb.s s2_ix⟩
theorem ao_none : AO X none tNoPart wNoPart := ⟨po_none, so_none⟩
theorem ao_some (h : AE X e te we) : AO X (some e) (tPart te) (wPart we) := ⟨po_some h.p, so_some h.s⟩
variable {lo hi : Option Expr} {tl th : TO} {wl wh : WO}
theorem ae_sl {K : PySem.W.Frag} (he : AE X e te we) (hl : AO X lo tl wl) (hh : AO X hi th wh) (hK : X.K = K := by first | rfl | exact kB | exact kB.trans kB) : AE X (.Subscript e (.Slice lo hi none p) pos) (tSl (rSlAll K) te tl th) (wSl fSl we wl wh) := by
  subst hK
  exact ⟨pe_slice sl_all he.p hl.p hh.p, se_slice ss_all he.s hl.s hh.s⟩
theorem ae_slH {K : PySem.W.Frag} (he : AE X e te we) (hl : AO X lo tl wl) (hh : AO X hi th wh) (hK : X.K = K := by first | rfl | exact kB | exact kB.trans kB) : AE X (.Subscript e (.Slice lo hi none p) pos) (tSl (rSlAll K) te tl th) (wSl fSlH we wl wh) := by
  subst hK
  exact ⟨pe_slice sl_all he.p hl.p hh.p, se_slice ss_allH he.s hl.s hh.s⟩

/-! ### built-in calls -/
/-- a built-in by its rule -/
structure BR (X : Cx) (f : Value) (r : List V → Hp → VK → Prop) (g : FA) : Prop where
  c : CallR X f r
  s : SN X.K r g
theorem ae_cb {x : Str} {id : String} {r : List V → Hp → VK → Prop} {g : FA} (h : BR X (.builtin id) r g) (hm : X.mg x = none) (ha : AA X (e :: es) tA wA) (hg : Gl X x := by rfl) (hv : bootBuiltins x = some (.builtin id) := by decide +kernel) (hn : x ≠ "__name__" := by decide) (hdb : (x == ("__debug__" : Str)) = false := by decide)
    (he : starEach (e :: es) X.env = (false, eval e X.env) :: starEach es X.env := by rfl) (hpl : (backTo pos (starEach es X.env)).any (·.1) = false := by rfl) : AE X (.Call (.Name x p) (e :: es) [] pos) (tCB r tA) (wCB g wA) :=
  ⟨pe_callB h.c hg hm hv ha.p hn hdb he hpl, se_cb ha.s h.s⟩
theorem ae_ct {x : Str} {T : String} {r : List V → Hp → VK → Prop} {g : FA} (h : BR X (.type T) r g) (hm : X.mg x = none) (ha : AA X (e :: es) tA wA) (hg : Gl X x := by rfl) (hv : bootBuiltins x = some (.type T) := by decide +kernel) (hn : x ≠ "__name__" := by decide) (hdb : (x == ("__debug__" : Str)) = false := by decide)
    (he : starEach (e :: es) X.env = (false, eval e X.env) :: starEach es X.env := by rfl) (hpl : (backTo pos (starEach es X.env)).any (·.1) = false := by rfl) : AE X (.Call (.Name x p) (e :: es) [] pos) (tCB r tA) (wCB g wA) :=
  ⟨pe_callTy h.c hg hm hv ha.p hn hdb he hpl, se_cb ha.s h.s⟩
theorem br_len {K : PySem.W.Frag} (hK : X.K = K := by first | rfl | exact kB | exact kB.trans kB) : BR X (.builtin "len") (fun xs H Q => ∃ x n, xs = [x] ∧ LenV K x H n ∧ Q (.int n) H) fLen := by
  subst hK
  exact ⟨call_len, sn_len⟩
theorem br_abs : BR X (.builtin "abs") (fun xs H Q => ∃ i, xs = [.int i] ∧ Q (.int (if i < 0 then -i else i)) H) fAbs := ⟨call_abs, sn_abs⟩
theorem br_max2 (hc : X.calm = true := by rfl) : BR X (.builtin "max") (fun xs H Q => ∃ i j, xs = [.int i, .int j] ∧ Q (.int (if j > i then j else i)) H) fMax2 := ⟨call_max2 hc, sn_max2⟩
theorem br_min2 (hc : X.calm = true := by rfl) : BR X (.builtin "min") (fun xs H Q => ∃ i j, xs = [.int i, .int j] ∧ Q (.int (if j < i then j else i)) H) fMin2 := ⟨call_min2 hc, sn_min2⟩
theorem br_sum {K : PySem.W.Frag} (hc : X.calm = true := by rfl) (hK : X.K = K := by first | rfl | exact kB | exact kB.trans kB) : BR X (.builtin "sum") (rSum K) fSum := by
  subst hK
  exact ⟨cr_sum hc, sn_sum⟩
theorem br_minL {K : PySem.W.Frag} (hc : X.calm = true := by rfl) (hK : X.K = K := by first | rfl | exact kB | exact kB.trans kB) : BR X (.builtin "min") (rMin K) fMinL := by
  subst hK
  exact ⟨cr_min hc, sn_minL⟩
theorem br_maxL {K : PySem.W.Frag} (hc : X.calm = true := by rfl) (hK : X.K = K := by first | rfl | exact kB | exact kB.trans kB) : BR X (.builtin "max") (rMax K) fMaxL := by
  subst hK
  exact ⟨cr_max hc, sn_maxL⟩
theorem br_all {K : PySem.W.Frag} (hc : X.calm = true := by rfl) (hK : X.K = K := by first | rfl | exact kB | exact kB.trans kB) : BR X (.builtin "all") (rAll K) fAll := by
  subst hK
  exact ⟨cr_all hc, sn_all⟩
theorem br_any {K : PySem.W.Frag} (hc : X.calm = true := by rfl) (hK : X.K = K := by first | rfl | exact kB | exact kB.trans kB) : BR X (.builtin "any") (rAny K) fAny := by
  subst hK
  exact ⟨cr_any hc, sn_any⟩
theorem br_int : BR X (.type "int") (fun xs H Q => (∃ i, xs = [.int i] ∧ Q (.int i) H) ∨ ∃ k, xs = [.bl k] ∧ Q (.int (if k then 1 else 0)) H) fInt := ⟨call_int1, sn_int⟩
theorem br_tuple {K : PySem.W.Frag} (hK : X.K = K := by first | rfl | exact kB | exact kB.trans kB) : BR X (.type "tuple") (fun xs H Q => ∃ p ys, xs = [.ref p] ∧ ((SqL K H p ys ∧ ∀ l, H l = none → Q (.ref l) (upd H l (.tup ys))) ∨ (SqT K H p ys ∧ Q (.ref p) H))) fTupleOf := by
  subst hK
  exact ⟨call_tuple_of, sn_tupleOf⟩
theorem br_list {K : PySem.W.Frag} (hK : X.K = K := by first | rfl | exact kB | exact kB.trans kB) : BR X (.type "list") (fun xs H Q => ∃ p ys, xs = [.ref p] ∧ (SqL K H p ys ∨ SqT K H p ys) ∧ ∀ l, H l = none → Q (.ref l) (upd H l (.lst ys))) fListOf := by
  subst hK
  exact ⟨call_list_of, sn_listOf⟩
theorem br_listH {K : PySem.W.Frag} (hK : X.K = K := by first | rfl | exact kB | exact kB.trans kB) : BR X (.type "list") (fun xs H Q => ∃ p ys, xs = [.ref p] ∧ (SqL K H p ys ∨ SqT K H p ys) ∧ ∀ l, H l = none → Q (.ref l) (upd H l (.lst ys))) fListOfH := by
  subst hK
  exact ⟨call_list_of, sn_listOfH⟩
theorem ae_isi {K : PySem.W.Frag} {x y : Str} {T : String} {p2 : Pos} (h : AE X e te we) (hm : X.mg x = none) (hm2 : X.mg y = none) (hg : Gl X x := by rfl) (hg2 : Gl X y := by rfl) (hv : bootBuiltins x = some (.builtin "isinstance") := by decide +kernel) (hv2 : bootBuiltins y = some (.type T) := by decide +kernel)
    (hn : x ≠ "__name__" := by decide) (hdb : (x == ("__debug__" : Str)) = false := by decide) (hn2 : y ≠ "__name__" := by decide) (hdb2 : (y == ("__debug__" : Str)) = false := by decide)
    (he : starEach [e, .Name y p2] X.env = (false, eval e X.env) :: starEach [.Name y p2] X.env := by rfl) (he2 : starEach [.Name y p2] X.env = (false, eval (.Name y p2) X.env) :: starEach [] X.env := by rfl) (hpl : (backTo pos (starEach [.Name y p2] X.env)).any (·.1) = false := by rfl) (hK : X.K = K := by first | rfl | exact kB | exact kB.trans kB) :
    AE X (.Call (.Name x p) [e, .Name y p2] [] pos) (tCB (rIsi K) (tCons te (tCons (tC (.ty T)) tNil))) (wIsi T we) := by
  subst hK
  exact ⟨pe_callB call_isi hg hm hv (pa_cons h.p (pa_cons (pe_bltn hg2 hm2 hv2 (v := .ty T) rfl hn2 hdb2) pa_nil he2) he) hn hdb he hpl, se_isi h.s⟩

/-! ### what is walked -/
variable {tg it : Expr} {wi : TI} {wI : WI} {js vs : List Nat} {gt : TG} {gw : WG}
theorem ai_list {K : PySem.W.Frag} (h : AE X e te we) (hK : X.K = K := by first | rfl | exact kB | exact kB.trans kB) : AI X tg e (iList K te) (wiList (wFrz we)) := by
  subst hK
  exact ⟨pi_list h.p, si_list (se_frz h.s)⟩
theorem ai_tup {K : PySem.W.Frag} (h : AE X e te we) (hK : X.K = K := by first | rfl | exact kB | exact kB.trans kB) : AI X tg e (iTup K te) (wiTup we) := by
  subst hK
  exact ⟨pi_tup h.p, si_tup h.s⟩
theorem ai_str (h : AE X e te we) : AI X tg e (iStr te) (wiStr we) := ⟨pi_str h.p, si_str h.s⟩
theorem ai_r1 (hm : X.mg "range" = none) (h : AA X [a] tA wA) (hg : Gl X "range" := by rfl) (hs : starEach [a] X.env = [(false, eval a X.env)] := by rfl) : AI X tg (.Call (.Name "range" p) [a] [] pos) (iRng1 tA) (wiR1 wA) := ⟨pi_range1 hg hm h.p hs, si_r1 h.s⟩
theorem ai_r2 (hm : X.mg "range" = none) (h : AA X [a, b] tA wA) (hg : Gl X "range" := by rfl) (hs : starEach [a, b] X.env = [(false, eval a X.env), (false, eval b X.env)] := by rfl) (hs2 : starEach [b] X.env = [(false, eval b X.env)] := by rfl) :
    AI X tg (.Call (.Name "range" p) [a, b] [] pos) (iRng2 tA) (wiR2 wA) := ⟨pi_range2 hg hm h.p hs hs2, si_r2 h.s⟩

/-! ### targets -/
theorem ag_name (i : Nat) {x : Str} (hN : X.N.Nodup) (hi : X.N[i]? = some x := by rfl) (hx : Loc X.env.scope x := by first | exact Or.inl rfl | exact Or.inr rfl) (hf : X.fn x = true ∨ X.env.scope.names.lookup x = some .local := by first | exact .inl rfl | exact .inr rfl) : AG X (.Name x pos) [i] (gName i) (wName i) := ⟨pg_name hN hi hx hf, sg_name⟩
theorem ags_nil : AGs X [] [] gNil wGNil := ⟨pgs_nil, sgs_nil⟩
theorem ags_cons {ks l : List Nat} {gs : TGs} {gws : WGs} (h : AG X e js gt gw) (hs : AGs X es ks gs gws) (hq : (assignEach (e :: es) X.env).map (·.2) = assign e X.env :: (assignEach es X.env).map (·.2) := by rfl) (hl : l = js ++ ks := by rfl) : AGs X (e :: es) l (gCons gt gs) (wGCons gw gws) := by
  subst hl
  exact ⟨pgs_cons h.p hs.p hq, sgs_cons h.s hs.s⟩
theorem ag_tup {K : PySem.W.Frag} {k n : Nat} {gs : TGs} {gws : WGs} (h : AGs X es js gs gws) (hc : X.calm = true := by rfl) (hn : (assignEach es X.env).length = n := by rfl) (hst : (assignEach es X.env).findIdx? (·.1) = none := by rfl) (hK : X.K = K := by first | rfl | exact kB | exact kB.trans kB) : AG X (.Tuple es k pos) js (gTup K n gs) (wGTup n gws) := by
  subst hK
  exact ⟨pg_tup hc h.p hn hst, sg_tup h.s⟩
theorem ag_set (ha : AE X a ta wa) (hb : AE X b tb wb) (hq : ∀ v, assign (.Subscript a b pos) X.env v = (do
      let ov ← holding [v] (eval a X.env)
      let iv ← holding [v, ov] (eval b X.env)
      standAt pos
      holding [v, ov, iv] (setItem ov iv v)
      release [v, ov, iv] []) := by intro _; rfl) : AG X (.Subscript a b pos) [] (gSub ta tb rSetL) (wSet wa wb) := ⟨pg_sub ha.p hb.p set_list hq, sg_set ha.s hb.s⟩

/-! ### comprehensions -/
theorem ats_nil : ATs X [] tYes wYes := ⟨pts_nil, st_yes⟩
theorem ats_one (h : AT X c tt wt) : ATs X [c] tt wt := ⟨pts_one h.p, h.s⟩
end
section
variable {X : Cx} {te : TE} {we : WE} {tt : TT} {wt : WT} {tg it : Expr} {wi : TI} {wI : WI} {js : List Nat} {gt : TG} {gw : WG} {elt : Expr} {ifs : List Expr} {scope : Scope} {own : List (Str × Nat)} {pos py spos : Pos} {i : Nat} {y : Str}
  (ha : AI X tg it wi wI) (hN : X.N.Nodup) (ok : BlkOk X.N X.env.scope scope own)
  (hg : ∀ (s : Shared) (H : Hp) (C : Addr) (cl : List (Str × Addr)) (fp : List Addr), AG (X.blk s H scope (compEnvC scope cl C X.env) fp) tg js gt gw) (ht : ∀ (s : Shared) (H : Hp) (C : Addr) (cl : List (Str × Addr)) (fp : List Addr), ATs (X.blk s H scope (compEnvC scope cl C X.env) fp) ifs tt wt)
  (he : ∀ (s : Shared) (H : Hp) (C : Addr) (cl : List (Str × Addr)) (fp : List Addr), AE (X.blk s H scope (compEnvC scope cl C X.env) fp) elt te we)
include ha hN ok hg ht he
theorem ae_lc (hc : X.calm = true := by rfl) (hj : ∀ j ∈ js, j ∈ own.map (·.2) := by decide) (hs : ∀ x, foldedSetIterable it X.env x = pure x := by intro _; rfl) : AE X (.ListComp elt [⟨tg, it, ifs, 0⟩] scope pos) (tLc wi gt tt te (own.map (·.2))) (wLc wI gw wt we (own.map (·.2))) :=
  ⟨pe_lc hc hN ha.p ok (fun s H C cl fp => (hg s H C cl fp).p) (fun s H C cl fp => (ht s H C cl fp).p) (fun s H C cl fp => (he s H C cl fp).p) hs, se_lcG sf_L ha.s (hg X.s_0 X.H_0 0 [] []).s (ht X.s_0 X.H_0 0 [] []).s (he X.s_0 X.H_0 0 [] []).s hj⟩
/-- y = [..] -/
theorem as_setLc (hy : X.N[i]? = some y := by rfl) (hyl : X.env.scope.names.lookup y = some .local := by rfl) (hsw : swapsWith (.ListComp elt [⟨tg, it, ifs, 0⟩] scope pos) (some (.Name y py)) spos.line X.env = pure true := by exact sw_true rfl rfl rfl (by decide +kernel))
    (hc : X.calm = true := by rfl) (hj : ∀ j ∈ js, j ∈ own.map (·.2) := by decide) (hs : ∀ x, foldedSetIterable it X.env x = pure x := by intro _; rfl) : AS X (.Assign [.Name y py] (.ListComp elt [⟨tg, it, ifs, 0⟩] scope pos) spos) (tAsg (tLc wi gt tt te (own.map (·.2))) (gName i)) (wAsg (wLc wI gw wt we (own.map (·.2))) (wName i)) :=
  ⟨ps_setLc hc hN hy hyl hsw ha.p ok (fun s H C cl fp => (hg s H C cl fp).p) (fun s H C cl fp => (ht s H C cl fp).p) (fun s H C cl fp => (he s H C cl fp).p) hs, ss_asg (se_lcG sf_L ha.s (hg X.s_0 X.H_0 0 [] []).s (ht X.s_0 X.H_0 0 [] []).s (he X.s_0 X.H_0 0 [] []).s hj) sg_name⟩
theorem as_setLcH (hy : X.N[i]? = some y := by rfl) (hyl : X.env.scope.names.lookup y = some .local := by rfl) (hsw : swapsWith (.ListComp elt [⟨tg, it, ifs, 0⟩] scope pos) (some (.Name y py)) spos.line X.env = pure true := by exact sw_true rfl rfl rfl (by decide +kernel))
    (hc : X.calm = true := by rfl) (hj : ∀ j ∈ js, j ∈ own.map (·.2) := by decide) (hs : ∀ x, foldedSetIterable it X.env x = pure x := by intro _; rfl) : AS X (.Assign [.Name y py] (.ListComp elt [⟨tg, it, ifs, 0⟩] scope pos) spos) (tAsg (tLc wi gt tt te (own.map (·.2))) (gName i)) (wAsg (wLcH wI gw wt we (own.map (·.2))) (wName i)) :=
  ⟨ps_setLc hc hN hy hyl hsw ha.p ok (fun s H C cl fp => (hg s H C cl fp).p) (fun s H C cl fp => (ht s H C cl fp).p) (fun s H C cl fp => (he s H C cl fp).p) hs, ss_asg (se_lcG sf_H ha.s (hg X.s_0 X.H_0 0 [] []).s (ht X.s_0 X.H_0 0 [] []).s (he X.s_0 X.H_0 0 [] []).s hj) sg_name⟩
end

section
variable {X : Cx} {a b c e o : Expr} {es : List Expr} {ta tb tc te to : TE} {wa wb wc we wo : WE} {tA : TA} {wA : WA} {pos p apos cpos : Pos} {tt tu : TT} {wt wu : WT}
/-! ### methods -/
theorem ae_ml {K : PySem.W.Frag} {id : String} {name : Str} {r : V → List V → Hp → VK → Prop} {f : FM} (slot : Slot "list" name id) (hty : typeOf (.builtin id) = pure (.type "method_descriptor")) (hm : MtR X id r) (hf : SM K r f) (ho : AE X o to wo) (ha : AA X (e :: es) tA wA)
    (hbase : attributeBase o name X.env (eval o X.env) = eval o X.env := by rfl)
    (hfew : ((backTo cpos (starEach (e :: es) X.env)).all (fun x => !x.1) && (backToKw cpos (keywordEach [] X.env)).all (fun x => x.1.isSome)
      && decide ((e :: es).length + ([] : List Keyword).length + (if ([] : List Keyword).isEmpty then 0 else 1) < 30)) = true := by rfl)
    (hline : (apos.endLine == cpos.line) = true := by rfl) (hs : starEach (e :: es) X.env = (false, eval e X.env) :: starEach es X.env := by rfl) (hplain : (backTo cpos (starEach es X.env)).any (·.1) = false := by rfl) (hK : X.K = K := by first | rfl | exact kB | exact kB.trans kB) :
    AE X (.Call (.Attribute o name apos) (e :: es) [] cpos) (tBM K "list" r to tA) (wBL f wo wA) := by
  subst hK
  exact ⟨pe_bm PySem.F.plainAttrs_list slot hty hm ho.p ha.p hbase hfew hline hs hplain, se_bl ho.s ha.s hf⟩
theorem ae_ml0 {K : PySem.W.Frag} {id : String} {name : Str} {r : V → List V → Hp → VK → Prop} {f : FM} (slot : Slot "list" name id) (hty : typeOf (.builtin id) = pure (.type "method_descriptor")) (hm : MtR X id r) (hf : SM K r f) (ho : AE X o to wo)
    (hbase : attributeBase o name X.env (eval o X.env) = eval o X.env := by rfl) (hline : (apos.endLine == cpos.line) = true := by rfl) (hK : X.K = K := by first | rfl | exact kB | exact kB.trans kB) :
    AE X (.Call (.Attribute o name apos) [] [] cpos) (tBM0 K "list" r to) (wBL f wo wNil) := by
  subst hK
  exact ⟨pe_bm0 PySem.F.plainAttrs_list slot hty hm ho.p hbase hline, se_bl0 ho.s hf⟩

/-! ### statements -/
variable {st : Stmt} {sts : List Stmt} {t u : TS} {w w' : WS} {js : List Nat} {gt : TG} {gw : WG} {tg : Expr}
theorem ass_nil : ASs X [] tNext wNext := ⟨pss_nil, ss_next⟩
theorem ass_cons (h : AS X st t w) (h' : ASs X sts u w') : ASs X (st :: sts) (tSeq t u) (wSeq w w') := ⟨pss_cons h.p h'.p, ss_seq h.s h'.s⟩
theorem ass_one (h : AS X st t w) : ASs X [st] t w := ⟨pss_one h.p, h.s⟩
theorem as_pass : AS X (.Pass pos) tNext wNext := ⟨ps_pass, ss_next⟩
theorem as_break : AS X (.Break pos) tBreak wBreak := ⟨ps_break, ss_brk⟩
theorem as_cont : AS X (.Continue pos) tCont wCont := ⟨ps_continue, ss_cont⟩
theorem as_never : AS X st tNever wNever := ⟨ps_never, ss_never⟩
theorem ass_never : ASs X sts tNever wNever := ⟨pss_never, ss_never⟩
theorem as_ret (h : AE X e te we) : AS X (.Return (some e) pos) (tRet te) (wRet we) := ⟨ps_ret h.p, ss_ret h.s⟩
theorem as_retN : AS X (.Return none pos) tRetN wRetN := ⟨ps_retN, ss_retN⟩
theorem as_expr (h : AE X e te we) (hs : swapsWith e none pos.line X.env = pure false := by rfl) : AS X (.Expr e pos) (tDrop te) (wDrop we) := ⟨ps_expr h.p hs, ss_drop h.s⟩
theorem as_set (i : Nat) {x : Str} {pos' : Pos} (hN : X.N.Nodup) (h : AE X e te we) (hi : X.N[i]? = some x := by rfl) (hx : Loc X.env.scope x := by first | exact Or.inl rfl | exact Or.inr rfl) (hs : swapsWith e (some (.Name x pos')) pos.line X.env = pure false := by rfl) (hf : X.fn x = true ∨ X.env.scope.names.lookup x = some .local := by first | exact .inl rfl | exact .inr rfl) :
    AS X (.Assign [.Name x pos'] e pos) (tAsg te (gName i)) (wAsg we (wName i)) := ⟨ps_set hN hi hx h.p hs hf, ss_asg h.s sg_name⟩
theorem as_asg (h : AE X e te we) (hg : AG X tg js gt gw) (hs : swapsWithSole [tg] e pos.line X.env = pure false := by rfl) (hw : swappedStores [tg] e X.env = pure none := by rfl) (h1 : (assignEach [tg] X.env).map (·.2) = [assign tg X.env] := by rfl) :
    AS X (.Assign [tg] e pos) (tAsg te gt) (wAsg we gw) := ⟨ps_asg h.p hg.p hs hw h1, ss_asg h.s hg.s⟩
theorem as_if {q r : List Stmt} (hc : AT X c tt wt) (ha : ASs X q t w) (hb : ASs X r u w') : AS X (.If c q r pos) (tIfS tt t u) (wIfS wt w w') := ⟨ps_if hc.p ha.p hb.p, ss_if hc.s ha.s hb.s⟩
theorem as_for {it : Expr} {wi : TI} {wI : WI} {body : List Stmt} (hi : AI X tg it wi wI) (hg : AG X tg js gt gw) (hb : ASs X body t w) (hp : PassesOwn (model X.prog X.w) X.A X.env X.xe := by exact PassesOwn.never) (hc : X.calm = true := by rfl) (hs : ∀ x, foldedSetIterable it X.env x = pure x := by intro _; rfl) :
    AS X (.For tg it body [] pos) (tFor wi gt t) (wFor wI gw w) := ⟨ps_for hp hc hi.p hg.p hb.p hs, ss_for hi.s hg.s hb.s⟩
theorem as_while {body : List Stmt} (hc : AT X c tt wt) (hb : ASs X body t w) (hp : PassesOwn (model X.prog X.w) X.A X.env X.xe := by exact PassesOwn.never) : AS X (.While c body [] pos) (tWhile tt t) (wWhile wt w) := ⟨ps_while hp hc.p hb.p, ss_while hc.s hb.s⟩
/-- an in-place operator -/
structure IO (X : Cx) (op : Operator) (r : R2) (f : F2) : Prop where
  o : PIp X op r
  s : S2 X.K r f
theorem io_add : IO X .Add (rI0 fun i j => .int (i + j)) (fI fun i j => .int (i + j)) := ⟨iop_add, s2_I0 fun _ _ _ => .int _⟩
theorem io_sub : IO X .Sub (rI0 fun i j => .int (i - j)) (fI fun i j => .int (i - j)) := ⟨iop_sub, s2_I0 fun _ _ _ => .int _⟩
variable {op : Operator} {r : R2} {f : F2}
theorem as_aug (i : Nat) {x : Str} {pos' : Pos} (ho : IO X op r f) (hN : X.N.Nodup) (h : AE X e te we) (hi : X.N[i]? = some x := by rfl) (hx : Loc X.env.scope x := by first | exact Or.inl rfl | exact Or.inr rfl) (hf : X.fn x = true ∨ X.env.scope.names.lookup x = some .local := by first | exact .inl rfl | exact .inr rfl) :
    AS X (.AugAssign (.Name x pos') op e pos) (tAug i te r) (wAug i f we) := ⟨ps_aug hN hi hx h.p ho.o hf, ss_aug h.s ho.s⟩
theorem as_augS {K : PySem.W.Frag} {i : Expr} {ti : TE} {wi : WE} {tpos : Pos} (hO : IO X op r f) (ho : AE X o to wo) (hi : AE X i ti wi) (he : AE X e te we)
    (hq : ∀ ov iv new, augStore i ov iv new = (do holding [new, ov, iv] (setItem ov iv new); release [new, ov, iv] []; pure .next) := by intros; rfl) (hK : X.K = K := by first | rfl | exact kB | exact kB.trans kB) : AS X (.AugAssign (.Subscript o i tpos) op e pos) (tAugS to ti te (rIxL K) r rSetL) (wAugS f wo wi we) := by
  subst hK
  exact ⟨ps_augS ho.p hi.p pget_list he.p hO.o set_list hq, ss_augS ho.s hi.s he.s hO.s⟩
/-! ### calls -/
/-- a def of the text, with its promise -/
def Dk (P : Program) (w : World) (K : PySem.W.Frag) (mg : Str → Option Value) (base : Heap) (k : Nat) (x : Str) (ps : List Str) (f : FA) : Prop :=
  ∃ (a : Addr) (fd : FuncData), FnOk P w K mg base CX0 k a fd ps (spA K ps.length f) ∧ mg x = some (.ref a) ∧ PySem.W.keepIn K (.ref a) = true ∧ Binds K fd ps []
theorem ae_call {K : PySem.W.Frag} {k j n : Nat} {x : Str} {ps : List Str} {f : FA} (h : Dk X.prog X.w K X.mg X.base k x ps f) (hr : Room j X.A) (ha : AA X (e :: es) tA wA) (hk : k ≤ j := by decide) (hg : Gl X x := by rfl) (hdb : (x == ("__debug__" : Str)) = false := by decide)
    (he : starEach (e :: es) X.env = (false, eval e X.env) :: starEach es X.env := by rfl) (hpl : (backTo pos (starEach es X.env)).any (·.1) = false := by rfl) (hK : X.K = K := by first | rfl | exact kB | exact kB.trans kB) (hn : ps.length = n := by rfl) : AE X (.Call (.Name x p) (e :: es) [] pos) (tCall (spA K n f) [] E0 tA) (wCall n f wA) := by
  subst hK hn
  obtain ⟨a, fd, F, hm, kp, hb⟩ := h
  exact ⟨pe_call F (hr.mono hk) hg hm kp hb .nil pass0 ha.p hdb he hpl, se_call ha.s⟩
end
/-- a def of the text: where it stands and what it keeps -/
theorem dk_of {P : Program} {w : World} {K : PySem.W.Frag} {mg : Str → Option Value} {base : Heap} {k : Nat} {x : Str} {st : Stmt} {N ps : List Str} {f : FA} {t : TS} {wv : WS} {a : Addr} (F : ∃ fd, FunD K x x (defArgs st) (defBody st) (defScope st) [] [] a fd) (hm : mg x = some (.ref a)) (S : FnScope N ps (defScope st))
    (hbind : ∀ (kV doc pm : Value) (an : Option Addr) (cdv ct : Value) (us : List Value), us.length = ps.length → bindArgs (PySem.W.fnOf x x (defArgs st) (defBody st) (defScope st) .none kV doc pm an cdv ct) ⟨us, []⟩ = pure (ps.zip us))
    (hb : ∀ (cdv : Value) (A : Around) (outer : List Env) (s : Shared) (H : Hp) (E : XK), Room k (A.deeper (envOfC x (defScope st) s.heap.objs.size a cdv)) → ASs (cxOf CX0 P w K mg base N x (defScope st) a cdv A outer s H E).nox (defBody st) t wv)
    (hw : ∀ cs own Q, Cl own → cs.length = ps.length → f cs own Q → wv (enF own.length Q) (startS N cs) own) : Dk P w K mg base (k + 1) x ps f := by
  obtain ⟨fd, F⟩ := F
  refine ⟨a, fd, F.ok S (fun vs H Q E h => ?_) (fun cdv A outer s H vs Q E hr h => ⟨t, (hb cdv A outer s H E hr).p.nox, ?_⟩), hm, F.kp, F.bindsN hbind⟩
  · obtain ⟨B, θ, own, F, cs, Q0, _, r, hl, _⟩ := h
    rw [paired_len r, hl]
  · exact body_ok (hb cdv A outer s H E hr).s hw h
end Zd

/-! Zd8: walks over any sequence, further built-ins. -/
namespace Zd
open PySem PySem.Spec PyProof.Rows L2 RZ RT

/-! ### for x in a list, a tuple, a text -/
def iSeq (K : PySem.W.Frag) (te : TE) : TI := fun σ H R => te σ H fun x H1 => (∃ a xs, x = .ref a ∧ SqL K H1 a xs ∧ R (Itl K a) H1) ∨ (∃ a xs, x = .ref a ∧ SqT K H1 a xs ∧ R (Itt K a) H1) ∨ ∃ z, x = .str z ∧ R (Its z) H1
theorem pi_seq {K : PySem.W.Frag} {X : Cx} {tg l : Expr} {tl : TE} (hl : PE X l tl) (hK : X.K = K := by first | rfl | exact kB | exact kB.trans kB) : PI X tg l (iSeq K tl) := by
  subst hK
  refine ⟨fun pins s σ H R I h => ?_⟩
  refine thn (hl.run pins s σ H _ I h) fun v s1 ⟨x, H1, I1, r1, q1⟩ => ?_
  rcases q1 with ⟨a, xs, e, hq, q⟩ | ⟨a, xs, e, hq, q⟩ | ⟨z, e, q⟩
  · subst e
    cases r1
    obtain ⟨its, rv, p, hz⟩ := I1.list hq
    refine wpAny_pyIter_list p.isList ?_
    refine ⟨s1.heap.objs.size, [s1.heap.objs.size], _, _, H1, rfl, I1.kept (t' := s1.toks) fun b o e => Heap.get?_push_of_some _ e, turn_list a _, ⟨_, Heap.get?_push_size _ rfl, rfl, rfl⟩, fun b hb => ?_, q⟩
    have e : b = s1.heap.objs.size := by simpa using hb
    subst e
    exact I1.fpOk (Nat.le_refl _) (I1.hok.fresh (Nat.le_refl _))
  · subst e
    cases r1
    obtain ⟨its, rv, p, hz⟩ := I1.tuple hq
    refine wpAny_pyIter_tuple (show s1.heap.IsTuple a its.toArray from p) ?_
    refine ⟨s1.heap.objs.size, [s1.heap.objs.size], _, _, H1, rfl, I1.kept (t' := s1.toks) fun b o e => Heap.get?_push_of_some _ e, turn_tuple a _, ⟨_, Heap.get?_push_size _ rfl, rfl, rfl⟩, fun b hb => ?_, q⟩
    have e : b = s1.heap.objs.size := by simpa using hb
    subst e
    exact I1.fpOk (Nat.le_refl _) (I1.hok.fresh (Nat.le_refl _))
  · subst e
    obtain ⟨t, rfl⟩ := r1
    cases ha : z.cps.all (· < 128)
    · exact wpAny_pyIter_wide ha (pi_one (tk := s1.toks) I1 _ (turn_str _ z t "str_iterator" (.inr rfl)) ⟨_, Heap.get?_push_size _ rfl, rfl, rfl⟩ q)
    · exact wpAny_pyIter_ascii ha (pi_one (tk := s1.toks) I1 _ (turn_str _ z t "str_ascii_iterator" (.inl rfl)) ⟨_, Heap.get?_push_size _ rfl, rfl, rfl⟩ q)
/-- the items of a sequence -/
def itemsOf (c : C) : Option (List D) := match c with
  | .fr (.list ds) => some ds
  | .fr (.tuple ds) => some ds
  | .fr (.str z) => some (z.cps.toList.map fun x => .str ⟨#[x]⟩)
  | .sc ns => some (ns.map PyData.int)
  | _ => none
def wiSeq (we : WE) : WI := fun ss own Q => we ss own fun c o1 => match itemsOf c with
  | some ds => Q ds o1
  | none => False
section
variable {K : PySem.W.Frag} {te : TE} {we : WE}
theorem si_seq (h : SE K te we) : SI K (iSeq K te) (wiSeq we) := by
  intro ss own Q hw B θ F H σ g s R k
  refine h ss own _ hw B θ F H σ g s _ fun θ1 own1 F1 H1 v c g1 t1 r1 q1 => ?_
  dsimp only at q1
  split at q1
  · rename_i items e
    unfold itemsOf at e
    split at e
    · rename_i ds
      cases e
      obtain ⟨a, xs, rfl, h1, h2⟩ := cr_lst r1
      exact .inl ⟨a, xs, rfl, SqL.of (g1.ex _ _ h1), k _ _ _ _ _ _ g1 t1 (wk_list (SqL.of h1) h2) q1⟩
    · rename_i ds
      cases e
      obtain ⟨a, xs, rfl, h1, h2⟩ := cr_tup r1
      exact .inr (.inl ⟨a, xs, rfl, same_t g1.ex h1, k _ _ _ _ _ _ g1 t1 (wk_tup h1 h2) q1⟩)
    · rename_i z
      cases e
      cases cr_str r1
      refine .inr (.inr ⟨z, rfl, k _ _ _ _ _ _ g1 t1 (wk_of (G := fun _ => True) (Y := fun i H v H' => H' = H ∧ ∃ c, z.cps[i]? = some c ∧ v = .str ⟨#[c]⟩) (by rw [List.length_map, Array.length_toList]; exact walk_str) (fun _ _ => trivial) fun i H x H' y => ?_) q1⟩)
      obtain ⟨e1, c, e2, e3⟩ := y
      exact ⟨.str ⟨#[c]⟩, by rw [List.getElem?_map, Array.getElem?_toList, e2]; rfl, e1, by rw [e3]; exact .str _⟩
    · rename_i ns
      cases e
      obtain ⟨a, rfl, h1⟩ := r1
      exact .inl ⟨a, _, rfl, same_l g1.ex h1, k _ _ _ _ _ _ g1 t1 (wk_list h1 (ints_rp ns)) q1⟩
    · cases e
  · exact q1.elim
end
theorem ai_seq {K : PySem.W.Frag} {X : Cx} {tg e : Expr} {te : TE} {we : WE} (h : AE X e te we) (hK : X.K = K := by first | rfl | exact kB | exact kB.trans kB) : AI X tg e (iSeq K te) (wiSeq we) := by
  subst hK
  exact ⟨pi_seq h.p, si_seq h.s⟩
section
variable {X : Cx} {a b e : Expr} {tA : TA} {wA : WA} {p pos tpos : Pos} {tg : Expr}
theorem ai_zip {K : PySem.W.Frag} {elts : List Expr} {kk : Nat} (hm : X.mg "zip" = none) (h : AA X [a, b] tA wA) (hg : Gl X "zip" := by rfl) (hs : starEach [a, b] X.env = (false, eval a X.env) :: starEach [b] X.env := by rfl) (hpl : (backTo pos (starEach [b] X.env)).any (·.1) = false := by rfl) (hK : X.K = K := by first | rfl | exact kB | exact kB.trans kB) :
    AI X (.Tuple elts kk tpos) (.Call (.Name "zip" p) [a, b] [] pos) (iZipA K tA) (wiZip wA) := by
  subst hK
  exact ⟨pi_zipA hg hm h.p hs hpl, si_zip h.s⟩
theorem ai_rev {K : PySem.W.Frag} {te : TE} {we : WE} (hm : X.mg "reversed" = none) (h : AE X e te we) (hg : Gl X "reversed" := by rfl) (hs : starEach [e] X.env = (false, eval e X.env) :: starEach [] X.env := by rfl) (hK : X.K = K := by first | rfl | exact kB | exact kB.trans kB) : AI X tg (.Call (.Name "reversed" p) [e] [] pos) (iRevA K te) (wiRev we) := by
  subst hK
  exact ⟨pi_revA hg hm h.p hs, si_rev h.s⟩
end
end Zd

/-! Zd9: the law's own def: its promise from the script. -/
namespace Zd
open PySem PySem.Spec PyProof.Rows L2
/-- what the law promises: at every script it answers true -/
def f_law : FA := fun cs own Q => (∃ ns : List Int, cs = [.sc ns] ∧ ns.length ≤ 63) ∧ own = [] ∧ ∀ o, Q (.fr (.bool true)) o
theorem law_start (ns : List Int) (h : ns.length ≤ 63) : ∀ Q : KC, (∀ o, Q (.fr (.bool true)) o) → f_law [.sc ns] [] Q := fun _ k => ⟨⟨ns, rfl, h⟩, rfl, k⟩
theorem law_sp {K : PySem.W.Frag} {H : Hp} {a : Addr} {ns : List Int} {f : FA} {E : XK} (hf : ∀ Q : KC, (∀ o, Q (.fr (.bool true)) o) → f [.sc ns] [] Q) (hO : Only H) (hS : SqL K H a (ns.map V.int)) : spA K 1 f [.ref a] H (fun v _ => v = .bl true) E := by
  refine ⟨fun _ => False, [], [], H, [.sc ns], fun c _ => c = .fr (.bool true), ⟨rfl, List.nodup_nil, Same.refl _, fun _ h => h.elim, fun i a m h => ?_, fun m hm => nomatch hm⟩, .cons ⟨a, rfl, hS⟩ .nil, rfl, hf _ fun _ => rfl, fun θ' own' F' H' v c g t r q => ?_⟩
  · simp at h
  · subst q
    cases r
    rfl
theorem fn_of {P : Program} {w : World} {K : PySem.W.Frag} {mg : Str → Option Value} {base : Heap} {k : Nat} {x : Str} {st : Stmt} {N ps : List Str} {f : FA} {t : TS} {wv : WS} {a : Addr} {fd : FuncData} (F : FunD K x x (defArgs st) (defBody st) (defScope st) [] [] a fd) (S : FnScope N ps (defScope st))
    (hb : ∀ (cdv : Value) (A : Around) (outer : List Env) (s : Shared) (H : Hp) (E : XK), Room k (A.deeper (envOfC x (defScope st) s.heap.objs.size a cdv)) → ASs (cxOf CX0 P w K mg base N x (defScope st) a cdv A outer s H E).nox (defBody st) t wv)
    (hw : ∀ cs own Q, Cl own → cs.length = ps.length → f cs own Q → wv (enF own.length Q) (startS N cs) own) : FnOk P w K mg base CX0 (k + 1) a fd ps (spA K ps.length f) := by
  refine F.ok S (fun vs H Q E h => ?_) (fun cdv A outer s H vs Q E hr h => ⟨t, (hb cdv A outer s H E hr).p.nox, ?_⟩)
  · obtain ⟨B, θ, own, F, cs, Q0, _, r, hl, _⟩ := h
    rw [paired_len r, hl]
  · exact body_ok (hb cdv A outer s H E hr).s hw h
end Zd

/-! Zb1: proofs by data: tables with one hole, promises of pure and of drawing defs. -/
namespace Zd
open PySem L2

/-! ### tables: what stood ahead, the object in hand, what stood behind it, what was made since -/
def Tb (pre : Ts) (m : MO) (post r : Ts) : Ts := pre ++ m :: (post ++ r)
def hb (pre post : Ts) (k : Nat) : Nat := pre.length + 1 + post.length + k
def T0 (own r : Ts) : Ts := own ++ r
def h0 (own : Ts) (k : Nat) : Nat := own.length + k
section
variable {pre post r own : Ts} {m m' x : MO} {k : Nat}
theorem tb_h : (Tb pre m post r)[pre.length]? = some m := by simp [Tb]
theorem tb_k : (Tb pre m post r)[hb pre post k]? = r[k]? := by
  unfold Tb hb
  rw [List.getElem?_append_right (by omega), List.getElem?_cons, if_neg (by omega), List.getElem?_append_right (by omega)]
  congr 1
  omega
theorem tb_seth : (Tb pre m post r).set pre.length m' = Tb pre m' post r := by simp [Tb]
theorem tb_setk : (Tb pre m post r).set (hb pre post k) x = Tb pre m post (r.set k x) := by
  unfold Tb hb
  rw [List.set_append_right _ _ (by omega), show pre.length + 1 + post.length + k - pre.length = (post.length + k) + 1 by omega, List.set_cons_succ, List.set_append_right _ _ (by omega)]
  congr 4
  omega
theorem tb_app : Tb pre m post r ++ [x] = Tb pre m post (r ++ [x]) := by simp [Tb]
theorem tb_len : (Tb pre m post r).length = hb pre post r.length := by simp [Tb, hb]; omega
theorem tb_take : (Tb pre m post r).take (hb pre post 0) = Tb pre m post [] := by
  unfold Tb hb
  rw [List.append_nil, show pre ++ m :: (post ++ r) = (pre ++ m :: post) ++ r by simp]
  exact List.take_left' (by simp; omega)
theorem tb_nil : Tb pre m post [] = pre ++ m :: post := by simp [Tb]
theorem t0_k : (T0 own r)[h0 own k]? = r[k]? := by
  unfold T0 h0
  rw [List.getElem?_append_right (by omega)]
  congr 1
  omega
theorem t0_setk : (T0 own r).set (h0 own k) x = T0 own (r.set k x) := by
  unfold T0 h0
  rw [List.set_append_right _ _ (by omega)]
  congr 2
  omega
theorem t0_app : T0 own r ++ [x] = T0 own (r ++ [x]) := by simp [T0]
theorem t0_len : (T0 own r).length = h0 own r.length := by simp [T0, h0]
theorem t0_take : (T0 own r).take (h0 own 0) = own := by simp [T0, h0]
theorem t0_nil : T0 own [] = own := by simp [T0]
end
theorem atI0 {α : Type} {a : α} {l : List α} : atI (a :: l) 0 = some a := by simp [atI, ixN]
theorem atI1 {α : Type} {a b : α} {l : List α} : atI (a :: b :: l) 1 = some b := by unfold atI ixN; rw [if_pos (by decide), if_pos (by simp only [List.length_cons]; omega)]; rfl
theorem atI2 {α : Type} {a b c : α} {l : List α} : atI (a :: b :: c :: l) 2 = some c := by unfold atI ixN; rw [if_pos (by decide), if_pos (by simp only [List.length_cons]; omega)]; rfl
theorem atI3 {α : Type} {a b c d : α} {l : List α} : atI (a :: b :: c :: d :: l) 3 = some d := by unfold atI ixN; rw [if_pos (by decide), if_pos (by simp only [List.length_cons]; omega)]; rfl
theorem atI4 {α : Type} {a b c d e : α} {l : List α} : atI (a :: b :: c :: d :: e :: l) 4 = some e := by unfold atI ixN; rw [if_pos (by decide), if_pos (by simp only [List.length_cons]; omega)]; rfl
theorem atI5 {α : Type} {a b c d e f : α} {l : List α} : atI (a :: b :: c :: d :: e :: f :: l) 5 = some f := by unfold atI ixN; rw [if_pos (by decide), if_pos (by simp only [List.length_cons]; omega)]; rfl
theorem setI0 {a v : C} {l : List C} : setI (a :: l) 0 v = some (v :: l) := by simp [setI, ixN]
theorem setI1 {a b v : C} {l : List C} : setI (a :: b :: l) 1 v = some (a :: v :: l) := by unfold setI ixN; rw [if_pos (by decide), if_pos (by simp only [List.length_cons]; omega)]; rfl
theorem setI2 {a b c v : C} {l : List C} : setI (a :: b :: c :: l) 2 v = some (a :: b :: v :: l) := by unfold setI ixN; rw [if_pos (by decide), if_pos (by simp only [List.length_cons]; omega)]; rfl
theorem setI3 {a b c d v : C} {l : List C} : setI (a :: b :: c :: d :: l) 3 v = some (a :: b :: c :: v :: l) := by unfold setI ixN; rw [if_pos (by decide), if_pos (by simp only [List.length_cons]; omega)]; rfl
/-- a drawn state -/
structure Drw where
  cells : List Int
  a : Int
  b : Int
  c : Int
  h : 0 ≤ a
def drM (x : Drw) : MO := .lst [.fr (.list (x.cells.map PyData.int)), .fr (.int x.a), .fr (.int x.b), .fr (.int x.c)]
def resO (o : Option MO) (h : Nat) : C := match o with
  | some (.frz d) => .fr d
  | _ => .hd h
theorem res_fr {own : Ts} {d : D} : res own (.fr d) = .fr d := rfl
theorem res_sc {own : Ts} {d : List Int} : res own (.sc d) = .sc d := rfl
theorem res_hd {own : Ts} {h : Nat} : res own (.hd h) = resO own[h]? h := rfl
theorem resO_frz {d : D} {h : Nat} : resO (some (.frz d)) h = .fr d := rfl
theorem resO_lst {d : List C} {h : Nat} : resO (some (.lst d)) h = .hd h := rfl
theorem resO_ins {a : Addr} {d : List (Str × C)} {h : Nat} : resO (some (.ins a d)) h = .hd h := rfl
theorem resO_dk {d : List (Key × C)} {h : Nat} : resO (some (.dk d)) h = .hd h := rfl
theorem resO_dr {x : Drw} {h : Nat} : resO (some (drM x)) h = .hd h := rfl
theorem range_get {i n : Nat} {a : Int} {d : D} (h : (rangeD a n)[i]? = some d) : i < n ∧ d = .int (a + i) := by
  unfold rangeD at h
  rw [List.getElem?_map] at h
  by_cases hi : i < n
  · rw [List.getElem?_range hi] at h
    exact ⟨hi, (Option.some.inj h).symm⟩
  · rw [List.getElem?_eq_none (by simpa using hi)] at h
    cases h
theorem range_len {n : Nat} {a : Int} : (rangeD a n).length = n := by simp [rangeD]
theorem eqv_ii (i j : Int) : PyData.eqv (.int i) (.int j) = decide (i = j) := by first | rfl | (unfold PyData.eqv; rfl)
theorem eqv_ss (i j : Str) : PyData.eqv (.str i) (.str j) = decide (i = j) := by first | rfl | (unfold PyData.eqv; rfl)
theorem eqv_bb (i j : Bool) : PyData.eqv (.bool i) (.bool j) = decide (i = j) := by cases i <;> cases j <;> first | rfl | decide
theorem shp_i (i : Int) : SeqAt.shaped (.int i) = true := by rfl
theorem shp_s (i : Str) : SeqAt.shaped (.str i) = PyData.strOk i := by
  unfold SeqAt.shaped PyData.canLay0 PyData.depth
  simp
theorem shp_b (i : Bool) : SeqAt.shaped (.bool i) = true := by rfl
theorem shp_n : SeqAt.shaped .none = true := by rfl
theorem ex_lst {xs : List C} : (∃ cs, some (MO.lst xs) = some (MO.lst cs)) = True := eq_true ⟨xs, rfl⟩
local macro_rules | `(tactic| walk_at "zs") => `(tactic| simp only [SZ, Bool.not_true, Bool.not_false, eqv_ii, eqv_ss, eqv_bb, shp_i, shp_s, shp_b, shp_n, eq_self, Int.toNat_natCast, range_len, Itf, itb_t, itb_f, optP, opb_some, Cal, wLc, wLcH, wYes, decide_true, decide_false,  ex_lst, List.length_map, Nat.zero_le, Nat.reduceLeDiff, Nat.reduceAdd, wNext, wBreak, wCont, wAsg, wRet, wRetN, wDrop, wIfS, wAug, wPar, wSet, wAugS, fSet, fGet, wVar, wFrz, frzC, wC, wOp, wUn, res_fr, res_sc, res_hd, resO_frz, resO_lst, resO_ins, resO_dk, resO_dr, frs_map, fI, fIC, fAdd, fSub, fMul, fDiv, fMod, fPow, fShl, fShr, fAnd, fNeg, fLt, fLe, fGt, fGe, fEq, fNe, fIx,
  wSl, fSl, fSlH, wPart, wNoPart, wNil, wCons, wTup, wLst, wLstH, frs, Option.map_some, wTest, wNot, wAnd, wOr, wChain, wIf, wAndV, wOrV, wNotV, wIsN, wNotN, wCB, fLen, fInt, fAbs, fMax2, fMin2, fSum, fMinL, fMaxL, fAll, fAny, fTupleOf, fListOf, fListOfH, wIsi, wName, wGNil, wGCons, wGTup, wiSeq, itemsOf, wiR1, wiR2, wiZip, wiRev, wipeS,
  wBL, wBS, isLst, isStr, fAppend, fPopAt, fPop, fCountI, fExtend, wCall, tb_h, tb_k, tb_seth, tb_setk, tb_app, tb_len, t0_k, t0_setk, t0_app, t0_len, List.getElem?_cons_zero, List.getElem?_cons_succ, List.getElem?_nil, List.set_cons_zero, List.set_cons_succ, List.cons_append, List.nil_append, List.length_cons, List.length_nil, List.map_cons, List.map_nil, Nat.zero_add, if_true, if_false, Bool.false_eq_true, true_and, and_true,
  atI0, atI1, atI2, atI3, atI4, atI5, setI0, setI1, setI2, setI3, decide_eq_true_eq])
local macro_rules | `(tactic| walk_at "z1") => `(tactic| (refine seq1 ?_; try walk_at "zs"))
/-! ### promises -/
/-- a def that draws: its first argument is the drawn state -/
def fDr (A : List C → Prop) (R : List C → D → Prop) : FA := fun cs own Q => ∃ pre x post as, cs = .hd pre.length :: as ∧ own = pre ++ drM x :: post ∧ A as ∧ ∀ d x', R as d → Q (.fr d) (pre ++ drM x' :: post)
/-- a def that changes nothing -/
def fPu (A : List C → Prop) (R : List C → D → Prop) : FA := fun cs own Q => A cs ∧ ∀ d, R cs d → Q (.fr d) own
section
variable {A : List C → Prop} {R : List C → D → Prop} {pre post r own : Ts} {m : MO} {as cs : List C} {Q : KC}
theorem dr_use {x : Drw} (ha : A as) (k : ∀ d x', R as d → Q (.fr d) (Tb pre (drM x') post r)) : fDr A R (.hd pre.length :: as) (Tb pre (drM x) post r) Q := ⟨pre, x, post ++ r, as, rfl, rfl, ha, k⟩
theorem pu_use (ha : A cs) (k : ∀ d, R cs d → Q (.fr d) own) : fPu A R cs own Q := ⟨ha, k⟩
theorem Cl.hole {m' : MO} (h : Cl (pre ++ m :: post)) (hm : m'.refs = []) : Cl (pre ++ m' :: post) := fun x hx j hj => by
  have e : (pre ++ m' :: post).length = (pre ++ m :: post).length := by simp
  rw [e]
  rcases List.mem_append.mp hx with hx | hx
  · exact h x (List.mem_append_left _ hx) j hj
  · rcases List.mem_cons.mp hx with rfl | hx
    · rw [hm] at hj; cases hj
    · exact h x (List.mem_append_right _ (List.mem_cons_of_mem _ hx)) j hj
/-- the body of a drawing def -/
theorem dr_body {w : WS} {N : List Str} {n : Nat} (h : ∀ pre x post as (Q : KC), A as → (∀ d x' r, R as d → Q (.fr d) (Tb pre (drM x') post r)) →
      w { nx := fun _ o => Q (.fr .none) o, rt := Q } (startS N (.hd pre.length :: as)) (Tb pre (drM x) post [])) :
    ∀ cs own Q, Cl own → cs.length = n → fDr A R cs own Q → w (enF own.length Q) (startS N cs) own := by
  rintro cs own Q hc _ ⟨pre, x, post, as, rfl, rfl, ha, k⟩
  have e : (pre ++ drM x :: post).length = hb pre post 0 := by simp [hb]; omega
  rw [← tb_nil]
  refine h pre x post as _ ha fun d x' r hr => ?_
  rw [tb_nil, e]
  refine ⟨hb pre post 0, Nat.le_refl _, (fun j hj => nomatch hj), ?_, ?_⟩
  · rw [tb_take, tb_nil]
    exact hc.hole rfl
  · rw [tb_take, tb_nil]
    exact k d x' hr
theorem pu_body {w : WS} {N : List Str} {n : Nat} (h : ∀ own cs (Q : KC), A cs → (∀ d r, R cs d → Q (.fr d) (T0 own r)) → w { nx := fun _ o => Q (.fr .none) o, rt := Q } (startS N cs) (T0 own [])) :
    ∀ cs own Q, Cl own → cs.length = n → fPu A R cs own Q → w (enF own.length Q) (startS N cs) own := by
  rintro cs own Q hc _ ⟨ha, k⟩
  have e : own.length = h0 own 0 := rfl
  have z := h own cs (EndQ own.length Q) ha fun d r hr => ?_
  · rw [t0_nil] at z
    exact z
  · refine ⟨h0 own 0, Nat.le_refl _, (fun j hj => nomatch hj), ?_, ?_⟩
    · rw [t0_take]; exact hc
    · rw [t0_take]; exact k d hr
end

/-! ### comprehensions: what is so far -/
theorem take_get {α : Type} {l : List α} {i : Nat} {x : α} (h : l[i]? = some x) : l.take (i + 1) = l.take i ++ [x] := by
  rw [List.take_add_one, h]
  rfl
theorem lt_of_get {α : Type} {l : List α} {i : Nat} {x : α} (h : l[i]? = some x) : i < l.length := (List.getElem?_eq_some_iff.mp h).1
theorem get_map {α β : Type} {f : α → β} {xs : List α} {i : Nat} {y : β} (h : (xs.map f)[i]? = some y) : ∃ x, xs[i]? = some x ∧ y = f x := by
  rw [List.getElem?_map] at h
  cases e : xs[i]? with
  | none => rw [e] at h; cases h
  | some x => rw [e] at h; exact ⟨x, rfl, (Option.some.inj h).symm⟩
theorem for_inv {wi : WI} {g : WG} {wb : WS} {E : En} {ss : Sl} {own : Ts} (items : List D) (o : Ts) (P : Nat → Sl → Ts → Prop) (hi : wi ss own fun its o1 => its = items ∧ o1 = o) (h0 : P 0 ss o)
    (hs : ∀ (i : Nat) d ss' own', items[i]? = some d → P i ss' own' → g (.fr d) ss' own' fun ss2 own2 => wb { E with nx := P (i + 1), ct := P (i + 1), bk := E.nx } ss2 own2) (he : ∀ ss' own', P items.length ss' own' → E.nx ss' own') : wFor wi g wb E ss own :=
  ⟨_, hi, fun its o1 h => by
    obtain ⟨rfl, rfl⟩ := h
    exact ⟨P, h0, hs, he⟩⟩
theorem for_cut {wi : WI} {g : WG} {wb : WS} {E : En} {ss : Sl} {own : Ts} (I : List D → Ts → Prop) (hi : wi ss own I) (k : ∀ items o, I items o → ∃ P : Nat → Sl → Ts → Prop, P 0 ss o ∧
    (∀ (i : Nat) d ss' own', items[i]? = some d → P i ss' own' → g (.fr d) ss' own' fun ss2 own2 => wb { E with nx := P (i + 1), ct := P (i + 1), bk := E.nx } ss2 own2) ∧ ∀ ss' own', P items.length ss' own' → E.nx ss' own') : wFor wi g wb E ss own := ⟨I, hi, k⟩
theorem while_inv {wt : WT} {wb : WS} {E : En} {ss : Sl} {own : Ts} (P : Nat → Sl → Ts → Prop) (m : Nat) (h0 : P m ss own) (hs : ∀ m ss' own', P m ss' own' → wt ss' own' fun b o1 => Itf b (wb { E with nx := fun s2 o2 => ∃ m', m' < m ∧ P m' s2 o2, ct := fun s2 o2 => ∃ m', m' < m ∧ P m' s2 o2, bk := E.nx } ss' o1) (E.nx ss' o1)) : wWhile wt wb E ss own := ⟨P, ⟨m, h0⟩, hs⟩
section
variable {wi : WI} {wg : WG} {wt : WT} {we : WE} {vs : List Nat} {ss : Sl} {own : Ts} {Q : Hd KC}
theorem lc_inv (items : List D) (o : Ts) (P : Nat → List C → Ts → Prop) (hi : wi ss own fun its o1 => its = items ∧ o1 = o) (h0 : P 0 [] o)
    (hs : ∀ (i : Nat) d acc own', items[i]? = some d → P i acc own' → wg (.fr d) (wipeS ss vs) own' fun ss2 own2 => wt ss2 own2 fun b own3 => Itf b (we ss2 own3 fun c own4 => acc.length < SZ ∧ P (i + 1) (acc ++ [c]) own4) (P (i + 1) acc own3))
    (he : ∀ acc own', P items.length acc own' → finL acc own' Q.v) : @LcB wi wg wt we vs ss own Q :=
  ⟨_, hi, fun its o1 h => by
    obtain ⟨rfl, rfl⟩ := h
    exact ⟨P, h0, hs, he⟩⟩
theorem lc_cut (I : List D → Ts → Prop) (hi : wi ss own I) (k : ∀ items o, I items o → @LcB (fun _ _ R => R items o) wg wt we vs ss own Q) : @LcB wi wg wt we vs ss own Q :=
  ⟨I, hi, fun its o h => by
    obtain ⟨J, j1, j2⟩ := k its o h
    exact j2 its o j1⟩
/-- those that pass p, by f -/
theorem lc_fil {α : Type} (xs : List α) (g f : α → D) (p : α → Bool) (o : Ts) (hi : wi ss own fun its o1 => its = xs.map g ∧ o1 = o) (hn : xs.length ≤ SZ)
    (hs : ∀ (i : Nat) a (R : C → Ts → Prop) (S : Ts → Prop), xs[i]? = some a → (p a = true → R (.fr (f a)) o) → (p a = false → S o) → wg (.fr (g a)) (wipeS ss vs) o fun ss2 own2 => wt ss2 own2 fun b own3 => Itf b (we ss2 own3 R) (S own3))
    (k : Q.v (.fr (.list ((xs.filter p).map f))) o) : @LcB wi wg wt we vs ss own Q := by
  refine lc_inv _ _ (fun i acc own' => own' = o ∧ acc = (((xs.take i).filter p).map f).map C.fr) hi ⟨rfl, rfl⟩ ?_ ?_
  · rintro i d acc own' hd ⟨rfl, rfl⟩
    obtain ⟨a, ha, rfl⟩ := get_map hd
    have hl := lt_of_get ha
    have hf := List.length_filter_le p (xs.take i)
    rw [List.length_take] at hf
    refine hs i a (fun c own4 => (((((xs.take i).filter p).map f).map C.fr).length < SZ ∧ own4 = own' ∧ (((xs.take i).filter p).map f).map C.fr ++ [c] = (((xs.take (i + 1)).filter p).map f).map C.fr)) (fun own3 => own3 = own' ∧ (((xs.take i).filter p).map f).map C.fr = (((xs.take (i + 1)).filter p).map f).map C.fr) ha (fun hp => ⟨?_, rfl, ?_⟩) (fun hp => ⟨rfl, ?_⟩)
    · simp only [List.length_map]
      omega
    · rw [take_get ha, List.filter_append, List.filter_cons, if_pos hp]
      simp
    · rw [take_get ha, List.filter_append, List.filter_cons, if_neg (by rw [hp]; decide)]
      simp
  · rintro acc own' ⟨rfl, rfl⟩
    rw [List.length_map, List.take_length]
    unfold finL
    rw [frs_map]
    exact k
/-- each item by f -/
theorem lc_map {α : Type} (xs : List α) (g f : α → D) (o : Ts) (hi : wi ss own fun its o1 => its = xs.map g ∧ o1 = o) (hn : xs.length ≤ SZ)
    (hs : ∀ (i : Nat) a (R : C → Ts → Prop) (S : Ts → Prop), xs[i]? = some a → R (.fr (f a)) o → wg (.fr (g a)) (wipeS ss vs) o fun ss2 own2 => wt ss2 own2 fun b own3 => Itf b (we ss2 own3 R) (S own3))
    (k : Q.v (.fr (.list (xs.map f))) o) : @LcB wi wg wt we vs ss own Q :=
  lc_fil xs g f (fun _ => true) o hi hn (fun i a R S h r _ => hs i a R S h (r rfl)) (by rw [List.filter_eq_self.mpr (fun _ _ => rfl)]; exact k)
end
/-- one to one -/
def All2 {α β : Type} (R : α → β → Prop) (xs : List α) (ys : List β) : Prop := ys.length = xs.length ∧ ∀ (j : Nat) a b, xs[j]? = some a → ys[j]? = some b → R a b
theorem All2.at {α β : Type} {R : α → β → Prop} {xs : List α} {ys : List β} (h : All2 R xs ys) {y : β} (hy : y ∈ ys) : ∃ x ∈ xs, R x y := by
  obtain ⟨j, hj⟩ := List.mem_iff_getElem?.mp hy
  have := lt_of_get hj
  obtain ⟨x, hx⟩ : ∃ x, xs[j]? = some x := ⟨_, List.getElem?_eq_getElem (by rw [← h.1]; exact this)⟩
  exact ⟨x, List.mem_of_getElem? hx, h.2 j x y hx hj⟩
/-- each item by what is drawn -/
theorem lc_dr {α β : Type} {wi : WI} {wg : WG} {wt : WT} {we : WE} {vs : List Nat} {ss : Sl} {own : Ts} {Q : Hd KC} (xs : List α) (g : α → D) (e : β → D) (R : α → β → Prop) (pre post r : Ts) (x : Drw) (hi : wi ss own fun its o1 => its = xs.map g ∧ o1 = Tb pre (drM x) post r) (hn : xs.length ≤ SZ)
    (hs : ∀ (i : Nat) a x' (T : C → Ts → Prop) (S : Ts → Prop), xs[i]? = some a → (∀ b x'', R a b → T (.fr (e b)) (Tb pre (drM x'') post r)) → wg (.fr (g a)) (wipeS ss vs) (Tb pre (drM x') post r) fun ss2 own2 => wt ss2 own2 fun b own3 => Itf b (we ss2 own3 T) (S own3))
    (k : ∀ bs x', All2 R xs bs → Q.v (.fr (.list (bs.map e))) (Tb pre (drM x') post r)) : @LcB wi wg wt we vs ss own Q := by
  refine lc_inv _ _ (fun i acc own' => ∃ (x' : Drw) (bs : List β), own' = Tb pre (drM x') post r ∧ acc = (bs.map e).map C.fr ∧ All2 R (xs.take i) bs) hi ⟨x, [], rfl, rfl, by simp [All2]⟩ ?_ ?_
  · rintro i d acc own' hd ⟨x', bs, rfl, rfl, hb, hr⟩
    obtain ⟨a, ha, rfl⟩ := get_map hd
    have hl := lt_of_get ha
    rw [List.length_take] at hb
    refine hs i a x' (fun c own4 => ((bs.map e).map C.fr).length < SZ ∧ ∃ (x' : Drw) (bs' : List β), own4 = Tb pre (drM x') post r ∧ (bs.map e).map C.fr ++ [c] = (bs'.map e).map C.fr ∧ All2 R (xs.take (i + 1)) bs') _ ha fun b x'' rab => ⟨by simp only [List.length_map]; omega, x'', bs ++ [b], rfl, by simp, ?_⟩
    refine ⟨by simp only [List.length_append, List.length_take, List.length_cons, List.length_nil]; omega, fun j a' b' h1 h2 => ?_⟩
    by_cases hj : j < bs.length
    · rw [List.getElem?_append_left hj] at h2
      refine hr j a' b' ?_ h2
      rw [List.getElem?_take] at h1 ⊢
      rw [if_pos (by omega)] at h1 ⊢
      exact h1
    · rw [List.getElem?_append_right (by omega)] at h2
      have := lt_of_get h2
      simp at this
      have e1 : j = i := by omega
      subst e1
      rw [List.getElem?_take, if_pos (by omega), ha] at h1
      cases h1
      have e2 : j - bs.length = 0 := by omega
      rw [e2] at h2
      cases h2
      exact rab
  · rintro acc own' ⟨x', bs, rfl, rfl, hb⟩
    rw [List.length_map, List.take_length] at hb
    unfold finL
    rw [frs_map]
    exact k bs x' hb
theorem cutD_map {α β : Type} (f : α → β) (xs : List α) (lo hi : Option Int) : cutD (xs.map f) lo hi = (cutD xs lo hi).map f := by
  unfold cutD
  rw [List.length_map, ← List.map_drop, ← List.map_take]
theorem cutD_len_le {α : Type} (xs : List α) (lo hi : Option Int) : (cutD xs lo hi).length ≤ xs.length := by
  unfold cutD
  rw [List.length_take, List.length_drop]
  omega
theorem cutD_to {α : Type} (xs : List α) (n : Nat) : cutD xs none (some (n : Int)) = xs.take n := by
  unfold cutD
  rw [HT.sIx_none, HT.sIx_nat, List.drop_zero, Nat.sub_zero]
  by_cases h : n ≤ xs.length
  · rw [Nat.min_eq_left h]
  · rw [Nat.min_eq_right (by omega), List.take_length, List.take_of_length_le (by omega)]
theorem cutD_from {α : Type} (xs : List α) (n : Nat) : cutD xs (some (n : Int)) none = xs.drop n := by
  unfold cutD
  rw [HT.sIx_none, HT.sIx_nat]
  by_cases h : n ≤ xs.length
  · rw [Nat.min_eq_left h]
    exact List.take_of_length_le (by rw [List.length_drop]; omega)
  · rw [Nat.min_eq_right (by omega), Nat.sub_self, List.take_zero, List.drop_of_length_le (by omega)]
theorem atI_ofNat {α : Type} {xs : List α} {j : Nat} {v : α} (h : xs[j]? = some v) : atI xs (j : Int) = some v := atI_nat h
theorem atI_int {α : Type} {xs : List α} {i : Int} (h : 0 ≤ i) : atI xs i = xs[i.toNat]? := by
  unfold atI ixN
  rw [if_pos h]
  by_cases hi : i < xs.length
  · rw [if_pos hi]; rfl
  · rw [if_neg hi, List.getElem?_eq_none (by omega)]; rfl

theorem mulR {i j : Int} (h : -(2 ^ 64) < j ∧ j < 2 ^ 64) : CMul i j := .inr h
theorem mulL {i j : Int} (h : -(2 ^ 64) < i ∧ i < 2 ^ 64) : CMul i j := .inl h
theorem divP {i j : Int} (h : 0 < j ∧ j < 1073741824) : CDiv i j := h

/-! ### the drawn numbers -/
def f__law_begin : FA := fun cs own Q => ∃ ns, cs = [.sc ns] ∧ ∀ x, Q (.hd own.length) (own ++ [drM x])
/-- a sequence as a value -/
inductive SeqC : C → List D → Prop
  | l (ds : List D) : SeqC (.fr (.list ds)) ds
  | t (ds : List D) : SeqC (.fr (.tuple ds)) ds
  | s (z : Str) : SeqC (.fr (.str z)) (z.cps.toList.map fun x => .str ⟨#[x]⟩)
def f__law_draw : FA := fDr (fun as => ∃ i, as = [.fr (.int i)] ∧ 0 < i ∧ i < 1073741824) fun as d => ∀ i, as = [.fr (.int i)] → ∃ v, d = .int v ∧ 0 ≤ v ∧ v < i
def f__law_rare : FA := fDr (fun as => ∃ i, as = [.fr (.int i)] ∧ 0 < i ∧ i < 1073741824) fun as d => ∃ b, d = .bool b
def f__law_pick : FA := fDr (fun as => ∃ c ds, as = [c] ∧ SeqC c ds ∧ 0 < ds.length ∧ ds.length ≤ SZ) fun as d => ∀ c ds, as = [c] → SeqC c ds → d ∈ ds
def f__law_shuffled : FA := fDr (fun as => ∃ c ds, as = [c] ∧ (c = .fr (.list ds) ∨ c = .fr (.tuple ds)) ∧ ds.length ≤ SZ) fun as d => ∀ ds, (as = [.fr (.list ds)] ∨ as = [.fr (.tuple ds)]) → ∃ es, d = .list es ∧ es.Perm ds
section
variable {pre post r own : Ts} {x : Drw} {Q : Hd KC} {A : List C → Prop} {R : List C → D → Prop} {as cs : List C}
theorem dr_at {f : FA} (hf : f = fDr A R) {x : Drw} (ha : A as) (k : ∀ d x', R as d → Q.v (.fr d) (Tb pre (drM x') post r)) : @CalB f (.hd pre.length :: as) (Tb pre (drM x) post r) Q := by
  subst hf
  exact ⟨pre, x, post ++ r, as, rfl, rfl, ha, k⟩
theorem draw_use {i : Int} (h1 : 0 < i) (h2 : i < 1073741824) (k : ∀ v x', 0 ≤ v → v < i → Q.v (.fr (.int v)) (Tb pre (drM x') post r)) : @CalB f__law_draw [.hd pre.length, .fr (.int i)] (Tb pre (drM x) post r) Q := by
  refine dr_at rfl ⟨i, rfl, h1, h2⟩ fun d x' h => ?_
  obtain ⟨v, rfl, l1, l2⟩ := h i rfl
  exact k v x' l1 l2
theorem rare_use {i : Int} (h1 : 0 < i) (h2 : i < 1073741824) (k : ∀ b x', Q.v (.fr (.bool b)) (Tb pre (drM x') post r)) : @CalB f__law_rare [.hd pre.length, .fr (.int i)] (Tb pre (drM x) post r) Q := by
  refine dr_at rfl ⟨i, rfl, h1, h2⟩ fun d x' h => ?_
  obtain ⟨b, rfl⟩ := h
  exact k b x'
theorem pick_use {c : C} {ds : List D} (hs : SeqC c ds) (h1 : 0 < ds.length) (h2 : ds.length ≤ SZ) (k : ∀ d x', d ∈ ds → Q.v (.fr d) (Tb pre (drM x') post r)) : @CalB f__law_pick [.hd pre.length, c] (Tb pre (drM x) post r) Q :=
  dr_at rfl ⟨c, ds, rfl, hs, h1, h2⟩ fun d x' h => k d x' (h c ds rfl hs)
theorem shuffled_useL {ds : List D} (h2 : ds.length ≤ SZ) (k : ∀ es x', es.Perm ds → Q.v (.fr (.list es)) (Tb pre (drM x') post r)) : @CalB f__law_shuffled [.hd pre.length, .fr (.list ds)] (Tb pre (drM x) post r) Q := by
  refine dr_at rfl ⟨_, ds, rfl, .inl rfl, h2⟩ fun d x' h => ?_
  obtain ⟨es, rfl, p⟩ := h ds (.inl rfl)
  exact k es x' p
theorem shuffled_useT {ds : List D} (h2 : ds.length ≤ SZ) (k : ∀ es x', es.Perm ds → Q.v (.fr (.list es)) (Tb pre (drM x') post r)) : @CalB f__law_shuffled [.hd pre.length, .fr (.tuple ds)] (Tb pre (drM x) post r) Q := by
  refine dr_at rfl ⟨_, ds, rfl, .inr rfl, h2⟩ fun d x' h => ?_
  obtain ⟨es, rfl, p⟩ := h ds (.inr rfl)
  exact k es x' p
end
def N__law_begin : List Str := ["script", "cell"]
def w__law_begin : WS := (wRet (wLstH (wCons (wLc (wiSeq (wSl fSl (wVar 0) wNoPart (wPart (wC (.int 63))))) (wName 1) wYes (wCB fInt (wCons (wVar 1) wNil)) [1]) (wCons (wC (.int 0)) (wCons (wC (.int 0)) (wCons (wC (.int 7)) wNil))))))
theorem d__law_begin : ∀ cs own Q, Cl own → cs.length = 1 → f__law_begin cs own Q → w__law_begin (enF own.length Q) (startS N__law_begin cs) own := by
  rintro cs own Q hc _ ⟨ns, rfl, k⟩
  show w__law_begin (enF own.length Q) [some (.sc ns), none] own
  unfold w__law_begin
  walk_at "zs"
  refine lc_map (ns.take 63) .int .int own (by
    walk_at "zs"
    rw [cutD_map, show (63 : Int) = ((63 : Nat) : Int) from rfl, cutD_to]
    ) (by simp [SZ]; omega) (fun i a R S _ hR => by
      walk_at "zs"
      exact hR) ?_
  walk_at "zs"
  refine ⟨own.length + 1, Nat.le_succ _, fun j hj => ?_, ?_, ?_⟩
  · have : j = own.length := by simpa [C.refs] using hj
    omega
  · rw [List.take_of_length_le (by simp)]
    exact hc.app fun j hj => by simp [MO.refs, C.refs] at hj
  · rw [List.take_of_length_le (by simp)]
    exact k ⟨ns.take 63, 0, 0, 7, Int.le_refl _⟩
def N__law_draw : List Str := ["d", "many", "size", "found", "cell"]
def w__law_draw : WS := (wSeq (wIfS (wTest (wOp fGt (wOp fIx (wVar 0) (wC (.int 2))) (wC (.int 0)))) (wSeq (wAsg (wOp fIx (wVar 0) (wC (.int 2))) (wName 3))
  (wSeq (wAsg (wOp fDiv (wVar 3) (wVar 1)) (wSet (wVar 0) (wC (.int 2))))
  (wRet (wOp fMod (wCB fInt (wCons (wVar 3) wNil)) (wVar 1))))) wNext)
  (wSeq (wAsg (wC (.int 0)) (wName 2))
  (wSeq (wIfS (wTest (wOp fLt (wOp fIx (wVar 0) (wC (.int 1))) (wCB fLen (wCons (wOp fIx (wVar 0) (wC (.int 0))) wNil)))) (wSeq (wAsg (wOp fIx (wOp fIx (wVar 0) (wC (.int 0))) (wOp fIx (wVar 0) (wC (.int 1)))) (wName 4))
  (wAsg (wOp fAdd (wOp fMul (wC (.int 2)) (wCB fAbs (wCons (wVar 4) wNil))) (wCB fInt (wCons (wOp fLt (wVar 4) (wC (.int 0))) wNil))) (wName 2))) wNext)
  (wSeq (wAugS (fI fun i j => .int (i + j)) (wVar 0) (wC (.int 1)) (wC (.int 1)))
  (wSeq (wIfS (wTest (wOp fGe (wVar 2) (wOp fMul (wC (.int 2)) (wOp fPow (wC (.int 10)) (wC (.int 18)))))) (wSeq (wAsg (wOp fMod (wCB fInt (wCons (wOp fDiv (wVar 2) (wC (.int 2))) wNil)) (wOp fShl (wC (.int 1)) (wC (.int 6000)))) (wName 3))
  (wSeq (wAsg (wOp fDiv (wVar 3) (wVar 1)) (wSet (wVar 0) (wC (.int 2))))
  (wRet (wOp fMod (wCB fInt (wCons (wVar 3) wNil)) (wVar 1))))) wNext)
  (wSeq (wAsg (wOp fMod (wCB fInt (wCons (wOp fAdd (wOp fAdd (wOp fAdd (wOp fMul (wOp fIx (wVar 0) (wC (.int 3))) (wC (.int 48271))) (wOp fMul (wOp fMod (wCB fInt (wCons (wVar 2) wNil)) (wC (.int 2147483629))) (wC (.int 16807)))) (wOp fMul (wOp fIx (wVar 0) (wC (.int 1))) (wC (.int 69621)))) (wC (.int 11))) wNil)) (wC (.int 2147483647))) (wSet (wVar 0) (wC (.int 3))))
  (wRet (wOp fMod (wCB fInt (wCons (wOp fDiv (wOp fIx (wVar 0) (wC (.int 3))) (wC (.int 16))) wNil)) (wVar 1)))))))))
theorem d__law_draw : ∀ cs own Q, Cl own → cs.length = 2 → f__law_draw cs own Q → w__law_draw (enF own.length Q) (startS N__law_draw cs) own := by
  refine dr_body fun pre x post as Q ⟨i, e, h1, h2⟩ k => ?_
  subst e
  have k2 : ∀ v x', 0 ≤ v → v < i → Q (.fr (.int v)) (Tb pre (drM x') post []) := fun v x' l1 l2 => k _ _ _ fun j e => by
    have e : i = j := by injection e with e _; injection e with e; injection e
    subst e
    exact ⟨v, rfl, l1, l2⟩
  obtain ⟨cells, a, b, c, ha⟩ := x
  show w__law_draw _ [some (.hd pre.length), some (.fr (.int i)), none, none, none] (Tb pre (.lst [.fr (.list (cells.map PyData.int)), .fr (.int a), .fr (.int b), .fr (.int c)]) post [])
  unfold w__law_draw
  walk_at "z1"
  refine itd' (fun hb => ?_) (fun hb => ?_)
  · walk_at "z1"
    walk_at "z1"
    exact ⟨⟨h1, h2⟩, h1, k2 _ ⟨cells, a, b / i, c, ha⟩ (Int.emod_nonneg _ (by omega)) (Int.emod_lt_of_pos _ h1)⟩
  · walk_at "z1"
    refine seq_cut (fun ss o => o = Tb pre (.lst [.fr (.list (cells.map .int)), .fr (.int a), .fr (.int b), .fr (.int c)]) post [] ∧ ∃ size x y, ss = [some (.hd pre.length), some (.fr (.int i)), some (.fr (.int size)), x, y]) ?_ ?_
    · walk_at "zs"
      refine itd' (fun h => ?_) (fun h => ?_) <;> walk_at "zs"
      rotate_left
      · exact ⟨0, none, none, rfl⟩
      have ea : atI (cells.map PyData.int) a = some (.int (cells.getD a.toNat 0)) := by
        rw [atI_int ha, List.getElem?_map]
        have : a.toNat < cells.length := by omega
        simp [List.getElem?_eq_getElem this, List.getD]
      refine seq1 ?_
      walk_at "zs"
      rw [ea]
      walk_at "zs"
      generalize cells.getD a.toNat 0 = z
      exact ⟨.inl (by decide), _, _, _, rfl⟩
    · rintro ss o ⟨rfl, size, x, y, rfl⟩
      walk_at "z1"
      walk_at "z1"
      refine ⟨⟨by decide, by decide, by decide⟩, mulL ⟨by decide, by decide⟩, itd (fun h => ?_) (fun h => ?_)⟩
      · walk_at "z1"
        refine ⟨⟨by decide, by decide⟩, ⟨by decide, by decide, by decide⟩, by rw [Int.one_mul]; exact Int.pow_pos (by decide), ?_⟩
        walk_at "z1"
        exact ⟨⟨h1, h2⟩, h1, k2 _ ⟨cells, a + 1, _, c, by omega⟩ (Int.emod_nonneg _ (by omega)) (Int.emod_lt_of_pos _ h1)⟩
      · walk_at "z1"
        exact ⟨mulR ⟨by decide, by decide⟩, by decide, mulR ⟨by decide, by decide⟩, mulR ⟨by decide, by decide⟩, by decide, ⟨by decide, by decide⟩, h1,
          k2 _ ⟨cells, a + 1, b, _, by omega⟩ (Int.emod_nonneg _ (by omega)) (Int.emod_lt_of_pos _ h1)⟩
def N__law_pick : List Str := ["d", "row"]
def w__law_pick : WS := (wRet (wOp fIx (wVar 1) (wCall 2 f__law_draw (wCons (wVar 0) (wCons (wCB fLen (wCons (wVar 1) wNil)) wNil)))))
theorem d__law_pick : ∀ cs own Q, Cl own → cs.length = 2 → f__law_pick cs own Q → w__law_pick (enF own.length Q) (startS N__law_pick cs) own := by
  refine dr_body fun pre x post as Q ⟨c, ds, e, hs, h1, h3⟩ k => ?_
  subst e
  unfold SZ at h3
  have k2 : ∀ d x', d ∈ ds → Q (.fr d) (Tb pre (drM x') post []) := fun d x' hd => k _ _ _ fun c' ds' e hs' => by
    cases e
    cases hs <;> cases hs' <;> exact hd
  show w__law_pick _ [some (.hd pre.length), some c] _
  unfold w__law_pick
  cases hs with
  | l =>
    walk_at "zs"
    refine draw_use (by omega) (by omega) fun v x' l1 l2 => ?_
    have hv : v.toNat < ds.length := by omega
    refine opb_of (by rw [atI_int l1, List.getElem?_eq_getElem hv]) ?_
    walk_at "zs"
    exact k2 _ _ (List.getElem_mem hv)
  | t =>
    walk_at "zs"
    refine draw_use (by omega) (by omega) fun v x' l1 l2 => ?_
    have hv : v.toNat < ds.length := by omega
    refine opb_of (by rw [atI_int l1, List.getElem?_eq_getElem hv]) ?_
    walk_at "zs"
    exact k2 _ _ (List.getElem_mem hv)
  | s z =>
    have hl : (z.cps.toList.map fun x => PyData.str ⟨#[x]⟩).length = z.length := by rw [List.length_map, Array.length_toList]; rfl
    rw [hl] at h1 h3
    walk_at "zs"
    refine ⟨h3, ?_⟩
    refine draw_use (by omega) (by omega) fun v x' l1 l2 => ?_
    have hv : v.toNat < z.cps.toList.length := by rw [Array.length_toList]; show v.toNat < z.length; omega
    refine ⟨h3, opb_of (by rw [atI_int l1, List.getElem?_eq_getElem hv]) ?_⟩
    walk_at "zs"
    exact k2 _ _ (List.mem_map.mpr ⟨_, List.getElem_mem hv, rfl⟩)
def N__law_rare : List Str := ["d", "many"]
def w__law_rare : WS := (wRet (wOp fEq (wCall 2 f__law_draw (wCons (wVar 0) (wCons (wVar 1) wNil))) (wOp fDiv (wVar 1) (wC (.int 2)))))
theorem d__law_rare : ∀ cs own Q, Cl own → cs.length = 2 → f__law_rare cs own Q → w__law_rare (enF own.length Q) (startS N__law_rare cs) own := by
  refine dr_body fun pre x post as Q ⟨i, e, h1, h2⟩ k => ?_
  subst e
  show w__law_rare _ [some (.hd pre.length), some (.fr (.int i))] _
  unfold w__law_rare
  walk_at "zs"
  refine draw_use h1 h2 fun v x' l1 l2 => ?_
  exact ⟨⟨by decide, by decide⟩, rfl, rfl, k _ _ _ ⟨_, rfl⟩⟩
end Zd

/-! Zb2: the laws' shared helpers: shuffled, names, is_int. -/
namespace Zd
open PySem L2
local macro_rules | `(tactic| walk_at "zs") => `(tactic| simp only [SZ, Bool.not_true, Bool.not_false, eqv_ii, eqv_ss, eqv_bb, shp_i, shp_s, shp_b, shp_n, eq_self, Int.toNat_natCast, range_len, Itf, itb_t, itb_f, optP, opb_some, Cal, wLc, wLcH, wYes, decide_true, decide_false,  ex_lst, List.length_map, Nat.zero_le, Nat.reduceLeDiff, Nat.reduceAdd, wNext, wBreak, wCont, wAsg, wRet, wRetN, wDrop, wIfS, wAug, wPar, wSet, wAugS, fSet, fGet, wVar, wFrz, frzC, wC, wOp, wUn, res_fr, res_sc, res_hd, resO_frz, resO_lst, resO_ins, resO_dk, resO_dr, frs_map, fI, fIC, fAdd, fSub, fMul, fDiv, fMod, fPow, fShl, fShr, fAnd, fNeg, fLt, fLe, fGt, fGe, fEq, fNe, fIx,
  wSl, fSl, fSlH, wPart, wNoPart, wNil, wCons, wTup, wLst, wLstH, frs, Option.map_some, wTest, wNot, wAnd, wOr, wChain, wIf, wAndV, wOrV, wNotV, wIsN, wNotN, wCB, fLen, fInt, fAbs, fMax2, fMin2, fSum, fMinL, fMaxL, fAll, fAny, fTupleOf, fListOf, fListOfH, wIsi, wName, wGNil, wGCons, wGTup, wiSeq, itemsOf, wiR1, wiR2, wiZip, wiRev, wipeS,
  wBL, wBS, isLst, isStr, fAppend, fPopAt, fPop, fCountI, fExtend, wCall, tb_h, tb_k, tb_seth, tb_setk, tb_app, tb_len, t0_k, t0_setk, t0_app, t0_len, List.getElem?_cons_zero, List.getElem?_cons_succ, List.getElem?_nil, List.set_cons_zero, List.set_cons_succ, List.cons_append, List.nil_append, List.length_cons, List.length_nil, List.map_cons, List.map_nil, Nat.zero_add, if_true, if_false, Bool.false_eq_true, true_and, and_true,
  atI0, atI1, atI2, atI3, atI4, atI5, setI0, setI1, setI2, setI3, decide_eq_true_eq])
local macro_rules | `(tactic| walk_at "z1") => `(tactic| (refine seq1 ?_; try walk_at "zs"))
def N__law_shuffled : List Str := ["d", "row", "left", "found", "k"]
def w__law_shuffled : WS := (wSeq (wAsg (wCB fListOfH (wCons (wVar 1) wNil)) (wName 2))
  (wSeq (wAsg (wLstH wNil) (wName 3))
  (wSeq (wFor (wiR1 (wCons (wCB fLen (wCons (wVar 2) wNil)) wNil)) (wName 4) (wDrop (wBL fAppend (wVar 3) (wCons (wBL fPopAt (wVar 2) (wCons (wCall 2 f__law_draw (wCons (wVar 0) (wCons (wCB fLen (wCons (wVar 2) wNil)) wNil))) wNil)) wNil))))
  (wRet (wFrz (wVar 3))))))
theorem perm_pop {α : Type} {fs es ds : List α} {k : Nat} (hk : k < es.length) (p : (fs ++ es).Perm ds) : ((fs ++ [es[k]]) ++ es.eraseIdx k).Perm ds := by
  refine List.Perm.trans ?_ p
  rw [List.append_assoc]
  refine List.Perm.append_left _ ?_
  show (es[k] :: es.eraseIdx k).Perm es
  clear p
  induction es generalizing k with
  | nil => simp at hk
  | cons e es ih =>
    cases k with
    | zero => exact List.Perm.refl _
    | succ k =>
      have hk' : k < es.length := by simpa using hk
      simp only [List.getElem_cons_succ, List.eraseIdx_cons_succ]
      exact (List.Perm.swap _ _ _).trans ((ih hk').cons _)
theorem ixN_nat {n : Nat} {i : Int} (h0 : 0 ≤ i) (h1 : i < n) : ixN n i = some i.toNat := by
  unfold ixN
  rw [if_pos h0, if_pos h1]
theorem era_map {α β : Type} (f : α → β) : ∀ (l : List α) (k : Nat), (l.map f).eraseIdx k = (l.eraseIdx k).map f
  | [], _ => rfl
  | _ :: _, 0 => rfl
  | a :: l, k + 1 => congrArg (f a :: ·) (era_map f l k)
theorem frs_fr (ds : List D) : frs (ds.map C.fr) = some ds := frs_map ds
theorem shuffled_core {pre post : Ts} {x : Drw} {c : C} {ds : List D} {Q : KC} (hn : ds.length ≤ SZ) (k : ∀ es x' r, es.Perm ds → Q (.fr (.list es)) (Tb pre (drM x') post r)) (E : En) (hE : E.rt = Q) :
    (wSeq (wAsg (wLstH wNil) (wName 3))
  (wSeq (wFor (wiR1 (wCons (wCB fLen (wCons (wVar 2) wNil)) wNil)) (wName 4) (wDrop (wBL fAppend (wVar 3) (wCons (wBL fPopAt (wVar 2) (wCons (wCall 2 f__law_draw (wCons (wVar 0) (wCons (wCB fLen (wCons (wVar 2) wNil)) wNil))) wNil)) wNil))))
  (wRet (wFrz (wVar 3))))) E [some (.hd pre.length), some c, some (.hd (hb pre post 0)), none, none] (Tb pre (drM x) post [.lst (ds.map C.fr)]) := by
  unfold SZ at hn
  walk_at "z1"
  walk_at "z1"
  refine for_inv (rangeD 0 ds.length) _ (fun k ss own => ∃ (x : Drw) (es fs : List D) (z : Option C), own = Tb pre (drM x) post [.lst (es.map C.fr), .lst (fs.map C.fr)] ∧ ss = [some (.hd pre.length), some c, some (.hd (hb pre post 0)), some (.hd (hb pre post 1)), z] ∧ es.length + k = ds.length ∧ fs.length = k ∧ (fs ++ es).Perm ds) (by
    walk_at "zs"
    exact ⟨⟨by omega, by omega⟩, rfl⟩) ?_ ?_ ?_
  · exact ⟨x, ds, [], none, rfl, rfl, rfl, rfl, List.Perm.refl _⟩
  · rintro i d ss own hi ⟨x, es, fs, z, rfl, rfl, hl, hf, hp⟩
    have hi2 : i < ds.length := by
      have := lt_of_get hi
      simpa [rangeD] using this
    walk_at "zs"
    refine draw_use (by omega) (by omega) fun v x' l1 l2 => ?_
    have hv : v.toNat < es.length := by omega
    walk_at "zs"
    refine ⟨by omega, v.toNat, .fr es[v.toNat], ixN_nat l1 l2, by rw [List.getElem?_map, List.getElem?_eq_getElem hv]; rfl, ?_⟩
    walk_at "zs"
    refine ⟨by omega, x', es.eraseIdx v.toNat, fs ++ [es[v.toNat]], some (.fr d), ?_, rfl, ?_, by simp [hf], perm_pop hv hp⟩
    · rw [List.map_append, era_map]
      rfl
    · rw [List.length_eraseIdx_of_lt hv]
      omega
  · rintro ss own ⟨x, es, fs, z, rfl, rfl, hl, hf, hp⟩
    have e0 : es = [] := by
      rw [range_len] at hl
      exact List.eq_nil_of_length_eq_zero (by omega)
    subst e0
    rw [List.append_nil] at hp
    walk_at "zs"
    rw [hE]
    exact k fs x _ hp
theorem d__law_shuffled : ∀ cs own Q, Cl own → cs.length = 2 → f__law_shuffled cs own Q → w__law_shuffled (enF own.length Q) (startS N__law_shuffled cs) own := by
  refine dr_body fun pre x post as Q ⟨c, ds, e, hc, hn⟩ k => ?_
  subst e
  have k2 : ∀ es x' r, es.Perm ds → Q (.fr (.list es)) (Tb pre (drM x') post r) := fun es x' r hp => k _ _ _ fun ds' e => by
    have : ds' = ds := by
      rcases hc with rfl | rfl <;> rcases e with e | e <;> first | (cases e; rfl) | cases e
    subst this
    exact ⟨es, rfl, hp⟩
  show w__law_shuffled _ [some (.hd pre.length), some c, none, none, none] _
  unfold w__law_shuffled
  rcases hc with rfl | rfl
  · walk_at "z1"
    exact shuffled_core hn k2 _ rfl
  · walk_at "z1"
    exact shuffled_core hn k2 _ rfl
end Zd

/-! Zb3: names, is_int. -/
namespace Zd
open PySem L2
local macro_rules | `(tactic| walk_at "zs") => `(tactic| simp only [SZ, Bool.not_true, Bool.not_false, eqv_ii, eqv_ss, eqv_bb, shp_i, shp_s, shp_b, shp_n, eq_self, Int.toNat_natCast, range_len, Itf, itb_t, itb_f, optP, opb_some, Cal, wLc, wLcH, wYes, decide_true, decide_false,  ex_lst, List.length_map, Nat.zero_le, Nat.reduceLeDiff, Nat.reduceAdd, wNext, wBreak, wCont, wAsg, wRet, wRetN, wDrop, wIfS, wAug, wPar, wSet, wAugS, fSet, fGet, wVar, wFrz, frzC, wC, wOp, wUn, res_fr, res_sc, res_hd, resO_frz, resO_lst, resO_ins, resO_dk, resO_dr, frs_map, fI, fIC, fAdd, fSub, fMul, fDiv, fMod, fPow, fShl, fShr, fAnd, fNeg, fLt, fLe, fGt, fGe, fEq, fNe, fIx,
  wSl, fSl, fSlH, wPart, wNoPart, wNil, wCons, wTup, wLst, wLstH, frs, Option.map_some, wTest, wNot, wAnd, wOr, wChain, wIf, wAndV, wOrV, wNotV, wIsN, wNotN, wCB, fLen, fInt, fAbs, fMax2, fMin2, fSum, fMinL, fMaxL, fAll, fAny, fTupleOf, fListOf, fListOfH, wIsi, wName, wGNil, wGCons, wGTup, wiSeq, itemsOf, wiR1, wiR2, wiZip, wiRev, wipeS,
  wBL, wBS, isLst, isStr, fAppend, fPopAt, fPop, fCountI, fExtend, wCall, tb_h, tb_k, tb_seth, tb_setk, tb_app, tb_len, t0_k, t0_setk, t0_app, t0_len, List.getElem?_cons_zero, List.getElem?_cons_succ, List.getElem?_nil, List.set_cons_zero, List.set_cons_succ, List.cons_append, List.nil_append, List.length_cons, List.length_nil, List.map_cons, List.map_nil, Nat.zero_add, if_true, if_false, Bool.false_eq_true, true_and, and_true,
  atI0, atI1, atI2, atI3, atI4, atI5, setI0, setI1, setI2, setI3, decide_eq_true_eq])
local macro_rules | `(tactic| walk_at "z1") => `(tactic| (refine seq1 ?_; try walk_at "zs"))
/-- the law's letters, its tails -/
def ABC : Str := "abcdefghijklmnopqrstuvwxyz"
def TLS : List Str := ["", "", "q", "ab", "zz", "longer", "abcdefghijk"]
def hdS (z : Str) : Nat := z.cps.toList.headD 0
/-- a letter and a tail -/
def NmOk (z : Str) : Prop := ∃ x t, t ∈ TLS ∧ 97 ≤ x ∧ x < 123 ∧ z = (⟨#[x]⟩ : Str) ++ t
def f__law_names : FA := fDr (fun as => ∃ i : Nat, as = [.fr (.int i)] ∧ i ≤ 26) fun as d => ∀ i : Nat, as = [.fr (.int i)] → ∃ zs : List Str, d = .list (zs.map .str) ∧ zs.length = i ∧ zs.Nodup ∧ ∀ z ∈ zs, NmOk z
theorem names_use {pre post r : Ts} {x : Drw} {Q : Hd KC} {i : Nat} (h : i ≤ 26) (k : ∀ (zs : List Str) x', zs.length = i → zs.Nodup → (∀ z ∈ zs, NmOk z) → Q.v (.fr (.list (zs.map .str))) (Tb pre (drM x') post r)) : @CalB f__law_names [.hd pre.length, .fr (.int i)] (Tb pre (drM x) post r) Q := by
  refine dr_at rfl ⟨i, rfl, h⟩ fun d x' hr => ?_
  obtain ⟨zs, rfl, h1, h2, h3⟩ := hr i rfl
  exact k zs x' h1 h2 h3
def N__law_names : List Str := ["d", "many", "letters", "tails", "step", "found", "k"]
def w__law_names : WS := (wSeq (wAsg (wC (.str "abcdefghijklmnopqrstuvwxyz")) (wName 2))
  (wSeq (wAsg (wLst (wCons (wC (.str "")) (wCons (wC (.str "")) (wCons (wC (.str "q")) (wCons (wC (.str "ab")) (wCons (wC (.str "zz")) (wCons (wC (.str "longer")) (wCons (wC (.str "abcdefghijk")) wNil)))))))) (wName 3))
  (wSeq (wAsg (wOp fDiv (wC (.int 26)) (wCB fMax2 (wCons (wC (.int 1)) (wCons (wVar 1) wNil)))) (wName 4))
  (wSeq (wAsg (wLstH wNil) (wName 5))
  (wSeq (wFor (wiR1 (wCons (wVar 1) wNil)) (wName 6) (wDrop (wBL fAppend (wVar 5) (wCons (wOp fAdd (wOp fIx (wVar 2) (wOp fAdd (wOp fMul (wVar 6) (wVar 4)) (wCall 2 f__law_draw (wCons (wVar 0) (wCons (wVar 4) wNil))))) (wCall 2 f__law_pick (wCons (wVar 0) (wCons (wVar 3) wNil)))) wNil))))
  (wRet (wCall 2 f__law_shuffled (wCons (wVar 0) (wCons (wFrz (wVar 5)) wNil)))))))))
theorem abc_get {j : Nat} (h : j < 26) : (ABC.cps.toList)[j]? = some (97 + j) := by
  have e : ABC.cps.toList = (List.range 26).map (97 + ·) := by decide +kernel
  rw [e, List.getElem?_map, List.getElem?_range h]
  rfl
theorem abc_len : ABC.length = 26 := by decide +kernel
theorem tls_len : ∀ t ∈ TLS, t.length ≤ 11 := by decide +kernel
theorem str_cat_len (x y : Str) : (x ++ y).length = x.length + y.length := by
  show (x.cps ++ y.cps).size = _
  rw [Array.size_append]
  rfl
theorem hd_cat (x : Nat) (t : Str) : hdS ((⟨#[x]⟩ : Str) ++ t) = x := by
  show ((#[x] : Array Nat) ++ t.cps).toList.headD 0 = x
  rw [Array.toList_append]
  rfl
theorem pw_nodup {zs : List Str} (h : zs.Pairwise fun a b => hdS a < hdS b) : zs.Nodup := h.imp fun {a b} h e => by
  subst e
  omega
theorem mem_strs {d : D} {zs : List Str} (h : d ∈ zs.map PyData.str) : ∃ z ∈ zs, d = .str z := by
  obtain ⟨z, hz, e⟩ := List.mem_map.mp h
  exact ⟨z, hz, e.symm⟩
theorem perm_map_inv {α β : Type} {f : α → β} {ys : List β} : ∀ {xs : List α}, ys.Perm (xs.map f) → ∃ ws : List α, ys = ws.map f ∧ ws.Perm xs := by
  intro xs h
  generalize e : xs.map f = zs at h
  induction h generalizing xs with
  | nil => exact ⟨[], rfl, by rw [List.map_eq_nil_iff.mp e]⟩
  | cons a _ ih =>
    cases xs with
    | nil => cases e
    | cons b xs =>
      simp only [List.map_cons, List.cons.injEq] at e
      obtain ⟨ws, rfl, hw⟩ := ih e.2
      exact ⟨b :: ws, by rw [List.map_cons, e.1], hw.cons b⟩
  | swap a b l =>
    match xs, e with
    | c :: d :: xs, e =>
      simp only [List.map_cons, List.cons.injEq] at e
      obtain ⟨rfl, rfl, rfl⟩ := e
      exact ⟨d :: c :: xs, rfl, List.Perm.swap _ _ _⟩
  | trans _ _ ih1 ih2 =>
    obtain ⟨ws, rfl, hw⟩ := ih2 e
    obtain ⟨us, rfl, hu⟩ := ih1 rfl
    exact ⟨us, rfl, hu.trans hw⟩
theorem d__law_names : ∀ cs own Q, Cl own → cs.length = 2 → f__law_names cs own Q → w__law_names (enF own.length Q) (startS N__law_names cs) own := by
  refine dr_body fun pre x post as Q ⟨n, e, hn⟩ k => ?_
  subst e
  have k2 : ∀ (zs : List Str) x' r, zs.length = n → zs.Nodup → (∀ z ∈ zs, NmOk z) → Q (.fr (.list (zs.map .str))) (Tb pre (drM x') post r) := fun zs x' r h1 h2 h3 => k _ _ _ fun j e => by
    have : n = j := by
      injection e with e _
      injection e with e
      injection e with e
      omega
    subst this
    exact ⟨zs, rfl, h1, h2, h3⟩
  clear k
  show w__law_names _ [some (.hd pre.length), some (.fr (.int n)), none, none, none, none, none] _
  unfold w__law_names
  walk_at "z1"
  walk_at "z1"
  walk_at "z1"
  refine ⟨⟨by split <;> omega, by split <;> omega⟩, ?_⟩
  walk_at "z1"
  walk_at "z1"
  have hst : ∃ st : Nat, (26 : Int) / (if (n : Int) > 1 then (n : Int) else 1) = st ∧ 1 ≤ st ∧ st ≤ 26 ∧ n * st ≤ 26 := by
    by_cases h1 : (n : Int) > 1
    · rw [if_pos h1]
      refine ⟨26 / n, rfl, ?_, Nat.div_le_self _ _, Nat.mul_div_le 26 n⟩
      exact Nat.div_pos hn (by omega)
    · rw [if_neg h1]
      refine ⟨26, by decide, by decide, by decide, by omega⟩
  obtain ⟨st, est, s1, s2, s3⟩ := hst
  rw [est]
  clear est
  refine for_inv (rangeD 0 n) _ (fun k ss own => ∃ (x : Drw) (zs : List Str) (z : Option C), own = Tb pre (drM x) post [.lst ((zs.map PyData.str).map C.fr)] ∧ ss = [some (.hd pre.length), some (.fr (.int n)), some (.fr (.str ABC)), some (.fr (.list (TLS.map .str))), some (.fr (.int st)), some (.hd (hb pre post 0)), z] ∧ zs.length = k ∧ zs.Pairwise (fun a b => hdS a < hdS b) ∧ (∀ z ∈ zs, hdS z < 97 + k * st) ∧ ∀ z ∈ zs, NmOk z) (by
    walk_at "zs"
    exact ⟨⟨by omega, by omega⟩, rfl⟩) ?_ ?_ ?_
  · exact ⟨x, [], none, rfl, rfl, rfl, List.Pairwise.nil, (by simp), (by simp)⟩
  · rintro i d ss own hi ⟨x, zs, z, rfl, rfl, hl, hp, hb, hk⟩
    obtain ⟨hi2, rfl⟩ := range_get hi
    walk_at "zs"
    refine ⟨mulR ⟨by omega, by omega⟩, ?_⟩
    refine draw_use (by omega) (by omega) fun v x' l1 l2 => ?_
    walk_at "zs"
    rw [abc_len]
    have m1 : i * st + v.toNat < 26 := by
      have h1 : (i + 1) * st ≤ n * st := Nat.mul_le_mul_right st hi2
      have h2 : (i + 1) * st = i * st + st := Nat.succ_mul i st
      omega
    have m2 : (0 + (i : Int)) * (st : Int) + v = ((i * st + v.toNat : Nat) : Int) := by
      rw [Int.zero_add, Int.natCast_add, Int.natCast_mul]
      omega
    refine ⟨by decide, opb_of (by rw [m2, atI_nat (abc_get m1)]) ?_⟩
    walk_at "zs"
    refine pick_use (.l _) (by decide) (by decide) fun d x'' hd => ?_
    obtain ⟨t, ht, rfl⟩ := mem_strs hd
    walk_at "zs"
    have tl := tls_len t ht
    have hz : (⟨#[97 + (i * st + v.toNat)]⟩ : Str).length = 1 := rfl
    refine ⟨by rw [hz]; omega, by omega, x'', zs ++ [(⟨#[97 + (i * st + v.toNat)]⟩ : Str) ++ t], some (.fr (.int (0 + (i : Int)))), by simp, rfl, by simp [hl], ?_, ?_, ?_⟩
    · refine List.pairwise_append.mpr ⟨hp, List.pairwise_singleton _ _, fun a ha b hb2 => ?_⟩
      have := List.mem_singleton.mp hb2
      subst this
      rw [hd_cat]
      have := hb a ha
      omega
    · intro z hz2
      rcases List.mem_append.mp hz2 with h | h
      · have h1 := hb z h
        have h2 : (i + 1) * st = i * st + st := Nat.succ_mul i st
        omega
      · have := List.mem_singleton.mp h
        subst this
        rw [hd_cat]
        have h2 : (i + 1) * st = i * st + st := Nat.succ_mul i st
        omega
    · intro z hz2
      rcases List.mem_append.mp hz2 with h | h
      · exact hk z h
      · exact List.mem_singleton.mp h ▸ ⟨_, t, ht, by omega, by omega, rfl⟩
  · rintro ss own ⟨x, zs, z, rfl, rfl, hl, hp, hb, hk⟩
    rw [range_len] at hl
    walk_at "zs"
    refine shuffled_useL (by rw [List.length_map]; unfold SZ; omega) fun es x' hp2 => ?_
    obtain ⟨ws, rfl, hw⟩ := perm_map_inv hp2
    exact k2 ws x' _ (hw.length_eq.trans hl) (hw.nodup_iff.mpr (pw_nodup hp)) fun z hz => hk z (hw.mem_iff.mp hz)
end Zd

/-! Zb4: pure defs, defs that change an object, the law's own body. -/
namespace Zd
open PySem L2
local macro_rules | `(tactic| walk_at "zs") => `(tactic| simp only [SZ, Bool.not_true, Bool.not_false, eqv_ii, eqv_ss, eqv_bb, shp_i, shp_s, shp_b, shp_n, eq_self, Int.toNat_natCast, range_len, Itf, itb_t, itb_f, optP, opb_some, Cal, wLc, wLcH, wYes, decide_true, decide_false,  ex_lst, List.length_map, Nat.zero_le, Nat.reduceLeDiff, Nat.reduceAdd, wNext, wBreak, wCont, wAsg, wRet, wRetN, wDrop, wIfS, wAug, wPar, wSet, wAugS, fSet, fGet, wVar, wFrz, frzC, wC, wOp, wUn, res_fr, res_sc, res_hd, resO_frz, resO_lst, resO_ins, resO_dk, resO_dr, frs_map, fI, fIC, fAdd, fSub, fMul, fDiv, fMod, fPow, fShl, fShr, fAnd, fNeg, fLt, fLe, fGt, fGe, fEq, fNe, fIx,
  wSl, fSl, fSlH, wPart, wNoPart, wNil, wCons, wTup, wLst, wLstH, frs, Option.map_some, wTest, wNot, wAnd, wOr, wChain, wIf, wAndV, wOrV, wNotV, wIsN, wNotN, wCB, fLen, fInt, fAbs, fMax2, fMin2, fSum, fMinL, fMaxL, fAll, fAny, fTupleOf, fListOf, fListOfH, wIsi, wName, wGNil, wGCons, wGTup, wiSeq, itemsOf, wiR1, wiR2, wiZip, wiRev, wipeS,
  wBL, wBS, isLst, isStr, fAppend, fPopAt, fPop, fCountI, fExtend, wCall, tb_h, tb_k, tb_seth, tb_setk, tb_app, tb_len, t0_k, t0_setk, t0_app, t0_len, List.getElem?_cons_zero, List.getElem?_cons_succ, List.getElem?_nil, List.set_cons_zero, List.set_cons_succ, List.cons_append, List.nil_append, List.length_cons, List.length_nil, List.map_cons, List.map_nil, Nat.zero_add, if_true, if_false, Bool.false_eq_true, true_and, and_true,
  atI0, atI1, atI2, atI3, atI4, atI5, setI0, setI1, setI2, setI3, decide_eq_true_eq])
local macro_rules | `(tactic| walk_at "z1") => `(tactic| (refine seq1 ?_; try walk_at "zs"))
/-- a pure def: A tells its answers -/
def fEx (A : List C → D → Prop) : FA := fun cs own Q => ∃ d, A cs d ∧ Q (.fr d) own
theorem ex_at {A : List C → D → Prop} {f : FA} (hf : f = fEx A) {cs : List C} {own : Ts} {Q : Hd KC} {d : D} (ha : A cs d) (k : Q.v (.fr d) own) : @CalB f cs own Q := by
  subst hf
  exact ⟨d, ha, k⟩
theorem ex_body {w : WS} {N : List Str} {n : Nat} {A : List C → D → Prop} (h : ∀ own cs d (Q : KC), A cs d → (∀ r, Q (.fr d) (T0 own r)) → w { nx := fun _ o => Q (.fr .none) o, rt := Q } (startS N cs) (T0 own [])) :
    ∀ cs own Q, Cl own → cs.length = n → fEx A cs own Q → w (enF own.length Q) (startS N cs) own := by
  rintro cs own Q hc _ ⟨d, ha, k⟩
  have z := h own cs d (EndQ own.length Q) ha fun r => ?_
  · rw [t0_nil] at z
    exact z
  · refine ⟨h0 own 0, Nat.le_refl _, (fun j hj => nomatch hj), ?_, ?_⟩
    · rw [t0_take]; exact hc
    · rw [t0_take]; exact k
/-- an object in the table -/
theorem ho_split {own : Ts} {h : Nat} {m : MO} (e : own[h]? = some m) : ∃ pre post, own = pre ++ m :: post ∧ h = pre.length := by
  have hl := lt_of_get e
  refine ⟨own.take h, own.drop (h + 1), ?_, by rw [List.length_take]; omega⟩
  rw [List.getElem?_eq_getElem hl] at e
  rw [← Option.some.inj e, List.getElem_cons_drop, List.take_append_drop]
theorem ho_end {pre post r : Ts} {m m' : MO} {d : D} {Q : KC} (hc : Cl (pre ++ m :: post)) (hm : m'.refs = []) (k : Q (.fr d) (pre ++ m' :: post)) : EndQ (pre ++ m :: post).length Q (.fr d) (Tb pre m' post r) := by
  have e : (pre ++ m :: post).length = hb pre post 0 := by simp [hb]; omega
  rw [e]
  refine ⟨hb pre post 0, Nat.le_refl _, (fun j hj => nomatch hj), ?_, ?_⟩
  · rw [tb_take, tb_nil]
    exact hc.hole hm
  · rw [tb_take, tb_nil]
    exact k
theorem tb_set' {pre post : Ts} {m m' : MO} : (pre ++ m :: post).set pre.length m' = pre ++ m' :: post := by simp
/-- a def that changes the object at its argument number j: P before -/
def fMu (j : Nat) (P : List C → MO → Prop) (R : List C → MO → D → MO → Prop) : FA := fun cs own Q => ∃ h m, cs[j]? = some (.hd h) ∧ own[h]? = some m ∧ P cs m ∧ ∀ d m', R cs m d m' → Q (.fr d) (own.set h m')
theorem mu_at {j : Nat} {P : List C → MO → Prop} {R : List C → MO → D → MO → Prop} {f : FA} (hf : f = fMu j P R) {cs : List C} {own : Ts} {Q : Hd KC} {h : Nat} {m : MO} (hj : cs[j]? = some (.hd h)) (ho : own[h]? = some m) (hp : P cs m) (k : ∀ d m', R cs m d m' → Q.v (.fr d) (own.set h m')) : @CalB f cs own Q := by
  subst hf
  exact ⟨h, m, hj, ho, hp, k⟩
theorem mu_body {w : WS} {N : List Str} {n j : Nat} {P : List C → MO → Prop} {R : List C → MO → D → MO → Prop} (hr : ∀ cs m d m', R cs m d m' → m'.refs = [])
    (h : ∀ pre m post cs (Q : KC), cs[j]? = some (.hd pre.length) → P cs m → (∀ d m' r, R cs m d m' → Q (.fr d) (Tb pre m' post r)) → w { nx := fun _ o => Q (.fr .none) o, rt := Q } (startS N cs) (Tb pre m post [])) :
    ∀ cs own Q, Cl own → cs.length = n → fMu j P R cs own Q → w (enF own.length Q) (startS N cs) own := by
  rintro cs own Q hc _ ⟨hh, m, hj, ho, hp, k⟩
  obtain ⟨pre, post, rfl, rfl⟩ := ho_split ho
  rw [← tb_nil]
  refine h pre m post cs _ hj hp fun d m' r hR => ?_
  rw [tb_nil]
  refine ho_end hc (hr _ _ _ _ hR) ?_
  have := k d m' hR
  rw [tb_set'] at this
  exact this
/-- the law's own body -/
theorem law_body {w : WS} {N : List Str} (h : ∀ (E : En) (ns : List Int), ns.length ≤ 63 → (∀ o, E.rt (.fr (.bool true)) o) → w E (startS N [.sc ns]) []) :
    ∀ cs own Q, Cl own → cs.length = 1 → f_law cs own Q → w (enF own.length Q) (startS N cs) own := by
  rintro cs own Q hc _ ⟨⟨ns, rfl, hn⟩, rfl, k⟩
  refine h _ ns hn fun o => ⟨0, Nat.le_refl _, (fun j hj => nomatch hj), ?_, k _⟩
  rw [List.take_zero]
  exact fun m hm => nomatch hm
theorem begin_use {ns : List Int} {Q : Hd KC} (k : ∀ (pre : Ts) x, Q.v (.hd pre.length) (Tb pre (drM x) [] [])) : @CalB f__law_begin [.sc ns] [] Q := by
  refine ⟨ns, rfl, fun x => ?_⟩
  have := k [] x
  rw [tb_nil] at this
  exact this
/-! is_int -/
def isI : D → Bool
  | .int _ => true
  | _ => false
def plain : D → Bool
  | .dict _ => false
  | _ => true
def f__law_is_int : FA := fEx fun cs d => ∃ x, cs = [.fr x] ∧ plain x = true ∧ d = .bool (isI x)
def N__law_is_int : List Str := ["thing"]
def w__law_is_int : WS := (wRet (wAndV (wIsi "int" (wVar 0)) (wNotV (wIsi "bool" (wVar 0)))))
theorem d__law_is_int : ∀ cs own Q, Cl own → cs.length = 1 → f__law_is_int cs own Q → w__law_is_int (enF own.length Q) (startS N__law_is_int cs) own := by
  refine ex_body fun own cs d Q ⟨x, e, hp, e2⟩ k => ?_
  subst e e2
  show w__law_is_int _ [some (.fr x)] _
  unfold w__law_is_int
  cases x with
  | dict _ => cases hp
  | _ =>
    walk_at "zs"
    simp only [isT, show kitB "NoneType" "int" = some false by decide +kernel, show kitB "bool" "int" = some true by decide +kernel, show kitB "int" "int" = some true by decide +kernel, show kitB "str" "int" = some false by decide +kernel, show kitB "list" "int" = some false by decide +kernel, show kitB "tuple" "int" = some false by decide +kernel, show kitB "bool" "bool" = some true by decide +kernel, show kitB "int" "bool" = some false by decide +kernel]
    walk_at "zs"
    try simp only [isT, show kitB "bool" "bool" = some true by decide +kernel, show kitB "int" "bool" = some false by decide +kernel]
    exact k []
theorem isint_use {x : D} {own : Ts} {Q : Hd KC} (hp : plain x = true) (k : Q.v (.fr (.bool (isI x))) own) : @CalB f__law_is_int [.fr x] own Q := ex_at rfl ⟨x, rfl, hp, rfl⟩ k
end Zd

/-! Zm41: the round robin of credits, in plain numbers. -/
namespace Zd
/-- credits; where a place's block begins; the sum -/
def bsK (cs : List Nat) (i : Nat) : Nat := (cs.take i).sum
def crK (cs : List Nat) (i : Nat) : Nat := cs.getD i 0
def gK (cs : List Nat) (p x : Nat) : Nat := min (crK cs p) (x - bsK cs p)
/-- how often place p is served at the cycle's first t units -/
def NK (cs : List Nat) (p t : Nat) : Nat := t / cs.sum * crK cs p + gK cs p (t % cs.sum)
/-- place i with l units left stands at t -/
def AtK (cs : List Nat) (i l t : Nat) : Prop := i < cs.length ∧ l ≤ crK cs i ∧ ∃ k, t + l = k * cs.sum + bsK cs i + crK cs i
def FK (cs : List Nat) (p u : Nat) : Nat := u / cs.sum * crK cs p + (u % cs.sum - (cs.sum - crK cs p))
section
variable {cs : List Nat}
theorem bs_succ {i : Nat} (h : i < cs.length) : bsK cs (i + 1) = bsK cs i + crK cs i := by
  unfold bsK crK
  rw [List.take_add_one, List.getElem?_eq_getElem h, List.sum_append]
  simp only [List.getD, List.getElem?_eq_getElem h, Option.toList_some, Option.getD_some, List.sum_cons, List.sum_nil, Nat.add_zero]
theorem bs_zero : bsK cs 0 = 0 := by simp [bsK]
theorem bs_all : bsK cs cs.length = cs.sum := by simp [bsK]
theorem bs_mono {i j : Nat} (h : i ≤ j) (hj : j ≤ cs.length) : bsK cs i ≤ bsK cs j := by
  induction j with
  | zero => rw [Nat.le_zero.mp h]; exact Nat.le_refl _
  | succ j ih =>
    by_cases e : i = j + 1
    · rw [e]; exact Nat.le_refl _
    · rw [bs_succ (by omega)]
      have := ih (by omega) (by omega)
      omega
theorem bs_top {i : Nat} (h : i < cs.length) : bsK cs i + crK cs i ≤ cs.sum := by
  rw [← bs_succ h, ← bs_all]
  exact bs_mono (by omega) (Nat.le_refl _)
theorem bs_lt {p i : Nat} (h : p < i) (hi : i < cs.length) : bsK cs p + crK cs p ≤ bsK cs i := by
  rw [← bs_succ (by omega)]
  exact bs_mono (by omega) (by omega)
theorem NK_val {p k x : Nat} (hp : p < cs.length) (hT : 0 < cs.sum) (hx : x ≤ cs.sum) : NK cs p (k * cs.sum + x) = k * crK cs p + gK cs p x := by
  have hb := bs_top hp
  unfold NK
  by_cases e : x = cs.sum
  · subst e
    rw [show k * cs.sum + cs.sum = (k + 1) * cs.sum by rw [Nat.succ_mul], Nat.mul_div_cancel _ hT, Nat.mul_mod_left, Nat.succ_mul]
    unfold gK
    omega
  · have hx : x < cs.sum := by omega
    rw [Nat.mul_comm k, Nat.mul_add_div hT, Nat.div_eq_of_lt hx, Nat.mul_add_mod, Nat.mod_eq_of_lt hx, Nat.add_zero]
theorem at_serve {i l t p : Nat} (h : AtK cs i (l + 1) t) (hp : p < cs.length) : AtK cs i l (t + 1) ∧ NK cs p (t + 1) = NK cs p t + (if p = i then 1 else 0) := by
  obtain ⟨hi, hl, k, e⟩ := h
  have hb := bs_top hi
  have hT : 0 < cs.sum := by omega
  refine ⟨⟨hi, by omega, k, by omega⟩, ?_⟩
  have e1 : t = k * cs.sum + (bsK cs i + crK cs i - (l + 1)) := by omega
  have e2 : t + 1 = k * cs.sum + (bsK cs i + crK cs i - l) := by omega
  rw [e2, e1, NK_val hp hT (by omega), NK_val hp hT (by omega)]
  unfold gK
  rcases Nat.lt_trichotomy p i with h | h | h
  · have := bs_lt h hi
    rw [if_neg (by omega)]
    omega
  · subst h
    rw [if_pos rfl]
    omega
  · have := bs_lt h hp
    rw [if_neg (by omega)]
    omega
theorem at_skip {i l t : Nat} (h : AtK cs i l t) : AtK cs ((i + 1) % cs.length) (crK cs ((i + 1) % cs.length)) (t + l) := by
  obtain ⟨hi, hl, k, e⟩ := h
  have hs := bs_succ hi
  by_cases h1 : i + 1 < cs.length
  · rw [Nat.mod_eq_of_lt h1]
    exact ⟨h1, Nat.le_refl _, k, by omega⟩
  · have e2 : i + 1 = cs.length := by omega
    rw [e2, Nat.mod_self]
    have ha := bs_all (cs := cs)
    rw [← e2] at ha
    refine ⟨by omega, Nat.le_refl _, k + 1, ?_⟩
    rw [Nat.succ_mul, bs_zero]
    omega
theorem at_same {i l t p : Nat} (h : AtK cs i l t) (hp : p < cs.length) (hT : 0 < cs.sum) (hn : p ≠ i ∨ l = 0) : NK cs p (t + l) = NK cs p t := by
  rcases hn with hn | rfl
  · obtain ⟨hi, hl, k, e⟩ := h
    have hb := bs_top hi
    have e1 : t = k * cs.sum + (bsK cs i + crK cs i - l) := by omega
    have e2 : t + l = k * cs.sum + (bsK cs i + crK cs i) := by omega
    rw [e2, e1, NK_val hp hT (by omega), NK_val hp hT (by omega)]
    unfold gK
    rcases Nat.lt_trichotomy p i with h | h | h
    · have := bs_lt h hi
      omega
    · exact absurd h hn
    · have := bs_lt h hp
      omega
  · rfl
theorem NK_low {p t u : Nat} (hp : p < cs.length) (hT : 0 < cs.sum) : NK cs p t + FK cs p u ≤ NK cs p (t + u) := by
  have hb := bs_top hp
  have ht := Nat.div_add_mod t cs.sum
  have hu := Nat.div_add_mod u cs.sum
  have h1 := Nat.mod_lt t hT
  have h2 := Nat.mod_lt u hT
  unfold FK
  generalize t / cs.sum = k at *
  generalize t % cs.sum = x at *
  generalize u / cs.sum = q at *
  generalize u % cs.sum = r at *
  have e1 : t = k * cs.sum + x := by rw [← ht, Nat.mul_comm]
  by_cases h : x + r ≤ cs.sum
  · have e2 : t + u = (k + q) * cs.sum + (x + r) := by rw [← ht, ← hu, Nat.add_mul, Nat.mul_comm, Nat.mul_comm q]; omega
    rw [e2, e1, NK_val hp hT (by omega), NK_val hp hT h, Nat.add_mul]
    unfold gK
    omega
  · have e2 : t + u = (k + q + 1) * cs.sum + (x + r - cs.sum) := by rw [← ht, ← hu, Nat.add_mul, Nat.add_mul, Nat.mul_comm, Nat.mul_comm q]; omega
    rw [e2, e1, NK_val hp hT (by omega), NK_val hp hT (by omega), Nat.add_mul, Nat.add_mul]
    unfold gK
    omega
theorem NK_end {p t u : Nat} (hT : 0 < cs.sum) (h : AtK cs p 0 t) : NK cs p (t + u) = NK cs p t + FK cs p u := by
  obtain ⟨hp, _, k, e⟩ := h
  have hb := bs_top hp
  have hu := Nat.div_add_mod u cs.sum
  have h2 := Nat.mod_lt u hT
  unfold FK
  generalize u / cs.sum = q at *
  generalize u % cs.sum = r at *
  have e1 : t = k * cs.sum + (bsK cs p + crK cs p) := by omega
  by_cases h : bsK cs p + crK cs p + r ≤ cs.sum
  · have e2 : t + u = (k + q) * cs.sum + (bsK cs p + crK cs p + r) := by rw [e1, ← hu, Nat.add_mul, Nat.mul_comm q]; omega
    rw [e2, e1, NK_val hp hT h, NK_val hp hT hb, Nat.add_mul]
    unfold gK
    omega
  · have e2 : t + u = (k + q + 1) * cs.sum + (bsK cs p + crK cs p + r - cs.sum) := by rw [e1, ← hu, Nat.add_mul, Nat.add_mul, Nat.mul_comm q]; omega
    rw [e2, e1, NK_val hp hT (by omega), NK_val hp hT (by omega), Nat.add_mul, Nat.add_mul]
    unfold gK
    omega
end
end Zd

/-! Zk41a: the defs of k41. -/
namespace Zd
open PySem L2
local macro_rules | `(tactic| walk_at "zs") => `(tactic| simp only [SZ, Bool.not_true, Bool.not_false, eqv_ii, eqv_ss, eqv_bb, shp_i, shp_s, shp_b, shp_n, eq_self, Int.toNat_natCast, range_len, Itf, itb_t, itb_f, optP, opb_some, Cal, wLc, wLcH, wYes, decide_true, decide_false,  ex_lst, List.length_map, Nat.zero_le, Nat.reduceLeDiff, Nat.reduceAdd, wNext, wBreak, wCont, wAsg, wRet, wRetN, wDrop, wIfS, wAug, wPar, wSet, wAugS, fSet, fGet, wVar, wFrz, frzC, wC, wOp, wUn, res_fr, res_sc, res_hd, resO_frz, resO_lst, resO_ins, resO_dk, resO_dr, frs_map, fI, fIC, fAdd, fSub, fMul, fDiv, fMod, fPow, fShl, fShr, fAnd, fNeg, fLt, fLe, fGt, fGe, fEq, fNe, fIx,
  wSl, fSl, fSlH, wPart, wNoPart, wNil, wCons, wTup, wLst, wLstH, frs, Option.map_some, wTest, wNot, wAnd, wOr, wChain, wIf, wAndV, wOrV, wNotV, wIsN, wNotN, wCB, fLen, fInt, fAbs, fMax2, fMin2, fSum, fMinL, fMaxL, fAll, fAny, fTupleOf, fListOf, fListOfH, wIsi, wName, wGNil, wGCons, wGTup, wiSeq, itemsOf, wiR1, wiR2, wiZip, wiRev, wipeS,
  wBL, wBS, isLst, isStr, fAppend, fPopAt, fPop, fCountI, fExtend, wCall, tb_h, tb_k, tb_seth, tb_setk, tb_app, tb_len, t0_k, t0_setk, t0_app, t0_len, List.getElem?_cons_zero, List.getElem?_cons_succ, List.getElem?_nil, List.set_cons_zero, List.set_cons_succ, List.cons_append, List.nil_append, List.length_cons, List.length_nil, List.map_cons, List.map_nil, Nat.zero_add, if_true, if_false, Bool.false_eq_true, true_and, and_true,
  atI0, atI1, atI2, atI3, atI4, atI5, setI0, setI1, setI2, setI3, decide_eq_true_eq])
local macro_rules | `(tactic| walk_at "z1") => `(tactic| (refine seq1 ?_; try walk_at "zs"))
theorem ok_cat {x y : Str} (hx : PyData.strOk x = true) (hy : PyData.strOk y = true) : PyData.strOk (x ++ y) = true := by
  unfold PyData.strOk at *
  show ((x.cps ++ y.cps).all _) = true
  rw [Array.all_append, hx, hy]
  rfl
theorem nm_ok {z : Str} (h : NmOk z) : PyData.strOk z = true := by
  obtain ⟨x, t, ht, h1, h2, rfl⟩ := h
  refine ok_cat ?_ ?_
  · unfold PyData.strOk
    simp
    omega
  · have : ∀ t ∈ TLS, PyData.strOk t = true := by decide +kernel
    exact this t ht
/-- name and credit -/
abbrev PR := Str × Nat
def prD (q : PR) : D := .tuple [.str q.1, .int q.2]
def prsD (ps : List PR) : D := .tuple (ps.map prD)
def crs (ps : List PR) : List Nat := ps.map (·.2)
def ownC (ps : List PR) (nm : Str) : Nat := (crs (ps.filter fun q => decide (q.1 = nm))).sum
theorem intsD_map {α : Type} (f : α → Int) : ∀ xs : List α, intsD (xs.map fun x => .int (f x)) = some (xs.map f)
  | [] => rfl
  | x :: xs => by
    show (intsD (xs.map fun x => .int (f x))).map (f x :: ·) = _
    rw [intsD_map f xs]
    rfl
theorem sum_cast : ∀ xs : List Nat, (xs.map fun x : Nat => (x : Int)).sum = (xs.sum : Nat)
  | [] => rfl
  | x :: xs => by simp [sum_cast xs]
def f_own_credit : FA := fEx fun cs d => ∃ (ps : List PR) (nm : Str), cs = [.fr (prsD ps), .fr (.str nm)] ∧ ps.length ≤ SZ ∧ (∀ q ∈ ps, PyData.strOk q.1 = true) ∧ PyData.strOk nm = true ∧ d = .int (ownC ps nm)
def N_own_credit : List Str := ["credits", "name", "one", "credit"]
def w_own_credit : WS := (wRet (wCB fSum (wCons (wLc (wiSeq (wVar 0)) (wGTup 2 (wGCons (wName 2) (wGCons (wName 3) wGNil))) (wTest (wOp fEq (wVar 2) (wVar 1))) (wVar 3) [2, 3]) wNil)))
theorem d_own_credit : ∀ cs own Q, Cl own → cs.length = 2 → f_own_credit cs own Q → w_own_credit (enF own.length Q) (startS N_own_credit cs) own := by
  refine ex_body fun own cs d Q ⟨ps, nm, e, hn, ho, hm, e2⟩ k => ?_
  subst e e2
  show w_own_credit _ [some (.fr (prsD ps)), some (.fr (.str nm)), none, none] _
  unfold w_own_credit
  walk_at "zs"
  refine lc_fil ps prD (fun q => .int q.2) (fun q => decide (q.1 = nm)) (T0 own []) (by unfold prsD; walk_at "zs") hn (fun i q R S hq h1 h2 => ?_) ?_
  · unfold prD
    walk_at "zs"
    have oq := ho q (List.mem_of_getElem? hq)
    refine ⟨oq, hm, itd' (fun h => ?_) fun h => ?_⟩
    · walk_at "zs"
      exact h1 (decide_eq_true h)
    · exact h2 (decide_eq_false h)
  · walk_at "zs"
    rw [intsD_map (fun q : PR => (q.2 : Int))]
    walk_at "zs"
    have e : ((ps.filter fun q => decide (q.1 = nm)).map fun q : PR => (q.2 : Int)).sum = (ownC ps nm : Nat) := by
      unfold ownC crs
      rw [← sum_cast, List.map_map]
      rfl
    rw [e]
    exact k []
/-! ### the share -/
theorem own_use {ps : List PR} {nm : Str} {own : Ts} {Q : Hd KC} (h1 : ps.length ≤ SZ) (h2 : ∀ q ∈ ps, PyData.strOk q.1 = true) (h3 : PyData.strOk nm = true) (k : Q.v (.fr (.int (ownC ps nm))) own) : @CalB f_own_credit [.fr (prsD ps), .fr (.str nm)] own Q := ex_at rfl ⟨ps, nm, rfl, h1, h2, h3, rfl⟩ k
def shareF (ps : List PR) (nm : Str) (u : Nat) : Nat := u / (crs ps).sum * ownC ps nm + (u % (crs ps).sum - ((crs ps).sum - ownC ps nm))
theorem own_le (ps : List PR) (nm : Str) : ownC ps nm ≤ (crs ps).sum := by
  unfold ownC crs
  induction ps with
  | nil => exact Nat.le_refl _
  | cons q ps ih =>
    rw [List.filter_cons]
    split
    · simp only [List.map_cons, List.sum_cons]; omega
    · simp only [List.map_cons, List.sum_cons]; omega
def f_turn_share : FA := fEx fun cs d => ∃ (ps : List PR) (nm : Str) (u : Nat), cs = [.fr (prsD ps), .fr (.str nm), .fr (.int u)] ∧ ps.length ≤ SZ ∧ (∀ q ∈ ps, PyData.strOk q.1 = true) ∧ PyData.strOk nm = true ∧ 0 < (crs ps).sum ∧ (crs ps).sum < 1000000 ∧ d = .int (shareF ps nm u)
def N_turn_share : List Str := ["credits", "name", "units", "own", "rest", "one", "credit"]
def w_turn_share : WS := (wSeq (wAsg (wCall 2 f_own_credit (wCons (wVar 0) (wCons (wVar 1) wNil))) (wName 3))
  (wSeq (wAsg (wOp fSub (wCB fSum (wCons (wLc (wiSeq (wVar 0)) (wGTup 2 (wGCons (wName 5) (wGCons (wName 6) wGNil))) wYes (wVar 6) [5, 6]) wNil)) (wVar 3)) (wName 4))
  (wRet (wOp fAdd (wOp fMul (wOp fDiv (wVar 2) (wOp fAdd (wVar 3) (wVar 4))) (wVar 3)) (wCB fMax2 (wCons (wC (.int 0)) (wCons (wOp fSub (wOp fMod (wVar 2) (wOp fAdd (wVar 3) (wVar 4))) (wVar 4)) wNil)))))))
theorem d_turn_share : ∀ cs own Q, Cl own → cs.length = 3 → f_turn_share cs own Q → w_turn_share (enF own.length Q) (startS N_turn_share cs) own := by
  refine ex_body fun own cs d Q ⟨ps, nm, u, e, hn, ho, hm, hT, hT2, e2⟩ k => ?_
  subst e e2
  show w_turn_share _ [some (.fr (prsD ps)), some (.fr (.str nm)), some (.fr (.int u)), none, none, none, none] _
  unfold w_turn_share
  have hle := own_le ps nm
  walk_at "z1"
  refine own_use hn ho hm ?_
  walk_at "zs"
  walk_at "z1"
  refine lc_map ps prD (fun q => .int q.2) (T0 own []) (by unfold prsD; walk_at "zs") hn (fun i q R S hq h => ?_) ?_
  · unfold prD
    walk_at "zs"
    exact h
  · walk_at "zs"
    rw [intsD_map (fun q : PR => (q.2 : Int))]
    have e : (ps.map fun q : PR => (q.2 : Int)).sum = ((crs ps).sum : Nat) := by
      unfold crs
      rw [← sum_cast, List.map_map]
      rfl
    walk_at "zs"
    rw [e]
    have e1 : (ownC ps nm : Int) + (((crs ps).sum : Nat) - (ownC ps nm : Int)) = ((crs ps).sum : Nat) := by omega
    rw [e1]
    refine ⟨⟨by omega, by omega⟩, mulR ⟨by omega, by omega⟩, by omega, ?_⟩
    have e2 : (u : Int) / ((crs ps).sum : Nat) * (ownC ps nm : Nat) + (if (u : Int) % ((crs ps).sum : Nat) - (((crs ps).sum : Nat) - (ownC ps nm : Int)) > 0 then (u : Int) % ((crs ps).sum : Nat) - (((crs ps).sum : Nat) - (ownC ps nm : Int)) else 0) = (shareF ps nm u : Nat) := by
      unfold shareF
      rw [← Int.natCast_ediv, ← Int.natCast_emod, ← Int.natCast_mul, Int.natCast_add]
      split <;> omega
    rw [e2]
    exact k []
theorem share_use {ps : List PR} {nm : Str} {u : Nat} {own : Ts} {Q : Hd KC} (h1 : ps.length ≤ SZ) (h2 : ∀ q ∈ ps, PyData.strOk q.1 = true) (h3 : PyData.strOk nm = true) (h4 : 0 < (crs ps).sum) (h5 : (crs ps).sum < 1000000) (k : Q.v (.fr (.int (shareF ps nm u))) own) : @CalB f_turn_share [.fr (prsD ps), .fr (.str nm), .fr (.int u)] own Q := ex_at rfl ⟨ps, nm, u, rfl, h1, h2, h3, h4, h5, rfl⟩ k
def f__law_is_share : FA := fEx fun cs d => ∃ i j : Int, cs = [.fr (.int i), .fr (.int j)] ∧ d = .bool (decide (i = j))
def N__law_is_share : List Str := ["told", "due"]
def w__law_is_share : WS := (wRet (wAndV (wCall 1 f__law_is_int (wCons (wVar 0) wNil)) (wOp fEq (wVar 0) (wVar 1))))
theorem d__law_is_share : ∀ cs own Q, Cl own → cs.length = 2 → f__law_is_share cs own Q → w__law_is_share (enF own.length Q) (startS N__law_is_share cs) own := by
  refine ex_body fun own cs d Q ⟨i, j, e, e2⟩ k => ?_
  subst e e2
  show w__law_is_share _ [some (.fr (.int i)), some (.fr (.int j))] _
  unfold w__law_is_share
  walk_at "zs"
  refine isint_use rfl ?_
  unfold isI
  walk_at "zs"
  exact k []
theorem isshare_use {i j : Int} {own : Ts} {Q : Hd KC} (h : i = j) (k : Q.v (.fr (.bool true)) own) : @CalB f__law_is_share [.fr (.int i), .fr (.int j)] own Q := ex_at rfl ⟨i, j, rfl, by rw [decide_eq_true h]⟩ k
end Zd

/-! Zk41b: a unit of the round robin. -/
namespace Zd
open PySem L2
local macro_rules | `(tactic| walk_at "zs") => `(tactic| simp only [SZ, Bool.not_true, Bool.not_false, eqv_ii, eqv_ss, eqv_bb, shp_i, shp_s, shp_b, shp_n, eq_self, Int.toNat_natCast, range_len, Itf, itb_t, itb_f, optP, opb_some, Cal, wLc, wLcH, wYes, decide_true, decide_false,  ex_lst, List.length_map, Nat.zero_le, Nat.reduceLeDiff, Nat.reduceAdd, wNext, wBreak, wCont, wAsg, wRet, wRetN, wDrop, wIfS, wAug, wPar, wSet, wAugS, fSet, fGet, wVar, wFrz, frzC, wC, wOp, wUn, res_fr, res_sc, res_hd, resO_frz, resO_lst, resO_ins, resO_dk, resO_dr, frs_map, fI, fIC, fAdd, fSub, fMul, fDiv, fMod, fPow, fShl, fShr, fAnd, fNeg, fLt, fLe, fGt, fGe, fEq, fNe, fIx,
  wSl, fSl, fSlH, wPart, wNoPart, wNil, wCons, wTup, wLst, wLstH, frs, Option.map_some, wTest, wNot, wAnd, wOr, wChain, wIf, wAndV, wOrV, wNotV, wIsN, wNotN, wCB, fLen, fInt, fAbs, fMax2, fMin2, fSum, fMinL, fMaxL, fAll, fAny, fTupleOf, fListOf, fListOfH, wIsi, wName, wGNil, wGCons, wGTup, wiSeq, itemsOf, wiR1, wiR2, wiZip, wiRev, wipeS,
  wBL, wBS, isLst, isStr, fAppend, fPopAt, fPop, fCountI, fExtend, wCall, tb_h, tb_k, tb_seth, tb_setk, tb_app, tb_len, t0_k, t0_setk, t0_app, t0_len, List.getElem?_cons_zero, List.getElem?_cons_succ, List.getElem?_nil, List.set_cons_zero, List.set_cons_succ, List.cons_append, List.nil_append, List.length_cons, List.length_nil, List.map_cons, List.map_nil, Nat.zero_add, if_true, if_false, Bool.false_eq_true, true_and, and_true,
  atI0, atI1, atI2, atI3, atI4, atI5, setI0, setI1, setI2, setI3, decide_eq_true_eq])
local macro_rules | `(tactic| walk_at "z1") => `(tactic| (refine seq1 ?_; try walk_at "zs"))
def SkK (cs : List Nat) (ws : List Bool) (i l i' l' : Nat) : Prop := ∀ t, AtK cs i l t → ∃ t', t ≤ t' ∧ AtK cs i' l' t' ∧ (∀ q, q < cs.length → ws[q]? = some true → NK cs q t' = NK cs q t) ∧ ((∀ q, q < cs.length → ws[q]? = some true) → t' = t)
def UnK (cs : List Nat) (ws : List Bool) (i l i' l' : Nat) : Prop := (i' < cs.length ∧ l' + 1 ≤ crK cs i') ∧ SkK cs ws i l i' (l' + 1)
structure UC (ps : List PR) (ws : List Bool) (i l p : Nat) : Prop where
  wl : ws.length = ps.length
  hi : i < ps.length
  hl : l ≤ crK (crs ps) i
  one : ∀ q ∈ ps, 1 ≤ q.2
  many : ps.length ≤ 1000
  hp : ws[p]? = some true
theorem crs_len (ps : List PR) : (crs ps).length = ps.length := List.length_map _
theorem crs_at {ps : List PR} {i : Nat} {q : PR} (h : ps[i]? = some q) : crK (crs ps) i = q.2 := by
  unfold crK crs
  simp [List.getD, List.getElem?_map, h]
theorem crs_pos {ps : List PR} (h : ∀ q ∈ ps, 1 ≤ q.2) {i : Nat} (hi : i < ps.length) : 1 ≤ crK (crs ps) i := by
  rw [crs_at (List.getElem?_eq_getElem hi)]
  exact h _ (List.getElem_mem hi)
theorem crs_sum_pos {ps : List PR} (h : ∀ q ∈ ps, 1 ≤ q.2) (hn : 0 < ps.length) : 0 < (crs ps).sum := by
  have h1 := crs_pos h hn
  have h2 := bs_top (cs := crs ps) (i := 0) (by rw [crs_len]; exact hn)
  omega
theorem sk_refl {cs : List Nat} {ws : List Bool} {i l : Nat} : SkK cs ws i l i l := fun t h => ⟨t, Nat.le_refl _, h, fun _ _ _ => rfl, fun _ => rfl⟩
theorem sk_step {cs : List Nat} {ws : List Bool} {i l i' l' : Nat} (hT : 0 < cs.sum) (h : SkK cs ws i l i' l') (hw : ws[i']? = some false ∨ l' = 0) : SkK cs ws i l ((i' + 1) % cs.length) (crK cs ((i' + 1) % cs.length)) := by
  intro t ht
  obtain ⟨t', h1, h2, h3, h4⟩ := h t ht
  refine ⟨t' + l', by omega, at_skip h2, fun q hq wq => ?_, fun all => ?_⟩
  · rw [at_same h2 hq hT ?_, h3 q hq wq]
    rcases hw with hw | hw
    · exact .inl fun e => by rw [e, hw] at wq; cases wq
    · exact .inr hw
  · have := h4 all
    rcases hw with hw | hw
    · have := all i' h2.1
      rw [hw] at this
      cases this
    · omega
def f__law_unit : FA := fun cs own Q => ∃ (h : Nat) (ps : List PR) (ws : List Bool) (i l p : Nat), cs = [.fr (prsD ps), .hd h, .fr (.list (ws.map .bool))] ∧ own[h]? = some (.lst [.fr (.int i), .fr (.int l)]) ∧ UC ps ws i l p ∧
  ∀ i' l' : Nat, UnK (crs ps) ws i l i' l' → Q (.fr (.int i')) (own.set h (.lst [.fr (.int i'), .fr (.int l')]))
theorem unit_use {own : Ts} {Q : Hd KC} {h : Nat} {ps : List PR} {ws : List Bool} {i l p : Nat} (ho : own[h]? = some (.lst [.fr (.int i), .fr (.int l)])) (u : UC ps ws i l p)
    (k : ∀ i' l' : Nat, UnK (crs ps) ws i l i' l' → Q.v (.fr (.int i')) (own.set h (.lst [.fr (.int i'), .fr (.int l')]))) : @CalB f__law_unit [.fr (prsD ps), .hd h, .fr (.list (ws.map .bool))] own Q := ⟨h, ps, ws, i, l, p, rfl, ho, u, k⟩
def N__law_unit : List Str := ["pairs", "state", "waits", "step"]
def w__law_unit : WS := (wSeq (wFor (wiR1 (wCons (wOp fAdd (wOp fMul (wC (.int 2)) (wCB fLen (wCons (wVar 0) wNil))) (wC (.int 2))) wNil)) (wName 3) (wSeq (wIfS (wAnd (wTest (wOp fIx (wVar 2) (wOp fIx (wVar 1) (wC (.int 0))))) (wTest (wOp fGt (wOp fIx (wVar 1) (wC (.int 1))) (wC (.int 0))))) wBreak wNext)
  (wSeq (wAsg (wOp fMod (wCB fInt (wCons (wOp fAdd (wOp fIx (wVar 1) (wC (.int 0))) (wC (.int 1))) wNil)) (wCB fLen (wCons (wVar 0) wNil))) (wSet (wVar 1) (wC (.int 0))))
  (wAsg (wOp fIx (wOp fIx (wVar 0) (wOp fIx (wVar 1) (wC (.int 0)))) (wC (.int 1))) (wSet (wVar 1) (wC (.int 1)))))))
  (wSeq (wAugS (fI fun i j => .int (i - j)) (wVar 1) (wC (.int 1)) (wC (.int 1)))
  (wRet (wOp fIx (wVar 1) (wC (.int 0))))))
theorem unit_goal {n i p : Nat} (hi : i < n) (hp : p < n) : ∃ K, 1 ≤ K ∧ K ≤ n ∧ (i + K) % n = p := by
  by_cases h : i < p
  · exact ⟨p - i, by omega, by omega, by rw [Nat.mod_eq_of_lt (by omega)]; omega⟩
  · refine ⟨p + n - i, by omega, by omega, ?_⟩
    rw [show i + (p + n - i) = p + n by omega, Nat.add_mod_right, Nat.mod_eq_of_lt hp]
theorem d__law_unit : ∀ cs own Q, Cl own → cs.length = 3 → f__law_unit cs own Q → w__law_unit (enF own.length Q) (startS N__law_unit cs) own := by
  rintro cs own Q hc _ ⟨h, ps, ws, i, l, p, rfl, ho, u, k⟩
  obtain ⟨pre, post, rfl, rfl⟩ := ho_split ho
  have hn := u.many
  have hi0 := u.hi
  have hpn : p < ps.length := by rw [← u.wl]; exact lt_of_get u.hp
  have hT := crs_sum_pos u.one (by omega)
  have k2 : ∀ i' l' : Nat, UnK (crs ps) ws i l i' l' → (enF (pre ++ MO.lst [.fr (.int i), .fr (.int l)] :: post).length Q).rt (.fr (.int i')) (Tb pre (.lst [.fr (.int i'), .fr (.int l')]) post []) := fun i' l' hu => by
    refine ho_end hc rfl ?_
    have := k i' l' hu
    rw [tb_set'] at this
    exact this
  clear k ho
  generalize (enF (pre ++ MO.lst [.fr (.int i), .fr (.int l)] :: post).length Q) = E at *
  rw [← tb_nil]
  show w__law_unit E [some (.fr (prsD ps)), some (.hd pre.length), some (.fr (.list (ws.map .bool))), none] _
  unfold w__law_unit
  obtain ⟨K0, g1, g2, g3⟩ := unit_goal hi0 hpn
  refine seq_cut (fun ss o => ∃ (i' l' : Nat) (z : Option C), o = Tb pre (.lst [.fr (.int i'), .fr (.int l')]) post [] ∧ ss = [some (.fr (prsD ps)), some (.hd pre.length), some (.fr (.list (ws.map .bool))), z] ∧ 1 ≤ l' ∧ l' ≤ crK (crs ps) i' ∧ i' < ps.length ∧ SkK (crs ps) ws i l i' l') ?_ ?_
  · refine for_inv (rangeD 0 (2 * ps.length + 2)) (Tb pre (.lst [.fr (.int i), .fr (.int l)]) post []) (fun k ss o => ∃ (i' l' : Nat) (z : Option C), o = Tb pre (.lst [.fr (.int i'), .fr (.int l')]) post [] ∧ ss = [some (.fr (prsD ps)), some (.hd pre.length), some (.fr (.list (ws.map .bool))), z] ∧ l' ≤ crK (crs ps) i' ∧ i' < ps.length ∧ SkK (crs ps) ws i l i' l' ∧ i' = (i + k) % ps.length ∧ (1 ≤ k → l' = crK (crs ps) i') ∧ k ≤ K0) ?_ ?_ ?_ ?_
    · unfold prsD
      walk_at "zs"
      refine ⟨.inl ⟨by decide, by decide⟩, ⟨by omega, by omega⟩, ?_⟩
      congr 1
    · exact ⟨i, l, none, rfl, rfl, u.hl, hi0, sk_refl, by rw [Nat.add_zero, Nat.mod_eq_of_lt hi0], by omega, by omega⟩
    · rintro j d ss o hj ⟨i', l', z, rfl, rfl, hl, hi, sk, ei, el, ek⟩
      obtain ⟨hj2, rfl⟩ := range_get hj
      have hwi : i' < ws.length := by rw [u.wl]; exact hi
      have next : (ws[i']? = some false ∨ l' = 0) → j + 1 ≤ K0 := fun hw => by
        by_cases e : j = K0
        · exfalso
          subst e
          rw [g3] at ei
          subst ei
          rcases hw with hw | hw
          · rw [u.hp] at hw; cases hw
          · have := el g1
            have := crs_pos u.one hi
            omega
        · omega
      walk_at "zs"
      refine seq_cut (fun ss o => ∃ (z : Option C), o = Tb pre (.lst [.fr (.int i'), .fr (.int l')]) post [] ∧ ss = [some (.fr (prsD ps)), some (.hd pre.length), some (.fr (.list (ws.map .bool))), z] ∧ (ws[i']? = some false ∨ l' = 0)) ?_ ?_
      · walk_at "zs"
        refine opb_of (atI_nat (v := PyData.bool ws[i']) (by rw [List.getElem?_map, List.getElem?_eq_getElem hwi]; rfl)) ?_
        walk_at "zs"
        refine itb (fun hw => ?_) (fun hw => ?_)
        · walk_at "zs"
          refine itd' (fun h => ?_) (fun h => ?_)
          · walk_at "zs"
            exact ⟨i', l', _, rfl, rfl, by omega, hl, hi, sk⟩
          · walk_at "zs"
            exact ⟨_, rfl, .inr (by omega)⟩
        · walk_at "zs"
          exact ⟨_, rfl, .inl (by rw [List.getElem?_eq_getElem hwi, hw])⟩
      · rintro ss o ⟨z', rfl, rfl, hw⟩
        have e1 : ((i' : Int) + 1) % (ps.length : Int) = (((i' + 1) % ps.length : Nat) : Int) := by rw [Int.natCast_emod]; rfl
        have hi2 : (i' + 1) % ps.length < ps.length := Nat.mod_lt _ (by omega)
        have hq := List.getElem?_eq_getElem hi2
        unfold prsD
        walk_at "z1"
        rw [e1]
        refine ⟨by omega, ?_⟩
        refine opb_of (atI_nat (v := prD ps[(i' + 1) % ps.length]) (by rw [List.getElem?_map, hq]; rfl)) ?_
        unfold prD
        walk_at "zs"
        have hnx := next hw
        have hsk := sk_step hT sk hw
        rw [crs_len, crs_at hq] at hsk
        refine ⟨(i' + 1) % ps.length, ps[(i' + 1) % ps.length].2, z', rfl, rfl, by rw [crs_at hq]; exact Nat.le_refl _, hi2, hsk, ?_, fun _ => (crs_at hq).symm, hnx⟩
        rw [ei, Nat.add_mod, Nat.mod_mod, ← Nat.add_mod, Nat.add_assoc]
    · rintro ss o ⟨i', l', z, rfl, rfl, hl, hi, sk, ei, el, ek⟩
      rw [range_len] at ek
      omega
  · rintro ss o ⟨i', l', z, rfl, rfl, h1, h2, h3, sk⟩
    walk_at "z1"
    have e : (l' : Int) - 1 = ((l' - 1 : Nat) : Int) := by omega
    rw [e]
    refine k2 i' (l' - 1) ⟨⟨by rw [crs_len]; exact h3, by omega⟩, ?_⟩
    rw [show l' - 1 + 1 = l' by omega]
    exact sk
end Zd

/-! Zk41c: the flooded rows. -/
namespace Zd
open PySem L2
local macro_rules | `(tactic| walk_at "zs") => `(tactic| simp only [SZ, Bool.not_true, Bool.not_false, eqv_ii, eqv_ss, eqv_bb, shp_i, shp_s, shp_b, shp_n, eq_self, Int.toNat_natCast, range_len, Itf, itb_t, itb_f, optP, opb_some, Cal, wLc, wLcH, wYes, decide_true, decide_false,  ex_lst, List.length_map, Nat.zero_le, Nat.reduceLeDiff, Nat.reduceAdd, wNext, wBreak, wCont, wAsg, wRet, wRetN, wDrop, wIfS, wAug, wPar, wSet, wAugS, fSet, fGet, wVar, wFrz, frzC, wC, wOp, wUn, res_fr, res_sc, res_hd, resO_frz, resO_lst, resO_ins, resO_dk, resO_dr, frs_map, fI, fIC, fAdd, fSub, fMul, fDiv, fMod, fPow, fShl, fShr, fAnd, fNeg, fLt, fLe, fGt, fGe, fEq, fNe, fIx,
  wSl, fSl, fSlH, wPart, wNoPart, wNil, wCons, wTup, wLst, wLstH, frs, Option.map_some, wTest, wNot, wAnd, wOr, wChain, wIf, wAndV, wOrV, wNotV, wIsN, wNotN, wCB, fLen, fInt, fAbs, fMax2, fMin2, fSum, fMinL, fMaxL, fAll, fAny, fTupleOf, fListOf, fListOfH, wIsi, wName, wGNil, wGCons, wGTup, wiSeq, itemsOf, wiR1, wiR2, wiZip, wiRev, wipeS,
  wBL, wBS, isLst, isStr, fAppend, fPopAt, fPop, fCountI, fExtend, wCall, tb_h, tb_k, tb_seth, tb_setk, tb_app, tb_len, t0_k, t0_setk, t0_app, t0_len, List.getElem?_cons_zero, List.getElem?_cons_succ, List.getElem?_nil, List.set_cons_zero, List.set_cons_succ, List.cons_append, List.nil_append, List.length_cons, List.length_nil, List.map_cons, List.map_nil, Nat.zero_add, if_true, if_false, Bool.false_eq_true, true_and, and_true,
  atI0, atI1, atI2, atI3, atI4, atI5, setI0, setI1, setI2, setI3, decide_eq_true_eq])
local macro_rules | `(tactic| walk_at "z1") => `(tactic| (refine seq1 ?_; try walk_at "zs"))
theorem t0_end {own r : Ts} {d : D} {Q : KC} (hc : Cl own) (k : Q (.fr d) own) : EndQ own.length Q (.fr d) (T0 own r) := by
  refine ⟨h0 own 0, Nat.le_refl _, (fun j hj => nomatch hj), ?_, ?_⟩
  · rw [t0_take]; exact hc
  · rw [t0_take]; exact k
theorem tb_t0 {pre post r : Ts} {m : MO} : Tb pre m post r = T0 pre (m :: (post ++ r)) := rfl
theorem tb_back {pre post : Ts} {m x : MO} : Tb pre m post [x] = Tb pre m (post ++ [x]) [] := by simp [Tb]
def usD (us : List Nat) : D := .list (us.map fun u : Nat => .int u)
/-- who is served, where all wait -/
def RunK (cs : List Nat) (i l : Nat) (us : List Nat) (i' l' : Nat) : Prop := ∀ t, AtK cs i l t → AtK cs i' l' (t + us.length) ∧ ∀ k, k ≤ us.length → ∀ p, p < cs.length → NK cs p (t + k) = NK cs p t + (us.take k).count p
def RowK (cs : List Nat) (m : Nat) (us : List Nat) : Prop := us.length = m ∧ ∃ i l t, AtK cs i l t ∧ ∀ k, k ≤ m → ∀ p, p < cs.length → NK cs p (t + k) = NK cs p t + (us.take k).count p
def BestK (cs : List Nat) (m p : Nat) (us : List Nat) : Prop := ∀ k, k ≤ m → (us.take k).count p = FK cs p k
theorem run_nil {cs : List Nat} {i l : Nat} : RunK cs i l [] i l := fun t h => ⟨h, fun k hk p _ => by
  have : k = 0 := Nat.le_zero.mp hk
  subst this
  simp⟩
theorem run_step {cs : List Nat} {i l i1 l1 i2 l2 : Nat} {us : List Nat} {ws : List Bool} (hall : ∀ q, q < cs.length → ws[q]? = some true) (r : RunK cs i l us i1 l1) (u : UnK cs ws i1 l1 i2 l2) : RunK cs i l (us ++ [i2]) i2 l2 := by
  intro t ht
  obtain ⟨h1, h2⟩ := r t ht
  obtain ⟨_, h3⟩ := u
  obtain ⟨t', _, h4, _, h5⟩ := h3 _ h1
  have e := h5 hall
  subst e
  refine ⟨?_, fun k hk p hp => ?_⟩
  · have := (at_serve (p := i2) h4 h4.1).1
    simpa [Nat.add_assoc] using this
  · by_cases hk2 : k ≤ us.length
    · rw [List.take_append_of_le_length hk2]
      exact h2 k hk2 p hp
    · have e : k = us.length + 1 := by simp at hk; omega
      subst e
      have h6 := (at_serve h4 hp).2
      have h7 := h2 us.length (Nat.le_refl _) p hp
      rw [List.take_length] at h7
      rw [← Nat.add_assoc, h6, h7, List.take_of_length_le (by simp), List.count_append, List.count_singleton]
      by_cases e : p = i2
      · subst e; simp; omega
      · rw [if_neg e, if_neg (by simpa using fun h => e h.symm)]
        rfl
theorem at_some {cs : List Nat} {i l : Nat} (hi : i < cs.length) (hl : l ≤ crK cs i) : ∃ t, AtK cs i l t := ⟨bsK cs i + crK cs i - l, hi, hl, 0, by omega⟩
theorem run_row {cs : List Nat} {i l i' l' m : Nat} {us : List Nat} (hi : i < cs.length) (hl : l ≤ crK cs i) (r : RunK cs i l us i' l') (hm : us.length = m) : RowK cs m us := by
  obtain ⟨t, ht⟩ := at_some hi hl
  subst hm
  exact ⟨rfl, i, l, t, ht, (r t ht).2⟩
theorem run_best {cs : List Nat} {i i' l' m : Nat} {us : List Nat} (hT : 0 < cs.sum) (hi : i < cs.length) (r : RunK cs i 0 us i' l') (hm : us.length = m) : BestK cs m i us := by
  obtain ⟨t, ht⟩ := at_some hi (Nat.zero_le _)
  subst hm
  intro k hk
  have h1 := (r t ht).2 k hk i hi
  have h2 := NK_end (u := k) hT ht
  omega
structure FC (ps : List PR) (m : Nat) : Prop where
  pos : 0 < ps.length
  many : ps.length ≤ 6
  one : ∀ q ∈ ps, 1 ≤ q.2
  four : ∀ q ∈ ps, q.2 ≤ 4
  hm : m ≤ 1000
structure FR (ps : List PR) (m : Nat) (rows : List (List Nat)) : Prop where
  row : ∀ us ∈ rows, RowK (crs ps) m us
  best : ∀ p, p < ps.length → ∃ us ∈ rows, BestK (crs ps) m p us
  len : rows.length ≤ 30
def f__law_flooded : FA := fun cs own Q => ∃ (ps : List PR) (m : Nat), cs = [.fr (prsD ps), .fr (.int m)] ∧ FC ps m ∧ ∀ rows, FR ps m rows → Q (.fr (.list (rows.map usD))) own
theorem flooded_use {own : Ts} {Q : Hd KC} {ps : List PR} {m : Nat} (h : FC ps m) (k : ∀ rows, FR ps m rows → Q.v (.fr (.list (rows.map usD))) own) : @CalB f__law_flooded [.fr (prsD ps), .fr (.int m)] own Q := ⟨ps, m, rfl, h, k⟩
def N__law_flooded : List Str := ["pairs", "many", "everyone", "found", "place", "left", "pair", "state", "unit"]
def w__law_flooded : WS := (wSeq (wAsg (wLc (wiSeq (wVar 0)) (wName 6) wYes (wC (.bool true)) [6]) (wName 2))
  (wSeq (wAsg (wLstH wNil) (wName 3))
  (wSeq (wFor (wiR1 (wCons (wCB fLen (wCons (wVar 0) wNil)) wNil)) (wName 4) (wFor (wiR1 (wCons (wOp fAdd (wOp fIx (wOp fIx (wVar 0) (wVar 4)) (wC (.int 1))) (wC (.int 1))) wNil)) (wName 5) (wSeq (wAsg (wLstH (wCons (wVar 4) (wCons (wVar 5) wNil))) (wName 7))
  (wDrop (wBL fAppend (wVar 3) (wCons (wLc (wiR1 (wCons (wVar 1) wNil)) (wName 8) wYes (wCall 3 f__law_unit (wCons (wVar 0) (wCons (wVar 7) (wCons (wVar 2) wNil)))) [8]) wNil))))))
  (wRet (wFrz (wVar 3))))))
theorem d__law_flooded : ∀ cs own Q, Cl own → cs.length = 2 → f__law_flooded cs own Q → w__law_flooded (enF own.length Q) (startS N__law_flooded cs) own := by
  rintro cs own Q hc _ ⟨ps, m, rfl, h, k⟩
  have hT := crs_sum_pos h.one h.pos
  have h6 := h.many
  have hm := h.hm
  have k2 : ∀ rows r, FR ps m rows → (enF own.length Q).rt (.fr (.list (rows.map usD))) (T0 own r) := fun rows r hr => t0_end hc (k rows hr)
  clear k
  generalize (enF own.length Q) = E at *
  show w__law_flooded E [some (.fr (prsD ps)), some (.fr (.int m)), none, none, none, none, none, none, none] own
  unfold w__law_flooded
  walk_at "z1"
  refine lc_map ps prD (fun _ => .bool true) own (by unfold prsD; walk_at "zs") (by unfold SZ; omega) (fun i q R S hq h => ?_) ?_
  · walk_at "zs"
    exact h
  have ew : (ps.map fun _ => PyData.bool true) = (ps.map fun _ => true).map PyData.bool := by simp
  have hall : ∀ q, q < (crs ps).length → (ps.map fun _ => true)[q]? = some true := fun q hq => by
    rw [crs_len] at hq
    rw [List.getElem?_map, List.getElem?_eq_getElem hq]
    rfl
  rw [ew]
  generalize hws : (ps.map fun _ => true) = ws at *
  have hwl : ws.length = ps.length := by rw [← hws, List.length_map]
  walk_at "zs"
  walk_at "z1"
  rw [show own ++ [MO.lst []] = Tb own (.lst []) [] [] by simp [Tb]]
  refine seq1 ?_
  refine for_inv (rangeD 0 ps.length) (Tb own (.lst []) [] []) (fun k ss o => ∃ (rows : List (List Nat)) (g : Ts) (z4 z5 z6 z7 z8 : Option C), o = Tb own (.lst ((rows.map usD).map C.fr)) g [] ∧ ss = [some (.fr (prsD ps)), some (.fr (.int m)), some (.fr (.list (ws.map .bool))), some (.hd own.length), z4, z5, z6, z7, z8] ∧ (∀ us ∈ rows, RowK (crs ps) m us) ∧ (∀ p, p < k → ∃ us ∈ rows, BestK (crs ps) m p us) ∧ rows.length ≤ 5 * k) ?_ ?_ ?_ ?_
  · unfold prsD
    walk_at "zs"
    exact ⟨by omega, by omega⟩
  · exact ⟨[], [], none, none, none, none, none, rfl, rfl, by simp, by omega, by simp⟩
  · rintro i d ss o hi ⟨rows, g, z4, z5, z6, z7, z8, rfl, rfl, r1, r2, r3⟩
    obtain ⟨hi2, rfl⟩ := range_get hi
    have hq := List.getElem?_eq_getElem hi2
    have hc4 := h.four _ (List.getElem_mem hi2)
    walk_at "zs"
    refine for_inv (rangeD 0 (ps[i].2 + 1)) (Tb own (.lst ((rows.map usD).map C.fr)) g []) (fun k ss o => ∃ (rows : List (List Nat)) (g : Ts) (z5 z6 z7 z8 : Option C), o = Tb own (.lst ((rows.map usD).map C.fr)) g [] ∧ ss = [some (.fr (prsD ps)), some (.fr (.int m)), some (.fr (.list (ws.map .bool))), some (.hd own.length), some (.fr (.int (0 + (i : Int)))), z5, z6, z7, z8] ∧ (∀ us ∈ rows, RowK (crs ps) m us) ∧ (∀ p, p < i ∨ p = i ∧ 1 ≤ k → ∃ us ∈ rows, BestK (crs ps) m p us) ∧ rows.length ≤ 5 * i + k) ?_ ?_ ?_ ?_
    · unfold prsD
      walk_at "zs"
      rw [Int.zero_add]
      refine opb_of (atI_nat (v := prD ps[i]) (by rw [List.getElem?_map, hq]; rfl)) ?_
      unfold prD
      walk_at "zs"
      refine ⟨⟨by omega, by omega⟩, ?_⟩
      congr 1
    · exact ⟨rows, g, z5, z6, z7, z8, rfl, rfl, r1, fun p hp => r2 p (by omega), by omega⟩
    · rintro j d ss o hj ⟨rows, g, z5, z6, z7, z8, rfl, rfl, r1, r2, r3⟩
      obtain ⟨hj2, rfl⟩ := range_get hj
      walk_at "zs"
      walk_at "z1"
      rw [Int.zero_add, Int.zero_add]
      have hci := crs_at hq
      have hic : i < (crs ps).length := by rw [crs_len]; exact hi2
      refine lc_inv (rangeD 0 m) (Tb own (.lst ((rows.map usD).map C.fr)) g [.lst [.fr (.int i), .fr (.int j)]]) (fun k acc o => ∃ (us : List Nat) (i' l' : Nat), o = Tb own (.lst ((rows.map usD).map C.fr)) g [.lst [.fr (.int i'), .fr (.int l')]] ∧ acc = (us.map fun u : Nat => PyData.int u).map C.fr ∧ us.length = k ∧ i' < ps.length ∧ l' ≤ crK (crs ps) i' ∧ RunK (crs ps) i j us i' l') ?_ ?_ ?_ ?_
      · walk_at "zs"
        exact ⟨by omega, by omega⟩
      · exact ⟨[], i, j, rfl, rfl, rfl, hi2, by rw [hci]; omega, run_nil⟩
      · rintro k d acc o hk ⟨us, i', l', rfl, rfl, ul, hi', hl', ru⟩
        obtain ⟨hk2, rfl⟩ := range_get hk
        walk_at "zs"
        refine unit_use (p := i') (by walk_at "zs") ⟨hwl, hi', hl', h.one, by omega, hall i' (by rw [crs_len]; exact hi')⟩ fun i2 l2 hu => ?_
        walk_at "zs"
        refine ⟨by omega, us ++ [i2], i2, l2, rfl, by simp, by simp [ul], by rw [← crs_len ps]; exact hu.1.1, by have := hu.1.2; omega, run_step hall ru hu⟩
      · rintro acc o ⟨us, i', l', rfl, rfl, ul, hi', hl', ru⟩
        rw [range_len] at ul
        unfold finL
        rw [frs_fr]
        walk_at "zs"
        rw [tb_back]
        refine ⟨by omega, rows ++ [us], _, _, _, _, _, by rw [List.map_append, List.map_append]; rfl, rfl, fun u hu => ?_, fun p hp => ?_, by simp; omega⟩
        · rcases List.mem_append.mp hu with hu | hu
          · exact r1 u hu
          · rw [List.mem_singleton.mp hu]
            exact run_row hic (by rw [hci]; omega) ru ul
        · rcases (show (p < i ∨ p = i ∧ 1 ≤ j) ∨ (p = i ∧ j = 0) by omega) with hp | ⟨rfl, rfl⟩
          · obtain ⟨u, hu, b⟩ := r2 p hp
            exact ⟨u, List.mem_append_left _ hu, b⟩
          · exact ⟨us, List.mem_append_right _ (List.mem_singleton.mpr rfl), run_best hT hic ru ul⟩
    · rintro ss o ⟨rows, g, z5, z6, z7, z8, rfl, rfl, r1, r2, r3⟩
      rw [range_len] at r2 r3
      walk_at "zs"
      exact ⟨rows, g, _, z5, z6, z7, z8, rfl, rfl, r1, fun p hp => r2 p (by omega), by omega⟩
  · rintro ss o ⟨rows, g, z4, z5, z6, z7, z8, rfl, rfl, r1, r2, r3⟩
    rw [range_len] at r2 r3
    walk_at "zs"
    rw [tb_t0]
    exact k2 rows _ ⟨r1, r2, by omega⟩
end Zd

/-! Zk41d: drawn waits. -/
namespace Zd
open PySem L2
local macro_rules | `(tactic| walk_at "zs") => `(tactic| simp only [SZ, Bool.not_true, Bool.not_false, eqv_ii, eqv_ss, eqv_bb, shp_i, shp_s, shp_b, shp_n, eq_self, Int.toNat_natCast, range_len, Itf, itb_t, itb_f, optP, opb_some, Cal, wLc, wLcH, wYes, decide_true, decide_false,  ex_lst, List.length_map, Nat.zero_le, Nat.reduceLeDiff, Nat.reduceAdd, wNext, wBreak, wCont, wAsg, wRet, wRetN, wDrop, wIfS, wAug, wPar, wSet, wAugS, fSet, fGet, wVar, wFrz, frzC, wC, wOp, wUn, res_fr, res_sc, res_hd, resO_frz, resO_lst, resO_ins, resO_dk, resO_dr, frs_map, fI, fIC, fAdd, fSub, fMul, fDiv, fMod, fPow, fShl, fShr, fAnd, fNeg, fLt, fLe, fGt, fGe, fEq, fNe, fIx,
  wSl, fSl, fSlH, wPart, wNoPart, wNil, wCons, wTup, wLst, wLstH, frs, Option.map_some, wTest, wNot, wAnd, wOr, wChain, wIf, wAndV, wOrV, wNotV, wIsN, wNotN, wCB, fLen, fInt, fAbs, fMax2, fMin2, fSum, fMinL, fMaxL, fAll, fAny, fTupleOf, fListOf, fListOfH, wIsi, wName, wGNil, wGCons, wGTup, wiSeq, itemsOf, wiR1, wiR2, wiZip, wiRev, wipeS,
  wBL, wBS, isLst, isStr, fAppend, fPopAt, fPop, fCountI, fExtend, wCall, tb_h, tb_k, tb_seth, tb_setk, tb_app, tb_len, t0_k, t0_setk, t0_app, t0_len, List.getElem?_cons_zero, List.getElem?_cons_succ, List.getElem?_nil, List.set_cons_zero, List.set_cons_succ, List.cons_append, List.nil_append, List.length_cons, List.length_nil, List.map_cons, List.map_nil, Nat.zero_add, if_true, if_false, Bool.false_eq_true, true_and, and_true,
  atI0, atI1, atI2, atI3, atI4, atI5, setI0, setI1, setI2, setI3, decide_eq_true_eq])
local macro_rules | `(tactic| walk_at "z1") => `(tactic| (refine seq1 ?_; try walk_at "zs"))
theorem dr_start {pre post : Ts} {x : Drw} {w : WS} {ss : Sl} {Q : KC} (hc : Cl (pre ++ drM x :: post))
    (h : ∀ E : En, (∀ d x' r, Q (.fr d) (pre ++ drM x' :: post) → E.rt (.fr d) (Tb pre (drM x') post r)) → w E ss (Tb pre (drM x) post [])) : w (enF (pre ++ drM x :: post).length Q) ss (pre ++ drM x :: post) := by
  have := h (enF (pre ++ drM x :: post).length Q) fun d x' r k => ho_end hc rfl k
  rw [tb_nil] at this
  exact this
def f__law_waits : FA := fun cs own Q => ∃ (pre post : Ts) (x : Drw) (many place mode : Nat), cs = [.hd pre.length, .fr (.int many), .fr (.int place), .fr (.int mode)] ∧ own = pre ++ drM x :: post ∧ many ≤ 1000 ∧ ∀ (ws : List Bool) x', ws.length = many → (place < many → ws[place]? = some true) → Q (.fr (.list (ws.map .bool))) (pre ++ drM x' :: post)
theorem waits_use {pre post r : Ts} {x : Drw} {Q : Hd KC} {many place mode : Nat} (h : many ≤ 1000) (k : ∀ (ws : List Bool) x', ws.length = many → (place < many → ws[place]? = some true) → Q.v (.fr (.list (ws.map .bool))) (Tb pre (drM x') post r)) : @CalB f__law_waits [.hd pre.length, .fr (.int many), .fr (.int place), .fr (.int mode)] (Tb pre (drM x) post r) Q := ⟨pre, post ++ r, x, many, place, mode, rfl, rfl, h, k⟩
def N__law_waits : List Str := ["d", "many", "place", "mode", "mask", "k"]
def w__law_waits : WS := (wSeq (wAsg (wIf (wTest (wOp fEq (wVar 3) (wC (.int 0)))) (wC (.int 63)) (wCall 2 f__law_draw (wCons (wVar 0) (wCons (wC (.int 64)) wNil)))) (wName 4))
  (wRet (wLc (wiR1 (wCons (wVar 1) wNil)) (wName 5) wYes (wOrV (wOp fEq (wVar 5) (wVar 2)) (wOp fEq (wOp fAnd (wOp fShr (wVar 4) (wVar 5)) (wC (.int 1))) (wC (.int 1)))) [5])))
theorem d__law_waits : ∀ cs own Q, Cl own → cs.length = 4 → f__law_waits cs own Q → w__law_waits (enF own.length Q) (startS N__law_waits cs) own := by
  rintro cs own Q hc _ ⟨pre, post, x, many, place, mode, rfl, rfl, hm, k⟩
  refine dr_start hc fun E hE => ?_
  replace hE := fun ws x' r h1 h2 => hE _ x' r (k ws x' h1 h2)
  clear k hc
  show w__law_waits E [some (.hd pre.length), some (.fr (.int many)), some (.fr (.int place)), some (.fr (.int mode)), none, none] _
  unfold w__law_waits
  refine seq_cut (fun ss o => ∃ (x : Drw) (mask : Int), o = Tb pre (drM x) post [] ∧ ss = [some (.hd pre.length), some (.fr (.int many)), some (.fr (.int place)), some (.fr (.int mode)), some (.fr (.int mask)), none]) ?_ ?_
  · walk_at "zs"
    refine itd' (fun h => ?_) (fun h => ?_)
    · walk_at "zs"
      exact ⟨x, 63, rfl, rfl⟩
    · walk_at "zs"
      refine draw_use (by decide) (by decide) fun v x' l1 l2 => ?_
      walk_at "zs"
      exact ⟨x', v, rfl, rfl⟩
  · rintro ss o ⟨x, mask, rfl, rfl⟩
    walk_at "zs"
    refine lc_map (List.range many) (fun k => .int (0 + (k : Nat))) (fun k => .bool (decide ((0 : Int) + (k : Nat) = (place : Int)) || decide (Builtin.bitAnd (mask / 2 ^ (0 + (k : Int)).toNat) 1 = 1))) (Tb pre (drM x) post []) ?_ (by rw [List.length_range]; unfold SZ; omega) (fun i a R S ha h => ?_) ?_
    · walk_at "zs"
      exact ⟨⟨by omega, by omega⟩, rfl⟩
    · walk_at "zs"
      refine itd' (fun h1 => ?_) (fun h1 => ?_)
      · walk_at "zs"
        rw [decide_eq_true h1] at h
        exact h
      · walk_at "zs"
        rw [decide_eq_false h1] at h
        exact ⟨by omega, h⟩
    · walk_at "zs"
      have := hE ((List.range many).map fun k : Nat => (decide ((0 : Int) + (k : Nat) = (place : Int)) || decide (Builtin.bitAnd (mask / 2 ^ (0 + (k : Int)).toNat) 1 = 1))) x [] (by simp) (fun hp => by
        rw [List.getElem?_map, List.getElem?_range hp]
        simp)
      rw [List.map_map] at this
      exact this
def f__law_drawn_units : FA := fun cs own Q => ∃ (pre post : Ts) (x : Drw) (ps : List PR) (place units : Nat), cs = [.hd pre.length, .fr (prsD ps), .fr (.int place), .fr (.int units)] ∧ own = pre ++ drM x :: post ∧ FC ps units ∧ place < ps.length ∧ ∀ (v : Nat) x', FK (crs ps) place units ≤ v → Q (.fr (.int v)) (pre ++ drM x' :: post)
theorem drawn_use {pre post r : Ts} {x : Drw} {Q : Hd KC} {ps : List PR} {place units : Nat} (h : FC ps units) (hp : place < ps.length) (k : ∀ (v : Nat) x', FK (crs ps) place units ≤ v → Q.v (.fr (.int v)) (Tb pre (drM x') post r)) : @CalB f__law_drawn_units [.hd pre.length, .fr (prsD ps), .fr (.int place), .fr (.int units)] (Tb pre (drM x) post r) Q := ⟨pre, post ++ r, x, ps, place, units, rfl, rfl, h, hp, k⟩
def N__law_drawn_units : List Str := ["d", "pairs", "place", "units", "start", "state", "mode", "found", "unit"]
def w__law_drawn_units : WS := (wSeq (wAsg (wCall 2 f__law_draw (wCons (wVar 0) (wCons (wCB fLen (wCons (wVar 1) wNil)) wNil))) (wName 4))
  (wSeq (wAsg (wLstH (wCons (wVar 4) (wCons (wCall 2 f__law_draw (wCons (wVar 0) (wCons (wOp fAdd (wOp fIx (wOp fIx (wVar 1) (wVar 4)) (wC (.int 1))) (wC (.int 1))) wNil))) wNil))) (wName 5))
  (wSeq (wAsg (wCall 2 f__law_draw (wCons (wVar 0) (wCons (wC (.int 2)) wNil))) (wName 6))
  (wSeq (wAsg (wC (.int 0)) (wName 7))
  (wSeq (wFor (wiR1 (wCons (wVar 3) wNil)) (wName 8) (wIfS (wTest (wOp fEq (wCall 3 f__law_unit (wCons (wVar 1) (wCons (wVar 5) (wCons (wCall 4 f__law_waits (wCons (wVar 0) (wCons (wCB fLen (wCons (wVar 1) wNil)) (wCons (wVar 2) (wCons (wVar 6) wNil))))) wNil)))) (wVar 2))) (wAug 7 (fI fun i j => .int (i + j)) (wC (.int 1))) wNext))
  (wRet (wVar 7)))))))
theorem d__law_drawn_units : ∀ cs own Q, Cl own → cs.length = 4 → f__law_drawn_units cs own Q → w__law_drawn_units (enF own.length Q) (startS N__law_drawn_units cs) own := by
  rintro cs own Q hc _ ⟨pre, post, x, ps, place, units, rfl, rfl, h, hp, k⟩
  have h1 := h.pos
  have h2 := h.many
  have h3 := h.hm
  have hT := crs_sum_pos h.one h.pos
  refine dr_start hc fun E hE => ?_
  replace hE := fun v x' r h1 => hE _ x' r (k v x' h1)
  clear k hc
  show w__law_drawn_units E [some (.hd pre.length), some (.fr (prsD ps)), some (.fr (.int place)), some (.fr (.int units)), none, none, none, none, none] _
  unfold w__law_drawn_units
  have lp : (ps.map prD).length = ps.length := List.length_map _
  unfold prsD
  walk_at "z1"
  refine draw_use (by omega) (by omega) fun v x' l1 l2 => ?_
  obtain ⟨i, rfl⟩ := Int.eq_ofNat_of_zero_le l1
  have hi : i < ps.length := by omega
  walk_at "zs"
  walk_at "z1"
  refine opb_of (atI_nat (v := prD ps[i]) (by rw [List.getElem?_map, List.getElem?_eq_getElem hi]; rfl)) ?_
  unfold prD
  have hc4 := h.four _ (List.getElem_mem hi)
  walk_at "zs"
  refine draw_use (by omega) (by omega) fun v x2 l1 l2 => ?_
  obtain ⟨l, rfl⟩ := Int.eq_ofNat_of_zero_le l1
  walk_at "zs"
  walk_at "z1"
  refine draw_use (by decide) (by decide) fun v x3 l3 l4 => ?_
  obtain ⟨mode, rfl⟩ := Int.eq_ofNat_of_zero_le l3
  walk_at "zs"
  walk_at "z1"
  have hci := crs_at (List.getElem?_eq_getElem hi)
  obtain ⟨t0, ht0⟩ := at_some (cs := crs ps) (i := i) (l := l) (by rw [crs_len]; exact hi) (by rw [hci]; omega)
  refine seq1 ?_
  refine for_inv (rangeD 0 units) (Tb pre (drM x3) post [.lst [.fr (.int i), .fr (.int l)]]) (fun k ss o => ∃ (x' : Drw) (i' l' c t : Nat) (z : Option C), o = Tb pre (drM x') post [.lst [.fr (.int i'), .fr (.int l')]] ∧ ss = [some (.hd pre.length), some (.fr (prsD ps)), some (.fr (.int place)), some (.fr (.int units)), some (.fr (.int i)), some (.hd (hb pre post 0)), some (.fr (.int mode)), some (.fr (.int c)), z] ∧ AtK (crs ps) i' l' t ∧ t0 + k ≤ t ∧ NK (crs ps) place t = NK (crs ps) place t0 + c) ?_ ?_ ?_ ?_
  · walk_at "zs"
    exact ⟨by omega, by omega⟩
  · exact ⟨x3, i, l, 0, t0, none, rfl, rfl, ht0, Nat.le_refl _, rfl⟩
  · rintro k d ss o hk ⟨x', i', l', c, t, z, rfl, rfl, ha, ht, hn⟩
    unfold prsD
    walk_at "zs"
    refine waits_use (by omega) fun ws x4 hw1 hw2 => ?_
    walk_at "zs"
    have hw3 := hw2 hp
    refine unit_use (ps := ps) (p := place) (i := i') (l := l') (by walk_at "zs") ⟨hw1, by rw [← crs_len ps]; exact ha.1, ha.2.1, h.one, by omega, hw3⟩ fun i2 l2 hu => ?_
    obtain ⟨_, hu⟩ := hu
    obtain ⟨t', g1, g2, g3, _⟩ := hu t ha
    have hpl : place < (crs ps).length := by rw [crs_len]; exact hp
    obtain ⟨g4, g5⟩ := at_serve g2 hpl
    rw [g3 place hpl hw3] at g5
    walk_at "zs"
    refine itd' (fun e => ?_) (fun e => ?_)
    · walk_at "zs"
      rw [if_pos (by omega)] at g5
      exact ⟨x4, i2, l2, c + 1, t' + 1, _, rfl, rfl, g4, by omega, by omega⟩
    · walk_at "zs"
      rw [if_neg (by omega)] at g5
      exact ⟨x4, i2, l2, c, t' + 1, _, rfl, rfl, g4, by omega, by omega⟩
  · rintro ss o ⟨x', i', l', c, t, z, rfl, rfl, ha, ht, hn⟩
    rw [range_len] at ht
    walk_at "zs"
    have hpl : place < (crs ps).length := by rw [crs_len]; exact hp
    have m1 := NK_low (t := t0) (u := units) hpl hT
    have m2 := NK_low (t := t0 + units) (u := t - (t0 + units)) hpl hT
    rw [show t0 + units + (t - (t0 + units)) = t by omega] at m2
    exact hE c x' _ (by omega)
end Zd

/-! Zk41e: the law k41. -/
namespace Zd
open PySem L2
local macro_rules | `(tactic| walk_at "zs") => `(tactic| simp only [SZ, Bool.not_true, Bool.not_false, eqv_ii, eqv_ss, eqv_bb, shp_i, shp_s, shp_b, shp_n, eq_self, Int.toNat_natCast, range_len, Itf, itb_t, itb_f, optP, opb_some, Cal, wLc, wLcH, wYes, decide_true, decide_false,  ex_lst, List.length_map, Nat.zero_le, Nat.reduceLeDiff, Nat.reduceAdd, wNext, wBreak, wCont, wAsg, wRet, wRetN, wDrop, wIfS, wAug, wPar, wSet, wAugS, fSet, fGet, wVar, wFrz, frzC, wC, wOp, wUn, res_fr, res_sc, res_hd, resO_frz, resO_lst, resO_ins, resO_dk, resO_dr, frs_map, fI, fIC, fAdd, fSub, fMul, fDiv, fMod, fPow, fShl, fShr, fAnd, fNeg, fLt, fLe, fGt, fGe, fEq, fNe, fIx,
  wSl, fSl, fSlH, wPart, wNoPart, wNil, wCons, wTup, wLst, wLstH, frs, Option.map_some, wTest, wNot, wAnd, wOr, wChain, wIf, wAndV, wOrV, wNotV, wIsN, wNotN, wCB, fLen, fInt, fAbs, fMax2, fMin2, fSum, fMinL, fMaxL, fAll, fAny, fTupleOf, fListOf, fListOfH, wIsi, wName, wGNil, wGCons, wGTup, wiSeq, itemsOf, wiR1, wiR2, wiZip, wiRev, wipeS,
  wBL, wBS, isLst, isStr, fAppend, fPopAt, fPop, fCountI, fExtend, wCall, tb_h, tb_k, tb_seth, tb_setk, tb_app, tb_len, t0_k, t0_setk, t0_app, t0_len, List.getElem?_cons_zero, List.getElem?_cons_succ, List.getElem?_nil, List.set_cons_zero, List.set_cons_succ, List.cons_append, List.nil_append, List.length_cons, List.length_nil, List.map_cons, List.map_nil, Nat.zero_add, if_true, if_false, Bool.false_eq_true, true_and, and_true,
  atI0, atI1, atI2, atI3, atI4, atI5, setI0, setI1, setI2, setI3, decide_eq_true_eq])
local macro_rules | `(tactic| walk_at "z1") => `(tactic| (refine seq1 ?_; try walk_at "zs"))
theorem range_get0 {i n : Nat} {d : D} (h : (rangeD 0 n)[i]? = some d) : i < n ∧ d = .int i := by
  obtain ⟨h1, h2⟩ := range_get h
  rw [Int.zero_add] at h2
  exact ⟨h1, h2⟩
theorem count_cast (p : Nat) : ∀ us : List Nat, ((us.map fun u : Nat => (u : Int)).count (p : Int)) = us.count p
  | [] => rfl
  | u :: us => by
    rw [List.map_cons, List.count_cons, List.count_cons, count_cast p us]
    congr 1
    by_cases h : u = p
    · subst h; simp
    · have : ¬ ((u : Int) = (p : Int)) := by omega
      simp [h, this]
theorem due_eq {ps : List PR} {m u p : Nat} {rows : List (List Nat)} (hT : 0 < (crs ps).sum) (h : FR ps m rows) (hu : u ≤ m) (hp : p < ps.length) : minI (rows.map fun us => (((us.take u).count p : Nat) : Int)) = (FK (crs ps) p u : Nat) := by
  refine minI_eq ?_ ?_
  · obtain ⟨us, hus, hb⟩ := h.best p hp
    exact List.mem_map.mpr ⟨us, hus, by rw [hb u hu]⟩
  · intro y hy
    obtain ⟨us, hus, rfl⟩ := List.mem_map.mp hy
    obtain ⟨_, i, l, t, ha, hr⟩ := h.row us hus
    have hpl : p < (crs ps).length := by rw [crs_len]; exact hp
    have h1 := hr u hu p hpl
    have h2 := NK_low (t := t) (u := u) hpl hT
    omega
theorem rows_ne {ps : List PR} {m : Nat} {rows : List (List Nat)} (h : FR ps m rows) (hn : 0 < ps.length) : rows ≠ [] := by
  obtain ⟨us, hus, _⟩ := h.best 0 hn
  intro e
  rw [e] at hus
  cases hus
theorem own_at {ps : List PR} {p : Nat} {q : PR} (hd : (ps.map (·.1)).Nodup) (h : ps[p]? = some q) : ownC ps q.1 = q.2 := by
  unfold ownC crs
  induction ps generalizing p with
  | nil => simp at h
  | cons a ps ih =>
    rw [List.map_cons, List.nodup_cons] at hd
    rw [List.filter_cons]
    cases p with
    | zero =>
      simp at h
      subst h
      rw [if_pos (by simp)]
      have : ps.filter (fun q => decide (q.1 = a.1)) = [] := by
        rw [List.filter_eq_nil_iff]
        intro b hb e
        exact hd.1 (List.mem_map.mpr ⟨b, hb, of_decide_eq_true e⟩)
      rw [this]
      simp
    | succ p =>
      simp at h
      have : ¬ (a.1 = q.1) := fun e => hd.1 (List.mem_map.mpr ⟨q, List.mem_of_getElem? h, e.symm⟩)
      rw [if_neg (by simpa using this)]
      exact ih hd.2 h
theorem share_at {ps : List PR} {p u : Nat} {q : PR} (hd : (ps.map (·.1)).Nodup) (h : ps[p]? = some q) : shareF ps q.1 u = FK (crs ps) p u := by
  unfold shareF FK
  rw [own_at hd h, crs_at h]
theorem own_perm {ps qs : List PR} (h : qs.Perm ps) (nm : Str) : ownC qs nm = ownC ps nm := ((h.filter _).map _).sum_nat
theorem share_perm {ps qs : List PR} (h : qs.Perm ps) (nm : Str) (u : Nat) : shareF qs nm u = shareF ps nm u := by
  unfold shareF
  rw [own_perm h, show (crs qs).sum = (crs ps).sum from (h.map _).sum_nat]
theorem all2_fst {zs : List Str} {ps : List PR} {R : Str → PR → Prop} (h : All2 R zs ps) (hR : ∀ z q, R z q → q.1 = z) : ps.map (·.1) = zs := by
  apply List.ext_getElem?
  intro j
  rw [List.getElem?_map]
  by_cases hj : j < ps.length
  · have hj2 : j < zs.length := by rw [← h.1]; exact hj
    have e1 := List.getElem?_eq_getElem hj
    have e2 := List.getElem?_eq_getElem hj2
    rw [e1, e2]
    exact congrArg some (hR _ _ (h.2 j _ _ e2 e1))
  · rw [List.getElem?_eq_none (by omega), List.getElem?_eq_none (by rw [← h.1]; omega)]
    rfl
theorem crs_le {ps : List PR} (h : ∀ q ∈ ps, q.2 ≤ 4) : (crs ps).sum ≤ 4 * ps.length := by
  unfold crs
  induction ps with
  | nil => simp
  | cons a ps ih =>
    rw [List.map_cons, List.sum_cons, List.length_cons]
    have := h a (List.mem_cons_self ..)
    have := ih fun q hq => h q (List.mem_cons_of_mem _ hq)
    omega
def N_law : List Str := ["script", "d", "many", "names", "pairs", "units", "rows", "mixed", "place", "few", "due", "more", "name", "row"]
def w_law : WS := (wSeq (wAsg (wCall 1 f__law_begin (wCons (wVar 0) wNil)) (wName 1))
  (wSeq (wAsg (wIf (wTest (wCall 2 f__law_rare (wCons (wVar 1) (wCons (wC (.int 7)) wNil)))) (wC (.int 6)) (wOp fAdd (wC (.int 1)) (wCall 2 f__law_draw (wCons (wVar 1) (wCons (wC (.int 4)) wNil))))) (wName 2))
  (wSeq (wAsg (wCall 2 f__law_names (wCons (wVar 1) (wCons (wVar 2) wNil))) (wName 3))
  (wSeq (wAsg (wCB fTupleOf (wCons (wLc (wiSeq (wVar 3)) (wName 12) wYes (wTup (wCons (wVar 12) (wCons (wOp fAdd (wC (.int 1)) (wCall 2 f__law_draw (wCons (wVar 1) (wCons (wC (.int 4)) wNil)))) wNil))) [12]) wNil)) (wName 4))
  (wSeq (wAsg (wCall 2 f__law_draw (wCons (wVar 1) (wCons (wC (.int 61)) wNil))) (wName 5))
  (wSeq (wIfS (wTest (wCall 2 f__law_rare (wCons (wVar 1) (wCons (wC (.int 13)) wNil)))) (wAsg (wOp fAdd (wC (.int 61)) (wCall 2 f__law_draw (wCons (wVar 1) (wCons (wC (.int 840)) wNil)))) (wName 5)) wNext)
  (wSeq (wAsg (wCall 2 f__law_flooded (wCons (wVar 4) (wCons (wOp fAdd (wVar 5) (wC (.int 1))) wNil))) (wName 6))
  (wSeq (wAsg (wCB fTupleOf (wCons (wCall 2 f__law_shuffled (wCons (wVar 1) (wCons (wVar 4) wNil))) wNil)) (wName 7))
  (wSeq (wFor (wiR1 (wCons (wVar 2) wNil)) (wName 8) (wSeq (wAsg (wCB fMinL (wCons (wLc (wiSeq (wVar 6)) (wName 13) wYes (wBL fCountI (wSl fSl (wVar 13) wNoPart (wPart (wVar 5))) (wCons (wVar 8) wNil)) [13]) wNil)) (wName 10))
  (wSeq (wIfS (wNot (wTest (wCall 2 f__law_is_share (wCons (wCall 3 f_turn_share (wCons (wVar 4) (wCons (wOp fIx (wVar 3) (wVar 8)) (wCons (wVar 5) wNil)))) (wCons (wVar 10) wNil))))) (wRet (wC (.bool false))) wNext)
  (wSeq (wAsg (wCB fMinL (wCons (wLc (wiSeq (wVar 6)) (wName 13) wYes (wBL fCountI (wVar 13) (wCons (wVar 8) wNil)) [13]) wNil)) (wName 11))
  (wSeq (wIfS (wNot (wTest (wCall 2 f__law_is_share (wCons (wCall 3 f_turn_share (wCons (wVar 4) (wCons (wOp fIx (wVar 3) (wVar 8)) (wCons (wOp fAdd (wVar 5) (wC (.int 1))) wNil)))) (wCons (wVar 11) wNil))))) (wRet (wC (.bool false))) wNext)
  (wIfS (wNot (wTest (wCall 2 f__law_is_share (wCons (wCall 3 f_turn_share (wCons (wVar 7) (wCons (wOp fIx (wVar 3) (wVar 8)) (wCons (wVar 5) wNil)))) (wCons (wVar 10) wNil))))) (wRet (wC (.bool false))) wNext))))))
  (wSeq (wAsg (wCall 2 f__law_draw (wCons (wVar 1) (wCons (wVar 2) wNil))) (wName 8))
  (wSeq (wAsg (wCB fMin2 (wCons (wC (.int 60)) (wCons (wVar 5) wNil))) (wName 9))
  (wSeq (wAsg (wCB fMinL (wCons (wLc (wiSeq (wVar 6)) (wName 13) wYes (wBL fCountI (wSl fSl (wVar 13) wNoPart (wPart (wVar 9))) (wCons (wVar 8) wNil)) [13]) wNil)) (wName 10))
  (wSeq (wIfS (wNot (wTest (wCall 2 f__law_is_share (wCons (wCall 3 f_turn_share (wCons (wVar 4) (wCons (wOp fIx (wVar 3) (wVar 8)) (wCons (wVar 9) wNil)))) (wCons (wVar 10) wNil))))) (wRet (wC (.bool false))) wNext)
  (wRet (wOp fGe (wCall 4 f__law_drawn_units (wCons (wVar 1) (wCons (wVar 4) (wCons (wVar 8) (wCons (wVar 9) wNil))))) (wVar 10))))))))))))))))
theorem d_law : ∀ cs own Q, Cl own → cs.length = 1 → f_law cs own Q → w_law (enF own.length Q) (startS N_law cs) own := by
  refine law_body fun E ns hns hE => ?_
  show w_law E [some (.sc ns), none, none, none, none, none, none, none, none, none, none, none, none, none] []
  unfold w_law
  walk_at "z1"
  refine begin_use fun pre x => ?_
  walk_at "zs"
  refine seq_cut (fun ss o => ∃ (x : Drw) (many : Nat), o = Tb pre (drM x) [] [] ∧ ss = [some (.sc ns), some (.hd pre.length), some (.fr (.int many)), none, none, none, none, none, none, none, none, none, none, none] ∧ 1 ≤ many ∧ many ≤ 6) ?_ ?_
  · walk_at "zs"
    refine rare_use (by decide) (by decide) fun b x' => ?_
    walk_at "zs"
    refine itb (fun h => ?_) (fun h => ?_)
    · walk_at "zs"
      exact ⟨x', 6, rfl, rfl, by omega, by omega⟩
    · walk_at "zs"
      refine draw_use (by decide) (by decide) fun v x2 l1 l2 => ?_
      obtain ⟨i, rfl⟩ := Int.eq_ofNat_of_zero_le l1
      walk_at "zs"
      exact ⟨x2, 1 + i, rfl, rfl, by omega, by omega⟩
  rintro ss o ⟨x, many, rfl, rfl, m1, m2⟩
  walk_at "z1"
  refine names_use (by omega) fun zs x hz1 hz2 hz3 => ?_
  walk_at "zs"
  walk_at "z1"
  refine lc_dr zs .str prD (fun nm q => q.1 = nm ∧ 1 ≤ q.2 ∧ q.2 ≤ 4) pre [] [] x (by walk_at "zs") (by unfold SZ; omega) (fun i z x' T S hz hT => ?_) fun ps x hps => ?_
  · walk_at "zs"
    refine draw_use (by decide) (by decide) fun v x2 l1 l2 => ?_
    obtain ⟨i, rfl⟩ := Int.eq_ofNat_of_zero_le l1
    walk_at "zs"
    exact hT (z, 1 + i) x2 ⟨rfl, by omega, by omega⟩
  walk_at "zs"
  have hfst := all2_fst hps fun z q h => h.1
  have hpl : ps.length = many := by rw [← hz1, ← hfst, List.length_map]
  have hone : ∀ q ∈ ps, 1 ≤ q.2 := fun q hq => (hps.at hq).elim fun z h => h.2.2.1
  have hfour : ∀ q ∈ ps, q.2 ≤ 4 := fun q hq => (hps.at hq).elim fun z h => h.2.2.2
  have hok : ∀ q ∈ ps, PyData.strOk q.1 = true := fun q hq => (hps.at hq).elim fun z h => h.2.1 ▸ nm_ok (hz3 z h.1)
  have hnd : (ps.map (·.1)).Nodup := hfst ▸ hz2
  have hT := crs_sum_pos hone (by omega)
  have hT2 := crs_le hfour
  walk_at "z1"
  refine draw_use (by decide) (by decide) fun v x l1 l2 => ?_
  obtain ⟨u0, rfl⟩ := Int.eq_ofNat_of_zero_le l1
  walk_at "zs"
  refine seq_cut (fun ss o => ∃ (x : Drw) (units : Nat), o = Tb pre (drM x) [] [] ∧ ss = [some (.sc ns), some (.hd pre.length), some (.fr (.int many)), some (.fr (.list (zs.map .str))), some (.fr (prsD ps)), some (.fr (.int units)), none, none, none, none, none, none, none, none] ∧ units ≤ 900) ?_ ?_
  · walk_at "zs"
    refine rare_use (by decide) (by decide) fun b x' => ?_
    walk_at "zs"
    refine itb (fun h => ?_) (fun h => ?_)
    · walk_at "zs"
      refine draw_use (by decide) (by decide) fun v x2 l1 l2 => ?_
      obtain ⟨i, rfl⟩ := Int.eq_ofNat_of_zero_le l1
      walk_at "zs"
      exact ⟨x2, 61 + i, rfl, rfl, by omega⟩
    · walk_at "zs"
      exact ⟨x', u0, rfl, rfl, by omega⟩
  rintro ss o ⟨x, units, rfl, rfl, hun⟩
  walk_at "z1"
  refine flooded_use (ps := ps) (m := units + 1) ⟨by omega, by omega, hone, hfour, by omega⟩ fun rows hrows => ?_
  walk_at "zs"
  walk_at "z1"
  refine shuffled_useT (by rw [List.length_map]; unfold SZ; omega) fun es x hes => ?_
  obtain ⟨qs, rfl, hqs⟩ := perm_map_inv hes
  walk_at "zs"
  have hql : qs.length = many := hqs.length_eq.trans hpl
  have hrl := hrows.len
  have hrne := rows_ne hrows (by omega)
  have hqok : ∀ q ∈ qs, PyData.strOk q.1 = true := fun q hq => hok q (hqs.mem_iff.mp hq)
  have hqT : (crs qs).sum = (crs ps).sum := (hqs.map _).sum_nat
  have hzat : ∀ p : Nat, p < many → ∃ q, ps[p]? = some q ∧ zs[p]? = some q.1 := fun p hp => by
    have hp2 : p < ps.length := by omega
    refine ⟨ps[p], List.getElem?_eq_getElem hp2, ?_⟩
    rw [← hfst, List.getElem?_map, List.getElem?_eq_getElem hp2]
    rfl
  have hlen : ∀ us ∈ rows, us.length = units + 1 := fun us h => (hrows.row us h).1
  refine seq_cut (fun ss o => ∃ (z8 z10 z11 z13 : Option C), o = Tb pre (drM x) [] [] ∧ ss = [some (.sc ns), some (.hd pre.length), some (.fr (.int many)), some (.fr (.list (zs.map .str))), some (.fr (prsD ps)), some (.fr (.int units)), some (.fr (.list (rows.map usD))), some (.fr (prsD qs)), z8, none, z10, z11, none, z13]) ?_ ?_
  · refine for_inv (rangeD 0 many) (Tb pre (drM x) [] []) (fun k ss o => ∃ (z8 z10 z11 z13 : Option C), o = Tb pre (drM x) [] [] ∧ ss = [some (.sc ns), some (.hd pre.length), some (.fr (.int many)), some (.fr (.list (zs.map .str))), some (.fr (prsD ps)), some (.fr (.int units)), some (.fr (.list (rows.map usD))), some (.fr (prsD qs)), z8, none, z10, z11, none, z13]) ?_ ?_ ?_ ?_
    · walk_at "zs"
      exact ⟨by omega, by omega⟩
    · exact ⟨none, none, none, none, rfl, rfl⟩
    · rintro i d ss o hi ⟨z8, z10, z11, z13, rfl, rfl⟩
      obtain ⟨hi2, rfl⟩ := range_get0 hi
      obtain ⟨q, hq1, hq2⟩ := hzat i hi2
      have hqm := List.mem_of_getElem? hq1
      walk_at "zs"
      walk_at "z1"
      refine lc_map rows usD (fun us => .int (((us.take units).count i : Nat) : Int)) (Tb pre (drM x) [] []) (by walk_at "zs") (by unfold SZ; omega) (fun j us R S hj h => ?_) ?_
      · unfold usD
        walk_at "zs"
        rw [cutD_map, cutD_to, intsD_map fun u : Nat => (u : Int)]
        walk_at "zs"
        rw [count_cast]
        exact h
      walk_at "zs"
      rw [intsD_map fun us : List Nat => (((us.take units).count i : Nat) : Int)]
      walk_at "zs"
      rw [due_eq hT hrows (by omega) (by omega)]
      refine ⟨by simpa using hrne, ?_⟩
      walk_at "z1"
      refine opb_of (atI_nat (v := PyData.str q.1) (by rw [List.getElem?_map, hq2]; rfl)) ?_
      walk_at "zs"
      refine share_use (by unfold SZ; omega) hok (hok q hqm) hT (by omega) ?_
      walk_at "zs"
      refine isshare_use (by rw [share_at hnd hq1]) ?_
      walk_at "zs"
      walk_at "z1"
      refine lc_map rows usD (fun us => .int ((us.count i : Nat) : Int)) (Tb pre (drM x) [] []) (by walk_at "zs") (by unfold SZ; omega) (fun j us R S hj h => ?_) ?_
      · unfold usD
        walk_at "zs"
        rw [intsD_map fun u : Nat => (u : Int)]
        walk_at "zs"
        rw [count_cast]
        exact h
      walk_at "zs"
      rw [intsD_map fun us : List Nat => ((us.count i : Nat) : Int)]
      have e2 : (rows.map fun us : List Nat => ((us.count i : Nat) : Int)) = rows.map fun us => (((us.take (units + 1)).count i : Nat) : Int) :=
        List.map_congr_left fun us hus => by rw [List.take_of_length_le (by rw [hlen us hus]; exact Nat.le_refl _)]
      rw [e2]
      walk_at "zs"
      rw [due_eq hT hrows (by omega) (by omega)]
      refine ⟨by simpa using hrne, ?_⟩
      walk_at "z1"
      refine opb_of (atI_nat (v := PyData.str q.1) (by rw [List.getElem?_map, hq2]; rfl)) ?_
      walk_at "zs"
      refine share_use (u := units + 1) (by unfold SZ; omega) hok (hok q hqm) hT (by omega) ?_
      walk_at "zs"
      refine isshare_use (by rw [share_at hnd hq1]) ?_
      walk_at "zs"
      refine opb_of (atI_nat (v := PyData.str q.1) (by rw [List.getElem?_map, hq2]; rfl)) ?_
      walk_at "zs"
      refine share_use (by unfold SZ; omega) hqok (hok q hqm) (by omega) (by omega) ?_
      walk_at "zs"
      refine isshare_use (by rw [share_perm hqs, share_at hnd hq1]) ?_
      walk_at "zs"
      exact ⟨_, _, _, _, rfl⟩
    · rintro ss o ⟨z8, z10, z11, z13, rfl, rfl⟩
      exact ⟨_, _, _, _, rfl, rfl⟩
  · rintro ss o ⟨z8, z10, z11, z13, rfl, rfl⟩
    walk_at "z1"
    refine draw_use (by omega) (by omega) fun v x l1 l2 => ?_
    obtain ⟨i, rfl⟩ := Int.eq_ofNat_of_zero_le l1
    have hi2 : i < many := by omega
    obtain ⟨q, hq1, hq2⟩ := hzat i hi2
    have hqm := List.mem_of_getElem? hq1
    walk_at "zs"
    walk_at "z1"
    obtain ⟨few, hfew, hf2⟩ : ∃ few : Nat, (if (units : Int) < 60 then (units : Int) else 60) = few ∧ few ≤ units ∧ few ≤ 60 := by
      by_cases h : units < 60
      · exact ⟨units, by rw [if_pos (by omega)], by omega, by omega⟩
      · exact ⟨60, by rw [if_neg (by omega)]; rfl, by omega, by omega⟩
    rw [hfew]
    walk_at "z1"
    refine lc_map rows usD (fun us => .int (((us.take few).count i : Nat) : Int)) (Tb pre (drM x) [] []) (by walk_at "zs") (by unfold SZ; omega) (fun j us R S hj h => ?_) ?_
    · unfold usD
      walk_at "zs"
      rw [cutD_map, cutD_to, intsD_map fun u : Nat => (u : Int)]
      walk_at "zs"
      rw [count_cast]
      exact h
    walk_at "zs"
    rw [intsD_map fun us : List Nat => (((us.take few).count i : Nat) : Int)]
    walk_at "zs"
    rw [due_eq hT hrows (by omega) (by omega)]
    refine ⟨by simpa using hrne, ?_⟩
    walk_at "z1"
    refine opb_of (atI_nat (v := PyData.str q.1) (by rw [List.getElem?_map, hq2]; rfl)) ?_
    walk_at "zs"
    refine share_use (by unfold SZ; omega) hok (hok q hqm) hT (by omega) ?_
    walk_at "zs"
    refine isshare_use (by rw [share_at hnd hq1]) ?_
    walk_at "zs"
    refine drawn_use (ps := ps) (place := i) (units := few) ⟨by omega, by omega, hone, hfour, by omega⟩ (by omega) fun v x' hv => ?_
    walk_at "zs"
    rw [decide_eq_true (by omega)]
    exact hE _
end Zd

namespace Zd
open PySem PySem.Spec PyProof.Rows L2 RZ RT
def top (i : Nat) : Stmt := PySem.Challenge.pw_stationdues_k41_turn_shares.main.body.getD i (.Pass ⟨0, 0, 0, 0⟩)

section
variable {P : Program} {w : World} {K : PySem.W.Frag} {mg : Str → Option Value} {base : Heap}
abbrev s_own_credit : Stmt := top 1
theorem sc_own_credit : FnScope N_own_credit ["credits", "name"] (defScope s_own_credit) := ⟨rfl, rfl, rfl, by decide +kernel, rfl, by decide +kernel, by decide +kernel⟩
theorem ax_own_credit {a : Addr} (F : ∃ fd, FunD K "own_credit" "own_credit" (defArgs s_own_credit) (defBody s_own_credit) (defScope s_own_credit) [] [] a fd) (hm : mg "own_credit" = some (.ref a)) (m_sum : mg "sum" = none) : Dk P w K mg base 1 "own_credit" ["credits", "name"] f_own_credit := by
  exact dk_of (wv := w_own_credit) F hm sc_own_credit (fun _ _ _ _ _ _ us hl => match us, hl with | [_, _], _ => rfl) (fun cdv A outer s H E hr => (ass_one (as_ret (ae_cb br_sum m_sum (aa_cons (ae_lc (own := [("one", 2), ("credit", 3)]) (js := [2, 3]) (ai_seq (ae_var 0)) sc_own_credit.nd (blkOk_by (N := N_own_credit) (sc := defScope s_own_credit) (by decide +kernel)) (fun _ _ _ _ _ => (ag_tup (n := 2) (ags_cons (ag_name 2 sc_own_credit.nd) (ags_cons (ag_name 3 sc_own_credit.nd) ags_nil)))) (fun _ _ _ _ _ => (ats_one (at_cmp (co_eq hr) (ae_var 2) (ae_var 1)))) (fun _ _ _ _ _ => (ae_var 3))) aa_nil))))) d_own_credit
abbrev s_turn_share : Stmt := top 2
theorem sc_turn_share : FnScope N_turn_share ["credits", "name", "units"] (defScope s_turn_share) := ⟨rfl, rfl, rfl, by decide +kernel, rfl, by decide +kernel, by decide +kernel⟩
theorem ax_turn_share {a : Addr} (F : ∃ fd, FunD K "turn_share" "turn_share" (defArgs s_turn_share) (defBody s_turn_share) (defScope s_turn_share) [] [] a fd) (hm : mg "turn_share" = some (.ref a)) (m_sum : mg "sum" = none) (m_max : mg "max" = none) (h_own_credit : Dk P w K mg base 1 "own_credit" ["credits", "name"] f_own_credit) : Dk P w K mg base 2 "turn_share" ["credits", "name", "units"] f_turn_share := by
  exact dk_of (wv := w_turn_share) F hm sc_turn_share (fun _ _ _ _ _ _ us hl => match us, hl with | [_, _, _], _ => rfl) (fun cdv A outer s H E hr => (ass_cons (as_set 3 sc_turn_share.nd (ae_call h_own_credit hr (aa_cons (ae_var 0) (aa_cons (ae_var 1) aa_nil))))
    (ass_cons (as_set 4 sc_turn_share.nd (ae_sub (ae_cb br_sum m_sum (aa_cons (ae_lc (own := [("one", 5), ("credit", 6)]) (js := [5, 6]) (ai_seq (ae_var 0)) sc_turn_share.nd (blkOk_by (N := N_turn_share) (sc := defScope s_turn_share) (by decide +kernel)) (fun _ _ _ _ _ => (ag_tup (n := 2) (ags_cons (ag_name 5 sc_turn_share.nd) (ags_cons (ag_name 6 sc_turn_share.nd) ags_nil)))) (fun _ _ _ _ _ => ats_nil) (fun _ _ _ _ _ => (ae_var 6))) aa_nil)) (ae_var 3)))
    (ass_one (as_ret (ae_add (ae_mul (ae_div (ae_var 2) (ae_add (ae_var 3) (ae_var 4))) (ae_var 3)) (ae_cb br_max2 m_max (aa_cons ae_int (aa_cons (ae_sub (ae_mod (ae_var 2) (ae_add (ae_var 3) (ae_var 4))) (ae_var 4)) aa_nil))))))))) d_turn_share
abbrev s__law_begin : Stmt := top 4
theorem sc__law_begin : FnScope N__law_begin ["script"] (defScope s__law_begin) := ⟨rfl, rfl, rfl, by decide +kernel, rfl, by decide +kernel, by decide +kernel⟩
theorem ax__law_begin {a : Addr} (F : ∃ fd, FunD K "_law_begin" "_law_begin" (defArgs s__law_begin) (defBody s__law_begin) (defScope s__law_begin) [] [] a fd) (hm : mg "_law_begin" = some (.ref a)) (m_int : mg "int" = none) : Dk P w K mg base 1 "_law_begin" ["script"] f__law_begin := by
  exact dk_of (wv := w__law_begin) F hm sc__law_begin (fun _ _ _ _ _ _ us hl => match us, hl with | [_], _ => rfl) (fun cdv A outer s H E hr => (ass_one (as_ret (ae_lstH (aa_cons (ae_lc (own := [("cell", 1)]) (js := [1]) (ai_seq (ae_sl (ae_var 0) ao_none (ao_some ae_int))) sc__law_begin.nd (blkOk_by (N := N__law_begin) (sc := defScope s__law_begin) (by decide +kernel)) (fun _ _ _ _ _ => (ag_name 1 sc__law_begin.nd)) (fun _ _ _ _ _ => ats_nil) (fun _ _ _ _ _ => (ae_ct br_int m_int (aa_cons (ae_var 1) aa_nil)))) (aa_cons ae_int (aa_cons ae_int (aa_cons ae_int aa_nil)))))))) d__law_begin
abbrev s__law_draw : Stmt := top 5
theorem sc__law_draw : FnScope N__law_draw ["d", "many"] (defScope s__law_draw) := ⟨rfl, rfl, rfl, by decide +kernel, rfl, by decide +kernel, by decide +kernel⟩
theorem ax__law_draw {a : Addr} (F : ∃ fd, FunD K "_law_draw" "_law_draw" (defArgs s__law_draw) (defBody s__law_draw) (defScope s__law_draw) [] [] a fd) (hm : mg "_law_draw" = some (.ref a)) (m_len : mg "len" = none) (m_int : mg "int" = none) (m_abs : mg "abs" = none) : Dk P w K mg base 1 "_law_draw" ["d", "many"] f__law_draw := by
  exact dk_of (wv := w__law_draw) F hm sc__law_draw (fun _ _ _ _ _ _ us hl => match us, hl with | [_, _], _ => rfl) (fun cdv A outer s H E hr => (ass_cons (as_if (at_cmp co_gt (ae_ix (ae_var 0) ae_int) ae_int) (ass_cons (as_set 3 sc__law_draw.nd (ae_ix (ae_var 0) ae_int))
    (ass_cons (as_asg (ae_div (ae_var 3) (ae_var 1)) (ag_set (ae_var 0) ae_int))
    (ass_one (as_ret (ae_mod (ae_ct br_int m_int (aa_cons (ae_var 3) aa_nil)) (ae_var 1)))))) ass_nil)
    (ass_cons (as_set 2 sc__law_draw.nd ae_int)
    (ass_cons (as_if (at_cmp co_lt (ae_ix (ae_var 0) ae_int) (ae_cb br_len m_len (aa_cons (ae_ix (ae_var 0) ae_int) aa_nil))) (ass_cons (as_set 4 sc__law_draw.nd (ae_ix (ae_ix (ae_var 0) ae_int) (ae_ix (ae_var 0) ae_int)))
    (ass_one (as_set 2 sc__law_draw.nd (ae_add (ae_mul ae_int (ae_cb br_abs m_abs (aa_cons (ae_var 4) aa_nil))) (ae_ct br_int m_int (aa_cons (ae_cmp co_lt (ae_var 4) ae_int) aa_nil)))))) ass_nil)
    (ass_cons (as_augS io_add (ae_var 0) ae_int ae_int)
    (ass_cons (as_if (at_cmp co_ge (ae_var 2) (ae_mul ae_int (ae_pow ae_int ae_int))) (ass_cons (as_set 3 sc__law_draw.nd (ae_mod (ae_ct br_int m_int (aa_cons (ae_div (ae_var 2) ae_int) aa_nil)) (ae_shl ae_int ae_int)))
    (ass_cons (as_asg (ae_div (ae_var 3) (ae_var 1)) (ag_set (ae_var 0) ae_int))
    (ass_one (as_ret (ae_mod (ae_ct br_int m_int (aa_cons (ae_var 3) aa_nil)) (ae_var 1)))))) ass_nil)
    (ass_cons (as_asg (ae_mod (ae_ct br_int m_int (aa_cons (ae_add (ae_add (ae_add (ae_mul (ae_ix (ae_var 0) ae_int) ae_int) (ae_mul (ae_mod (ae_ct br_int m_int (aa_cons (ae_var 2) aa_nil)) ae_int) ae_int)) (ae_mul (ae_ix (ae_var 0) ae_int) ae_int)) ae_int) aa_nil)) ae_int) (ag_set (ae_var 0) ae_int))
    (ass_one (as_ret (ae_mod (ae_ct br_int m_int (aa_cons (ae_div (ae_ix (ae_var 0) ae_int) ae_int) aa_nil)) (ae_var 1))))))))))) d__law_draw
abbrev s__law_pick : Stmt := top 6
theorem sc__law_pick : FnScope N__law_pick ["d", "row"] (defScope s__law_pick) := ⟨rfl, rfl, rfl, by decide +kernel, rfl, by decide +kernel, by decide +kernel⟩
theorem ax__law_pick {a : Addr} (F : ∃ fd, FunD K "_law_pick" "_law_pick" (defArgs s__law_pick) (defBody s__law_pick) (defScope s__law_pick) [] [] a fd) (hm : mg "_law_pick" = some (.ref a)) (m_len : mg "len" = none) (h__law_draw : Dk P w K mg base 1 "_law_draw" ["d", "many"] f__law_draw) : Dk P w K mg base 2 "_law_pick" ["d", "row"] f__law_pick := by
  exact dk_of (wv := w__law_pick) F hm sc__law_pick (fun _ _ _ _ _ _ us hl => match us, hl with | [_, _], _ => rfl) (fun cdv A outer s H E hr => (ass_one (as_ret (ae_ix (ae_var 1) (ae_call h__law_draw hr (aa_cons (ae_var 0) (aa_cons (ae_cb br_len m_len (aa_cons (ae_var 1) aa_nil)) aa_nil))))))) d__law_pick
abbrev s__law_rare : Stmt := top 7
theorem sc__law_rare : FnScope N__law_rare ["d", "many"] (defScope s__law_rare) := ⟨rfl, rfl, rfl, by decide +kernel, rfl, by decide +kernel, by decide +kernel⟩
theorem ax__law_rare {a : Addr} (F : ∃ fd, FunD K "_law_rare" "_law_rare" (defArgs s__law_rare) (defBody s__law_rare) (defScope s__law_rare) [] [] a fd) (hm : mg "_law_rare" = some (.ref a)) (h__law_draw : Dk P w K mg base 1 "_law_draw" ["d", "many"] f__law_draw) : Dk P w K mg base 2 "_law_rare" ["d", "many"] f__law_rare := by
  exact dk_of (wv := w__law_rare) F hm sc__law_rare (fun _ _ _ _ _ _ us hl => match us, hl with | [_, _], _ => rfl) (fun cdv A outer s H E hr => (ass_one (as_ret (ae_cmp (co_eq hr) (ae_call h__law_draw hr (aa_cons (ae_var 0) (aa_cons (ae_var 1) aa_nil))) (ae_div (ae_var 1) ae_int))))) d__law_rare
abbrev s__law_shuffled : Stmt := top 8
theorem sc__law_shuffled : FnScope N__law_shuffled ["d", "row"] (defScope s__law_shuffled) := ⟨rfl, rfl, rfl, by decide +kernel, rfl, by decide +kernel, by decide +kernel⟩
theorem ax__law_shuffled {a : Addr} (F : ∃ fd, FunD K "_law_shuffled" "_law_shuffled" (defArgs s__law_shuffled) (defBody s__law_shuffled) (defScope s__law_shuffled) [] [] a fd) (hm : mg "_law_shuffled" = some (.ref a)) (m_list : mg "list" = none) (m_range : mg "range" = none) (m_len : mg "len" = none) (h__law_draw : Dk P w K mg base 1 "_law_draw" ["d", "many"] f__law_draw) : Dk P w K mg base 2 "_law_shuffled" ["d", "row"] f__law_shuffled := by
  exact dk_of (wv := w__law_shuffled) F hm sc__law_shuffled (fun _ _ _ _ _ _ us hl => match us, hl with | [_, _], _ => rfl) (fun cdv A outer s H E hr => (ass_cons (as_set 2 sc__law_shuffled.nd (ae_ct br_listH m_list (aa_cons (ae_var 1) aa_nil)))
    (ass_cons (as_set 3 sc__law_shuffled.nd (ae_lstH aa_nil))
    (ass_cons (as_for (ai_r1 m_range (aa_cons (ae_cb br_len m_len (aa_cons (ae_var 2) aa_nil)) aa_nil)) (ag_name 4 sc__law_shuffled.nd) (ass_one (as_expr (ae_ml PySem.F.slot_list_append PySem.F.type_list_append mt_append sm_append (ae_var 3) (aa_cons (ae_ml PySem.F.slot_list_pop PySem.F.type_list_pop mt_popAt sm_popAt (ae_var 2) (aa_cons (ae_call h__law_draw hr (aa_cons (ae_var 0) (aa_cons (ae_cb br_len m_len (aa_cons (ae_var 2) aa_nil)) aa_nil))) aa_nil)) aa_nil)))))
    (ass_one (as_ret (ae_varF 3))))))) d__law_shuffled
abbrev s__law_names : Stmt := top 9
theorem sc__law_names : FnScope N__law_names ["d", "many"] (defScope s__law_names) := ⟨rfl, rfl, rfl, by decide +kernel, rfl, by decide +kernel, by decide +kernel⟩
theorem ax__law_names {a : Addr} (F : ∃ fd, FunD K "_law_names" "_law_names" (defArgs s__law_names) (defBody s__law_names) (defScope s__law_names) [] [] a fd) (hm : mg "_law_names" = some (.ref a)) (m_range : mg "range" = none) (m_max : mg "max" = none) (h__law_shuffled : Dk P w K mg base 2 "_law_shuffled" ["d", "row"] f__law_shuffled) (h__law_pick : Dk P w K mg base 2 "_law_pick" ["d", "row"] f__law_pick) (h__law_draw : Dk P w K mg base 1 "_law_draw" ["d", "many"] f__law_draw) : Dk P w K mg base 3 "_law_names" ["d", "many"] f__law_names := by
  exact dk_of (wv := w__law_names) F hm sc__law_names (fun _ _ _ _ _ _ us hl => match us, hl with | [_, _], _ => rfl) (fun cdv A outer s H E hr => (ass_cons (as_set 2 sc__law_names.nd ae_str)
    (ass_cons (as_set 3 sc__law_names.nd (ae_lst (aa_cons ae_str (aa_cons ae_str (aa_cons ae_str (aa_cons ae_str (aa_cons ae_str (aa_cons ae_str (aa_cons ae_str aa_nil)))))))))
    (ass_cons (as_set 4 sc__law_names.nd (ae_div ae_int (ae_cb br_max2 m_max (aa_cons ae_int (aa_cons (ae_var 1) aa_nil)))))
    (ass_cons (as_set 5 sc__law_names.nd (ae_lstH aa_nil))
    (ass_cons (as_for (ai_r1 m_range (aa_cons (ae_var 1) aa_nil)) (ag_name 6 sc__law_names.nd) (ass_one (as_expr (ae_ml PySem.F.slot_list_append PySem.F.type_list_append mt_append sm_append (ae_var 5) (aa_cons (ae_add (ae_ix (ae_var 2) (ae_add (ae_mul (ae_var 6) (ae_var 4)) (ae_call h__law_draw hr (aa_cons (ae_var 0) (aa_cons (ae_var 4) aa_nil))))) (ae_call h__law_pick hr (aa_cons (ae_var 0) (aa_cons (ae_var 3) aa_nil)))) aa_nil)))))
    (ass_one (as_ret (ae_call h__law_shuffled hr (aa_cons (ae_var 0) (aa_cons (ae_varF 5) aa_nil))))))))))) d__law_names
abbrev s__law_is_int : Stmt := top 10
theorem sc__law_is_int : FnScope N__law_is_int ["thing"] (defScope s__law_is_int) := ⟨rfl, rfl, rfl, by decide +kernel, rfl, by decide +kernel, by decide +kernel⟩
theorem ax__law_is_int {a : Addr} (F : ∃ fd, FunD K "_law_is_int" "_law_is_int" (defArgs s__law_is_int) (defBody s__law_is_int) (defScope s__law_is_int) [] [] a fd) (hm : mg "_law_is_int" = some (.ref a)) (m_isinstance : mg "isinstance" = none) (m_int : mg "int" = none) (m_bool : mg "bool" = none) : Dk P w K mg base 1 "_law_is_int" ["thing"] f__law_is_int := by
  exact dk_of (wv := w__law_is_int) F hm sc__law_is_int (fun _ _ _ _ _ _ us hl => match us, hl with | [_], _ => rfl) (fun cdv A outer s H E hr => (ass_one (as_ret (ae_andV (ae_isi (T := "int") (ae_var 0) m_isinstance m_int) (ae_one (ae_notV (ae_isi (T := "bool") (ae_var 0) m_isinstance m_bool))))))) d__law_is_int
abbrev s__law_unit : Stmt := top 11
theorem sc__law_unit : FnScope N__law_unit ["pairs", "state", "waits"] (defScope s__law_unit) := ⟨rfl, rfl, rfl, by decide +kernel, rfl, by decide +kernel, by decide +kernel⟩
theorem ax__law_unit {a : Addr} (F : ∃ fd, FunD K "_law_unit" "_law_unit" (defArgs s__law_unit) (defBody s__law_unit) (defScope s__law_unit) [] [] a fd) (hm : mg "_law_unit" = some (.ref a)) (m_range : mg "range" = none) (m_int : mg "int" = none) (m_len : mg "len" = none) : Dk P w K mg base 1 "_law_unit" ["pairs", "state", "waits"] f__law_unit := by
  exact dk_of (wv := w__law_unit) F hm sc__law_unit (fun _ _ _ _ _ _ us hl => match us, hl with | [_, _, _], _ => rfl) (fun cdv A outer s H E hr => (ass_cons (as_for (ai_r1 m_range (aa_cons (ae_add (ae_mul ae_int (ae_cb br_len m_len (aa_cons (ae_var 0) aa_nil))) ae_int) aa_nil)) (ag_name 3 sc__law_unit.nd) (ass_cons (as_if (aw_and (at_val (ae_ix (ae_var 2) (ae_ix (ae_var 1) ae_int))) (aw_and1 (at_cmp co_gt (ae_ix (ae_var 1) ae_int) ae_int))).at (ass_one as_break) ass_nil)
    (ass_cons (as_asg (ae_mod (ae_ct br_int m_int (aa_cons (ae_add (ae_ix (ae_var 1) ae_int) ae_int) aa_nil)) (ae_cb br_len m_len (aa_cons (ae_var 0) aa_nil))) (ag_set (ae_var 1) ae_int))
    (ass_one (as_asg (ae_ix (ae_ix (ae_var 0) (ae_ix (ae_var 1) ae_int)) ae_int) (ag_set (ae_var 1) ae_int))))))
    (ass_cons (as_augS io_sub (ae_var 1) ae_int ae_int)
    (ass_one (as_ret (ae_ix (ae_var 1) ae_int)))))) d__law_unit
abbrev s__law_flooded : Stmt := top 12
theorem sc__law_flooded : FnScope N__law_flooded ["pairs", "many"] (defScope s__law_flooded) := ⟨rfl, rfl, rfl, by decide +kernel, rfl, by decide +kernel, by decide +kernel⟩
theorem ax__law_flooded {a : Addr} (F : ∃ fd, FunD K "_law_flooded" "_law_flooded" (defArgs s__law_flooded) (defBody s__law_flooded) (defScope s__law_flooded) [] [] a fd) (hm : mg "_law_flooded" = some (.ref a)) (m_range : mg "range" = none) (m_len : mg "len" = none) (h__law_unit : Dk P w K mg base 1 "_law_unit" ["pairs", "state", "waits"] f__law_unit) : Dk P w K mg base 2 "_law_flooded" ["pairs", "many"] f__law_flooded := by
  exact dk_of (wv := w__law_flooded) F hm sc__law_flooded (fun _ _ _ _ _ _ us hl => match us, hl with | [_, _], _ => rfl) (fun cdv A outer s H E hr => (ass_cons (as_set 2 sc__law_flooded.nd (ae_lc (own := [("pair", 6)]) (js := [6]) (ai_seq (ae_var 0)) sc__law_flooded.nd (blkOk_by (N := N__law_flooded) (sc := defScope s__law_flooded) (by decide +kernel)) (fun _ _ _ _ _ => (ag_name 6 sc__law_flooded.nd)) (fun _ _ _ _ _ => ats_nil) (fun _ _ _ _ _ => ae_bl)))
    (ass_cons (as_set 3 sc__law_flooded.nd (ae_lstH aa_nil))
    (ass_cons (as_for (ai_r1 m_range (aa_cons (ae_cb br_len m_len (aa_cons (ae_var 0) aa_nil)) aa_nil)) (ag_name 4 sc__law_flooded.nd) (ass_one (as_for (ai_r1 m_range (aa_cons (ae_add (ae_ix (ae_ix (ae_var 0) (ae_var 4)) ae_int) ae_int) aa_nil)) (ag_name 5 sc__law_flooded.nd) (ass_cons (as_set 7 sc__law_flooded.nd (ae_lstH (aa_cons (ae_var 4) (aa_cons (ae_var 5) aa_nil))))
    (ass_one (as_expr (ae_ml PySem.F.slot_list_append PySem.F.type_list_append mt_append sm_append (ae_var 3) (aa_cons (ae_lc (own := [("unit", 8)]) (js := [8]) (ai_r1 m_range (aa_cons (ae_var 1) aa_nil)) sc__law_flooded.nd (blkOk_by (N := N__law_flooded) (sc := defScope s__law_flooded) (by decide +kernel)) (fun _ _ _ _ _ => (ag_name 8 sc__law_flooded.nd)) (fun _ _ _ _ _ => ats_nil) (fun _ _ _ _ _ => (ae_call h__law_unit hr (aa_cons (ae_var 0) (aa_cons (ae_var 7) (aa_cons (ae_var 2) aa_nil)))))) aa_nil))))))))
    (ass_one (as_ret (ae_varF 3))))))) d__law_flooded
abbrev s__law_waits : Stmt := top 13
theorem sc__law_waits : FnScope N__law_waits ["d", "many", "place", "mode"] (defScope s__law_waits) := ⟨rfl, rfl, rfl, by decide +kernel, rfl, by decide +kernel, by decide +kernel⟩
theorem ax__law_waits {a : Addr} (F : ∃ fd, FunD K "_law_waits" "_law_waits" (defArgs s__law_waits) (defBody s__law_waits) (defScope s__law_waits) [] [] a fd) (hm : mg "_law_waits" = some (.ref a)) (m_range : mg "range" = none) (h__law_draw : Dk P w K mg base 1 "_law_draw" ["d", "many"] f__law_draw) : Dk P w K mg base 2 "_law_waits" ["d", "many", "place", "mode"] f__law_waits := by
  exact dk_of (wv := w__law_waits) F hm sc__law_waits (fun _ _ _ _ _ _ us hl => match us, hl with | [_, _, _, _], _ => rfl) (fun cdv A outer s H E hr => (ass_cons (as_set 4 sc__law_waits.nd (ae_if (at_cmp (co_eq hr) (ae_var 3) ae_int) ae_int (ae_call h__law_draw hr (aa_cons (ae_var 0) (aa_cons ae_int aa_nil)))))
    (ass_one (as_ret (ae_lc (own := [("k", 5)]) (js := [5]) (ai_r1 m_range (aa_cons (ae_var 1) aa_nil)) sc__law_waits.nd (blkOk_by (N := N__law_waits) (sc := defScope s__law_waits) (by decide +kernel)) (fun _ _ _ _ _ => (ag_name 5 sc__law_waits.nd)) (fun _ _ _ _ _ => ats_nil) (fun _ _ _ _ _ => (ae_orV (ae_cmp (co_eq hr) (ae_var 5) (ae_var 2)) (ae_one (ae_cmp (co_eq hr) (ae_and (ae_shr (ae_var 4) (ae_var 5)) ae_int) ae_int))))))))) d__law_waits
abbrev s__law_drawn_units : Stmt := top 14
theorem sc__law_drawn_units : FnScope N__law_drawn_units ["d", "pairs", "place", "units"] (defScope s__law_drawn_units) := ⟨rfl, rfl, rfl, by decide +kernel, rfl, by decide +kernel, by decide +kernel⟩
theorem ax__law_drawn_units {a : Addr} (F : ∃ fd, FunD K "_law_drawn_units" "_law_drawn_units" (defArgs s__law_drawn_units) (defBody s__law_drawn_units) (defScope s__law_drawn_units) [] [] a fd) (hm : mg "_law_drawn_units" = some (.ref a)) (m_range : mg "range" = none) (m_len : mg "len" = none) (h__law_draw : Dk P w K mg base 1 "_law_draw" ["d", "many"] f__law_draw) (h__law_unit : Dk P w K mg base 1 "_law_unit" ["pairs", "state", "waits"] f__law_unit) (h__law_waits : Dk P w K mg base 2 "_law_waits" ["d", "many", "place", "mode"] f__law_waits) : Dk P w K mg base 3 "_law_drawn_units" ["d", "pairs", "place", "units"] f__law_drawn_units := by
  exact dk_of (wv := w__law_drawn_units) F hm sc__law_drawn_units (fun _ _ _ _ _ _ us hl => match us, hl with | [_, _, _, _], _ => rfl) (fun cdv A outer s H E hr => (ass_cons (as_set 4 sc__law_drawn_units.nd (ae_call h__law_draw hr (aa_cons (ae_var 0) (aa_cons (ae_cb br_len m_len (aa_cons (ae_var 1) aa_nil)) aa_nil))))
    (ass_cons (as_set 5 sc__law_drawn_units.nd (ae_lstH (aa_cons (ae_var 4) (aa_cons (ae_call h__law_draw hr (aa_cons (ae_var 0) (aa_cons (ae_add (ae_ix (ae_ix (ae_var 1) (ae_var 4)) ae_int) ae_int) aa_nil))) aa_nil))))
    (ass_cons (as_set 6 sc__law_drawn_units.nd (ae_call h__law_draw hr (aa_cons (ae_var 0) (aa_cons ae_int aa_nil))))
    (ass_cons (as_set 7 sc__law_drawn_units.nd ae_int)
    (ass_cons (as_for (ai_r1 m_range (aa_cons (ae_var 3) aa_nil)) (ag_name 8 sc__law_drawn_units.nd) (ass_one (as_if (at_cmp (co_eq hr) (ae_call h__law_unit hr (aa_cons (ae_var 1) (aa_cons (ae_var 5) (aa_cons (ae_call h__law_waits hr (aa_cons (ae_var 0) (aa_cons (ae_cb br_len m_len (aa_cons (ae_var 1) aa_nil)) (aa_cons (ae_var 2) (aa_cons (ae_var 6) aa_nil))))) aa_nil)))) (ae_var 2)) (ass_one (as_aug 7 io_add sc__law_drawn_units.nd ae_int)) ass_nil)))
    (ass_one (as_ret (ae_var 7))))))))) d__law_drawn_units
abbrev s__law_is_share : Stmt := top 15
theorem sc__law_is_share : FnScope N__law_is_share ["told", "due"] (defScope s__law_is_share) := ⟨rfl, rfl, rfl, by decide +kernel, rfl, by decide +kernel, by decide +kernel⟩
theorem ax__law_is_share {a : Addr} (F : ∃ fd, FunD K "_law_is_share" "_law_is_share" (defArgs s__law_is_share) (defBody s__law_is_share) (defScope s__law_is_share) [] [] a fd) (hm : mg "_law_is_share" = some (.ref a)) (h__law_is_int : Dk P w K mg base 1 "_law_is_int" ["thing"] f__law_is_int) : Dk P w K mg base 2 "_law_is_share" ["told", "due"] f__law_is_share := by
  exact dk_of (wv := w__law_is_share) F hm sc__law_is_share (fun _ _ _ _ _ _ us hl => match us, hl with | [_, _], _ => rfl) (fun cdv A outer s H E hr => (ass_one (as_ret (ae_andV (ae_call h__law_is_int hr (aa_cons (ae_var 0) aa_nil)) (ae_one (ae_cmp (co_eq hr) (ae_var 0) (ae_var 1))))))) d__law_is_share
abbrev s_law : Stmt := top 16
theorem sc_law : FnScope N_law ["script"] (defScope s_law) := ⟨rfl, rfl, rfl, by decide +kernel, rfl, by decide +kernel, by decide +kernel⟩
theorem ax_law {a : Addr} {fd : FuncData} (F : FunD K "law" "law" (defArgs s_law) (defBody s_law) (defScope s_law) [] [] a fd) (m_tuple : mg "tuple" = none) (m_range : mg "range" = none) (m_min : mg "min" = none) (h__law_begin : Dk P w K mg base 1 "_law_begin" ["script"] f__law_begin) (h__law_names : Dk P w K mg base 3 "_law_names" ["d", "many"] f__law_names) (h__law_draw : Dk P w K mg base 1 "_law_draw" ["d", "many"] f__law_draw) (h__law_rare : Dk P w K mg base 2 "_law_rare" ["d", "many"] f__law_rare) (h__law_flooded : Dk P w K mg base 2 "_law_flooded" ["pairs", "many"] f__law_flooded) (h__law_shuffled : Dk P w K mg base 2 "_law_shuffled" ["d", "row"] f__law_shuffled) (h__law_is_share : Dk P w K mg base 2 "_law_is_share" ["told", "due"] f__law_is_share) (h__law_drawn_units : Dk P w K mg base 3 "_law_drawn_units" ["d", "pairs", "place", "units"] f__law_drawn_units) (h_turn_share : Dk P w K mg base 2 "turn_share" ["credits", "name", "units"] f_turn_share) : FnOk P w K mg base CX0 4 a fd ["script"] (spA K 1 f_law) := by
  exact fn_of (wv := w_law) F sc_law (fun cdv A outer s H E hr => (ass_cons (as_set 1 sc_law.nd (ae_call h__law_begin hr (aa_cons (ae_var 0) aa_nil)))
    (ass_cons (as_set 2 sc_law.nd (ae_if (at_val (ae_call h__law_rare hr (aa_cons (ae_var 1) (aa_cons ae_int aa_nil)))) ae_int (ae_add ae_int (ae_call h__law_draw hr (aa_cons (ae_var 1) (aa_cons ae_int aa_nil))))))
    (ass_cons (as_set 3 sc_law.nd (ae_call h__law_names hr (aa_cons (ae_var 1) (aa_cons (ae_var 2) aa_nil))))
    (ass_cons (as_set 4 sc_law.nd (ae_ct br_tuple m_tuple (aa_cons (ae_lc (own := [("name", 12)]) (js := [12]) (ai_seq (ae_var 3)) sc_law.nd (blkOk_by (N := N_law) (sc := defScope s_law) (by decide +kernel)) (fun _ _ _ _ _ => (ag_name 12 sc_law.nd)) (fun _ _ _ _ _ => ats_nil) (fun _ _ _ _ _ => (ae_tup (aa_cons (ae_var 12) (aa_cons (ae_add ae_int (ae_call h__law_draw hr (aa_cons (ae_var 1) (aa_cons ae_int aa_nil)))) aa_nil))))) aa_nil)))
    (ass_cons (as_set 5 sc_law.nd (ae_call h__law_draw hr (aa_cons (ae_var 1) (aa_cons ae_int aa_nil))))
    (ass_cons (as_if (at_val (ae_call h__law_rare hr (aa_cons (ae_var 1) (aa_cons ae_int aa_nil)))) (ass_one (as_set 5 sc_law.nd (ae_add ae_int (ae_call h__law_draw hr (aa_cons (ae_var 1) (aa_cons ae_int aa_nil)))))) ass_nil)
    (ass_cons (as_set 6 sc_law.nd (ae_call h__law_flooded hr (aa_cons (ae_var 4) (aa_cons (ae_add (ae_var 5) ae_int) aa_nil))))
    (ass_cons (as_set 7 sc_law.nd (ae_ct br_tuple m_tuple (aa_cons (ae_call h__law_shuffled hr (aa_cons (ae_var 1) (aa_cons (ae_var 4) aa_nil))) aa_nil)))
    (ass_cons (as_for (ai_r1 m_range (aa_cons (ae_var 2) aa_nil)) (ag_name 8 sc_law.nd) (ass_cons (as_set 10 sc_law.nd (ae_cb br_minL m_min (aa_cons (ae_lc (own := [("row", 13)]) (js := [13]) (ai_seq (ae_var 6)) sc_law.nd (blkOk_by (N := N_law) (sc := defScope s_law) (by decide +kernel)) (fun _ _ _ _ _ => (ag_name 13 sc_law.nd)) (fun _ _ _ _ _ => ats_nil) (fun _ _ _ _ _ => (ae_ml PySem.F.slot_list_count PySem.F.type_list_count mt_lcount sm_countI (ae_sl (ae_var 13) ao_none (ao_some (ae_var 5))) (aa_cons (ae_var 8) aa_nil)))) aa_nil)))
    (ass_cons (as_if (at_not (at_val (ae_call h__law_is_share hr (aa_cons (ae_call h_turn_share hr (aa_cons (ae_var 4) (aa_cons (ae_ix (ae_var 3) (ae_var 8)) (aa_cons (ae_var 5) aa_nil)))) (aa_cons (ae_var 10) aa_nil))))) (ass_one (as_ret ae_bl)) ass_nil)
    (ass_cons (as_set 11 sc_law.nd (ae_cb br_minL m_min (aa_cons (ae_lc (own := [("row", 13)]) (js := [13]) (ai_seq (ae_var 6)) sc_law.nd (blkOk_by (N := N_law) (sc := defScope s_law) (by decide +kernel)) (fun _ _ _ _ _ => (ag_name 13 sc_law.nd)) (fun _ _ _ _ _ => ats_nil) (fun _ _ _ _ _ => (ae_ml PySem.F.slot_list_count PySem.F.type_list_count mt_lcount sm_countI (ae_var 13) (aa_cons (ae_var 8) aa_nil)))) aa_nil)))
    (ass_cons (as_if (at_not (at_val (ae_call h__law_is_share hr (aa_cons (ae_call h_turn_share hr (aa_cons (ae_var 4) (aa_cons (ae_ix (ae_var 3) (ae_var 8)) (aa_cons (ae_add (ae_var 5) ae_int) aa_nil)))) (aa_cons (ae_var 11) aa_nil))))) (ass_one (as_ret ae_bl)) ass_nil)
    (ass_one (as_if (at_not (at_val (ae_call h__law_is_share hr (aa_cons (ae_call h_turn_share hr (aa_cons (ae_var 7) (aa_cons (ae_ix (ae_var 3) (ae_var 8)) (aa_cons (ae_var 5) aa_nil)))) (aa_cons (ae_var 10) aa_nil))))) (ass_one (as_ret ae_bl)) ass_nil)))))))
    (ass_cons (as_set 8 sc_law.nd (ae_call h__law_draw hr (aa_cons (ae_var 1) (aa_cons (ae_var 2) aa_nil))))
    (ass_cons (as_set 9 sc_law.nd (ae_cb br_min2 m_min (aa_cons ae_int (aa_cons (ae_var 5) aa_nil))))
    (ass_cons (as_set 10 sc_law.nd (ae_cb br_minL m_min (aa_cons (ae_lc (own := [("row", 13)]) (js := [13]) (ai_seq (ae_var 6)) sc_law.nd (blkOk_by (N := N_law) (sc := defScope s_law) (by decide +kernel)) (fun _ _ _ _ _ => (ag_name 13 sc_law.nd)) (fun _ _ _ _ _ => ats_nil) (fun _ _ _ _ _ => (ae_ml PySem.F.slot_list_count PySem.F.type_list_count mt_lcount sm_countI (ae_sl (ae_var 13) ao_none (ao_some (ae_var 9))) (aa_cons (ae_var 8) aa_nil)))) aa_nil)))
    (ass_cons (as_if (at_not (at_val (ae_call h__law_is_share hr (aa_cons (ae_call h_turn_share hr (aa_cons (ae_var 4) (aa_cons (ae_ix (ae_var 3) (ae_var 8)) (aa_cons (ae_var 9) aa_nil)))) (aa_cons (ae_var 10) aa_nil))))) (ass_one (as_ret ae_bl)) ass_nil)
    (ass_one (as_ret (ae_cmp co_ge (ae_call h__law_drawn_units hr (aa_cons (ae_var 1) (aa_cons (ae_var 4) (aa_cons (ae_var 8) (aa_cons (ae_var 9) aa_nil))))) (ae_var 10)))))))))))))))))) d_law

end
def D_own_credit : He.DefD := ⟨("own_credit", none), "own_credit", "own_credit", defArgs s_own_credit, defBody s_own_credit, defScope s_own_credit, [], []⟩
def D_turn_share : He.DefD := ⟨("turn_share", none), "turn_share", "turn_share", defArgs s_turn_share, defBody s_turn_share, defScope s_turn_share, [], []⟩
def D__law_begin : He.DefD := ⟨("_law_begin", none), "_law_begin", "_law_begin", defArgs s__law_begin, defBody s__law_begin, defScope s__law_begin, [], []⟩
def D__law_draw : He.DefD := ⟨("_law_draw", none), "_law_draw", "_law_draw", defArgs s__law_draw, defBody s__law_draw, defScope s__law_draw, [], []⟩
def D__law_pick : He.DefD := ⟨("_law_pick", none), "_law_pick", "_law_pick", defArgs s__law_pick, defBody s__law_pick, defScope s__law_pick, [], []⟩
def D__law_rare : He.DefD := ⟨("_law_rare", none), "_law_rare", "_law_rare", defArgs s__law_rare, defBody s__law_rare, defScope s__law_rare, [], []⟩
def D__law_shuffled : He.DefD := ⟨("_law_shuffled", none), "_law_shuffled", "_law_shuffled", defArgs s__law_shuffled, defBody s__law_shuffled, defScope s__law_shuffled, [], []⟩
def D__law_names : He.DefD := ⟨("_law_names", none), "_law_names", "_law_names", defArgs s__law_names, defBody s__law_names, defScope s__law_names, [], []⟩
def D__law_is_int : He.DefD := ⟨("_law_is_int", none), "_law_is_int", "_law_is_int", defArgs s__law_is_int, defBody s__law_is_int, defScope s__law_is_int, [], []⟩
def D__law_unit : He.DefD := ⟨("_law_unit", none), "_law_unit", "_law_unit", defArgs s__law_unit, defBody s__law_unit, defScope s__law_unit, [], []⟩
def D__law_flooded : He.DefD := ⟨("_law_flooded", none), "_law_flooded", "_law_flooded", defArgs s__law_flooded, defBody s__law_flooded, defScope s__law_flooded, [], []⟩
def D__law_waits : He.DefD := ⟨("_law_waits", none), "_law_waits", "_law_waits", defArgs s__law_waits, defBody s__law_waits, defScope s__law_waits, [], []⟩
def D__law_drawn_units : He.DefD := ⟨("_law_drawn_units", none), "_law_drawn_units", "_law_drawn_units", defArgs s__law_drawn_units, defBody s__law_drawn_units, defScope s__law_drawn_units, [], []⟩
def D__law_is_share : He.DefD := ⟨("_law_is_share", none), "_law_is_share", "_law_is_share", defArgs s__law_is_share, defBody s__law_is_share, defScope s__law_is_share, [], []⟩
def D_law : He.DefD := ⟨("law", none), "law", "law", defArgs s_law, defBody s_law, defScope s_law, [], []⟩
def fn : List He.DefD := [D_own_credit, D_turn_share, D__law_begin, D__law_draw, D__law_pick, D__law_rare, D__law_shuffled, D__law_names, D__law_is_int, D__law_unit, D__law_flooded, D__law_waits, D__law_drawn_units, D__law_is_share, D_law]
def fa : List He.Fa := [.glo "own_credit", .glo "turn_share", .glo "_law_begin", .glo "_law_draw", .glo "_law_pick", .glo "_law_rare", .glo "_law_shuffled", .glo "_law_names", .glo "_law_is_int", .glo "_law_unit", .glo "_law_flooded", .glo "_law_waits", .glo "_law_drawn_units", .glo "_law_is_share", .glo "law", .free "sum", .free "max", .free "int", .free "len", .free "abs", .free "list", .free "range", .free "isinstance", .free "bool", .free "tuple", .free "min"]
abbrev R : PySem.W.OpenRow := PySem.W.OpenLaw.row PySem.Challenge.rw_stationdues_k41_turn_shares
abbrev hk : PySem.W.Hook := He.hookD 4 fa fn
def ob (s : PySem.W.SharedT) : He.AlD := He.obsDG 4 fa fn (HandSHeadRun.getT s)
theorem ob_eq (s : PySem.W.SharedT) : ob s = hk.obs s.abs := He.obsDG_eq (HandSHeadRun.getT_eq s)
def loose0 : List PySem.Str := ["own_credit", "turn_share", "_law_begin", "_law_draw", "_law_pick", "_law_rare", "_law_shuffled", "_law_names", "_law_is_int", "_law_unit", "_law_flooded", "_law_waits", "_law_drawn_units", "_law_is_share"]
abbrev loose : List PySem.Str := loose0
theorem run (w : World) : HandSHeadRun.RunEq R (PySem.W.view R.prog [16]) hk ob 1080 loose w := by
  intro os
  kernel_rfl
theorem facts {P : Program} {w : World} {K : PySem.W.Frag} {h : Heap} {mg : Str → Option Value} {f : Addr} (X : K.In h) (G : h.Ns mainGlobals mg) (hfa : mg ("law" : Str) = some (.ref f)) (c : He.SaysD fa fn K) :
    ∃ fd : FuncData, (∀ (s : Shared) (v : Value), BindsTo s fd ⟨[v], []⟩ [("script", v)]) ∧ ∀ base : Heap, K.In base → base.Ns mainGlobals mg → FnOk P w K mg base CX0 4 f fd ["script"] (spA K 1 f_law) := by
  obtain ⟨fd, F⟩ := c.def_ 14 (d := D_law) rfl
  have e := hfa.symm.trans (He.glo_ok X G (c.fact 14 (f := .glo "law") rfl))
  cases e
  have b := FunD.bindsA (ps := ["script"]) F fun _ _ _ _ _ _ us hl => match us, hl with | [_], _ => rfl
  refine ⟨fd, fun s v => b s [v] rfl, fun base _ _ => ?_⟩
  have m_sum := He.free_ok X G (c.fact 15 (f := .free "sum") rfl)
  have m_max := He.free_ok X G (c.fact 16 (f := .free "max") rfl)
  have m_int := He.free_ok X G (c.fact 17 (f := .free "int") rfl)
  have m_len := He.free_ok X G (c.fact 18 (f := .free "len") rfl)
  have m_abs := He.free_ok X G (c.fact 19 (f := .free "abs") rfl)
  have m_list := He.free_ok X G (c.fact 20 (f := .free "list") rfl)
  have m_range := He.free_ok X G (c.fact 21 (f := .free "range") rfl)
  have m_isinstance := He.free_ok X G (c.fact 22 (f := .free "isinstance") rfl)
  have m_bool := He.free_ok X G (c.fact 23 (f := .free "bool") rfl)
  have m_tuple := He.free_ok X G (c.fact 24 (f := .free "tuple") rfl)
  have m_min := He.free_ok X G (c.fact 25 (f := .free "min") rfl)
  have h_own_credit := ax_own_credit (P := P) (w := w) (K := K) (mg := mg) (base := base) (c.def_ 0 (d := D_own_credit) rfl) (He.glo_ok X G (c.fact 0 (f := .glo "own_credit") rfl)) m_sum
  have h__law_begin := ax__law_begin (P := P) (w := w) (K := K) (mg := mg) (base := base) (c.def_ 2 (d := D__law_begin) rfl) (He.glo_ok X G (c.fact 2 (f := .glo "_law_begin") rfl)) m_int
  have h__law_draw := ax__law_draw (P := P) (w := w) (K := K) (mg := mg) (base := base) (c.def_ 3 (d := D__law_draw) rfl) (He.glo_ok X G (c.fact 3 (f := .glo "_law_draw") rfl)) m_len m_int m_abs
  have h__law_is_int := ax__law_is_int (P := P) (w := w) (K := K) (mg := mg) (base := base) (c.def_ 8 (d := D__law_is_int) rfl) (He.glo_ok X G (c.fact 8 (f := .glo "_law_is_int") rfl)) m_isinstance m_int m_bool
  have h__law_unit := ax__law_unit (P := P) (w := w) (K := K) (mg := mg) (base := base) (c.def_ 9 (d := D__law_unit) rfl) (He.glo_ok X G (c.fact 9 (f := .glo "_law_unit") rfl)) m_range m_int m_len
  have h_turn_share := ax_turn_share (P := P) (w := w) (K := K) (mg := mg) (base := base) (c.def_ 1 (d := D_turn_share) rfl) (He.glo_ok X G (c.fact 1 (f := .glo "turn_share") rfl)) m_sum m_max h_own_credit
  have h__law_pick := ax__law_pick (P := P) (w := w) (K := K) (mg := mg) (base := base) (c.def_ 4 (d := D__law_pick) rfl) (He.glo_ok X G (c.fact 4 (f := .glo "_law_pick") rfl)) m_len h__law_draw
  have h__law_rare := ax__law_rare (P := P) (w := w) (K := K) (mg := mg) (base := base) (c.def_ 5 (d := D__law_rare) rfl) (He.glo_ok X G (c.fact 5 (f := .glo "_law_rare") rfl)) h__law_draw
  have h__law_shuffled := ax__law_shuffled (P := P) (w := w) (K := K) (mg := mg) (base := base) (c.def_ 6 (d := D__law_shuffled) rfl) (He.glo_ok X G (c.fact 6 (f := .glo "_law_shuffled") rfl)) m_list m_range m_len h__law_draw
  have h__law_flooded := ax__law_flooded (P := P) (w := w) (K := K) (mg := mg) (base := base) (c.def_ 10 (d := D__law_flooded) rfl) (He.glo_ok X G (c.fact 10 (f := .glo "_law_flooded") rfl)) m_range m_len h__law_unit
  have h__law_waits := ax__law_waits (P := P) (w := w) (K := K) (mg := mg) (base := base) (c.def_ 11 (d := D__law_waits) rfl) (He.glo_ok X G (c.fact 11 (f := .glo "_law_waits") rfl)) m_range h__law_draw
  have h__law_is_share := ax__law_is_share (P := P) (w := w) (K := K) (mg := mg) (base := base) (c.def_ 13 (d := D__law_is_share) rfl) (He.glo_ok X G (c.fact 13 (f := .glo "_law_is_share") rfl)) h__law_is_int
  have h__law_names := ax__law_names (P := P) (w := w) (K := K) (mg := mg) (base := base) (c.def_ 7 (d := D__law_names) rfl) (He.glo_ok X G (c.fact 7 (f := .glo "_law_names") rfl)) m_range m_max h__law_shuffled h__law_pick h__law_draw
  have h__law_drawn_units := ax__law_drawn_units (P := P) (w := w) (K := K) (mg := mg) (base := base) (c.def_ 12 (d := D__law_drawn_units) rfl) (He.glo_ok X G (c.fact 12 (f := .glo "_law_drawn_units") rfl)) m_range m_len h__law_draw h__law_unit h__law_waits
  exact ax_law F m_tuple m_range m_min h__law_begin h__law_names h__law_draw h__law_rare h__law_flooded h__law_shuffled h__law_is_share h__law_drawn_units h_turn_share
end Zd
open PySem PySem.W PySem.Calls PyProof.Rows
theorem PySem.Challenge.cw_stationdues_k41_turn_shares_holds : PySem.Challenge.rw_stationdues_k41_turn_shares.Holds := by
  w_on; o_law
  refine HandSHeadRun.head_any (r := OpenLaw.row PySem.Challenge.rw_stationdues_k41_turn_shares) (q := view (OpenLaw.row PySem.Challenge.rw_stationdues_k41_turn_shares).prog [16]) (H := Zd.hk) (ob := Zd.ob) (M := 1080) (loose := Zd.loose) (d := HandSHeadRun.topDef (OpenLaw.row PySem.Challenge.rw_stationdues_k41_turn_shares).prog 16) (kwd := []) Zd.ob_eq
    (by kernel_rfl) (fun s => by kernel_rfl) Zd.run (by kernel_rfl) (by kernel_rfl) (by kernel_rfl) (by rfl) (by first | assumption | decide +kernel) (by decide +kernel) ⟨rfl, rfl, rfl, rfl, rfl, by decide +kernel⟩ ?hw ?hc
  case hw => w_witness2
  case hc =>
    refine L2.walk_ofE (l := PySem.Challenge.rw_stationdues_k41_turn_shares) (n := 63) (k := 4) (x := "script") (CX := L2.CX0) rfl (by decide) (by kernel_rfl) ⟨rfl, by decide, by decide⟩ ?F (fun _ _ _ _ z => z)
    intro w mg fa h Y G hmg0
    obtain ⟨K, KX, c⟩ := Y
    have hmg : mg ("law" : PySem.Str) = some (.ref fa) := by
      have e : (HandSHeadRun.topDef (OpenLaw.row PySem.Challenge.rw_stationdues_k41_turn_shares).prog 16).name = ("law" : PySem.Str) := by kernel_rfl
      rw [← e]
      exact hmg0
    obtain ⟨fd, hb, hF⟩ := Zd.facts (P := (PySem.Challenge.rw_stationdues_k41_turn_shares).prog) (w := w) KX G hmg c
    exact ⟨K, fd, _, KX, hb, fun H a ns hl hO hS => Zd.law_sp (Zd.law_start ns hl) hO hS, hF⟩

