import PyProof.Rows.All
import HandS.ForMost
import HandS.Conv
import HandS.Gcd
import HandS.IsInst
import HandS.Deep
import HandS.Flow
import HandS.ForExc
import PyProof.P3In
import HandS.TupAny
import HandS.Comp
import HandS.Iter
import HandS.ExcOwn
import HandS.SortInts
import HandS.More
import KE.GoesEnum
import PySem.Challenge.RW_moatways_k01_pairs_that_are_joined
import Wide.All
import OpenK.AllK
import Wide.FinOn
set_option Elab.async false
set_option linter.all false
set_option maxRecDepth 100000
set_option maxHeartbeats 4000000
namespace Ev
open PySem PySem.Spec PyProof.Rows L2

abbrev St := L2.St
/-! ### data, cells, stores -/
inductive D where
  | non | bl (b : Bool) | int (i : Int) | str (x : Str)
  | tup (ds : List D) | con (ds : List D) | lst (ds : List D) | frz (ds : List D) | loc (n : Nat)
inductive Cel where
  | lst (ds : List D) | dK (kvs : List (Key × D)) | dT (kvs : List (List Key × D)) | ins (c : Addr) (fs : List (Str × D))
abbrev Sto := List Cel
abbrev En := List (Option D)
structure Exn where
  cls : Addr
  f : Str
  val : D
inductive R (α : Type) where
  | ok (a : α) (S : Sto) | ex (e : Exn) (S : Sto) | no
def R.bind {α β : Type} (r : R α) (g : α → Sto → R β) : R β :=
  match r with
  | .ok a S => g a S
  | .ex e S => .ex e S
  | .no => .no
@[simp] theorem R.bind_ok {α β : Type} (a : α) (S : Sto) (g : α → Sto → R β) : (R.ok a S).bind g = g a S := rfl
@[simp] theorem R.bind_ex {α β : Type} (e : Exn) (S : Sto) (g : α → Sto → R β) : (R.ex e S : R α).bind g = .ex e S := rfl
@[simp] theorem R.bind_no {α β : Type} (g : α → Sto → R β) : (R.no : R α).bind g = .no := rfl
inductive O where
  | nx (ρ : En) (S : Sto) | rt (d : D) (S : Sto) | bk (ρ : En) (S : Sto) | ct (ρ : En) (S : Sto) | ex (e : Exn) (ρ : En) (S : Sto) | no
/-- a world: the store's addresses, private ones -/
structure Wo where
  m : List Addr
  q : List Addr

section
variable (K : PySem.W.Frag)
/-- a written constant tuple -/
def KT (a : Addr) (xs : List V) : Prop := ∃ (o : Obj) (its : Array Value) (n : Nat), K.lookup a = some o ∧ o.cls = .type "tuple" ∧ o.data = .seq its n ∧ its.size ≤ sizeLine ∧ Vals xs its.toList
/-- a written list -/
def KL (a : Addr) (xs : List V) : Prop := ∃ (o : Obj) (its : Array Value) (n : Nat), K.lookup a = some o ∧ o.cls = .type "list" ∧ o.dict = none ∧ o.data = .seq its n ∧ its.size ≤ sizeLine ∧ Vals xs its.toList
/-- a list that is locked, or written -/
def Frz (w : Wo) (H : Hp) (a : Addr) (xs : List V) : Prop := (∃ o, H a = some (.frz o (.lst xs)) ∧ a ∉ w.m ∧ a ∉ w.q) ∨ KL K a xs
mutual
def RV (w : Wo) (H : Hp) : D → V → Prop
  | .non, v => v = .non
  | .bl b, v => v = .bl b
  | .int i, v => v = .int i
  | .str x, v => v = .str x
  | .tup ds, v => ∃ a xs, v = .ref a ∧ H a = some (.tup xs) ∧ RVs w H ds xs
  | .con ds, v => ∃ a xs, v = .ref a ∧ KT K a xs ∧ RVs w H ds xs
  | .lst ds, v => ∃ a xs, v = .ref a ∧ H a = some (.lst xs) ∧ (a ∉ w.m ∧ a ∉ w.q) ∧ RVs w H ds xs
  | .frz ds, v => ∃ a xs, v = .ref a ∧ Frz K w H a xs ∧ RVs w H ds xs
  | .loc n, v => ∃ a, v = .ref a ∧ w.m[n]? = some a
def RVs (w : Wo) (H : Hp) : List D → List V → Prop
  | [], vs => vs = []
  | d :: ds, vs => ∃ v r, vs = v :: r ∧ RV w H d v ∧ RVs w H ds r
end
def RP {κ : Type} (w : Wo) (H : Hp) (ps : List (κ × D)) (vs : List (κ × V)) : Prop := ps.map (·.1) = vs.map (·.1) ∧ RVs K w H (ps.map (·.2)) (vs.map (·.2))
def RC (w : Wo) (H : Hp) (a : Addr) : Cel → Prop
  | .lst ds => ∃ xs, H a = some (.lst xs) ∧ RVs K w H ds xs
  | .dK kvs => ∃ vs, H a = some (.dK vs) ∧ RP K w H kvs vs
  | .dT kvs => ∃ vs, H a = some (.dT vs) ∧ RP K w H kvs vs
  | .ins c fs => ∃ dx vs, H a = some (.ins c dx vs) ∧ RP K w H fs vs
structure Sim (w : Wo) (S : Sto) (H : Hp) : Prop where
  len : w.m.length = S.length
  nd : w.m.Nodup
  at_ : ∀ (i : Nat) (c : Cel), S[i]? = some c → ∃ a, w.m[i]? = some a ∧ RC K w H a c
  priv : ∀ a ∈ w.q, a ∉ w.m ∧ ∃ o, H a = some o
def REnv (w : Wo) (H : Hp) (ρ : En) (σ : St) : Prop := ρ.length = σ.length ∧ ∀ (i : Nat) (d : D), ρ[i]? = some (some d) → ∃ v, σ[i]? = some (some v) ∧ RV K w H d v
end
structure Ext (w : Wo) (H : Hp) (w' : Wo) (H' : Hp) : Prop where
  pre : w.m <+: w'.m
  q : ∀ a ∈ w.q, a ∈ w'.q
  newq : ∀ a ∈ w'.q, a ∈ w.q ∨ H a = none
  new : ∀ a ∈ w'.m, a ∈ w.m ∨ H a = none
  tup : ∀ a xs, H a = some (.tup xs) → H' a = some (.tup xs)
  keep : ∀ a o, H a = some o → a ∉ w.m → H' a = some o
  live : ∀ a o, H a = some o → ∃ o', H' a = some o'

section
variable {K : PySem.W.Frag} {w w' w'' : Wo} {H H' H'' : Hp} {S S' : Sto} {ρ : En} {σ : St}
theorem Ext.refl : Ext w H w H := ⟨List.prefix_refl _, fun _ h => h, fun _ h => .inl h, fun _ h => .inl h, fun _ _ h => h, fun _ _ h _ => h, fun _ o h => ⟨o, h⟩⟩
theorem Ext.trans (a : Ext w H w' H') (b : Ext w' H' w'' H'') : Ext w H w'' H'' where
  pre := a.pre.trans b.pre
  q := fun x hx => b.q x (a.q x hx)
  newq := fun x hx => by
    rcases b.newq x hx with h | h
    · exact a.newq x h
    · by_cases hm : x ∈ w.m
      · cases e : H x with
        | none => exact .inr rfl
        | some o =>
          obtain ⟨o', e'⟩ := a.live x o e
          rw [h] at e'; cases e'
      · refine .inr ?_
        cases e : H x with
        | none => rfl
        | some o =>
          have := a.keep x o e hm
          rw [h] at this; cases this
  new := fun x hx => by
    rcases b.new x hx with h | h
    · exact a.new x h
    · by_cases hm : x ∈ w.m
      · exact .inl hm
      · refine .inr ?_
        cases e : H x with
        | none => rfl
        | some o =>
          have := a.keep x o e hm
          rw [h] at this; cases this
  tup := fun x xs h => b.tup x xs (a.tup x xs h)
  keep := fun x o h hm => by
    refine b.keep x o (a.keep x o h hm) fun hx => ?_
    rcases a.new x hx with z | z
    · exact hm z
    · rw [h] at z; cases z
  live := fun x o h => let ⟨o', h'⟩ := a.live x o h; b.live x o' h'
theorem Ext.notin (e : Ext w H w' H') {a : Addr} {o : HO} (h : H a = some o) (hm : a ∉ w.m) : a ∉ w'.m := fun hx => by
  rcases e.new a hx with z | z
  · exact hm z
  · rw [h] at z; cases z
theorem Ext.notq (e : Ext w H w' H') {a : Addr} {o : HO} (h : H a = some o) (hm : a ∉ w.q) : a ∉ w'.q := fun hx => by
  rcases e.newq a hx with z | z
  · exact hm z
  · rw [h] at z; cases z
theorem rd_has {a : Addr} {u : HO} (r : Rd H a u) : ∃ o, H a = some o := by
  rcases r with r | ⟨o, r⟩
  · exact ⟨_, r⟩
  · exact ⟨_, r⟩
theorem Ext.rd (e : Ext w H w' H') {a : Addr} {u : HO} (r : Rd H a u) (hm : a ∉ w.m) : Rd H' a u := by
  rcases r with r | ⟨o, r⟩
  · exact .inl (e.keep _ _ r hm)
  · exact .inr ⟨o, e.keep _ _ r hm⟩
theorem Frz.mono {a : Addr} {xs : List V} (e : Ext w H w' H') (h : Frz K w H a xs) : Frz K w' H' a xs := by
  rcases h with ⟨o, h1, h2, h3⟩ | h
  · exact .inl ⟨o, e.keep _ _ h1 h2, e.notin h1 h2, e.notq h1 h3⟩
  · exact .inr h
theorem Frz.sq {a : Addr} {xs : List V} (h : Frz K w H a xs) : SqL K H a xs := by
  rcases h with ⟨o, h1, h2, h3⟩ | h
  · exact .inl (.inr ⟨o, h1⟩)
  · exact .inr h
mutual
theorem RV.mono (e : Ext w H w' H') : ∀ {d : D} {v : V}, RV K w H d v → RV K w' H' d v
  | .non, v, h => by simpa only [RV] using h
  | .bl b, v, h => by simpa only [RV] using h
  | .int i, v, h => by simpa only [RV] using h
  | .str x, v, h => by simpa only [RV] using h
  | .tup ds, v, h => by
    simp only [RV] at h ⊢
    obtain ⟨a, xs, h1, h2, h3⟩ := h
    exact ⟨a, xs, h1, e.tup a xs h2, RVs.mono e h3⟩
  | .con ds, v, h => by
    simp only [RV] at h ⊢
    obtain ⟨a, xs, h1, h2, h3⟩ := h
    exact ⟨a, xs, h1, h2, RVs.mono e h3⟩
  | .lst ds, v, h => by
    simp only [RV] at h ⊢
    obtain ⟨a, xs, h1, h2, ⟨h3, h4⟩, h5⟩ := h
    exact ⟨a, xs, h1, e.keep _ _ h2 h3, ⟨e.notin h2 h3, e.notq h2 h4⟩, RVs.mono e h5⟩
  | .frz ds, v, h => by
    simp only [RV] at h ⊢
    obtain ⟨a, xs, h1, h2, h5⟩ := h
    exact ⟨a, xs, h1, h2.mono e, RVs.mono e h5⟩
  | .loc n, v, h => by
    simp only [RV] at h ⊢
    obtain ⟨a, h1, h2⟩ := h
    refine ⟨a, h1, ?_⟩
    obtain ⟨t, ht⟩ := e.pre
    rw [← ht, List.getElem?_append_left (List.getElem?_eq_some_iff.mp h2).1]
    exact h2
theorem RVs.mono (e : Ext w H w' H') : ∀ {ds : List D} {vs : List V}, RVs K w H ds vs → RVs K w' H' ds vs
  | [], vs, h => by simpa only [RVs] using h
  | d :: ds, vs, h => by
    simp only [RVs] at h ⊢
    obtain ⟨v, r, h1, h2, h3⟩ := h
    exact ⟨v, r, h1, RV.mono e h2, RVs.mono e h3⟩
end
theorem REnv.mono (e : Ext w H w' H') (h : REnv K w H ρ σ) : REnv K w' H' ρ σ := ⟨h.1, fun i d q => let ⟨v, a, b⟩ := h.2 i d q; ⟨v, a, b.mono e⟩⟩
theorem RP.mono {κ : Type} {ps : List (κ × D)} {vs : List (κ × V)} (e : Ext w H w' H') (h : RP K w H ps vs) : RP K w' H' ps vs := ⟨h.1, h.2.mono e⟩
theorem RC.mono {a : Addr} {c : Cel} (e : Ext w H w' H') (ha : ∀ o, H a = some o → H' a = some o) (h : RC K w H a c) : RC K w' H' a c := by
  cases c with
  | lst ds => obtain ⟨xs, h1, h2⟩ := h; exact ⟨xs, ha _ h1, h2.mono e⟩
  | dK kvs => obtain ⟨vs, h1, h2⟩ := h; exact ⟨vs, ha _ h1, h2.mono e⟩
  | dT kvs => obtain ⟨vs, h1, h2⟩ := h; exact ⟨vs, ha _ h1, h2.mono e⟩
  | ins c fs => obtain ⟨dx, vs, h1, h2⟩ := h; exact ⟨dx, vs, ha _ h1, h2.mono e⟩
theorem RC.has {a : Addr} {c : Cel} (h : RC K w H a c) : ∃ o, H a = some o ∧ ∀ xs, o ≠ .tup xs := by
  cases c with
  | lst ds => obtain ⟨xs, h1, h2⟩ := h; exact ⟨_, h1, fun _ z => nomatch z⟩
  | dK kvs => obtain ⟨vs, h1, h2⟩ := h; exact ⟨_, h1, fun _ z => nomatch z⟩
  | dT kvs => obtain ⟨vs, h1, h2⟩ := h; exact ⟨_, h1, fun _ z => nomatch z⟩
  | ins c fs => obtain ⟨dx, vs, h1, h2⟩ := h; exact ⟨_, h1, fun _ z => nomatch z⟩
theorem Sim.has (h : Sim K w S H) {a : Addr} (ha : a ∈ w.m) : ∃ o, H a = some o ∧ ∀ xs, o ≠ .tup xs := by
  obtain ⟨i, hi, e⟩ := List.getElem_of_mem ha
  have hi' : i < S.length := by rw [← h.len]; exact hi
  obtain ⟨b, hb, hc⟩ := h.at_ i S[i] (List.getElem?_eq_getElem hi')
  rw [List.getElem?_eq_getElem hi, e] at hb
  cases hb
  exact hc.has
theorem nd_inj {l : List Addr} (h : l.Nodup) {i j : Nat} {a : Addr} (h1 : l[i]? = some a) (h2 : l[j]? = some a) : i = j := by
  obtain ⟨p1, e1⟩ := List.getElem?_eq_some_iff.mp h1
  obtain ⟨p2, e2⟩ := List.getElem?_eq_some_iff.mp h2
  exact (List.getElem_inj h).mp (e1.trans e2.symm)
/-- a new object that isn't in the store -/
theorem Ext.fresh {p : Addr} {o : HO} (hp : H p = none) : Ext w H w (upd H p o) :=
  ⟨List.prefix_refl _, fun _ h => h, fun _ h => .inl h, fun _ h => .inl h, fun a xs h => by rw [upd_ne (ne_of_none h hp)]; exact h, fun a o h _ => by rw [upd_ne (ne_of_none h hp)]; exact h, fun a o h => ⟨o, by rw [upd_ne (ne_of_none h hp)]; exact h⟩⟩
theorem Sim.fresh {p : Addr} {o : HO} (h : Sim K w S H) (hp : H p = none) : Sim K w S (upd H p o) :=
  ⟨h.len, h.nd, fun i c e => let ⟨a, h1, h2⟩ := h.at_ i c e; ⟨a, h1, h2.mono (Ext.fresh hp) fun o q => by rw [upd_ne (ne_of_none q hp)]; exact q⟩,
    fun a ha => let ⟨h1, o, h2⟩ := h.priv a ha; ⟨h1, o, by rw [upd_ne (ne_of_none h2 hp)]; exact h2⟩⟩
/-- .. that is -/
def Wo.add (w : Wo) (p : Addr) : Wo := ⟨w.m ++ [p], w.q⟩
theorem Ext.alloc {p : Addr} {o : HO} (hp : H p = none) : Ext w H (w.add p) (upd H p o) :=
  ⟨List.prefix_append _ _, fun _ h => h, fun _ h => .inl h, fun a h => by
    rcases List.mem_append.mp h with z | z
    · exact .inl z
    · have : a = p := by simpa using z
      exact .inr (this ▸ hp), fun a xs h => by rw [upd_ne (ne_of_none h hp)]; exact h, fun a o h _ => by rw [upd_ne (ne_of_none h hp)]; exact h, fun a o h => ⟨o, by rw [upd_ne (ne_of_none h hp)]; exact h⟩⟩
theorem Sim.alloc {p : Addr} {o : HO} {c : Cel} (h : Sim K w S H) (hp : H p = none) (hc : RC K (w.add p) (upd H p o) p c) : Sim K (w.add p) (S ++ [c]) (upd H p o) := by
  have np : p ∉ w.m := fun z => by
    obtain ⟨o', e, _⟩ := h.has z
    rw [hp] at e; cases e
  refine ⟨by simp [Wo.add, h.len], ?_, fun i c' e => ?_, fun a ha => ?_⟩
  · show (w.m ++ [p]).Nodup
    rw [List.nodup_append]
    refine ⟨h.nd, by simp, fun a ha b hb => ?_⟩
    have : b = p := by simpa using hb
    subst this
    exact fun z => np (z ▸ ha)
  · by_cases hi : i < S.length
    · rw [List.getElem?_append_left hi] at e
      obtain ⟨a, h1, h2⟩ := h.at_ i c' e
      refine ⟨a, ?_, h2.mono (Ext.alloc hp) fun o q => by rw [upd_ne (ne_of_none q hp)]; exact q⟩
      show (w.m ++ [p])[i]? = _
      rw [List.getElem?_append_left (by rw [h.len]; exact hi)]
      exact h1
    · rw [List.getElem?_append_right (Nat.le_of_not_lt hi)] at e
      have hi0 : i - S.length = 0 := by
        rcases Nat.eq_zero_or_pos (i - S.length) with z | z
        · exact z
        · rw [List.getElem?_eq_none (by simp; omega)] at e; cases e
      rw [hi0] at e
      have e' : c = c' := by simpa using e
      subst e'
      refine ⟨p, ?_, hc⟩
      show (w.m ++ [p])[i]? = _
      rw [List.getElem?_append_right (by rw [h.len]; exact Nat.le_of_not_lt hi), h.len, hi0]
      rfl
  · obtain ⟨h1, o', h2⟩ := h.priv a ha
    refine ⟨fun z => ?_, o', by rw [upd_ne (ne_of_none h2 hp)]; exact h2⟩
    rcases List.mem_append.mp z with z | z
    · exact h1 z
    · have : a = p := by simpa using z
      rw [this, hp] at h2; cases h2
/-- a cell is written -/
theorem Ext.write {a : Addr} {o : HO} (h : Sim K w S H) (ha : a ∈ w.m) : Ext w H w (upd H a o) :=
  ⟨List.prefix_refl _, fun _ h => h, fun _ h => .inl h, fun _ h => .inl h, fun b xs e => by
    have : b ≠ a := fun z => by
      obtain ⟨o', e', n⟩ := h.has ha
      rw [z, e'] at e
      exact n xs (Option.some.inj e)
    rw [upd_ne this]; exact e, fun b o' e hb => by
    have : b ≠ a := fun z => hb (by rw [z]; exact ha)
    rw [upd_ne this]; exact e, fun b o' e => by
    by_cases hb : b = a
    · exact ⟨o, by rw [hb, upd_same]⟩
    · exact ⟨o', by rw [upd_ne hb]; exact e⟩⟩
theorem Sim.write {i : Nat} {a : Addr} {o : HO} {c : Cel} (h : Sim K w S H) (hi : w.m[i]? = some a) (hc : RC K w (upd H a o) a c) : Sim K w (S.set i c) (upd H a o) := by
  have ha : a ∈ w.m := List.mem_of_getElem? hi
  refine ⟨by rw [List.length_set]; exact h.len, h.nd, fun j c' e => ?_, fun b hb => ?_⟩
  · by_cases hj : j = i
    · subst hj
      have hl : j < S.length := by rw [← h.len]; exact (List.getElem?_eq_some_iff.mp hi).1
      rw [List.getElem?_set_self hl] at e
      cases e
      exact ⟨a, hi, hc⟩
    · rw [List.getElem?_set_ne (Ne.symm hj)] at e
      obtain ⟨b, h1, h2⟩ := h.at_ j c' e
      have nb : b ≠ a := fun z => hj (nd_inj h.nd h1 (z ▸ hi))
      exact ⟨b, h1, h2.mono (Ext.write h ha) fun o' q => by rw [upd_ne nb]; exact q⟩
  · obtain ⟨h1, o', h2⟩ := h.priv b hb
    have nb : b ≠ a := fun z => h1 (z ▸ ha)
    exact ⟨h1, o', by rw [upd_ne nb]; exact h2⟩
theorem Sim.get (h : Sim K w S H) {n : Nat} {c : Cel} {v : V} (hc : S[n]? = some c) (hv : RV K w H (.loc n) v) : ∃ a, v = .ref a ∧ w.m[n]? = some a ∧ RC K w H a c := by
  simp only [RV] at hv
  obtain ⟨a, h1, h2⟩ := hv
  obtain ⟨b, h3, h4⟩ := h.at_ n c hc
  rw [h2] at h3; cases h3
  exact ⟨a, h1, h2, h4⟩

/-! ### lists of values -/
theorem RVs.length : ∀ {ds : List D} {vs : List V}, RVs K w H ds vs → ds.length = vs.length
  | [], vs, h => by simp only [RVs] at h; subst h; rfl
  | d :: ds, vs, h => by
    simp only [RVs] at h
    obtain ⟨v, r, h1, h2, h3⟩ := h
    subst h1
    simp [RVs.length h3]
theorem RVs.nil : RVs K w H [] [] := by simp only [RVs]
theorem RVs.cons {d : D} {ds : List D} {v : V} {vs : List V} (h : RV K w H d v) (t : RVs K w H ds vs) : RVs K w H (d :: ds) (v :: vs) := by
  simp only [RVs]; exact ⟨v, vs, rfl, h, t⟩
theorem RVs.get : ∀ {ds : List D} {vs : List V} {i : Nat} {d : D}, RVs K w H ds vs → ds[i]? = some d → ∃ v, vs[i]? = some v ∧ RV K w H d v
  | [], _, _, _, _, e => by simp at e
  | d :: ds, vs, 0, d', h, e => by
    simp only [RVs] at h
    obtain ⟨v, r, h1, h2, h3⟩ := h
    subst h1
    simp at e; subst e
    exact ⟨v, rfl, h2⟩
  | d :: ds, vs, i + 1, d', h, e => by
    simp only [RVs] at h
    obtain ⟨v, r, h1, h2, h3⟩ := h
    subst h1
    obtain ⟨v', a, b⟩ := RVs.get (i := i) h3 (by simpa using e)
    exact ⟨v', by simpa using a, b⟩
theorem RVs.getV : ∀ {ds : List D} {vs : List V} {i : Nat} {v : V}, RVs K w H ds vs → vs[i]? = some v → ∃ d, ds[i]? = some d ∧ RV K w H d v := fun {ds vs i v} h e => by
  have hl : i < ds.length := by rw [h.length]; exact (List.getElem?_eq_some_iff.mp e).1
  obtain ⟨v', a, b⟩ := h.get (List.getElem?_eq_getElem hl)
  rw [e] at a; cases a
  exact ⟨_, List.getElem?_eq_getElem hl, b⟩
theorem RVs.append : ∀ {ds es : List D} {vs us : List V}, RVs K w H ds vs → RVs K w H es us → RVs K w H (ds ++ es) (vs ++ us)
  | [], es, vs, us, h, h' => by simp only [RVs] at h; subst h; exact h'
  | d :: ds, es, vs, us, h, h' => by
    simp only [RVs] at h
    obtain ⟨v, r, h1, h2, h3⟩ := h
    subst h1
    exact .cons h2 (RVs.append h3 h')
theorem RVs.snoc {ds : List D} {vs : List V} {d : D} {v : V} (h : RVs K w H ds vs) (h' : RV K w H d v) : RVs K w H (ds ++ [d]) (vs ++ [v]) := h.append (.cons h' .nil)
theorem RVs.take : ∀ {ds : List D} {vs : List V} (n : Nat), RVs K w H ds vs → RVs K w H (ds.take n) (vs.take n)
  | _, _, 0, _ => by simp [RVs]
  | [], vs, n + 1, h => by simp only [RVs] at h; subst h; simp [RVs]
  | d :: ds, vs, n + 1, h => by
    simp only [RVs] at h
    obtain ⟨v, r, h1, h2, h3⟩ := h
    subst h1
    exact .cons h2 (RVs.take n h3)
theorem RVs.drop : ∀ {ds : List D} {vs : List V} (n : Nat), RVs K w H ds vs → RVs K w H (ds.drop n) (vs.drop n)
  | _, _, 0, h => h
  | [], vs, n + 1, h => by simp only [RVs] at h; subst h; simp [RVs]
  | d :: ds, vs, n + 1, h => by
    simp only [RVs] at h
    obtain ⟨v, r, h1, h2, h3⟩ := h
    subst h1
    exact RVs.drop n h3
theorem RVs.set : ∀ {ds : List D} {vs : List V} {d : D} {v : V} (i : Nat), RVs K w H ds vs → RV K w H d v → RVs K w H (ds.set i d) (vs.set i v)
  | [], vs, d, v, i, h, h' => by simp only [RVs] at h; subst h; simp [RVs]
  | e :: ds, vs, d, v, 0, h, h' => by
    simp only [RVs] at h
    obtain ⟨u, r, h1, h2, h3⟩ := h
    subst h1
    exact .cons h' h3
  | e :: ds, vs, d, v, i + 1, h, h' => by
    simp only [RVs] at h
    obtain ⟨u, r, h1, h2, h3⟩ := h
    subst h1
    exact .cons h2 (RVs.set i h3 h')
theorem RVs.ints {is : List Int} : ∀ {vs : List V}, RVs K w H (is.map D.int) vs → vs = is.map V.int := by
  induction is with
  | nil => intro vs h; simpa only [List.map_nil, RVs] using h
  | cons i is ih =>
    intro vs h
    simp only [List.map_cons, RVs] at h
    obtain ⟨v, r, h1, h2, h3⟩ := h
    simp only [RV] at h2
    subst h1 h2
    rw [ih h3, List.map_cons]
theorem RVs.of_ints (is : List Int) : RVs K w H (is.map D.int) (is.map V.int) := by
  induction is with
  | nil => exact .nil
  | cons i is ih => exact .cons (by simp only [RV]) ih
theorem RVs.bls {bs : List Bool} : ∀ {vs : List V}, RVs K w H (bs.map D.bl) vs → vs = bs.map V.bl := by
  induction bs with
  | nil => intro vs h; simpa only [List.map_nil, RVs] using h
  | cons i is ih =>
    intro vs h
    simp only [List.map_cons, RVs] at h
    obtain ⟨v, r, h1, h2, h3⟩ := h
    simp only [RV] at h2
    subst h1 h2
    rw [ih h3, List.map_cons]
theorem RVs.strs {bs : List Str} : ∀ {vs : List V}, RVs K w H (bs.map D.str) vs → vs = bs.map V.str := by
  induction bs with
  | nil => intro vs h; simpa only [List.map_nil, RVs] using h
  | cons i is ih =>
    intro vs h
    simp only [List.map_cons, RVs] at h
    obtain ⟨v, r, h1, h2, h3⟩ := h
    simp only [RV] at h2
    subst h1 h2
    rw [ih h3, List.map_cons]
theorem RVs.of_strs (is : List Str) : RVs K w H (is.map D.str) (is.map V.str) := by
  induction is with
  | nil => exact .nil
  | cons i is ih => exact .cons (by simp only [RV]) ih
theorem REnv.set {i : Nat} {d : D} {v : V} (h : REnv K w H ρ σ) (r : RV K w H d v) : REnv K w H (ρ.set i (some d)) (σ.set i (some v)) := by
  refine ⟨by simp [h.1], fun j e q => ?_⟩
  by_cases hj : j = i
  · subst hj
    by_cases hl : j < ρ.length
    · rw [List.getElem?_set_self hl] at q
      cases q
      exact ⟨v, List.getElem?_set_self (by rw [← h.1]; exact hl), r⟩
    · rw [List.getElem?_eq_none (by simpa using hl)] at q; cases q
  · rw [List.getElem?_set_ne (Ne.symm hj)] at q
    obtain ⟨u, a, b⟩ := h.2 j e q
    exact ⟨u, by rw [List.getElem?_set_ne (Ne.symm hj)]; exact a, b⟩
def wipeD (ρ : En) : List Nat → En
  | [] => ρ
  | v :: vs => (wipeD ρ vs).set v none
theorem REnv.wipe (h : REnv K w H ρ σ) : ∀ vs : List Nat, REnv K w H (wipeD ρ vs) (wipe σ vs)
  | [] => h
  | v :: vs => by
    have ih := REnv.wipe h vs
    refine ⟨by simp only [wipeD, L2.wipe, List.length_set]; exact ih.1, fun j e q => ?_⟩
    simp only [wipeD, L2.wipe] at q ⊢
    by_cases hj : j = v
    · subst hj
      by_cases hl : j < (wipeD ρ vs).length
      · rw [List.getElem?_set_self hl] at q; cases q
      · rw [List.getElem?_eq_none (by simpa using hl)] at q; cases q
    · rw [List.getElem?_set_ne (Ne.symm hj)] at q ⊢
      exact ih.2 j e q
end

/-! ### what is wanted behind -/
section
variable (K : PySem.W.Frag)
def PostG {α β : Type} (rel : Wo → Hp → α → β → Prop) (W : WX) (w : Wo) (H : Hp) (σ : St) (r : R α) (Q : β → Hp → Prop) : Prop :=
  match r with
  | .ok a S => ∀ w' H' b, Ext w H w' H' → Sim K w' S H' → rel w' H' a b → Q b H'
  | .ex e S => ∀ w' H' dx v, Ext w H w' H' → Sim K w' S H' → H' dx = some (.xd [(e.f, v)]) → RV K w' H' e.val v → W (.ref e.cls) (some dx) σ H'
  | .no => False
def PostS (W : WX) (w : Wo) (H : Hp) (r : O) (D : Ends) : Prop :=
  match r with
  | .nx ρ S => ∀ w' H' σ', Ext w H w' H' → Sim K w' S H' → REnv K w' H' ρ σ' → D.nx σ' H'
  | .bk ρ S => ∀ w' H' σ', Ext w H w' H' → Sim K w' S H' → REnv K w' H' ρ σ' → D.bk σ' H'
  | .ct ρ S => ∀ w' H' σ', Ext w H w' H' → Sim K w' S H' → REnv K w' H' ρ σ' → D.ct σ' H'
  | .rt d S => ∀ w' H' v, Ext w H w' H' → Sim K w' S H' → RV K w' H' d v → D.rt v H'
  | .ex e ρ S => ∀ w' H' σ' dx v, Ext w H w' H' → Sim K w' S H' → REnv K w' H' ρ σ' → H' dx = some (.xd [(e.f, v)]) → RV K w' H' e.val v → W (.ref e.cls) (some dx) σ' H'
  | .no => False
def relB : Wo → Hp → Bool → Bool → Prop := fun _ _ a b => b = a
def tG {α β : Type} (rel : Wo → Hp → α → β → Prop) (W : WX) (f : En → Sto → R α) (σ : St) (H : Hp) (Q : β → Hp → Prop) : Prop :=
  ∃ w S ρ, Sim K w S H ∧ REnv K w H ρ σ ∧ PostG K rel W w H σ (f ρ S) Q
abbrev EF := En → Sto → R D
abbrev BF := En → Sto → R Bool
abbrev AF := En → Sto → R (List D)
abbrev SF := En → Sto → O
def tE (W : WX) (f : EF) : TE := tG K (RV K) W f
def tT (W : WX) (f : BF) : TT := tG K relB W f
def tA (W : WX) (f : AF) : TA := tG K (RVs K) W f
def tS (W : WX) (f : SF) : TS := fun D σ H => ∃ w S ρ, Sim K w S H ∧ REnv K w H ρ σ ∧ PostS K W w H (f ρ S) D
end
section
variable {K : PySem.W.Frag} {w w' w'' : Wo} {H H' H'' : Hp} {S S' : Sto} {ρ : En} {σ : St} {W : WX}
theorem PostG.shift {α β : Type} {rel : Wo → Hp → α → β → Prop} {r : R α} {Q : β → Hp → Prop} (e : Ext w H w' H') (h : PostG K rel W w H σ r Q) : PostG K rel W w' H' σ r Q := by
  cases r with
  | ok a S => exact fun w2 H2 b e2 => h w2 H2 b (e.trans e2)
  | ex x S => exact fun w2 H2 dx v e2 => h w2 H2 dx v (e.trans e2)
  | no => exact h
theorem PostS.shift {r : O} {D : Ends} (e : Ext w H w' H') (h : PostS K W w H r D) : PostS K W w' H' r D := by
  cases r with
  | nx ρ S => exact fun w2 H2 b e2 => h w2 H2 b (e.trans e2)
  | bk ρ S => exact fun w2 H2 b e2 => h w2 H2 b (e.trans e2)
  | ct ρ S => exact fun w2 H2 b e2 => h w2 H2 b (e.trans e2)
  | rt d S => exact fun w2 H2 b e2 => h w2 H2 b (e.trans e2)
  | ex x ρ S => exact fun w2 H2 b dx v e2 => h w2 H2 b dx v (e.trans e2)
  | no => exact h
theorem PostG.bind {α β γ δ : Type} {rel : Wo → Hp → α → β → Prop} {rel2 : Wo → Hp → γ → δ → Prop} {r : R α} {g : α → Sto → R γ} {Q : δ → Hp → Prop} {Q1 : β → Hp → Prop} (h : PostG K rel2 W w H σ (r.bind g) Q)
    (k : ∀ w' H' b a S', Ext w H w' H' → Sim K w' S' H' → rel w' H' a b → PostG K rel2 W w' H' σ (g a S') Q → Q1 b H') : PostG K rel W w H σ r Q1 := by
  cases r with
  | ok a S => exact fun w' H' b e s q => k w' H' b a S e s q (h.shift e)
  | ex x S => exact h
  | no => exact h
theorem PostG.imp {α β : Type} {rel : Wo → Hp → α → β → Prop} {r : R α} {Q Q' : β → Hp → Prop} (h : PostG K rel W w H σ r Q) (k : ∀ b H', Q b H' → Q' b H') : PostG K rel W w H σ r Q' := by
  cases r with
  | ok a S => exact fun w' H' b e s q => k b H' (h w' H' b e s q)
  | ex x S => exact h
  | no => exact h
theorem PostG.ret {α β : Type} {rel : Wo → Hp → α → β → Prop} {a : α} {b : β} {Q : β → Hp → Prop} (h : PostG K rel W w H σ (.ok a S) Q) (s : Sim K w S H) (q : rel w H a b) : Q b H := h w H b .refl s q
end
/-- a statement that begins by an expression -/
def sB (r : R α) (ρ : En) (g : α → Sto → O) : O :=
  match r with
  | .ok a S => g a S
  | .ex e S => .ex e ρ S
  | .no => .no
@[simp] theorem sB_ok {α : Type} (a : α) (S : Sto) (ρ : En) (g : α → Sto → O) : sB (.ok a S) ρ g = g a S := rfl
@[simp] theorem sB_ex {α : Type} (e : Exn) (S : Sto) (ρ : En) (g : α → Sto → O) : sB (.ex e S : R α) ρ g = .ex e ρ S := rfl
@[simp] theorem sB_no {α : Type} (ρ : En) (g : α → Sto → O) : sB (.no : R α) ρ g = .no := rfl
section
variable {K : PySem.W.Frag} {w w' w'' : Wo} {H H' H'' : Hp} {S S' : Sto} {ρ : En} {σ : St} {W : WX}
theorem PostS.bind {α β : Type} {rel : Wo → Hp → α → β → Prop} {r : R α} {g : α → Sto → O} {D : Ends} {Q1 : β → Hp → Prop} (h : PostS K W w H (sB r ρ g) D) (re : REnv K w H ρ σ)
    (k : ∀ w' H' b a S', Ext w H w' H' → Sim K w' S' H' → rel w' H' a b → PostS K W w' H' (g a S') D → Q1 b H') : PostG K rel W w H σ r Q1 := by
  cases r with
  | ok a S => exact fun w' H' b e s q => k w' H' b a S e s q (PostS.shift e h)
  | ex x S => exact fun w' H' dx v e s q q2 => h w' H' σ dx v e s (re.mono e) q q2
  | no => exact h
end
end Ev

namespace Ev
open PySem PySem.Spec PyProof.Rows L2

structure Ctx (X : Cx) (k : Nat) : Prop where
  calm : X.calm = true
  room : Room k X.A
  nd : X.N.Nodup
theorem Ctx.hu {X : Cx} {k : Nat} (c : Ctx X k) : X.A.units + 64 < cLine := c.room.units
theorem Ctx.hu65 {X : Cx} {k : Nat} (c : Ctx X k) : X.A.units + 65 < cLine := by have := c.room.un; omega

section
variable {X : Cx} {e : Expr} {W : WX}
theorem PE.weak {t t' : TE} (h : PE X e t) (k : ∀ σ H Q, t' σ H Q → t σ H Q) : PE X e t' := ⟨fun pins s σ H Q I q => h.run pins s σ H Q I (k σ H Q q)⟩
theorem PT.weak {t t' : TT} (h : PT X e t) (k : ∀ σ H Q, t' σ H Q → t σ H Q) : PT X e t' := ⟨fun pins s σ H Q I q => h.run pins s σ H Q I (k σ H Q q)⟩
theorem PW.weak {t t' : TT} (h : PW X e t) (k : ∀ σ H Q, t' σ H Q → t σ H Q) : PW X e t' := ⟨fun wh pins s σ H Q I q => h.run wh pins s σ H Q I (k σ H Q q)⟩
theorem PA.weak {es : List Expr} {t t' : TA} (h : PA X es t) (k : ∀ σ H Q, t' σ H Q → t σ H Q) : PA X es t' := ⟨fun pos pins s σ H Q I q => h.run pos pins s σ H Q I (k σ H Q q)⟩
theorem PS.weak {st : Stmt} {t t' : TS} (h : PS X st t) (k : ∀ D σ H, t' D σ H → t D σ H) : PS X st t' := ⟨fun pins s σ H D I q => h.run pins s σ H D I (k D σ H q)⟩
theorem PSs.weak {st : List Stmt} {t t' : TS} (h : PSs X st t) (k : ∀ D σ H, t' D σ H → t D σ H) : PSs X st t' := ⟨fun pins s σ H D I q => h.run pins s σ H D I (k D σ H q)⟩
end

/-! ### names, constants -/
def eVar (i : Nat) : EF := fun ρ S => match ρ[i]? with
  | some (some d) => .ok d S
  | _ => .no
def eC (d : D) : EF := fun _ S => .ok d S
section
variable {X : Cx} {W : WX} {pos : Pos}
theorem E_var (i : Nat) {x : Str} (hN : X.N[i]? = some x := by rfl) (hv : Vis X.env.scope x := by first | exact Or.inl rfl | exact Or.inr (Or.inl rfl) | exact Or.inr (Or.inr rfl)) (hd : (x == ("__debug__" : Str)) = false := by decide)
    (hcd : (x == ("__classdict__" : Str)) = false := by decide) : PE X (.Name x pos) (tE X.K W (eVar i)) := by
  refine PE.weak (pe_var (i := i) hN hv hd hcd) fun σ H Q h => ?_
  obtain ⟨w, S, ρ, s, re, p⟩ := h
  unfold eVar at p
  split at p
  · rename_i d hd
    obtain ⟨v, h1, h2⟩ := re.2 i d hd
    exact ⟨v, h1, p.ret s h2⟩
  · exact p.elim
theorem E_int {i j} : PE X (.Constant (.int i) j pos) (tE X.K W (eC (.int i))) :=
  PE.weak pe_int fun σ H Q h => let ⟨w, S, ρ, s, re, p⟩ := h; p.ret s (by simp only [RV])
theorem E_bl {b j} : PE X (.Constant (.bool b) j pos) (tE X.K W (eC (.bl b))) :=
  PE.weak pe_bl fun σ H Q h => let ⟨w, S, ρ, s, re, p⟩ := h; p.ret s (by simp only [RV])
theorem E_non {j} : PE X (.Constant .none j pos) (tE X.K W (eC .non)) :=
  PE.weak pe_non fun σ H Q h => let ⟨w, S, ρ, s, re, p⟩ := h; p.ret s (by simp only [RV])
theorem E_str {x j} : PE X (.Constant (.str x) j pos) (tE X.K W (eC (.str x))) :=
  PE.weak pe_str fun σ H Q h => let ⟨w, S, ρ, s, re, p⟩ := h; p.ret s (by simp only [RV])
/-- a module's constant tuple of ints -/
structure GTup (K : PySem.W.Frag) (mg : Str → Option Value) (x : Str) (is : List Int) : Prop where
  ex : ∃ a, mg x = some (.ref a) ∧ KT K a (is.map V.int)
theorem E_glob {x : Str} {is : List Int} (g : GTup X.K X.mg x is) (hg : Gl X x := by rfl) (hd : (x == ("__debug__" : Str)) = false := by decide) : PE X (.Name x pos) (tE X.K W (eC (.con (is.map D.int)))) := by
  obtain ⟨a, h1, h2⟩ := g.ex
  refine PE.weak (pe_glob (v := .ref a) hg h1 rfl hd) fun σ H Q h => ?_
  obtain ⟨w, S, ρ, s, re, p⟩ := h
  refine p.ret s ?_
  simp only [RV]
  exact ⟨a, _, rfl, h2, .of_ints is⟩
theorem E_globI {x : Str} {i : Int} {t : Tok} (g : X.mg x = some (.int i t)) (hg : Gl X x := by rfl) (hd : (x == ("__debug__" : Str)) = false := by decide) : PE X (.Name x pos) (tE X.K W (eC (.int i))) :=
  PE.weak (pe_glob (v := .int i) hg g ⟨t, rfl⟩ hd) fun σ H Q h => let ⟨w, S, ρ, s, re, p⟩ := h; p.ret s (by simp only [RV])
end

/-! ### operations by values -/
abbrev Op2 := D → D → Sto → Option D
def OpS (K : PySem.W.Frag) (r : R2) (o : Op2) : Prop := ∀ (w : Wo) (S : Sto) (H : Hp) (x y d : D) (v u : V) (Q : VK), Sim K w S H → RV K w H x v → RV K w H y u → o x y S = some d →
  (∀ w' H' z, Ext w H w' H' → Sim K w' S H' → RV K w' H' d z → Q z H') → r v u H Q
theorem OpS.orL {K : PySem.W.Frag} {r r' : R2} {o : Op2} (h : OpS K r o) : OpS K (fun x y H Q => r x y H Q ∨ r' x y H Q) o := fun w S H x y d v u Q s rx ry e k => .inl (h w S H x y d v u Q s rx ry e k)
def liftO (d : Option D) (S : Sto) : R D := match d with
  | some d => .ok d S
  | none => .no
@[simp] theorem liftO_some (d : D) (S : Sto) : liftO (some d) S = .ok d S := rfl
@[simp] theorem liftO_none (S : Sto) : liftO none S = .no := rfl
def liftB (d : Option D) (S : Sto) : R Bool := match d with
  | some (.bl b) => .ok b S
  | _ => .no
@[simp] theorem liftB_bl (b : Bool) (S : Sto) : liftB (some (.bl b)) S = .ok b S := rfl
def eBin (o : Op2) (fa fb : EF) : EF := fun ρ S => (fa ρ S).bind fun x S1 => (fb ρ S1).bind fun y S2 => liftO (o x y S2) S2
def bBin (o : Op2) (fa fb : EF) : BF := fun ρ S => (fa ρ S).bind fun x S1 => (fb ρ S1).bind fun y S2 => liftB (o x y S2) S2
section
variable {X : Cx} {W : WX} {pos : Pos} {a b : Expr} {fa fb : EF} {r : R2} {o : Op2}
theorem tOp_of {σ : St} {H : Hp} {Q : VK} (hs : OpS X.K r o) (h : tE X.K W (eBin o fa fb) σ H Q) : tOp r (tE X.K W fa) (tE X.K W fb) σ H Q := by
  obtain ⟨w, S, ρ, s, re, p⟩ := h
  refine ⟨w, S, ρ, s, re, p.bind fun w1 H1 v x S1 e1 s1 rx p1 => ?_⟩
  refine ⟨w1, S1, ρ, s1, re.mono e1, p1.bind fun w2 H2 u y S2 e2 s2 ry p2 => ?_⟩
  cases hd : o x y S2 with
  | none => rw [hd] at p2; exact p2.elim
  | some d =>
    rw [hd] at p2
    exact hs w2 S2 H2 x y d v u Q s2 (rx.mono e2) ry hd fun w3 H3 z e3 s3 rz => p2 w3 H3 z e3 s3 rz
theorem tOpB_of {σ : St} {H : Hp} {Q : Bool → Hp → Prop} (hs : OpS X.K r o) (h : tT X.K W (bBin o fa fb) σ H Q) : tTest (tOp r (tE X.K W fa) (tE X.K W fb)) σ H Q := by
  obtain ⟨w, S, ρ, s, re, p⟩ := h
  refine ⟨w, S, ρ, s, re, p.bind fun w1 H1 v x S1 e1 s1 rx p1 => ?_⟩
  refine ⟨w1, S1, ρ, s1, re.mono e1, p1.bind fun w2 H2 u y S2 e2 s2 ry p2 => ?_⟩
  cases hd : o x y S2 with
  | none => rw [hd] at p2; exact p2.elim
  | some d =>
    rw [hd] at p2
    refine hs w2 S2 H2 x y d v u _ s2 (rx.mono e2) ry hd fun w3 H3 z e3 s3 rz => ?_
    cases d with
    | bl k =>
      simp only [RV] at rz
      exact ⟨k, rz, p2 w3 H3 k e3 s3 rfl⟩
    | _ => exact p2.elim
theorem E_bin {op : Operator} (ho : OpR X (binaryOp op) r) (hs : OpS X.K r o) (ha : PE X a (tE X.K W fa)) (hb : PE X b (tE X.K W fb)) : PE X (.BinOp a op b pos) (tE X.K W (eBin o fa fb)) :=
  PE.weak (pe_op ho ha hb) fun _ _ _ h => tOp_of hs h
theorem E_cmp {op : CmpOp} (ho : OpR X (compareOp op) r) (hs : OpS X.K r o) (ha : PE X a (tE X.K W fa)) (hb : PE X b (tE X.K W fb)) (hm : behindInMarks op b = false) : PE X (.Compare a [op] [b] pos) (tE X.K W (eBin o fa fb)) :=
  PE.weak (pe_cmpR ho ha hb hm) fun _ _ _ h => tOp_of hs h
theorem T_cmp {op : CmpOp} (ho : OpR X (compareOp op) r) (hs : OpS X.K r o) (ha : PE X a (tE X.K W fa)) (hb : PE X b (tE X.K W fb)) (hm : behindInMarks op b = false) : PT X (.Compare a [op] [b] pos) (tT X.K W (bBin o fa fb)) :=
  PT.weak (pt_cmpR ho ha hb hm) fun _ _ _ h => tOpB_of hs h
end

/-! ### the operations -/
def tupOf : D → Option (List D)
  | .tup ds => some ds
  | .con ds => some ds
  | _ => none
/-- a list's items; exact: one that no lock holds -/
def lstX (S : Sto) : D → Option (List D)
  | .lst ds => some ds
  | .loc n => match S[n]? with
    | some (.lst ds) => some ds
    | _ => none
  | _ => none
def lstOf (S : Sto) : D → Option (List D)
  | .frz ds => some ds
  | d => lstX S d
def seqOf (S : Sto) (d : D) : Option (List D) := match tupOf d with
  | some ds => some ds
  | none => lstOf S d
section
variable {K : PySem.W.Frag} {w : Wo} {S : Sto} {H : Hp} {x : D} {v : V} {ds : List D}
theorem KT.sq {a : Addr} {xs : List V} (h : KT K a xs) : SqT K H a xs := .inr h
theorem tupOf_sq (rx : RV K w H x v) (h : tupOf x = some ds) : ∃ a xs, v = .ref a ∧ SqT K H a xs ∧ RVs K w H ds xs := by
  cases x with
  | tup es =>
    cases h
    simp only [RV] at rx
    obtain ⟨a, xs, h1, h2, h3⟩ := rx
    exact ⟨a, xs, h1, SqT.of h2, h3⟩
  | con es =>
    cases h
    simp only [RV] at rx
    obtain ⟨a, xs, h1, h2, h3⟩ := rx
    exact ⟨a, xs, h1, h2.sq, h3⟩
  | _ => cases h
theorem lstX_sq (s : Sim K w S H) (rx : RV K w H x v) (h : lstX S x = some ds) : ∃ a xs, v = .ref a ∧ H a = some (.lst xs) ∧ RVs K w H ds xs := by
  cases x with
  | lst es =>
    cases h
    simp only [RV] at rx
    obtain ⟨a, xs, h1, h2, _, h3⟩ := rx
    exact ⟨a, xs, h1, h2, h3⟩
  | loc n =>
    simp only [lstX] at h
    split at h
    · rename_i es he
      cases h
      obtain ⟨a, h1, h2, xs, h3, h4⟩ := s.get he rx
      exact ⟨a, xs, h1, h3, h4⟩
    · cases h
  | _ => cases h
theorem lstOf_sq (s : Sim K w S H) (rx : RV K w H x v) (h : lstOf S x = some ds) : ∃ a xs, v = .ref a ∧ SqL K H a xs ∧ RVs K w H ds xs := by
  cases x with
  | frz es =>
    cases h
    simp only [RV] at rx
    obtain ⟨a, xs, h1, h2, h3⟩ := rx
    exact ⟨a, xs, h1, h2.sq, h3⟩
  | lst es =>
    obtain ⟨a, xs, h1, h2, h3⟩ := lstX_sq s rx (show lstX S _ = some ds from h)
    exact ⟨a, xs, h1, SqL.of h2, h3⟩
  | loc n =>
    obtain ⟨a, xs, h1, h2, h3⟩ := lstX_sq s rx (show lstX S _ = some ds from h)
    exact ⟨a, xs, h1, SqL.of h2, h3⟩
  | _ => cases h
theorem seqOf_sq (s : Sim K w S H) (rx : RV K w H x v) (h : seqOf S x = some ds) : ∃ a xs, v = .ref a ∧ (SqL K H a xs ∨ SqT K H a xs) ∧ RVs K w H ds xs := by
  unfold seqOf at h
  cases ht : tupOf x with
  | some es =>
    rw [ht] at h
    cases h
    obtain ⟨a, xs, h1, h2, h3⟩ := tupOf_sq rx ht
    exact ⟨a, xs, h1, .inr h2, h3⟩
  | none =>
    rw [ht] at h
    obtain ⟨a, xs, h1, h2, h3⟩ := lstOf_sq s rx h
    exact ⟨a, xs, h1, .inl h2, h3⟩
end
def oI (g : Int → Int → Option D) : Op2 := fun x y _ => match x, y with
  | .int i, .int j => g i j
  | _, _ => none
theorem opS_int {K : PySem.W.Frag} {C : Int → Int → Prop} [∀ i j, Decidable (C i j)] {f : Int → Int → Int} : OpS K (rI C fun i j => .int (f i j)) (oI fun i j => if C i j then some (.int (f i j)) else none) := by
  intro w S H x y d v u Q s rx ry e k
  cases x with
  | int i =>
    cases y with
    | int j =>
      simp only [RV] at rx ry
      simp only [oI] at e
      split at e
      · rename_i hc
        cases e
        exact ⟨i, j, rx, ry, hc, k w H _ .refl s (by simp only [RV])⟩
      · cases e
    | _ => cases e
  | _ => cases e
theorem opS_int0 {K : PySem.W.Frag} {f : Int → Int → Int} : OpS K (rI0 fun i j => .int (f i j)) (oI fun i j => some (.int (f i j))) := by
  intro w S H x y d v u Q s rx ry e k
  cases x with
  | int i =>
    cases y with
    | int j =>
      simp only [RV] at rx ry
      simp only [oI] at e
      cases e
      exact ⟨i, j, rx, ry, k w H _ .refl s (by simp only [RV])⟩
    | _ => cases e
  | _ => cases e
theorem opS_intB {K : PySem.W.Frag} {f : Int → Int → Bool} : OpS K (rI0 fun i j => .bl (f i j)) (oI fun i j => some (.bl (f i j))) := by
  intro w S H x y d v u Q s rx ry e k
  cases x with
  | int i =>
    cases y with
    | int j =>
      simp only [RV] at rx ry
      simp only [oI] at e
      cases e
      exact ⟨i, j, rx, ry, k w H _ .refl s (by simp only [RV])⟩
    | _ => cases e
  | _ => cases e
instance (i j : Int) : Decidable (CDiv i j) := by unfold CDiv; infer_instance
instance (i j : Int) : Decidable (CMul i j) := by unfold CMul; infer_instance
instance (i j : Int) : Decidable (CPow i j) := by unfold CPow; infer_instance
def oSub : Op2 := oI fun i j => some (.int (i - j))
def oMul : Op2 := oI fun i j => if CMul i j then some (.int (i * j)) else none
def oDiv : Op2 := oI fun i j => if CDiv i j then some (.int (i / j)) else none
def oMod : Op2 := oI fun i j => if 0 < j then some (.int (i % j)) else none
def oPow : Op2 := oI fun i j => if CPow i j then some (.int (i ^ j.toNat)) else none
def oShl : Op2 := oI fun i j => if CPow i j then some (.int (i * 2 ^ j.toNat)) else none
def oAnd : Op2 := oI fun i j => some (.int (Builtin.bitAnd i j))
def oLt : Op2 := oI fun i j => some (.bl (decide (i < j)))
def oLe : Op2 := oI fun i j => some (.bl (decide (i ≤ j)))
def oGt : Op2 := oI fun i j => some (.bl (decide (j < i)))
def oGe : Op2 := oI fun i j => some (.bl (decide (j ≤ i)))
/-- + : ints, texts, tuples, lists -/
def oAdd : Op2 := fun x y S => match x, y with
  | .int i, .int j => some (.int (i + j))
  | .str a, .str b => if a.length + b.length ≤ sizeLine then some (.str (a ++ b)) else none
  | x, y => match tupOf x, tupOf y with
    | some a, some b => if a.length + b.length ≤ sizeLine then (if a = [] then some y else if b = [] then some x else some (.tup (a ++ b))) else none
    | _, _ => match lstX S x, lstX S y with
      | some a, some b => if a.length + b.length ≤ sizeLine then some (.lst (a ++ b)) else none
      | _, _ => none
def rAddA (K : PySem.W.Frag) : R2 := fun x y H Q => (fun x y H Q => rI0 (fun i j => .int (i + j)) x y H Q ∨ (fun x y H Q => ∃ i j, x = .str i ∧ y = .str j ∧ i.length + j.length ≤ sizeLine ∧ Q (.str (i ++ j)) H) x y H Q) x y H Q ∨
  (fun x y H Q => rCatA K x y H Q ∨ rCat x y H Q) x y H Q
theorem op_addA {X : Cx} : OpR X (binaryOp .Add) (rAddA X.K) := (op_add.or op_add_str).or (op_catA.or op_cat)
theorem wo_fresh_lst {K : PySem.W.Frag} {w : Wo} {S : Sto} {H : Hp} {p : Addr} {o : HO} (s : Sim K w S H) (hp : H p = none) : p ∉ w.m ∧ p ∉ w.q := by
  refine ⟨fun z => ?_, fun z => ?_⟩
  · obtain ⟨o, e, _⟩ := s.has z
    rw [hp] at e; cases e
  · obtain ⟨_, o, e⟩ := s.priv p z
    rw [hp] at e; cases e
theorem RV.newLst {K : PySem.W.Frag} {w : Wo} {S : Sto} {H : Hp} {p : Addr} {ds : List D} {xs : List V} (s : Sim K w S H) (hp : H p = none) (r : RVs K w H ds xs) : RV K w (upd H p (.lst xs)) (.lst ds) (.ref p) := by
  simp only [RV]
  exact ⟨p, xs, rfl, upd_same, wo_fresh_lst (o := .lst xs) s hp, r.mono (Ext.fresh hp)⟩
theorem RV.newTup {K : PySem.W.Frag} {w : Wo} {H : Hp} {p : Addr} {ds : List D} {xs : List V} (hp : H p = none) (r : RVs K w H ds xs) : RV K w (upd H p (.tup xs)) (.tup ds) (.ref p) := by
  simp only [RV]
  exact ⟨p, xs, rfl, upd_same, r.mono (Ext.fresh hp)⟩
theorem RVs.nil_iff {K : PySem.W.Frag} {w : Wo} {H : Hp} {ds : List D} {xs : List V} (r : RVs K w H ds xs) : ds = [] ↔ xs = [] := by
  have h := r.length
  constructor
  · intro e
    subst e
    exact List.eq_nil_of_length_eq_zero h.symm
  · intro e
    subst e
    exact List.eq_nil_of_length_eq_zero h
theorem opS_add {K : PySem.W.Frag} : OpS K (rAddA K) oAdd := by
  intro w S H x y d v u Q s rx ry e k
  unfold oAdd at e
  split at e
  · cases e
    simp only [RV] at rx ry
    exact .inl (.inl ⟨_, _, rx, ry, k w H _ .refl s (by simp only [RV])⟩)
  · split at e
    · rename_i hz
      cases e
      simp only [RV] at rx ry
      exact .inl (.inr ⟨_, _, rx, ry, hz, k w H _ .refl s (by simp only [RV])⟩)
    · cases e
  · split at e
    · rename_i a b ha hb
      obtain ⟨p, xs, h1, h2, h3⟩ := tupOf_sq rx ha
      obtain ⟨q, ys, g1, g2, g3⟩ := tupOf_sq ry hb
      subst h1 g1
      split at e
      · rename_i hz
        rw [h3.length, g3.length] at hz
        refine .inr (.inl ⟨p, q, xs, ys, rfl, rfl, h2, g2, hz, fun e1 => ?_, fun e1 e2 => ?_, fun e1 e2 l hl => ?_⟩)
        · rw [if_pos (h3.nil_iff.mpr e1)] at e
          cases e
          exact k w H _ .refl s ry
        · rw [if_neg (fun z => e1 (h3.nil_iff.mp z)), if_pos (g3.nil_iff.mpr e2)] at e
          cases e
          exact k w H _ .refl s rx
        · rw [if_neg (fun z => e1 (h3.nil_iff.mp z)), if_neg (fun z => e2 (g3.nil_iff.mp z))] at e
          cases e
          exact k w _ _ (Ext.fresh hl) (s.fresh hl) (RV.newTup hl (h3.append g3))
      · cases e
    · split at e
      · rename_i a b ha hb
        obtain ⟨p, xs, h1, h2, h3⟩ := lstX_sq s rx ha
        obtain ⟨q, ys, g1, g2, g3⟩ := lstX_sq s ry hb
        subst h1 g1
        split at e
        · rename_i hz
          cases e
          rw [h3.length, g3.length] at hz
          refine .inr (.inr ⟨p, q, xs, ys, rfl, rfl, h2, g2, hz, fun l hl => ?_⟩)
          exact k w _ _ (Ext.fresh hl) (s.fresh hl) (RV.newLst s hl (h3.append g3))
        · cases e
      · cases e

/-! ### equality, membership -/
mutual
def pyOk : D → Bool
  | .non => true
  | .bl _ => true
  | .int _ => true
  | .str _ => true
  | .tup ds => pyOks ds
  | .con ds => pyOks ds
  | .lst ds => pyOks ds
  | .frz ds => pyOks ds
  | .loc _ => false
def pyOks : List D → Bool
  | [] => true
  | d :: ds => pyOk d && pyOks ds
end
mutual
def py : D → PyData
  | .non => .none
  | .bl b => .bool b
  | .int i => .int i
  | .str x => .str x
  | .tup ds => .tuple (pys ds)
  | .con ds => .tuple (pys ds)
  | .lst ds => .list (pys ds)
  | .frz ds => .list (pys ds)
  | .loc _ => .none
def pys : List D → List PyData
  | [] => []
  | d :: ds => py d :: pys ds
end
section
variable {K : PySem.W.Frag} {w : Wo} {H : Hp}
mutual
theorem dp_of : ∀ {d : D} {v : V}, pyOk d = true → RV K w H d v → Dp K H v (py d)
  | .non, v, _, r => by simp only [RV] at r; subst r; simp only [py]; exact .non
  | .bl b, v, _, r => by simp only [RV] at r; subst r; simp only [py]; exact .bl b
  | .int i, v, _, r => by simp only [RV] at r; subst r; simp only [py]; exact .int i
  | .str x, v, _, r => by simp only [RV] at r; subst r; simp only [py]; exact .str x
  | .tup ds, v, o, r => by
    simp only [RV] at r
    obtain ⟨a, xs, h1, h2, h3⟩ := r
    subst h1
    simp only [py]
    exact .tup (SqT.of h2) (dps_of (by simpa only [pyOk] using o) h3)
  | .con ds, v, o, r => by
    simp only [RV] at r
    obtain ⟨a, xs, h1, h2, h3⟩ := r
    subst h1
    simp only [py]
    exact .tup h2.sq (dps_of (by simpa only [pyOk] using o) h3)
  | .lst ds, v, o, r => by
    simp only [RV] at r
    obtain ⟨a, xs, h1, h2, _, h3⟩ := r
    subst h1
    simp only [py]
    exact .lst (SqL.of h2) (dps_of (by simpa only [pyOk] using o) h3)
  | .frz ds, v, o, r => by
    simp only [RV] at r
    obtain ⟨a, xs, h1, h2, h3⟩ := r
    subst h1
    simp only [py]
    exact .lst h2.sq (dps_of (by simpa only [pyOk] using o) h3)
  | .loc n, v, o, _ => by simp only [pyOk] at o; cases o
theorem dps_of : ∀ {ds : List D} {vs : List V}, pyOks ds = true → RVs K w H ds vs → DpAll K H vs (pys ds)
  | [], vs, _, r => by simp only [RVs] at r; subst r; simp only [pys]; exact .nil
  | d :: ds, vs, o, r => by
    simp only [RVs] at r
    obtain ⟨v, t, h1, h2, h3⟩ := r
    subst h1
    simp only [pyOks, Bool.and_eq_true] at o
    simp only [pys]
    exact .cons (dp_of o.1 h2) (dps_of o.2 h3)
end
end
/-- a list of the store as a value, for a look -/
def deref (S : Sto) (d : D) : D := match d with
  | .loc n => match S[n]? with
    | some (.lst ds) => .lst ds
    | _ => d
  | _ => d
theorem dp_deref {K : PySem.W.Frag} {w : Wo} {S : Sto} {H : Hp} {d : D} {v : V} (s : Sim K w S H) (o : pyOk (deref S d) = true) (r : RV K w H d v) : Dp K H v (py (deref S d)) := by
  cases d with
  | loc n =>
    unfold deref at o ⊢
    dsimp only at o ⊢
    split at o
    · rename_i ds hd
      obtain ⟨a, h1, h2, xs, h3, h4⟩ := s.get hd r
      subst h1
      simp only [py]
      exact .lst (SqL.of h3) (dps_of (by simpa only [pyOk] using o) h4)
    · simp only [pyOk] at o; cases o
  | _ => exact dp_of o r
def eqOk (d : D) : Bool := pyOk d && SeqAt.shaped (py d)
/-- == -/
def deq (x y : D) : Bool := PyData.eqv (py x) (py y)
def oEq : Op2 := fun x y S => match x, y with
  | .int i, .int j => some (.bl (decide (i = j)))
  | .str i, .str j => some (.bl (decide (i = j)))
  | .bl i, .bl j => some (.bl (decide (i = j)))
  | x, y => if eqOk (deref S x) && eqOk (deref S y) then some (.bl (deq (deref S x) (deref S y))) else none
def oNe : Op2 := fun x y S => match oEq x y S with
  | some (.bl b) => some (.bl (!b))
  | _ => none
def rEqA (K : PySem.W.Frag) : R2 := fun x y H Q => rEq x y H Q ∨ rEqD K x y H Q
def rNeA (K : PySem.W.Frag) : R2 := fun x y H Q => rNe x y H Q ∨ rNeD K x y H Q
theorem op_eqA {X : Cx} {k : Nat} (c : Ctx X k) : OpR X (compareOp .Eq) (rEqA X.K) := op_eq.or (op_eqD c.hu)
theorem op_neA {X : Cx} {k : Nat} (c : Ctx X k) : OpR X (compareOp .NotEq) (rNeA X.K) := op_ne.or (op_neD c.hu)
theorem eq_cases {K : PySem.W.Frag} {w : Wo} {S : Sto} {H : Hp} {x y d : D} {v u : V} (s : Sim K w S H) (rx : RV K w H x v) (ry : RV K w H y u) (e : oEq x y S = some d) :
    (∃ b, d = .bl b ∧ scal v u = true ∧ b = decide (v = u)) ∨ ∃ p q, Dp K H v p ∧ Dp K H u q ∧ SeqAt.shaped p = true ∧ SeqAt.shaped q = true ∧ d = .bl (PyData.eqv p q) := by
  unfold oEq at e
  split at e
  · cases e; simp only [RV] at rx ry; subst rx ry; exact .inl ⟨_, rfl, rfl, by simp⟩
  · cases e; simp only [RV] at rx ry; subst rx ry; exact .inl ⟨_, rfl, rfl, by simp⟩
  · cases e; simp only [RV] at rx ry; subst rx ry; exact .inl ⟨_, rfl, rfl, by simp⟩
  · split at e
    · rename_i hc
      simp only [Bool.and_eq_true, eqOk] at hc
      obtain ⟨⟨h1, h2⟩, h3, h4⟩ := hc
      cases e
      exact .inr ⟨_, _, dp_deref s h1 rx, dp_deref s h3 ry, h2, h4, rfl⟩
    · cases e
theorem opS_eq {K : PySem.W.Frag} : OpS K (rEqA K) oEq := by
  intro w S H x y d v u Q s rx ry e k
  rcases eq_cases s rx ry e with ⟨b, rfl, h1, rfl⟩ | ⟨p, q, h1, h2, h3, h4, rfl⟩
  · exact .inl ⟨h1, k w H _ .refl s (by simp only [RV])⟩
  · exact .inr ⟨p, q, h1, h2, h3, h4, k w H _ .refl s (by simp only [RV])⟩
theorem opS_ne {K : PySem.W.Frag} : OpS K (rNeA K) oNe := by
  intro w S H x y d v u Q s rx ry e k
  unfold oNe at e
  split at e
  · rename_i b hb
    cases e
    rcases eq_cases s rx ry hb with ⟨b', e', h1, rfl⟩ | ⟨p, q, h1, h2, h3, h4, e'⟩
    · cases e'; exact .inl ⟨h1, k w H _ .refl s (by simp only [RV])⟩
    · cases e'; exact .inr ⟨p, q, h1, h2, h3, h4, k w H _ .refl s (by simp only [RV])⟩
  · cases e
def intsOf : List D → Option (List Int)
  | [] => some []
  | .int i :: ds => (intsOf ds).map (i :: ·)
  | _ :: _ => none
theorem intsOf_eq : ∀ {ds : List D} {is : List Int}, intsOf ds = some is → ds = is.map D.int
  | [], is, h => by cases h; rfl
  | d :: ds, is, h => by
    cases d with
    | int i =>
      simp only [intsOf] at h
      cases e : intsOf ds with
      | none => rw [e] at h; cases h
      | some js => rw [e] at h; cases h; rw [intsOf_eq e]; rfl
    | _ => cases h
@[simp] theorem intsOf_map (is : List Int) : intsOf (is.map D.int) = some is := by
  induction is with
  | nil => rfl
  | cons i is ih => simp only [List.map_cons, intsOf, ih, Option.map_some]
/-- x in a list or a tuple -/
def inB (x y : D) (S : Sto) : Option Bool := match x, (seqOf S y).bind intsOf with
  | .int i, some is => some (decide (i ∈ is))
  | x, _ => match seqOf S y with
    | some ds => if eqOk x && eqOk (.lst ds) then some (ds.any fun z => deq z x) else none
    | none => none
def oIn : Op2 := fun x y S => (inB x y S).map D.bl
def oNotIn : Op2 := fun x y S => (inB x y S).map fun b => D.bl (!b)
def rInT (K : PySem.W.Frag) (neg : Bool) : R2 := fun x y H Q => ∃ d ds, Dp K H x d ∧ Dp K H y (.tuple ds) ∧ SeqAt.shaped d = true ∧ SeqAt.shaped (.list ds) = true ∧ Q (.bl (if neg then !(ds.any fun z => PyData.eqv z d) else ds.any fun z => PyData.eqv z d)) H
theorem op_inT {X : Cx} (hu : X.A.units + 65 < cLine) : OpR X (compareOp .In) (rInT X.K false) := by
  intro pins s σ H x y v u Q I rx ry h
  obtain ⟨d, ds, hd, he, sd, se, q⟩ := h
  obtain ⟨as, r1⟩ := Dp.reads I d x v hd rx
  obtain ⟨bs, r2⟩ := Dp.reads I (.tuple ds) y u he ry
  exact SeqAt.in_tuple_reads r2 r1 (SeqAt.canLay_of_shaped se) (SeqAt.canLay_of_shaped sd) (room_in_shaped sd hu) ⟨.bl _, H, I, rfl, q⟩
theorem op_notInT {X : Cx} (hu : X.A.units + 65 < cLine) : OpR X (compareOp .NotIn) (rInT X.K true) := by
  intro pins s σ H x y v u Q I rx ry h
  obtain ⟨d, ds, hd, he, sd, se, q⟩ := h
  obtain ⟨as, r1⟩ := Dp.reads I d x v hd rx
  obtain ⟨bs, r2⟩ := Dp.reads I (.tuple ds) y u he ry
  exact SeqAt.notIn_tuple_reads r2 r1 (SeqAt.canLay_of_shaped se) (SeqAt.canLay_of_shaped sd) (room_in_shaped sd hu) ⟨.bl _, H, I, rfl, q⟩
def rInA (K : PySem.W.Frag) : R2 := fun x y H Q => rIn K false x y H Q ∨ (fun x y H Q => rInD K x y H Q ∨ rInT K false x y H Q) x y H Q
def rNotInA (K : PySem.W.Frag) : R2 := fun x y H Q => rIn K true x y H Q ∨ (fun x y H Q => rNotInD K x y H Q ∨ rInT K true x y H Q) x y H Q
theorem op_inA {X : Cx} {k : Nat} (c : Ctx X k) : OpR X (compareOp .In) (rInA X.K) := op_in_seq.or ((op_inD c.hu65).or (op_inT c.hu65))
theorem op_notInA {X : Cx} {k : Nat} (c : Ctx X k) : OpR X (compareOp .NotIn) (rNotInA X.K) := op_notIn_seq.or ((op_notInD c.hu65).or (op_notInT c.hu65))
theorem inV_ints (i : Int) (is : List Int) : inV (.int i) (is.map V.int) = decide (i ∈ is) := by
  unfold inV
  rw [List.any_map, Bool.eq_iff_iff]
  simp only [List.any_eq_true, Function.comp, eqV, beq_iff_eq, decide_eq_true_eq]
  exact ⟨fun ⟨x, h1, h2⟩ => h2 ▸ h1, fun h => ⟨i, h, rfl⟩⟩
theorem flat_ints (is : List Int) : (is.map V.int).all flatV = true := by
  rw [List.all_eq_true]
  intro v hv
  obtain ⟨i, _, rfl⟩ := List.mem_map.mp hv
  rfl
theorem any_pys (x : D) : ∀ ds : List D, (pys ds).any (fun z => PyData.eqv z (py x)) = ds.any fun z => deq z x
  | [] => rfl
  | d :: ds => by simp only [pys, List.any_cons, any_pys x ds, deq]
theorem in_cases {K : PySem.W.Frag} {w : Wo} {S : Sto} {H : Hp} {x y : D} {v u : V} {b : Bool} (s : Sim K w S H) (rx : RV K w H x v) (ry : RV K w H y u) (e : inB x y S = some b) :
    (∃ p xs, u = .ref p ∧ (SqL K H p xs ∨ SqT K H p xs) ∧ flatV v = true ∧ xs.all flatV = true ∧ b = inV v xs) ∨
    ∃ d ds, Dp K H v d ∧ (Dp K H u (.list ds) ∨ Dp K H u (.tuple ds)) ∧ SeqAt.shaped d = true ∧ SeqAt.shaped (.list ds) = true ∧ b = ds.any fun z => PyData.eqv z d := by
  unfold inB at e
  split at e
  · rename_i i is hs
    cases e
    cases hq : seqOf S y with
    | none => rw [hq] at hs; cases hs
    | some ds =>
      rw [hq] at hs
      obtain ⟨a, xs, h1, h2, h3⟩ := seqOf_sq s ry hq
      have e' := intsOf_eq (show intsOf ds = some is from hs)
      subst e'
      rw [h3.ints] at h2
      simp only [RV] at rx
      subst rx
      exact .inl ⟨a, _, h1, h2, rfl, flat_ints _, (inV_ints _ _).symm⟩
  · split at e
    · rename_i ds hq
      split at e
      · rename_i hc
        cases e
        simp only [Bool.and_eq_true, eqOk] at hc
        obtain ⟨⟨h1, h2⟩, h3, h4⟩ := hc
        obtain ⟨a, xs, g1, g2, g3⟩ := seqOf_sq s ry hq
        subst g1
        refine .inr ⟨_, pys ds, dp_of h1 rx, ?_, h2, by simpa only [py] using h4, (any_pys _ _).symm⟩
        have ha := dps_of (by simpa only [pyOk] using h3) g3
        rcases g2 with g2 | g2
        · exact .inl (.lst g2 ha)
        · exact .inr (.tup g2 ha)
      · cases e
    · cases e
theorem opS_in {K : PySem.W.Frag} : OpS K (rInA K) oIn := by
  intro w S H x y d v u Q s rx ry e k
  unfold oIn at e
  cases hb : inB x y S with
  | none => rw [hb] at e; cases e
  | some b =>
    rw [hb] at e
    cases e
    have fin : Q (.bl b) H := k w H _ .refl s (by simp only [RV])
    rcases in_cases s rx ry hb with ⟨p, xs, h1, h2, h3, h4, h5⟩ | ⟨d, ds, h1, h2, h3, h4, h5⟩
    · exact .inl ⟨p, xs, h1, h2, h3, h4, by rw [if_neg Bool.false_ne_true, ← h5]; exact fin⟩
    · rcases h2 with h2 | h2
      · exact .inr (.inl ⟨d, ds, h1, h2, h3, h4, by rw [← h5]; exact fin⟩)
      · exact .inr (.inr ⟨d, ds, h1, h2, h3, h4, by rw [if_neg Bool.false_ne_true, ← h5]; exact fin⟩)
theorem opS_notIn {K : PySem.W.Frag} : OpS K (rNotInA K) oNotIn := by
  intro w S H x y d v u Q s rx ry e k
  unfold oNotIn at e
  cases hb : inB x y S with
  | none => rw [hb] at e; cases e
  | some b =>
    rw [hb] at e
    cases e
    have fin : Q (.bl (!b)) H := k w H _ .refl s (by simp only [RV])
    rcases in_cases s rx ry hb with ⟨p, xs, h1, h2, h3, h4, h5⟩ | ⟨d, ds, h1, h2, h3, h4, h5⟩
    · exact .inl ⟨p, xs, h1, h2, h3, h4, by rw [if_pos rfl, ← h5]; exact fin⟩
    · rcases h2 with h2 | h2
      · exact .inr (.inl ⟨d, ds, h1, h2, h3, h4, by rw [← h5]; exact fin⟩)
      · exact .inr (.inr ⟨d, ds, h1, h2, h3, h4, by rw [if_pos rfl, ← h5]; exact fin⟩)
/-- is None -/
def isNonD : D → Bool
  | .non => true
  | _ => false
def oIsN : Op2 := fun x y _ => match y with
  | .non => some (.bl (isNonD x))
  | _ => none
def oNotN : Op2 := fun x y _ => match y with
  | .non => some (.bl (!isNonD x))
  | _ => none
theorem isN_eq {K : PySem.W.Frag} {w : Wo} {H : Hp} {x : D} {v : V} (rx : RV K w H x v) : decide (v = .non) = isNonD x := by
  cases x with
  | non => simp only [RV] at rx; subst rx; simp [isNonD]
  | bl b => simp only [RV] at rx; subst rx; simp [isNonD]
  | int b => simp only [RV] at rx; subst rx; simp [isNonD]
  | str b => simp only [RV] at rx; subst rx; simp [isNonD]
  | tup ds => simp only [RV] at rx; obtain ⟨a, xs, rfl, _⟩ := rx; simp [isNonD]
  | con ds => simp only [RV] at rx; obtain ⟨a, xs, rfl, _⟩ := rx; simp [isNonD]
  | lst ds => simp only [RV] at rx; obtain ⟨a, xs, rfl, _⟩ := rx; simp [isNonD]
  | frz ds => simp only [RV] at rx; obtain ⟨a, xs, rfl, _⟩ := rx; simp [isNonD]
  | loc n => simp only [RV] at rx; obtain ⟨a, rfl, _⟩ := rx; simp [isNonD]
theorem opS_isN {K : PySem.W.Frag} : OpS K (fun x y H Q => y = .non ∧ Q (.bl (decide (x = .non))) H) oIsN := by
  intro w S H x y d v u Q s rx ry e k
  cases y with
  | non =>
    simp only [RV] at ry
    refine ⟨ry, ?_⟩
    cases e
    rw [isN_eq rx]
    exact k w H _ .refl s (by simp only [RV])
  | _ => cases e
theorem opS_notN {K : PySem.W.Frag} : OpS K (fun x y H Q => y = .non ∧ Q (.bl (!decide (x = .non))) H) oNotN := by
  intro w S H x y d v u Q s rx ry e k
  cases y with
  | non =>
    simp only [RV] at ry
    refine ⟨ry, ?_⟩
    cases e
    rw [isN_eq rx]
    exact k w H _ .refl s (by simp only [RV])
  | _ => cases e
/-- subscripts -/
def oIx : Op2 := fun x y S => match y with
  | .int i => match tupOf x with
    | some ds => atI ds i
    | none => match lstOf S x with
      | some ds => atI ds i
      | none => match x with
        | .str z => if z.length ≤ sizeLine then (atI z.cps.toList i).map fun c => D.str ⟨#[c]⟩ else none
        | _ => none
  | _ => none
theorem atI_rel {K : PySem.W.Frag} {w : Wo} {H : Hp} {ds : List D} {xs : List V} {i : Int} {d : D} (r : RVs K w H ds xs) (h : atI ds i = some d) : ∃ v, atI xs i = some v ∧ RV K w H d v := by
  unfold atI at h ⊢
  rw [← r.length]
  cases e : ixN ds.length i with
  | none => rw [e] at h; cases h
  | some j => rw [e] at h; exact r.get h
theorem opS_ix {K : PySem.W.Frag} : OpS K (rIx K) oIx := by
  intro w S H x y d v u Q s rx ry e k
  unfold oIx at e
  split at e
  · rename_i i
    simp only [RV] at ry
    split at e
    · rename_i ds hd
      obtain ⟨a, xs, h1, h2, h3⟩ := tupOf_sq rx hd
      obtain ⟨z, g1, g2⟩ := atI_rel h3 e
      exact .inr (.inl ⟨a, xs, i, z, h1, ry, h2, g1, k w H _ .refl s g2⟩)
    · split at e
      · rename_i ds hd
        obtain ⟨a, xs, h1, h2, h3⟩ := lstOf_sq s rx hd
        obtain ⟨z, g1, g2⟩ := atI_rel h3 e
        exact .inl ⟨a, xs, i, z, h1, ry, h2, g1, k w H _ .refl s g2⟩
      · split at e
        · split at e
          · rename_i z _ _ hz
            simp only [RV] at rx
            cases hc : atI z.cps.toList i with
            | none => rw [hc] at e; cases e
            | some c =>
              rw [hc] at e
              cases e
              exact .inr (.inr ⟨z, i, c, rx, ry, hz, hc, k w H _ .refl s (by simp only [RV])⟩)
          · cases e
        · cases e
  · cases e
section
variable {X : Cx} {W : WX} {pos : Pos} {a b : Expr} {fa fb : EF}
theorem E_add (ha : PE X a (tE X.K W fa)) (hb : PE X b (tE X.K W fb)) : PE X (.BinOp a .Add b pos) (tE X.K W (eBin oAdd fa fb)) := E_bin op_addA opS_add ha hb
theorem E_sub (ha : PE X a (tE X.K W fa)) (hb : PE X b (tE X.K W fb)) : PE X (.BinOp a .Sub b pos) (tE X.K W (eBin oSub fa fb)) := E_bin op_sub opS_int0 ha hb
theorem E_mul (ha : PE X a (tE X.K W fa)) (hb : PE X b (tE X.K W fb)) : PE X (.BinOp a .Mult b pos) (tE X.K W (eBin oMul fa fb)) := E_bin op_mul opS_int ha hb
theorem E_div (ha : PE X a (tE X.K W fa)) (hb : PE X b (tE X.K W fb)) : PE X (.BinOp a .FloorDiv b pos) (tE X.K W (eBin oDiv fa fb)) := E_bin op_fdiv opS_int ha hb
theorem E_mod (ha : PE X a (tE X.K W fa)) (hb : PE X b (tE X.K W fb)) : PE X (.BinOp a .Mod b pos) (tE X.K W (eBin oMod fa fb)) := E_bin op_mod opS_int ha hb
theorem E_pow (ha : PE X a (tE X.K W fa)) (hb : PE X b (tE X.K W fb)) : PE X (.BinOp a .Pow b pos) (tE X.K W (eBin oPow fa fb)) := E_bin op_pow opS_int ha hb
theorem E_shl (ha : PE X a (tE X.K W fa)) (hb : PE X b (tE X.K W fb)) : PE X (.BinOp a .LShift b pos) (tE X.K W (eBin oShl fa fb)) := E_bin op_shl opS_int ha hb
theorem E_and_ (ha : PE X a (tE X.K W fa)) (hb : PE X b (tE X.K W fb)) : PE X (.BinOp a .BitAnd b pos) (tE X.K W (eBin oAnd fa fb)) := E_bin op_and opS_int0 ha hb
theorem E_ix (ha : PE X a (tE X.K W fa)) (hb : PE X b (tE X.K W fb)) (hs : PlainIx b := by exact fun _ _ => rfl) : PE X (.Subscript a b pos) (tE X.K W (eBin oIx fa fb)) :=
  PE.weak (pe_ix ix_seq ha hb hs) fun _ _ _ h => tOp_of opS_ix h
end
end Ev

namespace Ev
open PySem PySem.Spec PyProof.Rows L2

/-! ### tests -/
def truD (d : D) (S : Sto) : Option Bool := match d with
  | .non => some false
  | .bl b => some b
  | .int i => some (i != 0)
  | .str x => if x.length ≤ sizeLine then some ((x.length : Int) != 0) else none
  | .tup ds => some (!ds.isEmpty)
  | .con ds => some (!ds.isEmpty)
  | .lst ds => some (!ds.isEmpty)
  | .frz ds => some (!ds.isEmpty)
  | .loc n => match S[n]? with
    | some (.lst ds) => some (!ds.isEmpty)
    | some (.dK kvs) => some (!kvs.isEmpty)
    | _ => none
def liftG {α : Type} (d : Option α) (S : Sto) : R α := match d with
  | some d => .ok d S
  | none => .no
@[simp] theorem liftG_some {α : Type} (d : α) (S : Sto) : liftG (some d) S = .ok d S := rfl
@[simp] theorem liftG_none {α : Type} (S : Sto) : liftG (none : Option α) S = .no := rfl
def bVal (fa : EF) : BF := fun ρ S => (fa ρ S).bind fun x S1 => liftG (truD x S1) S1
theorem RVs.empty {K : PySem.W.Frag} {w : Wo} {H : Hp} {ds : List D} {xs : List V} (r : RVs K w H ds xs) : ds.isEmpty = xs.isEmpty := by
  have h := r.length
  cases ds with
  | nil => cases xs with
    | nil => rfl
    | cons x xs => cases h
  | cons d ds => cases xs with
    | nil => cases h
    | cons x xs => rfl
theorem truD_ok {K : PySem.W.Frag} {w : Wo} {S : Sto} {H : Hp} {x : D} {v : V} {b : Bool} (s : Sim K w S H) (rx : RV K w H x v) (h : truD x S = some b) : TruV K v H b := by
  cases x with
  | non => simp only [RV] at rx; subst rx; cases h; exact rfl
  | bl b => simp only [RV] at rx; subst rx; cases h; exact rfl
  | int b => simp only [RV] at rx; subst rx; cases h; exact rfl
  | str b =>
    simp only [RV] at rx; subst rx
    simp only [truD] at h
    split at h
    · rename_i hz; cases h; exact ⟨hz, rfl⟩
    · cases h
  | tup ds => simp only [RV] at rx; obtain ⟨a, xs, rfl, h2, h3⟩ := rx; cases h; exact .inr (.inl ⟨xs, SqT.of h2, by rw [h3.empty]⟩)
  | con ds => simp only [RV] at rx; obtain ⟨a, xs, rfl, h2, h3⟩ := rx; cases h; exact .inr (.inl ⟨xs, h2.sq, by rw [h3.empty]⟩)
  | lst ds => simp only [RV] at rx; obtain ⟨a, xs, rfl, h2, _, h3⟩ := rx; cases h; exact .inl ⟨xs, SqL.of h2, by rw [h3.empty]⟩
  | frz ds => simp only [RV] at rx; obtain ⟨a, xs, rfl, h2, h3⟩ := rx; cases h; exact .inl ⟨xs, h2.sq, by rw [h3.empty]⟩
  | loc n =>
    simp only [truD] at h
    split at h
    · rename_i ds hd
      cases h
      obtain ⟨a, rfl, h2, xs, h3, h4⟩ := s.get hd rx
      exact .inl ⟨xs, SqL.of h3, by rw [h4.empty]⟩
    · rename_i kvs hd
      cases h
      obtain ⟨a, rfl, h2, vs, h3, h4, h5⟩ := s.get hd rx
      refine .inr (.inr ⟨vs, h3, ?_⟩)
      have := h5.empty
      cases kvs <;> cases vs <;> simp_all
    · cases h
def bAnd (fa fb : BF) : BF := fun ρ S => (fa ρ S).bind fun x S1 => if x = true then fb ρ S1 else .ok false S1
def bOr (fa fb : BF) : BF := fun ρ S => (fa ρ S).bind fun x S1 => if x = true then .ok true S1 else fb ρ S1
def bNot (fa : BF) : BF := fun ρ S => (fa ρ S).bind fun x S1 => .ok (!x) S1
def eAnd (fa fb : EF) : EF := fun ρ S => (fa ρ S).bind fun x S1 => match x with
  | .bl true => fb ρ S1
  | .bl false => .ok (.bl false) S1
  | _ => .no
def eOr (fa fb : EF) : EF := fun ρ S => (fa ρ S).bind fun x S1 => match x with
  | .bl true => .ok (.bl true) S1
  | .bl false => fb ρ S1
  | _ => .no
def eNot (fa : EF) : EF := fun ρ S => (fa ρ S).bind fun x S1 => match x with
  | .bl b => .ok (.bl (!b)) S1
  | _ => .no
/-- x or y by truth -/
def eOrT (fa fb : EF) : EF := fun ρ S => (fa ρ S).bind fun x S1 => (liftG (truD x S1) S1).bind fun k S2 => if k = true then .ok x S2 else fb ρ S2
def eIf (t : BF) (fa fb : EF) : EF := fun ρ S => (t ρ S).bind fun c S1 => if c = true then fa ρ S1 else fb ρ S1
section
variable {X : Cx} {W : WX} {pos : Pos} {a b c : Expr} {fa fb : EF} {ta tb : BF} {rest : List Expr}
theorem T_val (ha : PE X a (tE X.K W fa)) (he : ∀ whole, isTrue a X.env whole = (do let v ← whole; standAt a.pos; holding [v] (truthy v)) := by exact fun _ => rfl) : PT X a (tT X.K W (bVal fa)) :=
  PT.weak (pt_truth ha he) fun σ H Q h => by
    obtain ⟨w, S, ρ, s, re, p⟩ := h
    refine ⟨w, S, ρ, s, re, p.bind fun w1 H1 v x S1 e1 s1 rx p1 => ?_⟩
    cases hb : truD x S1 with
    | none => rw [hb] at p1; exact p1.elim
    | some k => rw [hb] at p1; exact ⟨k, truD_ok s1 rx hb, p1 w1 H1 k .refl s1 rfl⟩
theorem T_and1 (ha : PT X a (tT X.K W ta)) : PW X (.BoolOp .And [a] pos) (tT X.K W ta) := pw_and1 ha
theorem T_or1 (ha : PT X a (tT X.K W ta)) : PW X (.BoolOp .Or [a] pos) (tT X.K W ta) := pw_or1 ha
theorem T_and (ha : PT X a (tT X.K W ta)) (hb : PW X (.BoolOp .And (b :: rest) pos) (tT X.K W tb)) : PW X (.BoolOp .And (a :: b :: rest) pos) (tT X.K W (bAnd ta tb)) :=
  PW.weak (pw_and ha hb) fun σ H Q h => by
    obtain ⟨w, S, ρ, s, re, p⟩ := h
    refine ⟨w, S, ρ, s, re, p.bind fun w1 H1 v x S1 e1 s1 rx p1 => ?_⟩
    cases rx
    split
    · rename_i hx; rw [if_pos hx] at p1; exact ⟨w1, S1, ρ, s1, re.mono e1, p1⟩
    · rename_i hx; rw [if_neg hx] at p1; exact p1 w1 H1 false .refl s1 rfl
theorem T_or (ha : PT X a (tT X.K W ta)) (hb : PW X (.BoolOp .Or (b :: rest) pos) (tT X.K W tb)) : PW X (.BoolOp .Or (a :: b :: rest) pos) (tT X.K W (bOr ta tb)) :=
  PW.weak (pw_or ha hb) fun σ H Q h => by
    obtain ⟨w, S, ρ, s, re, p⟩ := h
    refine ⟨w, S, ρ, s, re, p.bind fun w1 H1 v x S1 e1 s1 rx p1 => ?_⟩
    cases rx
    split
    · rename_i hx; rw [if_pos hx] at p1; exact p1 w1 H1 true .refl s1 rfl
    · rename_i hx; rw [if_neg hx] at p1; exact ⟨w1, S1, ρ, s1, re.mono e1, p1⟩
theorem T_not (ha : PT X a (tT X.K W ta)) : PT X (.UnaryOp .Not a pos) (tT X.K W (bNot ta)) :=
  PT.weak (pt_not ha) fun σ H Q h => by
    obtain ⟨w, S, ρ, s, re, p⟩ := h
    refine ⟨w, S, ρ, s, re, p.bind fun w1 H1 v x S1 e1 s1 rx p1 => ?_⟩
    cases rx
    exact p1 w1 H1 _ .refl s1 rfl
theorem E_one {op} (h : PE X a (tE X.K W fa)) : PE X (.BoolOp op [a] pos) (tE X.K W fa) := pe_one h
theorem E_andV (ha : PE X a (tE X.K W fa)) (hb : PE X (.BoolOp .And (b :: rest) pos) (tE X.K W fb)) : PE X (.BoolOp .And (a :: b :: rest) pos) (tE X.K W (eAnd fa fb)) :=
  PE.weak (pe_and ha hb) fun σ H Q h => by
    obtain ⟨w, S, ρ, s, re, p⟩ := h
    refine ⟨w, S, ρ, s, re, p.bind fun w1 H1 v x S1 e1 s1 rx p1 => ?_⟩
    cases x with
    | bl k =>
      simp only [RV] at rx
      refine ⟨k, rx, ?_⟩
      cases k with
      | true => exact ⟨w1, S1, ρ, s1, re.mono e1, p1⟩
      | false => exact p1 w1 H1 _ .refl s1 (by simp only [RV])
    | _ => exact p1.elim
theorem E_orV (ha : PE X a (tE X.K W fa)) (hb : PE X (.BoolOp .Or (b :: rest) pos) (tE X.K W fb)) : PE X (.BoolOp .Or (a :: b :: rest) pos) (tE X.K W (eOr fa fb)) :=
  PE.weak (pe_or ha hb) fun σ H Q h => by
    obtain ⟨w, S, ρ, s, re, p⟩ := h
    refine ⟨w, S, ρ, s, re, p.bind fun w1 H1 v x S1 e1 s1 rx p1 => ?_⟩
    cases x with
    | bl k =>
      simp only [RV] at rx
      refine ⟨k, rx, ?_⟩
      cases k with
      | false => exact ⟨w1, S1, ρ, s1, re.mono e1, p1⟩
      | true => exact p1 w1 H1 _ .refl s1 (by simp only [RV])
    | _ => exact p1.elim
theorem E_orT (ha : PE X a (tE X.K W fa)) (hb : PE X (.BoolOp .Or (b :: rest) pos) (tE X.K W fb)) : PE X (.BoolOp .Or (a :: b :: rest) pos) (tE X.K W (eOrT fa fb)) :=
  PE.weak (pe_orT ha hb) fun σ H Q h => by
    obtain ⟨w, S, ρ, s, re, p⟩ := h
    refine ⟨w, S, ρ, s, re, p.bind fun w1 H1 v x S1 e1 s1 rx p1 => ?_⟩
    cases hk : truD x S1 with
    | none => rw [hk] at p1; exact p1.elim
    | some k =>
      rw [hk] at p1
      refine ⟨k, truD_ok s1 rx hk, ?_⟩
      cases k with
      | true => exact p1 w1 H1 v .refl s1 rx
      | false => exact ⟨w1, S1, ρ, s1, re.mono e1, p1⟩
theorem E_notV (ha : PE X a (tE X.K W fa)) : PE X (.UnaryOp .Not a pos) (tE X.K W (eNot fa)) :=
  PE.weak (pe_not ha) fun σ H Q h => by
    obtain ⟨w, S, ρ, s, re, p⟩ := h
    refine ⟨w, S, ρ, s, re, p.bind fun w1 H1 v x S1 e1 s1 rx p1 => ?_⟩
    cases x with
    | bl k =>
      simp only [RV] at rx
      exact ⟨k, rx, p1 w1 H1 _ .refl s1 (by simp only [RV])⟩
    | _ => exact p1.elim
theorem E_ifx (hc : PT X c (tT X.K W ta)) (ha : PE X a (tE X.K W fa)) (hb : PE X b (tE X.K W fb)) : PE X (.IfExp c a b pos) (tE X.K W (eIf ta fa fb)) :=
  PE.weak (pe_ifExp hc ha hb) fun σ H Q h => by
    obtain ⟨w, S, ρ, s, re, p⟩ := h
    refine ⟨w, S, ρ, s, re, p.bind fun w1 H1 v x S1 e1 s1 rx p1 => ?_⟩
    cases rx
    split
    · rename_i hx; rw [if_pos hx] at p1; exact ⟨w1, S1, ρ, s1, re.mono e1, p1⟩
    · rename_i hx; rw [if_neg hx] at p1; exact ⟨w1, S1, ρ, s1, re.mono e1, p1⟩
/-- - i -/
def eNeg (fa : EF) : EF := fun ρ S => (fa ρ S).bind fun x S1 => match x with
  | .int i => .ok (.int (-i)) S1
  | _ => .no
theorem E_neg (ha : PE X a (tE X.K W fa)) : PE X (.UnaryOp .USub a pos) (tE X.K W (eNeg fa)) :=
  PE.weak (pe_un un_neg ha) fun σ H Q h => by
    obtain ⟨w, S, ρ, s, re, p⟩ := h
    refine ⟨w, S, ρ, s, re, p.bind fun w1 H1 v x S1 e1 s1 rx p1 => ?_⟩
    cases x with
    | int i =>
      simp only [RV] at rx
      exact ⟨i, rx, p1 w1 H1 _ .refl s1 (by simp only [RV])⟩
    | _ => exact p1.elim
end

/-! ### arguments, displays -/
def aNil : AF := fun _ S => .ok [] S
def aCons (fa : EF) (fr : AF) : AF := fun ρ S => (fa ρ S).bind fun x S1 => (fr ρ S1).bind fun xs S2 => .ok (x :: xs) S2
def eTup (fa : AF) : EF := fun ρ S => (fa ρ S).bind fun ds S1 => if ds.length ≤ sizeLine then .ok (.tup ds) S1 else .no
def eLst (fa : AF) : EF := fun ρ S => (fa ρ S).bind fun ds S1 => if ds.length ≤ sizeLine then .ok (.lst ds) S1 else .no
/-- a list that will be changed: it goes to the store -/
def eLstA (fa : AF) : EF := fun ρ S => (fa ρ S).bind fun ds S1 => if ds.length ≤ sizeLine then .ok (.loc S1.length) (S1 ++ [.lst ds]) else .no
theorem RV.newLoc {K : PySem.W.Frag} {w : Wo} {S : Sto} {H : Hp} {p : Addr} (s : w.m.length = S.length) : RV K (w.add p) H (.loc S.length) (.ref p) := by
  simp only [RV]
  refine ⟨p, rfl, ?_⟩
  show (w.m ++ [p])[S.length]? = some p
  rw [← s, List.getElem?_append_right (Nat.le_refl _), Nat.sub_self]
  rfl
theorem RVs.up {K : PySem.W.Frag} {w w' : Wo} {H H' : Hp} {ds : List D} {vs : List V} (e : Ext w H w' H') (r : RVs K w H ds vs) : RVs K w' H' ds vs := r.mono e
theorem RC.newLst {K : PySem.W.Frag} {w : Wo} {H : Hp} {p : Addr} {ds : List D} {xs : List V} (hp : H p = none) (r : RVs K w H ds xs) : RC K (w.add p) (upd H p (.lst xs)) p (.lst ds) := ⟨xs, upd_same, r.mono (Ext.alloc hp)⟩
section
variable {X : Cx} {W : WX} {pos : Pos} {e : Expr} {es : List Expr} {fa : EF} {fr : AF}
theorem A_nil : PA X [] (tA X.K W aNil) := PA.weak pa_nil fun σ H Q h => let ⟨w, S, ρ, s, re, p⟩ := h; p.ret s .nil
theorem A_cons (ha : PE X e (tE X.K W fa)) (hr : PA X es (tA X.K W fr)) (hs : starEach (e :: es) X.env = (false, eval e X.env) :: starEach es X.env := by rfl) : PA X (e :: es) (tA X.K W (aCons fa fr)) :=
  PA.weak (pa_cons ha hr hs) fun σ H Q h => by
    obtain ⟨w, S, ρ, s, re, p⟩ := h
    refine ⟨w, S, ρ, s, re, p.bind fun w1 H1 v x S1 e1 s1 rx p1 => ?_⟩
    exact ⟨w1, S1, ρ, s1, re.mono e1, p1.bind fun w2 H2 vs xs S2 e2 s2 rxs p2 => p2 w2 H2 _ .refl s2 (.cons (rx.mono e2) rxs)⟩
theorem E_tup {x1} (h : PA X es (tA X.K W fr)) : PE X (.Tuple es x1 pos) (tE X.K W (eTup fr)) :=
  PE.weak (pe_tup h) fun σ H Q h => by
    obtain ⟨w, S, ρ, s, re, p⟩ := h
    refine ⟨w, S, ρ, s, re, p.bind fun w1 H1 vs xs S1 e1 s1 rx p1 => ?_⟩
    split at p1
    · rename_i hz
      exact ⟨by rw [← rx.length]; exact hz, fun q hq => p1 w1 _ _ (Ext.fresh hq) (s1.fresh hq) (RV.newTup hq rx)⟩
    · exact p1.elim
theorem E_lst (h : PA X es (tA X.K W fr)) : PE X (.List es pos) (tE X.K W (eLst fr)) :=
  PE.weak (pe_lst h) fun σ H Q h => by
    obtain ⟨w, S, ρ, s, re, p⟩ := h
    refine ⟨w, S, ρ, s, re, p.bind fun w1 H1 vs xs S1 e1 s1 rx p1 => ?_⟩
    split at p1
    · rename_i hz
      exact ⟨by rw [← rx.length]; exact hz, fun q hq => p1 w1 _ _ (Ext.fresh hq) (s1.fresh hq) (RV.newLst s1 hq rx)⟩
    · exact p1.elim
theorem E_lstA (h : PA X es (tA X.K W fr)) : PE X (.List es pos) (tE X.K W (eLstA fr)) :=
  PE.weak (pe_lst h) fun σ H Q h => by
    obtain ⟨w, S, ρ, s, re, p⟩ := h
    refine ⟨w, S, ρ, s, re, p.bind fun w1 H1 vs xs S1 e1 s1 rx p1 => ?_⟩
    split at p1
    · rename_i hz
      refine ⟨by rw [← rx.length]; exact hz, fun q hq => p1 (w1.add q) _ _ (Ext.alloc hq) (s1.alloc hq (RC.newLst hq rx)) (RV.newLoc s1.len)⟩
    · exact p1.elim
end

/-! ### targets -/
inductive Tg where
  | nm (i : Nat) | tp (ts : List Tg) | ls (ts : List Tg)
mutual
def Tg.asg : Tg → D → En → Sto → Option En
  | .nm i, d, ρ, _ => some (ρ.set i (some d))
  | .tp ts, d, ρ, S => match tupOf d with
    | some ds => if ds.length = ts.length then asgs ts ds ρ S else none
    | none => none
  | .ls ts, d, ρ, S => match lstOf S d with
    | some ds => if ds.length = ts.length then asgs ts ds ρ S else none
    | none => none
def asgs : List Tg → List D → En → Sto → Option En
  | [], _, ρ, _ => some ρ
  | t :: ts, d :: ds, ρ, S => match t.asg d ρ S with
    | some ρ1 => asgs ts ds ρ1 S
    | none => none
  | _ :: _, [], _, _ => none
end
mutual
def Tg.slots : Tg → List Nat
  | .nm i => [i]
  | .tp ts => slotss ts
  | .ls ts => slotss ts
def slotss : List Tg → List Nat
  | [] => []
  | t :: ts => t.slots ++ slotss ts
end
/-- what a target does with the slots -/
def Wpd (is : List Nat) (σ σ' : St) : Prop := ∀ vs : List Nat, (∀ i ∈ is, i ∈ vs) → wipe σ' vs = wipe σ vs
def gT (K : PySem.W.Frag) (t : Tg) : TG := fun v σ H Q => ∃ w S ρ d ρ', Sim K w S H ∧ REnv K w H ρ σ ∧ RV K w H d v ∧ t.asg d ρ S = some ρ' ∧ ∀ σ', REnv K w H ρ' σ' → Wpd t.slots σ σ' → Q σ' H
def gTs (K : PySem.W.Frag) (ts : List Tg) : TGs := fun vs σ H Q => ∃ w S ρ ds ρ', Sim K w S H ∧ REnv K w H ρ σ ∧ RVs K w H ds vs ∧ ds.length = ts.length ∧ asgs ts ds ρ S = some ρ' ∧ ∀ σ', REnv K w H ρ' σ' → Wpd (slotss ts) σ σ' → Q σ' H
theorem wipe_set (σ : St) (i : Nat) (v : Option V) : ∀ vs : List Nat, i ∈ vs → wipe (σ.set i v) vs = wipe σ vs
  | [], h => by simp at h
  | j :: vs, h => by
    unfold wipe
    by_cases hm : i ∈ vs
    · rw [wipe_set σ i v vs hm]
    · have hj : j = i := by
        rcases List.mem_cons.mp h with z | z
        · exact z.symm
        · exact absurd z hm
      subst hj
      have key : ∀ vs : List Nat, j ∉ vs → wipe (σ.set j v) vs = (wipe σ vs).set j v := by
        intro vs
        induction vs with
        | nil => intro _; rfl
        | cons k vs ih =>
          intro hk
          simp only [List.mem_cons, not_or] at hk
          unfold wipe
          rw [ih hk.2, List.set_comm _ _ hk.1]
      rw [key vs hm, List.set_set]
theorem Wpd.trans {is js : List Nat} {σ σ1 σ2 : St} (a : Wpd is σ σ1) (b : Wpd js σ1 σ2) : Wpd (is ++ js) σ σ2 := fun vs h =>
  (b vs fun i hi => h i (List.mem_append_right _ hi)).trans (a vs fun i hi => h i (List.mem_append_left _ hi))
section
variable {X : Cx} {pos : Pos}
theorem PG.weak {tg : Expr} {t t' : TG} (h : PG X tg t) (k : ∀ v σ H Q, t' v σ H Q → t v σ H Q) : PG X tg t' := ⟨fun pins s σ H v u Q I r q => h.run pins s σ H v u Q I r (k v σ H Q q)⟩
theorem PGs.weak {ts : List Expr} {t t' : TGs} (h : PGs X ts t) (k : ∀ v σ H Q, t' v σ H Q → t v σ H Q) : PGs X ts t' := ⟨fun pins s σ H v u Q I r q => h.run pins s σ H v u Q I r (k v σ H Q q)⟩
theorem G_nm (i : Nat) {x : Str} (hN : X.N.Nodup) (hi : X.N[i]? = some x := by rfl) (hx : Loc X.env.scope x := by first | exact Or.inl rfl | exact Or.inr rfl) (hf : X.fn x = true ∨ X.env.scope.names.lookup x = some .local := by first | exact .inl rfl | exact .inr rfl | assumption) :
    PG X (.Name x pos) (gT X.K (.nm i)) :=
  PG.weak (pg_name (i := i) hN hi hx hf) fun v σ H Q h => by
    obtain ⟨w, S, ρ, d, ρ', s, re, rd, e, k⟩ := h
    cases e
    refine k _ (re.set rd) fun vs hv => wipe_set σ i _ vs (hv i (by simp [Tg.slots]))
theorem Gs_nil : PGs X [] (gTs X.K []) :=
  PGs.weak pgs_nil fun v σ H Q h => by
    obtain ⟨w, S, ρ, ds, ρ', s, re, rd, l, e, k⟩ := h
    have l' : ds = [] := List.eq_nil_of_length_eq_zero l
    subst l'
    simp only [RVs] at rd
    simp only [asgs] at e
    cases e
    exact ⟨rd, k σ re fun _ _ => rfl⟩
theorem Gs_cons {e : Expr} {es : List Expr} {t : Tg} {ts : List Tg} (h1 : PG X e (gT X.K t)) (h2 : PGs X es (gTs X.K ts)) (hs : (assignEach (e :: es) X.env).map (·.2) = assign e X.env :: (assignEach es X.env).map (·.2) := by rfl) :
    PGs X (e :: es) (gTs X.K (t :: ts)) :=
  PGs.weak (pgs_cons h1 h2 hs) fun v σ H Q h => by
    obtain ⟨w, S, ρ, ds, ρ', s, re, rd, l, e, k⟩ := h
    cases ds with
    | nil => cases l
    | cons d ds =>
      simp only [RVs] at rd
      obtain ⟨u, r, h1, h2, h3⟩ := rd
      simp only [asgs] at e
      cases ha : t.asg d ρ S with
      | none => rw [ha] at e; cases e
      | some ρ1 =>
        rw [ha] at e
        refine ⟨u, r, h1, w, S, ρ, d, ρ1, s, re, h2, ha, fun σ1 re1 wp1 => ?_⟩
        exact ⟨w, S, ρ1, ds, ρ', s, re1, h3, by simpa using l, e, fun σ2 re2 wp2 => k σ2 re2 (by simpa only [slotss] using wp1.trans wp2)⟩
theorem G_tp {es : List Expr} {k : Nat} {ts : List Tg} (hc : X.calm = true) (h : PGs X es (gTs X.K ts)) (hn : (assignEach es X.env).length = ts.length := by rfl) (hst : (assignEach es X.env).findIdx? (·.1) = none := by rfl) :
    PG X (.Tuple es k pos) (gT X.K (.tp ts)) :=
  PG.weak (pg_tup hc h hn hst) fun v σ H Q h => by
    obtain ⟨w, S, ρ, d, ρ', s, re, rd, e, k⟩ := h
    simp only [Tg.asg] at e
    split at e
    · rename_i ds hd
      split at e
      · rename_i hl
        obtain ⟨a, xs, h1, h2, h3⟩ := tupOf_sq rd hd
        exact ⟨a, xs, h1, h2, by rw [← h3.length]; exact hl, w, S, ρ, ds, ρ', s, re, h3, hl, e, fun σ' r' wp => k σ' r' (by simpa only [Tg.slots] using wp)⟩
      · cases e
    · cases e
theorem G_ls {es : List Expr} {k : Nat} {ts : List Tg} (hc : X.calm = true) (h : PGs X es (gTs X.K ts)) (hn : (assignEach es X.env).length = ts.length := by rfl) (hst : (assignEach es X.env).findIdx? (·.1) = none := by rfl) :
    PG X (.Tuple es k pos) (gT X.K (.ls ts)) :=
  PG.weak (pg_lst hc h hn hst) fun v σ H Q h => by
    obtain ⟨w, S, ρ, d, ρ', s, re, rd, e, k⟩ := h
    simp only [Tg.asg] at e
    split at e
    · rename_i ds hd
      split at e
      · rename_i hl
        obtain ⟨a, xs, h1, h2, h3⟩ := lstOf_sq s rd hd
        exact ⟨a, xs, h1, h2, by rw [← h3.length]; exact hl, w, S, ρ, ds, ρ', s, re, h3, hl, e, fun σ' r' wp => k σ' r' (by simpa only [Tg.slots] using wp)⟩
      · cases e
    · cases e
end

/-! ### statements -/
def sSeq (f g : SF) : SF := fun ρ S => match f ρ S with
  | .nx ρ1 S1 => g ρ1 S1
  | o => o
def sNext : SF := fun ρ S => .nx ρ S
def sSet (i : Nat) (fe : EF) : SF := fun ρ S => sB (fe ρ S) ρ fun d S1 => .nx (ρ.set i (some d)) S1
def sAsg (t : Tg) (fe : EF) : SF := fun ρ S => sB (fe ρ S) ρ fun d S1 => match t.asg d ρ S1 with
  | some ρ1 => .nx ρ1 S1
  | none => .no
def sExpr (fe : EF) : SF := fun ρ S => sB (fe ρ S) ρ fun _ S1 => .nx ρ S1
def sRet (fe : EF) : SF := fun ρ S => sB (fe ρ S) ρ fun d S1 => .rt d S1
def sRetN : SF := fun _ S => .rt .non S
def sIf (t : BF) (f g : SF) : SF := fun ρ S => sB (t ρ S) ρ fun c S1 => if c = true then f ρ S1 else g ρ S1
def sBrk : SF := fun ρ S => .bk ρ S
def sCnt : SF := fun ρ S => .ct ρ S
def sNo : SF := fun _ _ => .no
section
variable {X : Cx} {W : WX} {pos pos' : Pos} {st : Stmt} {rest : List Stmt} {e : Expr} {f g : SF} {fe : EF} {t : BF}
theorem S_nil : PSs X [] (tS X.K W sNext) := PSs.weak pss_nil fun D σ H h => let ⟨w, S, ρ, s, re, p⟩ := h; p w H σ .refl s re
theorem S_cons (h1 : PS X st (tS X.K W f)) (h2 : PSs X rest (tS X.K W g)) : PSs X (st :: rest) (tS X.K W (sSeq f g)) :=
  PSs.weak (pss_cons h1 h2) fun D σ H h => by
    obtain ⟨w, S, ρ, s, re, p⟩ := h
    refine ⟨w, S, ρ, s, re, ?_⟩
    unfold sSeq at p
    cases hf : f ρ S with
    | nx ρ1 S1 =>
      rw [hf] at p
      exact fun w1 H1 σ1 e1 s1 r1 => ⟨w1, S1, ρ1, s1, r1, PostS.shift e1 p⟩
    | _ => rw [hf] at p; exact p
theorem S_one (h1 : PS X st (tS X.K W f)) : PSs X [st] (tS X.K W f) := pss_one h1
theorem S_never : PS X st (tS X.K W sNo) := PS.weak ps_never fun D σ H h => let ⟨w, S, ρ, s, re, p⟩ := h; p.elim
theorem S_pass : PS X (.Pass pos) (tS X.K W sNext) := PS.weak ps_pass fun D σ H h => let ⟨w, S, ρ, s, re, p⟩ := h; p w H σ .refl s re
theorem S_brk : PS X (.Break pos) (tS X.K W sBrk) := PS.weak ps_break fun D σ H h => let ⟨w, S, ρ, s, re, p⟩ := h; p w H σ .refl s re
theorem S_cnt : PS X (.Continue pos) (tS X.K W sCnt) := PS.weak ps_continue fun D σ H h => let ⟨w, S, ρ, s, re, p⟩ := h; p w H σ .refl s re
theorem S_doc {x j} : PS X (.Expr (.Constant (.str x) j pos) pos') (tS X.K W sNext) := PS.weak ps_doc fun D σ H h => let ⟨w, S, ρ, s, re, p⟩ := h; p w H σ .refl s re
theorem S_expr (he : PE X e (tE X.K W fe)) (hs : swapsWith e none pos.line X.env = pure false := by rfl) : PS X (.Expr e pos) (tS X.K W (sExpr fe)) :=
  PS.weak (ps_expr he hs) fun D σ H h => by
    obtain ⟨w, S, ρ, s, re, p⟩ := h
    exact ⟨w, S, ρ, s, re, PostS.bind p re fun w1 H1 v d S1 e1 s1 rd p1 => p1 w1 H1 σ .refl s1 (re.mono e1)⟩
theorem S_ret (he : PE X e (tE X.K W fe)) : PS X (.Return (some e) pos) (tS X.K W (sRet fe)) :=
  PS.weak (ps_ret he) fun D σ H h => by
    obtain ⟨w, S, ρ, s, re, p⟩ := h
    exact ⟨w, S, ρ, s, re, PostS.bind p re fun w1 H1 v d S1 e1 s1 rd p1 => p1 w1 H1 v .refl s1 rd⟩
theorem S_retN : PS X (.Return none pos) (tS X.K W sRetN) := PS.weak ps_retN fun D σ H h => let ⟨w, S, ρ, s, re, p⟩ := h; p w H _ .refl s (by simp only [RV])
theorem S_set (i : Nat) {x : Str} (hN : X.N.Nodup) (he : PE X e (tE X.K W fe)) (hi : X.N[i]? = some x := by rfl) (hx : Loc X.env.scope x := by first | exact Or.inl rfl | exact Or.inr rfl) (hs : swapsWith e (some (.Name x pos')) pos.line X.env = pure false := by rfl)
    (hf : X.fn x = true ∨ X.env.scope.names.lookup x = some .local := by first | exact .inl rfl | exact .inr rfl | assumption) : PS X (.Assign [.Name x pos'] e pos) (tS X.K W (sSet i fe)) :=
  PS.weak (ps_set hN hi hx he hs hf) fun D σ H h => by
    obtain ⟨w, S, ρ, s, re, p⟩ := h
    exact ⟨w, S, ρ, s, re, PostS.bind p re fun w1 H1 v d S1 e1 s1 rd p1 => p1 w1 H1 _ .refl s1 ((re.mono e1).set rd)⟩
theorem S_asg {tg : Expr} {tt : Tg} (he : PE X e (tE X.K W fe)) (hg : PG X tg (gT X.K tt)) (hs : swapsWithSole [tg] e pos.line X.env = pure false := by rfl) (hw : swappedStores [tg] e X.env = pure none := by rfl)
    (h1 : (assignEach [tg] X.env).map (·.2) = [assign tg X.env] := by rfl) : PS X (.Assign [tg] e pos) (tS X.K W (sAsg tt fe)) :=
  PS.weak (ps_asg he hg hs hw h1) fun D σ H h => by
    obtain ⟨w, S, ρ, s, re, p⟩ := h
    refine ⟨w, S, ρ, s, re, PostS.bind p re fun w1 H1 v d S1 e1 s1 rd p1 => ?_⟩
    cases ha : tt.asg d ρ S1 with
    | none => rw [ha] at p1; exact p1.elim
    | some ρ1 =>
      rw [ha] at p1
      exact ⟨w1, S1, ρ, d, ρ1, s1, re.mono e1, rd, ha, fun σ' r' _ => p1 w1 H1 σ' .refl s1 r'⟩
theorem S_if {c : Expr} {a b : List Stmt} (hc : PT X c (tT X.K W t)) (ha : PSs X a (tS X.K W f)) (hb : PSs X b (tS X.K W g)) : PS X (.If c a b pos) (tS X.K W (sIf t f g)) :=
  PS.weak (ps_if hc ha hb) fun D σ H h => by
    obtain ⟨w, S, ρ, s, re, p⟩ := h
    refine ⟨w, S, ρ, s, re, PostS.bind p re fun w1 H1 v d S1 e1 s1 rd p1 => ?_⟩
    cases rd
    split
    · rename_i hx; rw [if_pos hx] at p1; exact ⟨w1, S1, ρ, s1, re.mono e1, p1⟩
    · rename_i hx; rw [if_neg hx] at p1; exact ⟨w1, S1, ρ, s1, re.mono e1, p1⟩
end
end Ev

namespace Ev
open PySem PySem.Spec PyProof.Rows L2

/-! ### what is walked -/
structure Wk where
  ds : List D
  at_ : Option Nat
def Wk.ok (k : Wk) (S : Sto) : Prop := match k.at_ with
  | none => True
  | some n => S[n]? = some (.lst k.ds)
def Walks (K : PySem.W.Frag) (w0 : Wo) (H0 : Hp) (k : Wk) (J : It) : Prop :=
  ∀ w H S, Ext w0 H0 w H → Sim K w S H → k.ok S →
    (∀ (i : Nat) (d : D), k.ds[i]? = some d → J.go i H ∧ ∀ x H', J.yld i H x H' → Ext w H w H' ∧ Sim K w S H' ∧ RV K w H' d x) ∧ J.stop k.ds.length H
abbrev IF := En → Sto → R Wk
def tI (K : PySem.W.Frag) (W : WX) (f : IF) : TI := tG K (Walks K) W f
section
variable {X : Cx} {W : WX} {tg iter : Expr}
theorem PI.weak {t t' : TI} (h : PI X tg iter t) (k : ∀ σ H R, t' σ H R → t σ H R) : PI X tg iter t' := ⟨fun pins s σ H R I q => h.run pins s σ H R I (k σ H R q)⟩
end
def iTupD (fe : EF) : IF := fun ρ S => (fe ρ S).bind fun d S1 => match tupOf d with
  | some ds => .ok ⟨ds, none⟩ S1
  | none => .no
def iLstD (fe : EF) : IF := fun ρ S => (fe ρ S).bind fun d S1 => match d with
  | .lst ds => .ok ⟨ds, none⟩ S1
  | .frz ds => .ok ⟨ds, none⟩ S1
  | .loc n => match S1[n]? with
    | some (.lst ds) => .ok ⟨ds, some n⟩ S1
    | _ => .no
  | _ => .no
def rngD (lo : Int) (n : Nat) : List D := (List.range n).map fun (i : Nat) => D.int (lo + i)
def big62 (i : Int) : Bool := decide (-(2 ^ 62) ≤ i ∧ i < 2 ^ 62)
def iRng1D (fa : AF) : IF := fun ρ S => (fa ρ S).bind fun ds S1 => match ds with
  | [.int j] => if big62 j then .ok ⟨rngD 0 j.toNat, none⟩ S1 else .no
  | _ => .no
def iRng2D (fa : AF) : IF := fun ρ S => (fa ρ S).bind fun ds S1 => match ds with
  | [.int i, .int j] => if big62 i && big62 j then .ok ⟨rngD i (j - i).toNat, none⟩ S1 else .no
  | _ => .no
theorem rngD_get {lo : Int} {n i : Nat} {d : D} (h : (rngD lo n)[i]? = some d) : i < n ∧ d = .int (lo + i) := by
  unfold rngD at h
  rw [List.getElem?_map] at h
  by_cases hi : i < n
  · rw [List.getElem?_range hi] at h
    exact ⟨hi, (Option.some.inj h).symm⟩
  · rw [List.getElem?_eq_none (by simpa using hi)] at h; cases h
@[simp] theorem rngD_length (lo : Int) (n : Nat) : (rngD lo n).length = n := by simp [rngD]
section
variable {K : PySem.W.Frag} {w : Wo} {H : Hp} {a : Addr} {ds : List D} {xs : List V}
theorem SqT.ext {w' : Wo} {H' : Hp} {S : Sto} (s : Sim K w S H) (e : Ext w H w' H') (h : SqT K H a xs) : SqT K H' a xs := by
  have hm : ∀ o, H a = some (.frz o (.tup xs)) → a ∉ w.m := fun o ho z => by
    obtain ⟨o', e', _⟩ := s.has z
    obtain ⟨i, hi, ei⟩ := List.getElem_of_mem z
    have hi' : i < S.length := by rw [← s.len]; exact hi
    obtain ⟨b, hb, hc⟩ := s.at_ i S[i] (List.getElem?_eq_getElem hi')
    rw [List.getElem?_eq_getElem hi, ei] at hb
    cases hb
    generalize S[i] = c at hc
    cases c with
    | lst _ => obtain ⟨_, q, _⟩ := hc; rw [ho] at q; cases q
    | dK _ => obtain ⟨_, q, _⟩ := hc; rw [ho] at q; cases q
    | dT _ => obtain ⟨_, q, _⟩ := hc; rw [ho] at q; cases q
    | ins _ _ => obtain ⟨_, _, q, _⟩ := hc; rw [ho] at q; cases q
  rcases h with (h | ⟨o, h⟩) | h
  · exact .inl (.inl (e.tup _ _ h))
  · exact .inl (.inr ⟨o, e.keep _ _ h (hm o h)⟩)
  · exact .inr h
theorem walks_tup {S0 : Sto} (s0 : Sim K w S0 H) (h : SqT K H a xs) (r : RVs K w H ds xs) : Walks K w H ⟨ds, none⟩ (Itt K a) := fun w1 H1 S e s _ => by
  have h1 := SqT.ext s0 e h
  have r1 := r.mono e
  refine ⟨fun i d hd => ?_, ⟨xs, h1, by rw [r.length]; exact Nat.le_refl _⟩⟩
  obtain ⟨v, hv, rv⟩ := r1.get hd
  refine ⟨⟨xs, v, h1, hv⟩, fun x H' hy => ?_⟩
  obtain ⟨rfl, hy⟩ := hy
  have : x = v := Option.some.inj ((hy xs h1).symm.trans hv)
  subst this
  exact ⟨.refl, s, rv⟩
theorem walks_lst (hm : (∃ o, H a = some o) ∧ a ∉ w.m) (h : Rd H a (.lst xs)) (r : RVs K w H ds xs) : Walks K w H ⟨ds, none⟩ (Itl K a) := fun w1 H1 S e s _ => by
  have h1 : SqL K H1 a xs := .inl (e.rd h hm.2)
  have r1 := r.mono e
  refine ⟨fun i d hd => ?_, ⟨xs, h1, by rw [r.length]; exact Nat.le_refl _⟩⟩
  obtain ⟨v, hv, rv⟩ := r1.get hd
  refine ⟨⟨xs, v, h1, hv⟩, fun x H' hy => ?_⟩
  obtain ⟨rfl, hy⟩ := hy
  have : x = v := Option.some.inj ((hy xs h1).symm.trans hv)
  subst this
  exact ⟨.refl, s, rv⟩
theorem walks_frz (h : Frz K w H a xs) (r : RVs K w H ds xs) : Walks K w H ⟨ds, none⟩ (Itl K a) := fun w1 H1 S e s _ => by
  have h1 : SqL K H1 a xs := (h.mono e).sq
  have r1 := r.mono e
  refine ⟨fun i d hd => ?_, ⟨xs, h1, by rw [r.length]; exact Nat.le_refl _⟩⟩
  obtain ⟨v, hv, rv⟩ := r1.get hd
  refine ⟨⟨xs, v, h1, hv⟩, fun x H' hy => ?_⟩
  obtain ⟨rfl, hy⟩ := hy
  have : x = v := Option.some.inj ((hy xs h1).symm.trans hv)
  subst this
  exact ⟨.refl, s, rv⟩
theorem walks_loc {n : Nat} (hn : w.m[n]? = some a) : Walks K w H ⟨ds, some n⟩ (Itl K a) := fun w1 H1 S e s ok => by
  have ok : S[n]? = some (.lst ds) := ok
  obtain ⟨b, hb, xs, hx, r1⟩ := s.at_ n _ ok
  obtain ⟨t, ht⟩ := e.pre
  rw [← ht, List.getElem?_append_left (List.getElem?_eq_some_iff.mp hn).1, hn] at hb
  cases hb
  have h1 : SqL K H1 a xs := SqL.of hx
  refine ⟨fun i d hd => ?_, ⟨xs, h1, by rw [r1.length]; exact Nat.le_refl _⟩⟩
  obtain ⟨v, hv, rv⟩ := r1.get hd
  refine ⟨⟨xs, v, h1, hv⟩, fun x H' hy => ?_⟩
  obtain ⟨rfl, hy⟩ := hy
  have : x = v := Option.some.inj ((hy xs h1).symm.trans hv)
  subst this
  exact ⟨.refl, s, rv⟩
theorem walks_rng {lo : Int} {n : Nat} : Walks K w H ⟨rngD lo n, none⟩ (Itr lo n) := fun w1 H1 S e s _ => by
  refine ⟨fun i d hd => ?_, by rw [rngD_length]; exact Nat.le_refl _⟩
  obtain ⟨h1, h2⟩ := rngD_get hd
  refine ⟨h1, fun x H' hy => ?_⟩
  obtain ⟨rfl, rfl⟩ := hy
  subst h2
  exact ⟨.refl, s, by simp only [RV]⟩
end
section
variable {X : Cx} {W : WX} {tg e : Expr} {fe : EF} {fa : AF} {p pos : Pos}
theorem I_tup (he : PE X e (tE X.K W fe)) : PI X tg e (tI X.K W (iTupD fe)) :=
  PI.weak (pi_tup he) fun σ H R h => by
    obtain ⟨w, S, ρ, s, re, p⟩ := h
    refine ⟨w, S, ρ, s, re, p.bind fun w1 H1 v d S1 e1 s1 rd p1 => ?_⟩
    cases hd : tupOf d with
    | none => rw [hd] at p1; exact p1.elim
    | some ds =>
      rw [hd] at p1
      obtain ⟨a, xs, h1, h2, h3⟩ := tupOf_sq rd hd
      exact ⟨a, h1, ⟨xs, h2⟩, p1 w1 H1 _ .refl s1 (walks_tup s1 h2 h3)⟩
theorem I_lst (he : PE X e (tE X.K W fe)) : PI X tg e (tI X.K W (iLstD fe)) :=
  PI.weak (pi_list he) fun σ H R h => by
    obtain ⟨w, S, ρ, s, re, p⟩ := h
    refine ⟨w, S, ρ, s, re, p.bind fun w1 H1 v d S1 e1 s1 rd p1 => ?_⟩
    cases d with
    | lst ds =>
      simp only [RV] at rd
      obtain ⟨a, xs, h1, h2, h4, h3⟩ := rd
      exact ⟨a, h1, ⟨xs, SqL.of h2⟩, p1 w1 H1 _ .refl s1 (walks_lst ⟨⟨_, h2⟩, h4.1⟩ (.inl h2) h3)⟩
    | frz ds =>
      simp only [RV] at rd
      obtain ⟨a, xs, h1, h2, h3⟩ := rd
      exact ⟨a, h1, ⟨xs, h2.sq⟩, p1 w1 H1 _ .refl s1 (walks_frz h2 h3)⟩
    | loc n =>
      dsimp only at p1
      split at p1
      · rename_i ds hd
        obtain ⟨a, h1, h2, xs, h3, h4⟩ := s1.get hd rd
        exact ⟨a, h1, ⟨xs, SqL.of h3⟩, p1 w1 H1 _ .refl s1 (walks_loc h2)⟩
      · exact p1.elim
    | _ => exact p1.elim
theorem big62_iff {i : Int} (h : big62 i = true) : -(2 ^ 62) ≤ i ∧ i < 2 ^ 62 := of_decide_eq_true h
theorem RVs.one {K : PySem.W.Frag} {w : Wo} {H : Hp} {d : D} {vs : List V} (r : RVs K w H [d] vs) : ∃ v, vs = [v] ∧ RV K w H d v := by
  simp only [RVs] at r
  obtain ⟨v, t, h1, h2, h3⟩ := r
  subst h3 h1
  exact ⟨v, rfl, h2⟩
theorem RVs.two {K : PySem.W.Frag} {w : Wo} {H : Hp} {d e : D} {vs : List V} (r : RVs K w H [d, e] vs) : ∃ v u, vs = [v, u] ∧ RV K w H d v ∧ RV K w H e u := by
  simp only [RVs] at r
  obtain ⟨v, t, h1, h2, u, t2, h3, h4, h5⟩ := r
  subst h5 h3 h1
  exact ⟨v, u, rfl, h2, h4⟩
theorem I_rng1 {a : Expr} (hm : X.mg "range" = none) (ha : PA X [a] (tA X.K W fa)) (hg : Gl X "range" := by rfl) (hs : starEach [a] X.env = [(false, eval a X.env)] := by rfl) :
    PI X tg (.Call (.Name "range" p) [a] [] pos) (tI X.K W (iRng1D fa)) :=
  PI.weak (pi_range1 hg hm ha hs) fun σ H R h => by
    obtain ⟨w, S, ρ, s, re, p⟩ := h
    refine ⟨w, S, ρ, s, re, p.bind fun w1 H1 vs ds S1 e1 s1 rd p1 => ?_⟩
    split at p1
    · rename_i j
      split at p1
      · rename_i hb
        obtain ⟨v, rfl, rv⟩ := rd.one
        simp only [RV] at rv
        subst rv
        have hb := big62_iff hb
        exact ⟨j, rfl, hb.1, hb.2, p1 w1 H1 _ .refl s1 walks_rng⟩
      · exact p1.elim
    · exact p1.elim
theorem I_rng2 {a b : Expr} (hm : X.mg "range" = none) (ha : PA X [a, b] (tA X.K W fa)) (hg : Gl X "range" := by rfl) (hs : starEach [a, b] X.env = [(false, eval a X.env), (false, eval b X.env)] := by rfl) (hs2 : starEach [b] X.env = [(false, eval b X.env)] := by rfl) :
    PI X tg (.Call (.Name "range" p) [a, b] [] pos) (tI X.K W (iRng2D fa)) :=
  PI.weak (pi_range2 hg hm ha hs hs2) fun σ H R h => by
    obtain ⟨w, S, ρ, s, re, p⟩ := h
    refine ⟨w, S, ρ, s, re, p.bind fun w1 H1 vs ds S1 e1 s1 rd p1 => ?_⟩
    split at p1
    · rename_i i j
      split at p1
      · rename_i hb
        obtain ⟨v, u, rfl, rv, ru⟩ := rd.two
        simp only [RV] at rv ru
        subst rv ru
        simp only [Bool.and_eq_true] at hb
        have hb1 := big62_iff hb.1
        have hb2 := big62_iff hb.2
        exact ⟨i, j, rfl, ⟨hb1.1, hb1.2, hb2.1, hb2.2⟩, p1 w1 H1 _ .refl s1 walks_rng⟩
      · exact p1.elim
    · exact p1.elim
end

/-! ### for -/
open Classical in
noncomputable def Wk.guard {α : Type} (k : Wk) (S : Sto) (no : α) (o : α) : α := if k.ok S then o else no
theorem Wk.guard_none {α : Type} (ds : List D) (S : Sto) (no o : α) : (Wk.mk ds none).guard S no o = o := by
  unfold Wk.guard
  exact if_pos True.intro
theorem Wk.guard_some {α : Type} {ds : List D} {n : Nat} {S : Sto} (no o : α) (h : S[n]? = some (.lst ds)) : (Wk.mk ds (some n)).guard S no o = o := by
  unfold Wk.guard
  exact if_pos h
noncomputable def forGo (k : Wk) (tg : Tg) (b : SF) : List D → En → Sto → O
  | [], ρ, S => k.guard S .no (.nx ρ S)
  | d :: ds, ρ, S => k.guard S .no (match tg.asg d ρ S with
    | some ρ1 => match b ρ1 S with
      | .nx ρ2 S2 => forGo k tg b ds ρ2 S2
      | .ct ρ2 S2 => forGo k tg b ds ρ2 S2
      | .bk ρ2 S2 => .nx ρ2 S2
      | .rt d S2 => .rt d S2
      | .ex e ρ2 S2 => .ex e ρ2 S2
      | .no => .no
    | none => .no)
noncomputable def sFor (fi : IF) (tg : Tg) (b : SF) : SF := fun ρ S => sB (fi ρ S) ρ fun k S1 => forGo k tg b k.ds ρ S1
section
variable {X : Cx} {W : WX} {pos : Pos} {tg iter : Expr} {body : List Stmt} {fi : IF} {t : Tg} {b : SF}
theorem guardS {K : PySem.W.Frag} {w : Wo} {H : Hp} {k : Wk} {S : Sto} {o : O} {D : Ends} (h : PostS K W w H (k.guard S .no o) D) : k.ok S ∧ PostS K W w H o D := by
  unfold Wk.guard at h
  split at h
  · rename_i hk; exact ⟨hk, h⟩
  · exact h.elim
theorem S_for (hp : PassesOwn (model X.prog X.w) X.A X.env X.xe) (hc : X.calm = true) (hi : PI X tg iter (tI X.K W fi)) (hg : PG X tg (gT X.K t)) (hb : PSs X body (tS X.K W b))
    (hs : ∀ x, foldedSetIterable iter X.env x = pure x := by intro _; rfl) : PS X (.For tg iter body [] pos) (tS X.K W (sFor fi t b)) :=
  PS.weak (ps_for hp hc hi hg hb hs) fun D σ H h => by
    obtain ⟨w, S, ρ, s, re, p⟩ := h
    refine ⟨w, S, ρ, s, re, PostS.bind p re fun w0 H0 J k S0 e0 s0 wk p0 => ?_⟩
    refine ⟨fun i m σ H => ∃ w S ρ, m = k.ds.length - i ∧ i ≤ k.ds.length ∧ Ext w0 H0 w H ∧ Sim X.K w S H ∧ REnv X.K w H ρ σ ∧ PostS X.K W w H (forGo k t b (k.ds.drop i) ρ S) D, ⟨_, w0, S0, ρ, rfl, Nat.zero_le _, .refl, s0, re.mono e0, by simpa using p0⟩, ?_⟩
    rintro i m σ1 H1 ⟨w1, S1, ρ1, rfl, hi, e1, s1, r1, p1⟩
    rcases Nat.lt_or_ge i k.ds.length with hlt | hge
    · rw [List.drop_eq_getElem_cons hlt] at p1
      unfold forGo at p1
      obtain ⟨ok, p1⟩ := guardS p1
      obtain ⟨g1, _⟩ := wk w1 H1 S1 e1 s1 ok
      obtain ⟨g1, g2⟩ := g1 i _ (List.getElem?_eq_getElem hlt)
      refine .inr ⟨g1, fun σ2 H2 => ∃ w2 S2 ρ2, Ext w0 H0 w2 H2 ∧ Sim X.K w2 S2 H2 ∧ REnv X.K w2 H2 ρ2 σ2 ∧ PostS X.K W w2 H2 (forGo k t b (k.ds.drop (i + 1)) ρ2 S2) D, ?_, fun x H2 hy => ?_⟩
      · rintro σ2 H2 ⟨w2, S2, ρ2, e2, s2, r2, p2⟩
        exact ⟨k.ds.length - (i + 1), by omega, w2, S2, ρ2, rfl, hlt, e2, s2, r2, p2⟩
      · obtain ⟨e2, s2, rx⟩ := g2 x H2 hy
        cases ha : t.asg k.ds[i] ρ1 S1 with
        | none => rw [ha] at p1; exact p1.elim
        | some ρ2 =>
          rw [ha] at p1
          dsimp only at p1
          refine ⟨w1, S1, ρ1, k.ds[i], ρ2, s2, r1.mono e2, rx, ha, fun σ2 r2 _ => ⟨w1, S1, ρ2, s2, r2, ?_⟩⟩
          have p1 := PostS.shift e2 p1
          cases hb : b ρ2 S1 with
          | nx ρ3 S3 => rw [hb] at p1; exact fun w3 H3 σ3 e3 s3 r3 => ⟨w3, S3, ρ3, e1.trans (e2.trans e3), s3, r3, PostS.shift e3 p1⟩
          | ct ρ3 S3 => rw [hb] at p1; exact fun w3 H3 σ3 e3 s3 r3 => ⟨w3, S3, ρ3, e1.trans (e2.trans e3), s3, r3, PostS.shift e3 p1⟩
          | bk ρ3 S3 => rw [hb] at p1; exact p1
          | rt d S3 => rw [hb] at p1; exact p1
          | ex x ρ3 S3 => rw [hb] at p1; exact p1
          | no => rw [hb] at p1; exact p1
    · have hi' : i = k.ds.length := Nat.le_antisymm hi hge
      subst hi'
      rw [List.drop_length] at p1
      unfold forGo at p1
      obtain ⟨ok, p1⟩ := guardS p1
      obtain ⟨_, g2⟩ := wk w1 H1 S1 e1 s1 ok
      exact .inl ⟨g2, p1 w1 H1 σ1 .refl s1 r1⟩
end

/-! ### while -/
def whGo (t : BF) (b : SF) : Nat → En → Sto → O
  | 0, _, _ => .no
  | n + 1, ρ, S => sB (t ρ S) ρ fun c S1 => if c = true then (match b ρ S1 with
      | .nx ρ2 S2 => whGo t b n ρ2 S2
      | .ct ρ2 S2 => whGo t b n ρ2 S2
      | .bk ρ2 S2 => .nx ρ2 S2
      | .rt d S2 => .rt d S2
      | .ex e ρ2 S2 => .ex e ρ2 S2
      | .no => .no) else .nx ρ S1
def sWhile (n : Nat) (t : BF) (b : SF) : SF := fun ρ S => whGo t b n ρ S
section
variable {X : Cx} {W : WX} {pos : Pos} {c : Expr} {body : List Stmt} {t : BF} {b : SF}
theorem S_while (n : Nat) (hp : PassesOwn (model X.prog X.w) X.A X.env X.xe) (hc : PT X c (tT X.K W t)) (hb : PSs X body (tS X.K W b)) : PS X (.While c body [] pos) (tS X.K W (sWhile n t b)) :=
  PS.weak (ps_while hp hc hb) fun D σ H h => by
    obtain ⟨w, S, ρ, s, re, p⟩ := h
    refine ⟨fun m σ H => ∃ w S ρ, Sim X.K w S H ∧ REnv X.K w H ρ σ ∧ PostS X.K W w H (whGo t b m ρ S) D, ⟨n, w, S, ρ, s, re, p⟩, ?_⟩
    rintro m σ1 H1 ⟨w1, S1, ρ1, s1, r1, p1⟩
    cases m with
    | zero => exact p1.elim
    | succ m =>
      unfold whGo at p1
      refine ⟨w1, S1, ρ1, s1, r1, PostS.bind p1 r1 fun w2 H2 v c S2 e2 s2 rc p2 => ?_⟩
      cases rc
      split
      · rename_i hx
        rw [if_pos hx] at p2
        refine ⟨fun σ3 H3 => ∃ w S ρ, Sim X.K w S H3 ∧ REnv X.K w H3 ρ σ3 ∧ PostS X.K W w H3 (whGo t b m ρ S) D, fun σ3 H3 q => ⟨m, Nat.lt_succ_self _, q⟩, w2, S2, ρ1, s2, r1.mono e2, ?_⟩
        cases hb : b ρ1 S2 with
        | nx ρ3 S3 => rw [hb] at p2; exact fun w3 H3 σ3 e3 s3 r3 => ⟨w3, S3, ρ3, s3, r3, PostS.shift e3 p2⟩
        | ct ρ3 S3 => rw [hb] at p2; exact fun w3 H3 σ3 e3 s3 r3 => ⟨w3, S3, ρ3, s3, r3, PostS.shift e3 p2⟩
        | bk ρ3 S3 => rw [hb] at p2; exact p2
        | rt d S3 => rw [hb] at p2; exact p2
        | ex x ρ3 S3 => rw [hb] at p2; exact p2
        | no => rw [hb] at p2; exact p2
      · rename_i hx
        rw [if_neg hx] at p2
        exact p2 w2 H2 σ1 .refl s2 (r1.mono e2)
end
end Ev

namespace Ev
open PySem PySem.Spec PyProof.Rows L2

def R.nox {α : Type} (r : R α) : R α := match r with
  | .ok a S => .ok a S
  | _ => .no
@[simp] theorem R.nox_ok {α : Type} (a : α) (S : Sto) : (R.ok a S).nox = .ok a S := rfl
@[simp] theorem R.nox_no {α : Type} : (R.no : R α).nox = .no := rfl
abbrev WF : WX := fun _ _ _ _ => False
def bYes : BF := fun _ S => .ok true S
noncomputable def lcGo (k : Wk) (tg : Tg) (tt : BF) (te : EF) (ρ0 : En) : List D → Sto → R (List D)
  | [], S => k.guard S .no (.ok [] S)
  | d :: ds, S => k.guard S .no (match tg.asg d ρ0 S with
    | some ρ1 => (tt ρ1 S).nox.bind fun b S1 => if b = true then (te ρ1 S1).nox.bind fun y S2 => (lcGo k tg tt te ρ0 ds S2).bind fun r S3 => .ok (y :: r) S3 else lcGo k tg tt te ρ0 ds S1
    | none => .no)
noncomputable def eLc (fi : IF) (tg : Tg) (tt : BF) (te : EF) (vs : List Nat) : EF := fun ρ S => (fi ρ S).bind fun k S1 => (lcGo k tg tt te (wipeD ρ vs) k.ds S1).bind fun ys S2 => if ys.length ≤ sizeLine then .ok (.lst ys) S2 else .no
noncomputable def eLcA (fi : IF) (tg : Tg) (tt : BF) (te : EF) (vs : List Nat) : EF := fun ρ S => (fi ρ S).bind fun k S1 => (lcGo k tg tt te (wipeD ρ vs) k.ds S1).bind fun ys S2 => if ys.length ≤ sizeLine then .ok (.loc S2.length) (S2 ++ [.lst ys]) else .no

section
variable {K : PySem.W.Frag} {w w' : Wo} {S : Sto} {H H' : Hp} {ρ : En} {σ : St} {p : Addr}
/-- a private place -/
def Wo.pr (w : Wo) (p : Addr) : Wo := ⟨w.m, p :: w.q⟩
theorem Ext.pr {o : HO} (hp : H p = none) : Ext w H (w.pr p) (upd H p o) :=
  ⟨List.prefix_refl _, fun _ h => List.mem_cons_of_mem _ h, fun a h => by
    rcases List.mem_cons.mp h with z | z
    · exact .inr (z ▸ hp)
    · exact .inl z, fun _ h => .inl h, fun a xs h => by rw [upd_ne (ne_of_none h hp)]; exact h, fun a o h _ => by rw [upd_ne (ne_of_none h hp)]; exact h, fun a o h => ⟨o, by rw [upd_ne (ne_of_none h hp)]; exact h⟩⟩
theorem Sim.pr {o : HO} (s : Sim K w S H) (hp : H p = none) : Sim K (w.pr p) S (upd H p o) := by
  refine ⟨s.len, s.nd, fun i c e => ?_, fun a ha => ?_⟩
  · obtain ⟨a, h1, h2⟩ := s.at_ i c e
    exact ⟨a, h1, h2.mono (Ext.pr hp) fun o q => by rw [upd_ne (ne_of_none q hp)]; exact q⟩
  · rcases List.mem_cons.mp ha with z | z
    · subst z
      refine ⟨fun hm => ?_, o, upd_same⟩
      obtain ⟨o', e, _⟩ := s.has hm
      rw [hp] at e; cases e
    · obtain ⟨h1, o', h2⟩ := s.priv a z
      exact ⟨h1, o', by rw [upd_ne (ne_of_none h2 hp)]; exact h2⟩
mutual
theorem RV.upq {xs ys : List V} (hq : p ∈ w.q) (hp : H p = some (.lst xs)) : ∀ {d : D} {v : V}, RV K w H d v → RV K w (upd H p (.lst ys)) d v
  | .non, v, h => by simpa only [RV] using h
  | .bl b, v, h => by simpa only [RV] using h
  | .int i, v, h => by simpa only [RV] using h
  | .str x, v, h => by simpa only [RV] using h
  | .tup ds, v, h => by
    simp only [RV] at h ⊢
    obtain ⟨a, zs, h1, h2, h3⟩ := h
    exact ⟨a, zs, h1, by rw [upd_ne (ne_of h2 hp (fun z => nomatch z))]; exact h2, RVs.upq hq hp h3⟩
  | .con ds, v, h => by
    simp only [RV] at h ⊢
    obtain ⟨a, zs, h1, h2, h3⟩ := h
    exact ⟨a, zs, h1, h2, RVs.upq hq hp h3⟩
  | .lst ds, v, h => by
    simp only [RV] at h ⊢
    obtain ⟨a, zs, h1, h2, h3, h5⟩ := h
    have na : a ≠ p := fun z => h3.2 (by rw [z]; exact hq)
    exact ⟨a, zs, h1, by rw [upd_ne na]; exact h2, h3, RVs.upq hq hp h5⟩
  | .frz ds, v, h => by
    simp only [RV] at h ⊢
    obtain ⟨a, zs, h1, h2, h5⟩ := h
    refine ⟨a, zs, h1, ?_, RVs.upq hq hp h5⟩
    rcases h2 with ⟨o, h2, h3⟩ | h2
    · have na : a ≠ p := fun z => h3.2 (by rw [z]; exact hq)
      exact .inl ⟨o, by rw [upd_ne na]; exact h2, h3⟩
    · exact .inr h2
  | .loc n, v, h => by simpa only [RV] using h
theorem RVs.upq {xs ys : List V} (hq : p ∈ w.q) (hp : H p = some (.lst xs)) : ∀ {ds : List D} {vs : List V}, RVs K w H ds vs → RVs K w (upd H p (.lst ys)) ds vs
  | [], vs, h => by simpa only [RVs] using h
  | d :: ds, vs, h => by
    simp only [RVs] at h ⊢
    obtain ⟨v, r, h1, h2, h3⟩ := h
    exact ⟨v, r, h1, RV.upq hq hp h2, RVs.upq hq hp h3⟩
end
theorem RC.upq {xs ys : List V} {a : Addr} {c : Cel} (hq : p ∈ w.q) (hp : H p = some (.lst xs)) (ha : a ≠ p) (h : RC K w H a c) : RC K w (upd H p (.lst ys)) a c := by
  cases c with
  | lst ds => obtain ⟨xs, h1, h2⟩ := h; exact ⟨xs, by rw [upd_ne ha]; exact h1, h2.upq hq hp⟩
  | dK kvs => obtain ⟨vs, h1, h2, h3⟩ := h; exact ⟨vs, by rw [upd_ne ha]; exact h1, h2, h3.upq hq hp⟩
  | dT kvs => obtain ⟨vs, h1, h2, h3⟩ := h; exact ⟨vs, by rw [upd_ne ha]; exact h1, h2, h3.upq hq hp⟩
  | ins c fs => obtain ⟨dx, vs, h1, h2, h3⟩ := h; exact ⟨dx, vs, by rw [upd_ne ha]; exact h1, h2, h3.upq hq hp⟩
theorem Sim.upq {xs ys : List V} (s : Sim K w S H) (hq : p ∈ w.q) (hp : H p = some (.lst xs)) : Sim K w S (upd H p (.lst ys)) := by
  have np := (s.priv p hq).1
  refine ⟨s.len, s.nd, fun i c e => ?_, fun a ha => ?_⟩
  · obtain ⟨a, h1, h2⟩ := s.at_ i c e
    exact ⟨a, h1, h2.upq hq hp fun z => np (z ▸ List.mem_of_getElem? h1)⟩
  · obtain ⟨h1, o', h2⟩ := s.priv a ha
    by_cases z : a = p
    · exact ⟨h1, _, by rw [z, upd_same]⟩
    · exact ⟨h1, o', by rw [upd_ne z]; exact h2⟩
theorem REnv.upq {xs ys : List V} (hq : p ∈ w.q) (hp : H p = some (.lst xs)) (h : REnv K w H ρ σ) : REnv K w (upd H p (.lst ys)) ρ σ := ⟨h.1, fun i d q => let ⟨v, a, b⟩ := h.2 i d q; ⟨v, a, b.upq hq hp⟩⟩
theorem Ext.upq {xs ys : List V} {H0 : Hp} {w0 : Wo} (e : Ext w0 H0 w H) (h0 : H0 p = none) (hp : H p = some (.lst xs)) : Ext w0 H0 w (upd H p (.lst ys)) :=
  ⟨e.pre, e.q, e.newq, e.new, fun a zs h => by rw [upd_ne (ne_of_none h h0)]; exact e.tup a zs h, fun a o h hm => by rw [upd_ne (ne_of_none h h0)]; exact e.keep a o h hm, fun a o h => by rw [upd_ne (ne_of_none h h0)]; exact e.live a o h⟩
mutual
theorem RV.shrink {q : List Addr} (hq : ∀ a ∈ q, a ∈ w.q) : ∀ {d : D} {v : V}, RV K w H d v → RV K ⟨w.m, q⟩ H d v
  | .non, v, h => by simpa only [RV] using h
  | .bl b, v, h => by simpa only [RV] using h
  | .int i, v, h => by simpa only [RV] using h
  | .str x, v, h => by simpa only [RV] using h
  | .tup ds, v, h => by
    simp only [RV] at h ⊢
    obtain ⟨a, zs, h1, h2, h3⟩ := h
    exact ⟨a, zs, h1, h2, RVs.shrink hq h3⟩
  | .con ds, v, h => by
    simp only [RV] at h ⊢
    obtain ⟨a, zs, h1, h2, h3⟩ := h
    exact ⟨a, zs, h1, h2, RVs.shrink hq h3⟩
  | .lst ds, v, h => by
    simp only [RV] at h ⊢
    obtain ⟨a, zs, h1, h2, h3, h5⟩ := h
    exact ⟨a, zs, h1, h2, ⟨h3.1, fun z => h3.2 (hq a z)⟩, RVs.shrink hq h5⟩
  | .frz ds, v, h => by
    simp only [RV] at h ⊢
    obtain ⟨a, zs, h1, h2, h5⟩ := h
    refine ⟨a, zs, h1, ?_, RVs.shrink hq h5⟩
    rcases h2 with ⟨o, h2, h3⟩ | h2
    · exact .inl ⟨o, h2, h3.1, fun z => h3.2 (hq a z)⟩
    · exact .inr h2
  | .loc n, v, h => by simpa only [RV] using h
theorem RVs.shrink {q : List Addr} (hq : ∀ a ∈ q, a ∈ w.q) : ∀ {ds : List D} {vs : List V}, RVs K w H ds vs → RVs K ⟨w.m, q⟩ H ds vs
  | [], vs, h => by simpa only [RVs] using h
  | d :: ds, vs, h => by
    simp only [RVs] at h ⊢
    obtain ⟨v, r, h1, h2, h3⟩ := h
    exact ⟨v, r, h1, RV.shrink hq h2, RVs.shrink hq h3⟩
end
theorem Sim.shrink {q : List Addr} (s : Sim K w S H) (hq : ∀ a ∈ q, a ∈ w.q) : Sim K ⟨w.m, q⟩ S H := by
  refine ⟨s.len, s.nd, fun i c e => ?_, fun a ha => s.priv a (hq a ha)⟩
  obtain ⟨a, h1, h2⟩ := s.at_ i c e
  refine ⟨a, h1, ?_⟩
  cases c with
  | lst ds => obtain ⟨xs, h1, h2⟩ := h2; exact ⟨xs, h1, h2.shrink hq⟩
  | dK kvs => obtain ⟨vs, h1, h2, h3⟩ := h2; exact ⟨vs, h1, h2, h3.shrink hq⟩
  | dT kvs => obtain ⟨vs, h1, h2, h3⟩ := h2; exact ⟨vs, h1, h2, h3.shrink hq⟩
  | ins c fs => obtain ⟨dx, vs, h1, h2, h3⟩ := h2; exact ⟨dx, vs, h1, h2, h3.shrink hq⟩
theorem Ext.shrink (e : Ext w H w' H') : Ext w H ⟨w'.m, w.q⟩ H' := ⟨e.pre, fun _ h => h, fun _ h => .inl h, e.new, e.tup, e.keep, e.live⟩
theorem wipe_wipe (σ : St) (vs : List Nat) : wipe (wipe σ vs) vs = wipe σ vs := by
  have key : ∀ us : List Nat, (∀ i ∈ us, i ∈ vs) → wipe (wipe σ us) vs = wipe σ vs := by
    intro us
    induction us with
    | nil => intro _; rfl
    | cons u us ih =>
      intro h
      have e : wipe σ (u :: us) = (wipe σ us).set u none := rfl
      rw [e, wipe_set _ _ _ _ (h u List.mem_cons_self)]
      exact ih fun i hi => h i (List.mem_cons_of_mem _ hi)
  exact key vs fun _ h => h
end
theorem guardR {α β : Type} {K : PySem.W.Frag} {W : WX} {rel : Wo → Hp → β → α → Prop} {γ : Type} {w : Wo} {H : Hp} {σ : St} {k : Wk} {S : Sto} {r : R γ} {g : γ → Sto → R β} {Q : α → Hp → Prop}
    (h : PostG K rel W w H σ ((k.guard S .no r).bind g) Q) : k.ok S ∧ PostG K rel W w H σ (r.bind g) Q := by
  unfold Wk.guard at h
  split at h
  · rename_i hk; exact ⟨hk, h⟩
  · exact h.elim
theorem R.bind_assoc {α β γ : Type} (r : R α) (f : α → Sto → R β) (g : β → Sto → R γ) : (r.bind f).bind g = r.bind fun a S => (f a S).bind g := by cases r <;> rfl
/-- the reading of a comprehension, by the store's function; fin: what is made of the items -/
theorem lc_of {K : PySem.W.Frag} {W : WX} {fi : IF} {tg : Tg} {tt : BF} {te : EF} {vs : List Nat} {fin : List D → Sto → R D} {σ : St} {H : Hp} {Q : VK} (hv : ∀ i ∈ tg.slots, i ∈ vs)
    (hfin : ∀ (w0 : Wo) (H0 : Hp) (ys : List D) (S : Sto), PostG K (RV K) W w0 H0 σ (fin ys S) Q → ys.length ≤ sizeLine ∧
      ∀ w H xs p, Ext w0 H0 w H → H0 p = none → Sim K w S H → H p = some (.lst xs) → p ∈ w.q → p ∉ w0.q → RVs K w H ys xs → Q (.ref p) H)
    (h : ∃ w S ρ, Sim K w S H ∧ REnv K w H ρ σ ∧ PostG K (RV K) W w H σ ((fi ρ S).bind fun k S1 => (lcGo k tg tt te (wipeD ρ vs) k.ds S1).bind fin) Q) :
    tLc (tI K W fi) (gT K tg) (tT K WF tt) (tE K WF te) vs σ H Q := by
  obtain ⟨w, S, ρ, s, re, p⟩ := h
  refine ⟨w, S, ρ, s, re, p.bind fun w0 H0 J k S0 e0 s0 wk p0 => ?_⟩
  intro L hL
  have hlen : ∀ {ys r : List D} {S3 : Sto}, PostG K (RV K) W w0 H0 σ (fin (ys ++ r) S3) Q → ys.length ≤ sizeLine := fun {ys r S3} q => by
    have := (hfin w0 H0 _ _ q).1
    rw [List.length_append] at this
    omega
  have r0 := (re.mono e0).wipe vs
  refine ⟨fun i m H => ∃ w1 S1 acc xs, m = k.ds.length - i ∧ i ≤ k.ds.length ∧ Ext w0 H0 w1 H ∧ Sim K w1 S1 H ∧ REnv K w1 H (wipeD ρ vs) (wipe σ vs) ∧ H L = some (.lst xs) ∧ L ∈ w1.q ∧ RVs K w1 H acc xs ∧
      PostG K (RV K) W w0 H0 σ ((lcGo k tg tt te (wipeD ρ vs) (k.ds.drop i) S1).bind fun r S3 => fin (acc ++ r) S3) Q,
    ⟨_, w0.pr L, S0, [], [], rfl, Nat.zero_le _, Ext.pr hL, s0.pr hL, r0.mono (Ext.pr hL), upd_same, List.mem_cons_self, .nil, by simpa using p0⟩, ?_⟩
  rintro i m H1 ⟨w1, S1, acc, xs, rfl, hi, e1, s1, r1, hx, hq, ra, p1⟩
  rcases Nat.lt_or_ge i k.ds.length with hlt | hge
  · rw [List.drop_eq_getElem_cons hlt] at p1
    unfold lcGo at p1
    obtain ⟨ok, p1⟩ := guardR p1
    obtain ⟨g1, _⟩ := wk w1 H1 S1 e1 s1 ok
    obtain ⟨g1, g2⟩ := g1 i _ (List.getElem?_eq_getElem hlt)
    refine .inr ⟨g1, fun H => ∃ w1 S1 acc xs, Ext w0 H0 w1 H ∧ Sim K w1 S1 H ∧ REnv K w1 H (wipeD ρ vs) (wipe σ vs) ∧ H L = some (.lst xs) ∧ L ∈ w1.q ∧ RVs K w1 H acc xs ∧
      PostG K (RV K) W w0 H0 σ ((lcGo k tg tt te (wipeD ρ vs) (k.ds.drop (i + 1)) S1).bind fun r S3 => fin (acc ++ r) S3) Q, ?_, fun x H2 hy => ?_⟩
    · rintro H' ⟨w2, S2, acc2, xs2, q⟩
      exact ⟨k.ds.length - (i + 1), by omega, w2, S2, acc2, xs2, rfl, hlt, q⟩
    · obtain ⟨e2, s2, rx⟩ := g2 x H2 hy
      have hL1 : L ∉ w1.m := (s1.priv L hq).1
      cases ha : tg.asg k.ds[i] (wipeD ρ vs) S1 with
      | none => rw [ha] at p1; exact p1.elim
      | some ρ2 =>
        rw [ha] at p1
        dsimp only at p1
        refine ⟨w1, S1, wipeD ρ vs, k.ds[i], ρ2, s2, r1.mono e2, rx, ha, fun σ2 r2 wp => ⟨?_, ?_⟩⟩
        · rw [wp vs hv, wipe_wipe]
        · refine ⟨w1, S1, ρ2, s2, r2, ?_⟩
          cases hb : tt ρ2 S1 with
          | ex e S3 => rw [hb] at p1; exact p1.elim
          | no => rw [hb] at p1; exact p1.elim
          | ok b S3 =>
            rw [hb] at p1
            simp only [R.nox_ok, R.bind_ok] at p1
            intro w3 H3 b' e3 s3 rb
            cases rb
            have e23 := e2.trans e3
            have hx3 : H3 L = some (.lst xs) := e23.keep _ _ hx hL1
            have hq3 : L ∈ w3.q := e23.q L hq
            by_cases hbt : b = true
            · rw [if_pos hbt] at p1 ⊢
              refine ⟨w3, S3, ρ2, s3, r2.mono e3, ?_⟩
              cases hc : te ρ2 S3 with
              | ex e S3 => rw [hc] at p1; exact p1.elim
              | no => rw [hc] at p1; exact p1.elim
              | ok y S4 =>
                rw [hc] at p1
                simp only [R.nox_ok, R.bind_ok, R.bind_assoc] at p1
                intro w4 H4 v e4 s4 rv
                have hL3 : L ∉ w3.m := (s3.priv L hq3).1
                have hx4 : H4 L = some (.lst xs) := e4.keep _ _ hx3 hL3
                have hq4 : L ∈ w4.q := e4.q L hq3
                have ra4 := (ra.mono e23).mono e4
                have hz : (acc ++ [y]).length ≤ sizeLine := by
                  cases hr : lcGo k tg tt te (wipeD ρ vs) (k.ds.drop (i + 1)) S4 with
                  | ok r S5 =>
                    rw [hr] at p1
                    simp only [R.bind_ok] at p1
                    exact hlen (ys := acc ++ [y]) (r := r) (S3 := S5) (by simpa using p1)
                  | no => rw [hr] at p1; exact p1.elim
                  | ex e S5 =>
                    exfalso
                    have noex : ∀ (ds : List D) (S : Sto) (e : Exn) (S' : Sto), lcGo k tg tt te (wipeD ρ vs) ds S ≠ .ex e S' := by
                      intro ds
                      induction ds with
                      | nil => intro S e S' q; unfold lcGo Wk.guard at q; split at q <;> cases q
                      | cons d ds ih =>
                        intro S e S' q
                        unfold lcGo Wk.guard at q
                        split at q
                        · split at q
                          · rename_i ρ1 _
                            cases h1 : tt ρ1 S with
                            | ok b S1 =>
                              rw [h1] at q
                              simp only [R.nox_ok, R.bind_ok] at q
                              split at q
                              · cases h2 : te ρ1 S1 with
                                | ok y S2 =>
                                  rw [h2] at q
                                  simp only [R.nox_ok, R.bind_ok] at q
                                  cases h3 : lcGo k tg tt te (wipeD ρ vs) ds S2 with
                                  | ok r S3 => rw [h3] at q; cases q
                                  | ex e1 S3 => exact ih _ _ _ h3
                                  | no => rw [h3] at q; cases q
                                | ex e1 S3 => rw [h2] at q; cases q
                                | no => rw [h2] at q; cases q
                              · exact ih _ _ _ q
                            | ex e1 S3 => rw [h1] at q; cases q
                            | no => rw [h1] at q; cases q
                          · cases q
                        · cases q
                    exact noex _ _ _ _ hr
                refine ⟨xs, hx4, ?_, ?_⟩
                · rw [List.length_append, List.length_singleton, ra4.length] at hz
                  omega
                · refine ⟨w4, S4, acc ++ [y], xs ++ [v], ?_, s4.upq hq4 hx4, ((r1.mono e23).mono e4).upq hq4 hx4, upd_same, hq4, (ra4.snoc rv).upq hq4 hx4, ?_⟩
                  · exact (e1.trans (e23.trans e4)).upq hL hx4
                  · simpa using p1
            · rw [if_neg hbt] at p1 ⊢
              exact ⟨w3, S3, acc, xs, e1.trans e23, s3, r1.mono e23, hx3, hq3, ra.mono e23, p1⟩
  · have hi' : i = k.ds.length := Nat.le_antisymm hi hge
    subst hi'
    rw [List.drop_length] at p1
    unfold lcGo at p1
    obtain ⟨ok, p1⟩ := guardR p1
    obtain ⟨_, g2⟩ := wk w1 H1 S1 e1 s1 ok
    simp only [R.bind_ok, List.append_nil] at p1
    have hL0 : L ∉ w0.q := fun z => by
      obtain ⟨_, o, e⟩ := s0.priv L z
      rw [hL] at e; cases e
    exact .inl ⟨g2, (hfin w0 H0 acc S1 p1).2 w1 H1 xs L e1 hL s1 hx hq hL0 ra⟩
section
variable {X : Cx} {W : WX} {pos spos py : Pos} {elt tg iter : Expr} {ifs : List Expr} {scope : Scope} {own : List (Str × Nat)} {fi : IF} {t : Tg} {tt : BF} {te : EF} {vs : List Nat}
theorem C_nil {X : Cx} : PTs X [] (tT X.K WF bYes) := ⟨fun pins s σ H Q I h => pts_nil.run pins s σ H Q I (let ⟨w, S, ρ, s, re, p⟩ := h; p.ret s rfl)⟩
theorem C_one {X : Cx} {c : Expr} {tt : BF} (h : PT X c (tT X.K WF tt)) : PTs X [c] (tT X.K WF tt) := pts_one h
def finV : List D → Sto → R D := fun ys S => if ys.length ≤ sizeLine then .ok (.lst ys) S else .no
def finA : List D → Sto → R D := fun ys S => if ys.length ≤ sizeLine then .ok (.loc S.length) (S ++ [.lst ys]) else .no
theorem finV_ok {K : PySem.W.Frag} {σ : St} {Q : VK} (w0 : Wo) (H0 : Hp) (ys : List D) (S : Sto) (h : PostG K (RV K) W w0 H0 σ (finV ys S) Q) : ys.length ≤ sizeLine ∧
    ∀ w H xs p, Ext w0 H0 w H → H0 p = none → Sim K w S H → H p = some (.lst xs) → p ∈ w.q → p ∉ w0.q → RVs K w H ys xs → Q (.ref p) H := by
  unfold finV at h
  split at h
  · rename_i hz
    exact ⟨hz, fun w H xs p e _ s hp h1 h2 r => h ⟨w.m, w0.q⟩ H _ e.shrink (s.shrink e.q) (by simp only [RV]; exact ⟨p, xs, rfl, hp, ⟨(s.priv p h1).1, h2⟩, r.shrink e.q⟩)⟩
  · exact h.elim
section
variable {K : PySem.W.Frag} {w : Wo} {H : Hp} {p : Addr} {q : List Addr}
mutual
theorem RV.toSto (hp : p ∈ w.q) (hq : ∀ a ∈ q, a ∈ w.q) : ∀ {d : D} {v : V}, RV K w H d v → RV K ⟨w.m ++ [p], q⟩ H d v
  | .non, v, h => by simpa only [RV] using h
  | .bl b, v, h => by simpa only [RV] using h
  | .int i, v, h => by simpa only [RV] using h
  | .str x, v, h => by simpa only [RV] using h
  | .tup ds, v, h => by
    simp only [RV] at h ⊢
    obtain ⟨a, zs, h1, h2, h3⟩ := h
    exact ⟨a, zs, h1, h2, RVs.toSto hp hq h3⟩
  | .con ds, v, h => by
    simp only [RV] at h ⊢
    obtain ⟨a, zs, h1, h2, h3⟩ := h
    exact ⟨a, zs, h1, h2, RVs.toSto hp hq h3⟩
  | .lst ds, v, h => by
    simp only [RV] at h ⊢
    obtain ⟨a, zs, h1, h2, h3, h5⟩ := h
    have na : a ≠ p := fun z => h3.2 (by rw [z]; exact hp)
    exact ⟨a, zs, h1, h2, ⟨by simp [h3.1, na], fun z => h3.2 (hq a z)⟩, RVs.toSto hp hq h5⟩
  | .frz ds, v, h => by
    simp only [RV] at h ⊢
    obtain ⟨a, zs, h1, h2, h5⟩ := h
    refine ⟨a, zs, h1, ?_, RVs.toSto hp hq h5⟩
    rcases h2 with ⟨o, h2, h3⟩ | h2
    · have na : a ≠ p := fun z => h3.2 (by rw [z]; exact hp)
      exact .inl ⟨o, h2, by simp [h3.1, na], fun z => h3.2 (hq a z)⟩
    · exact .inr h2
  | .loc n, v, h => by
    simp only [RV] at h ⊢
    obtain ⟨a, h1, h2⟩ := h
    exact ⟨a, h1, by rw [List.getElem?_append_left (List.getElem?_eq_some_iff.mp h2).1]; exact h2⟩
theorem RVs.toSto (hp : p ∈ w.q) (hq : ∀ a ∈ q, a ∈ w.q) : ∀ {ds : List D} {vs : List V}, RVs K w H ds vs → RVs K ⟨w.m ++ [p], q⟩ H ds vs
  | [], vs, h => by simpa only [RVs] using h
  | d :: ds, vs, h => by
    simp only [RVs] at h ⊢
    obtain ⟨v, r, h1, h2, h3⟩ := h
    exact ⟨v, r, h1, RV.toSto hp hq h2, RVs.toSto hp hq h3⟩
end
theorem Sim.toSto {S : Sto} {ys : List D} {xs : List V} (s : Sim K w S H) (hp : p ∈ w.q) (hq : ∀ a ∈ q, a ∈ w.q) (hpq : p ∉ q) (hx : H p = some (.lst xs)) (r : RVs K w H ys xs) : Sim K ⟨w.m ++ [p], q⟩ (S ++ [.lst ys]) H := by
  have h1 := (s.priv p hp).1
  refine ⟨by simp [s.len], ?_, fun i c e => ?_, fun a ha => ?_⟩
  · show (w.m ++ [p]).Nodup
    rw [List.nodup_append]
    refine ⟨s.nd, by simp, fun a ha b hb => ?_⟩
    have : b = p := by simpa using hb
    subst this
    exact fun z => h1 (z ▸ ha)
  · by_cases hi : i < S.length
    · rw [List.getElem?_append_left hi] at e
      obtain ⟨a, g1, g2⟩ := s.at_ i c e
      refine ⟨a, by show (w.m ++ [p])[i]? = _; rw [List.getElem?_append_left (by rw [s.len]; exact hi)]; exact g1, ?_⟩
      cases c with
      | lst ds => obtain ⟨xs, g1, g2⟩ := g2; exact ⟨xs, g1, g2.toSto hp hq⟩
      | dK kvs => obtain ⟨vs, g1, g2, g3⟩ := g2; exact ⟨vs, g1, g2, g3.toSto hp hq⟩
      | dT kvs => obtain ⟨vs, g1, g2, g3⟩ := g2; exact ⟨vs, g1, g2, g3.toSto hp hq⟩
      | ins c fs => obtain ⟨dx, vs, g1, g2, g3⟩ := g2; exact ⟨dx, vs, g1, g2, g3.toSto hp hq⟩
    · rw [List.getElem?_append_right (Nat.le_of_not_lt hi)] at e
      have hi0 : i - S.length = 0 := by
        rcases Nat.eq_zero_or_pos (i - S.length) with z | z
        · exact z
        · rw [List.getElem?_eq_none (by simp; omega)] at e; cases e
      rw [hi0] at e
      cases e
      refine ⟨p, ?_, xs, hx, r.toSto hp hq⟩
      show (w.m ++ [p])[i]? = _
      rw [List.getElem?_append_right (by rw [s.len]; exact Nat.le_of_not_lt hi), s.len, hi0]
      rfl
  · obtain ⟨g1, o, g2⟩ := s.priv a (hq a ha)
    refine ⟨fun z => ?_, o, g2⟩
    rcases List.mem_append.mp z with z | z
    · exact g1 z
    · have : a = p := by simpa using z
      exact hpq (this ▸ ha)
end
theorem finA_ok {K : PySem.W.Frag} {σ : St} {Q : VK} (w0 : Wo) (H0 : Hp) (ys : List D) (S : Sto) (h : PostG K (RV K) W w0 H0 σ (finA ys S) Q) : ys.length ≤ sizeLine ∧
    ∀ w H xs p, Ext w0 H0 w H → H0 p = none → Sim K w S H → H p = some (.lst xs) → p ∈ w.q → p ∉ w0.q → RVs K w H ys xs → Q (.ref p) H := by
  unfold finA at h
  split at h
  · rename_i hz
    refine ⟨hz, fun w H xs p e h0 s hp h1 h2 r => h ⟨w.m ++ [p], w0.q⟩ H _ ?_ (s.toSto h1 e.q h2 hp r) ?_⟩
    · refine ⟨e.pre.trans (List.prefix_append _ _), fun _ h => h, fun _ h => .inl h, fun a ha => ?_, e.tup, e.keep, e.live⟩
      rcases List.mem_append.mp ha with z | z
      · exact e.new a z
      · have : a = p := by simpa using z
        exact .inr (this ▸ h0)
    · exact RV.newLoc (w := ⟨w.m, w0.q⟩) s.len
  · exact h.elim
theorem E_lc (hc : X.calm = true) (hN : X.N.Nodup) (hi : PI X tg iter (tI X.K W fi)) (ok : BlkOk X.N X.env.scope scope own)
    (hg : ∀ (s : Shared) (H : Hp) (C : Addr) (cl : List (Str × Addr)) (fp : List Addr), PG (X.blk s H scope (compEnvC scope cl C X.env) fp) tg (gT X.K t)) (ht : ∀ (s : Shared) (H : Hp) (C : Addr) (cl : List (Str × Addr)) (fp : List Addr), PTs (X.blk s H scope (compEnvC scope cl C X.env) fp) ifs (tT X.K WF tt))
    (he : ∀ (s : Shared) (H : Hp) (C : Addr) (cl : List (Str × Addr)) (fp : List Addr), PE (X.blk s H scope (compEnvC scope cl C X.env) fp) elt (tE X.K WF te)) (hvs : own.map (·.2) = vs := by rfl) (hv : ∀ i ∈ t.slots, i ∈ vs := by decide) (hs : ∀ x, foldedSetIterable iter X.env x = pure x := by intro _; rfl) :
    PE X (.ListComp elt [⟨tg, iter, ifs, 0⟩] scope pos) (tE X.K W (eLc fi t tt te vs)) :=
  PE.weak (pe_lc hc hN hi ok hg ht he hs) fun σ H Q h => by subst hvs; exact lc_of (fin := finV) hv (fun w0 H0 ys S => finV_ok w0 H0 ys S) h
theorem E_lcA (hc : X.calm = true) (hN : X.N.Nodup) (hi : PI X tg iter (tI X.K W fi)) (ok : BlkOk X.N X.env.scope scope own)
    (hg : ∀ (s : Shared) (H : Hp) (C : Addr) (cl : List (Str × Addr)) (fp : List Addr), PG (X.blk s H scope (compEnvC scope cl C X.env) fp) tg (gT X.K t)) (ht : ∀ (s : Shared) (H : Hp) (C : Addr) (cl : List (Str × Addr)) (fp : List Addr), PTs (X.blk s H scope (compEnvC scope cl C X.env) fp) ifs (tT X.K WF tt))
    (he : ∀ (s : Shared) (H : Hp) (C : Addr) (cl : List (Str × Addr)) (fp : List Addr), PE (X.blk s H scope (compEnvC scope cl C X.env) fp) elt (tE X.K WF te)) (hvs : own.map (·.2) = vs := by rfl) (hv : ∀ i ∈ t.slots, i ∈ vs := by decide) (hs : ∀ x, foldedSetIterable iter X.env x = pure x := by intro _; rfl) :
    PE X (.ListComp elt [⟨tg, iter, ifs, 0⟩] scope pos) (tE X.K W (eLcA fi t tt te vs)) :=
  PE.weak (pe_lc hc hN hi ok hg ht he hs) fun σ H Q h => by subst hvs; exact lc_of (fin := finA) hv (fun w0 H0 ys S => finA_ok w0 H0 ys S) h
theorem S_setLc (i : Nat) {y : Str} (hc : X.calm = true) (hN : X.N.Nodup) (hyl : X.env.scope.names.lookup y = some .local) (hsw : swapsWith (.ListComp elt [⟨tg, iter, ifs, 0⟩] scope pos) (some (.Name y py)) spos.line X.env = pure true)
    (hi : PI X tg iter (tI X.K W fi)) (ok : BlkOk X.N X.env.scope scope own)
    (hg : ∀ (s : Shared) (H : Hp) (C : Addr) (cl : List (Str × Addr)) (fp : List Addr), PG (X.blk s H scope (compEnvC scope cl C X.env) fp) tg (gT X.K t)) (ht : ∀ (s : Shared) (H : Hp) (C : Addr) (cl : List (Str × Addr)) (fp : List Addr), PTs (X.blk s H scope (compEnvC scope cl C X.env) fp) ifs (tT X.K WF tt))
    (he : ∀ (s : Shared) (H : Hp) (C : Addr) (cl : List (Str × Addr)) (fp : List Addr), PE (X.blk s H scope (compEnvC scope cl C X.env) fp) elt (tE X.K WF te)) (hvs : own.map (·.2) = vs := by rfl) (hv : ∀ i ∈ t.slots, i ∈ vs := by decide) (hy : X.N[i]? = some y := by rfl) (hs : ∀ x, foldedSetIterable iter X.env x = pure x := by intro _; rfl) :
    PS X (.Assign [.Name y py] (.ListComp elt [⟨tg, iter, ifs, 0⟩] scope pos) spos) (tS X.K W (sSet i (eLc fi t tt te vs))) :=
  PS.weak (ps_setLc hc hN hy hyl hsw hi ok hg ht he hs) fun D σ H h => by
    subst hvs
    obtain ⟨w, S, ρ, s, re, p⟩ := h
    refine lc_of (fin := finV) (Q := fun x H1 => gName i x σ H1 D.nx) hv (fun w0 H0 ys S => finV_ok w0 H0 ys S) ⟨w, S, ρ, s, re, ?_⟩
    exact PostS.bind (r := eLc fi t tt te _ ρ S) p re fun w1 H1 v d S1 e1 s1 rd p1 => p1 w1 H1 _ .refl s1 ((re.mono e1).set rd)
theorem S_setLcA (i : Nat) {y : Str} (hc : X.calm = true) (hN : X.N.Nodup) (hyl : X.env.scope.names.lookup y = some .local) (hsw : swapsWith (.ListComp elt [⟨tg, iter, ifs, 0⟩] scope pos) (some (.Name y py)) spos.line X.env = pure true)
    (hi : PI X tg iter (tI X.K W fi)) (ok : BlkOk X.N X.env.scope scope own)
    (hg : ∀ (s : Shared) (H : Hp) (C : Addr) (cl : List (Str × Addr)) (fp : List Addr), PG (X.blk s H scope (compEnvC scope cl C X.env) fp) tg (gT X.K t)) (ht : ∀ (s : Shared) (H : Hp) (C : Addr) (cl : List (Str × Addr)) (fp : List Addr), PTs (X.blk s H scope (compEnvC scope cl C X.env) fp) ifs (tT X.K WF tt))
    (he : ∀ (s : Shared) (H : Hp) (C : Addr) (cl : List (Str × Addr)) (fp : List Addr), PE (X.blk s H scope (compEnvC scope cl C X.env) fp) elt (tE X.K WF te)) (hvs : own.map (·.2) = vs := by rfl) (hv : ∀ i ∈ t.slots, i ∈ vs := by decide) (hy : X.N[i]? = some y := by rfl) (hs : ∀ x, foldedSetIterable iter X.env x = pure x := by intro _; rfl) :
    PS X (.Assign [.Name y py] (.ListComp elt [⟨tg, iter, ifs, 0⟩] scope pos) spos) (tS X.K W (sSet i (eLcA fi t tt te vs))) :=
  PS.weak (ps_setLc hc hN hy hyl hsw hi ok hg ht he hs) fun D σ H h => by
    subst hvs
    obtain ⟨w, S, ρ, s, re, p⟩ := h
    refine lc_of (fin := finA) (Q := fun x H1 => gName i x σ H1 D.nx) hv (fun w0 H0 ys S => finA_ok w0 H0 ys S) ⟨w, S, ρ, s, re, ?_⟩
    exact PostS.bind (r := eLcA fi t tt te _ ρ S) p re fun w1 H1 v d S1 e1 s1 rd p1 => p1 w1 H1 _ .refl s1 ((re.mono e1).set rd)
end
end Ev

namespace Ev
open PySem PySem.Spec PyProof.Rows L2

/-! ### what a def leaves: the store cut back -/
mutual
def okD (n : Nat) : D → Bool
  | .tup ds => okDs n ds
  | .con ds => okDs n ds
  | .lst ds => okDs n ds
  | .frz ds => okDs n ds
  | .loc k => decide (k < n)
  | _ => true
def okDs (n : Nat) : List D → Bool
  | [] => true
  | d :: ds => okD n d && okDs n ds
end
def okC (n : Nat) : Cel → Bool
  | .lst ds => okDs n ds
  | .dK kvs => okDs n (kvs.map (·.2))
  | .dT kvs => okDs n (kvs.map (·.2))
  | .ins _ fs => okDs n (fs.map (·.2))
def GcOk (S S' : Sto) (d : D) : Prop := S.length ≤ S'.length ∧ okD S.length d = true ∧ ∀ i, i < S.length → S'[i]? = S[i]? ∨ ∃ c, S'[i]? = some c ∧ okC S.length c = true
open Classical in
noncomputable def gc (S : Sto) (d : D) (S' : Sto) : R D := if GcOk S S' d then .ok d (S'.take S.length) else .ok d S'
noncomputable def runF (n : Nat) (b : SF) (ds : List D) (S : Sto) : R D :=
  match b (ds.map some ++ List.replicate (n - ds.length) none) S with
  | .rt d S' => gc S d S'
  | .nx _ S' => gc S .non S'
  | .ex e _ S' => .ex e S'
  | _ => .no
open Classical in
/-- .. a list in the end a value, no longer to be changed -/
noncomputable def gcL (S : Sto) (d : D) (S' : Sto) : R D := match d with
  | .loc k => match S'[k]? with
    | some (.lst es) => if S.length ≤ k ∧ GcOk S S' (.lst es) then .ok (.lst es) (S'.take S.length) else .no
    | _ => .no
  | _ => .no
noncomputable def runL (n : Nat) (b : SF) (ds : List D) (S : Sto) : R D :=
  match b (ds.map some ++ List.replicate (n - ds.length) none) S with
  | .rt d S' => gcL S d S'
  | .ex e _ S' => .ex e S'
  | _ => .no
section
variable {K : PySem.W.Frag} {w w' : Wo} {S S' : Sto} {H H' : Hp}
theorem cut_eq (e : Ext w H w' H') (hl : w.m.length = S.length) : w'.m.take S.length = w.m := by
  obtain ⟨t, ht⟩ := e.pre
  rw [← ht, ← hl, List.take_left']
  rfl
mutual
theorem RV.cut (e : Ext w H w' H') (hl : w.m.length = S.length) : ∀ {d : D} {v : V}, okD S.length d = true → RV K w' H' d v → RV K w H' d v
  | .non, v, _, h => by simpa only [RV] using h
  | .bl b, v, _, h => by simpa only [RV] using h
  | .int i, v, _, h => by simpa only [RV] using h
  | .str x, v, _, h => by simpa only [RV] using h
  | .tup ds, v, o, h => by
    simp only [RV] at h ⊢
    obtain ⟨a, zs, h1, h2, h3⟩ := h
    exact ⟨a, zs, h1, h2, RVs.cut e hl (by simpa only [okD] using o) h3⟩
  | .con ds, v, o, h => by
    simp only [RV] at h ⊢
    obtain ⟨a, zs, h1, h2, h3⟩ := h
    exact ⟨a, zs, h1, h2, RVs.cut e hl (by simpa only [okD] using o) h3⟩
  | .lst ds, v, o, h => by
    simp only [RV] at h ⊢
    obtain ⟨a, zs, h1, h2, h3, h5⟩ := h
    obtain ⟨t, ht⟩ := e.pre
    exact ⟨a, zs, h1, h2, ⟨fun z => h3.1 (by rw [← ht]; exact List.mem_append_left _ z), fun z => h3.2 (e.q a z)⟩, RVs.cut e hl (by simpa only [okD] using o) h5⟩
  | .frz ds, v, o, h => by
    simp only [RV] at h ⊢
    obtain ⟨a, zs, h1, h2, h5⟩ := h
    obtain ⟨t, ht⟩ := e.pre
    refine ⟨a, zs, h1, ?_, RVs.cut e hl (by simpa only [okD] using o) h5⟩
    rcases h2 with ⟨ob, h2, h3⟩ | h2
    · exact .inl ⟨ob, h2, fun z => h3.1 (by rw [← ht]; exact List.mem_append_left _ z), fun z => h3.2 (e.q a z)⟩
    · exact .inr h2
  | .loc n, v, o, h => by
    simp only [RV] at h ⊢
    obtain ⟨a, h1, h2⟩ := h
    simp only [okD, decide_eq_true_eq] at o
    obtain ⟨t, ht⟩ := e.pre
    rw [← ht, List.getElem?_append_left (by rw [hl]; exact o)] at h2
    exact ⟨a, h1, h2⟩
theorem RVs.cut (e : Ext w H w' H') (hl : w.m.length = S.length) : ∀ {ds : List D} {vs : List V}, okDs S.length ds = true → RVs K w' H' ds vs → RVs K w H' ds vs
  | [], vs, _, h => by simpa only [RVs] using h
  | d :: ds, vs, o, h => by
    simp only [RVs] at h ⊢
    simp only [okDs, Bool.and_eq_true] at o
    obtain ⟨v, r, h1, h2, h3⟩ := h
    exact ⟨v, r, h1, RV.cut e hl o.1 h2, RVs.cut e hl o.2 h3⟩
end
mutual
theorem RV.okD {n : Nat} (hl : w.m.length = n) : ∀ {d : D} {v : V}, RV K w H d v → Ev.okD n d = true
  | .non, v, h => rfl
  | .bl b, v, h => rfl
  | .int i, v, h => rfl
  | .str x, v, h => rfl
  | .tup ds, v, h => by
    simp only [RV] at h
    obtain ⟨a, zs, h1, h2, h3⟩ := h
    simp only [Ev.okD]; exact RVs.okDs hl h3
  | .con ds, v, h => by
    simp only [RV] at h
    obtain ⟨a, zs, h1, h2, h3⟩ := h
    simp only [Ev.okD]; exact RVs.okDs hl h3
  | .lst ds, v, h => by
    simp only [RV] at h
    obtain ⟨a, zs, h1, h2, h3, h5⟩ := h
    simp only [Ev.okD]; exact RVs.okDs hl h5
  | .frz ds, v, h => by
    simp only [RV] at h
    obtain ⟨a, zs, h1, h2, h5⟩ := h
    simp only [Ev.okD]; exact RVs.okDs hl h5
  | .loc n, v, h => by
    simp only [RV] at h
    obtain ⟨a, h1, h2⟩ := h
    simp only [Ev.okD, decide_eq_true_eq]
    rw [← hl]; exact (List.getElem?_eq_some_iff.mp h2).1
theorem RVs.okDs {n : Nat} (hl : w.m.length = n) : ∀ {ds : List D} {vs : List V}, RVs K w H ds vs → Ev.okDs n ds = true
  | [], vs, h => rfl
  | d :: ds, vs, h => by
    simp only [RVs] at h
    obtain ⟨v, r, h1, h2, h3⟩ := h
    simp only [Ev.okDs, Bool.and_eq_true]
    exact ⟨RV.okD hl h2, RVs.okDs hl h3⟩
end
theorem RC.okC {n : Nat} {a : Addr} {c : Cel} (hl : w.m.length = n) (h : RC K w H a c) : Ev.okC n c = true := by
  cases c with
  | lst ds => obtain ⟨xs, _, h2⟩ := h; exact h2.okDs hl
  | dK kvs => obtain ⟨vs, _, _, h2⟩ := h; exact h2.okDs hl
  | dT kvs => obtain ⟨vs, _, _, h2⟩ := h; exact h2.okDs hl
  | ins c fs => obtain ⟨dx, vs, _, _, h2⟩ := h; exact h2.okDs hl
theorem RC.cut {a : Addr} {c : Cel} (e : Ext w H w' H') (hl : w.m.length = S.length) (o : Ev.okC S.length c = true) (h : RC K w' H' a c) : RC K w H' a c := by
  cases c with
  | lst ds => obtain ⟨xs, h1, h2⟩ := h; exact ⟨xs, h1, h2.cut e hl o⟩
  | dK kvs => obtain ⟨vs, h1, h2, h3⟩ := h; exact ⟨vs, h1, h2, h3.cut e hl o⟩
  | dT kvs => obtain ⟨vs, h1, h2, h3⟩ := h; exact ⟨vs, h1, h2, h3.cut e hl o⟩
  | ins c fs => obtain ⟨dx, vs, h1, h2, h3⟩ := h; exact ⟨dx, vs, h1, h2, h3.cut e hl o⟩
theorem Ext.cut (e : Ext w H w' H') : Ext w H w H' := ⟨List.prefix_refl _, fun _ h => h, fun _ h => .inl h, fun _ h => .inl h, e.tup, e.keep, e.live⟩
theorem Sim.cut (s : Sim K w S H) (s' : Sim K w' S' H') (e : Ext w H w' H') (hle : S.length ≤ S'.length) (hc : ∀ i, i < S.length → S'[i]? = S[i]? ∨ ∃ c, S'[i]? = some c ∧ Ev.okC S.length c = true) : Sim K w (S'.take S.length) H' := by
  refine ⟨by rw [List.length_take, Nat.min_eq_left hle]; exact s.len, s.nd, fun i c q => ?_, fun a ha => ?_⟩
  · have hi : i < S.length := by
      have := (List.getElem?_eq_some_iff.mp q).1
      rw [List.length_take] at this
      omega
    rw [List.getElem?_take_of_lt hi] at q
    obtain ⟨a, h1, h2⟩ := s'.at_ i c q
    obtain ⟨t, ht⟩ := e.pre
    rw [← ht, List.getElem?_append_left (by rw [s.len]; exact hi)] at h1
    refine ⟨a, h1, h2.cut e s.len ?_⟩
    rcases hc i hi with z | ⟨c', z, o⟩
    · rw [q] at z
      obtain ⟨b, g1, g2⟩ := s.at_ i c z.symm
      exact g2.okC s.len
    · rw [q] at z; cases z; exact o
  · obtain ⟨h1, o, h2⟩ := s.priv a ha
    exact ⟨h1, e.live a o h2⟩
/-- gc keeps what is wanted -/
theorem gc_post {W : WX} {σ : St} {d : D} {Q : VK} {v : V} (s : Sim K w S H) (e : Ext w H w' H') (s' : Sim K w' S' H') (r : RV K w' H' d v) (p : PostG K (RV K) W w H σ (gc S d S') Q) : Q v H' := by
  unfold gc at p
  split at p
  · rename_i hg
    exact p w H' v e.cut (s.cut s' e hg.1 hg.2.2) (r.cut e s.len hg.2.1)
  · exact p w' H' v e s' r
theorem gcL_post {W : WX} {σ : St} {d : D} {Q : VK} {v : V} (s : Sim K w S H) (e : Ext w H w' H') (s' : Sim K w' S' H') (r : RV K w' H' d v) (p : PostG K (RV K) W w H σ (gcL S d S') Q) : Q v H' := by
  unfold gcL at p
  split at p
  · rename_i k
    split at p
    · rename_i es he
      split at p
      · rename_i hg
        obtain ⟨hk, hg⟩ := hg
        refine p w H' v e.cut (s.cut s' e hg.1 hg.2.2) ?_
        obtain ⟨a, h1, h2, xs, h3, h4⟩ := s'.get he r
        subst h1
        simp only [RV]
        refine ⟨a, xs, rfl, h3, ⟨fun z => ?_, fun z => (s'.priv a (e.q a z)).1 (List.mem_of_getElem? h2)⟩, h4.cut e s.len hg.2.1⟩
        obtain ⟨i, hi, ei⟩ := List.getElem_of_mem z
        obtain ⟨t, ht⟩ := e.pre
        have : w'.m[i]? = some a := by rw [← ht, List.getElem?_append_left hi, List.getElem?_eq_getElem hi, ei]
        have := nd_inj s'.nd this h2
        rw [s.len] at hi
        omega
      · exact p.elim
    · exact p.elim
  · exact p.elim
end

/-! ### a def's promise -/
def spOf (K : PySem.W.Frag) (n : Nat) (F : List D → Sto → R D) : Sp := fun vs H Q E => ∃ w S ds, vs.length = n ∧ Sim K w S H ∧ RVs K w H ds vs ∧ PostG K (RV K) (fun c d _ H => E c d H) w H [] (F ds S) Q
theorem start_env {K : PySem.W.Frag} {w : Wo} {H : Hp} {ds : List D} {vs : List V} {N : List Str} (r : RVs K w H ds vs) : REnv K w H (ds.map some ++ List.replicate (N.length - ds.length) none) (L2.start N vs) := by
  have hl := r.length
  refine ⟨by simp [L2.start, hl], fun i d q => ?_⟩
  by_cases hi : i < ds.length
  · rw [List.getElem?_append_left (by simpa using hi), List.getElem?_map, List.getElem?_eq_getElem hi] at q
    have q' : ds[i] = d := Option.some.inj (Option.some.inj q)
    obtain ⟨v, h1, h2⟩ := r.get (List.getElem?_eq_getElem hi)
    refine ⟨v, ?_, q' ▸ h2⟩
    unfold L2.start
    rw [List.getElem?_append_left (by simpa [← hl] using hi), List.getElem?_map, h1]
    rfl
  · rw [List.getElem?_append_right (by simpa using hi), List.getElem?_replicate] at q
    split at q <;> cases q
section
variable {P : Program} {w : World} {K : PySem.W.Frag} {mg : Str → Option Value} {base : Heap}
/-- the rule for a def out of which no exception comes -/
theorem fun_ok0 {x qual : Str} {st : Stmt} {f : Addr} {fd : FuncData} {N ps : List Str} {k : Nat} {b : SF} (F : Fun K x qual st f fd) (Sc : FnScope N ps (defScope st))
    (hb : ∀ (X : Cx) (W : WX) (cdv : Value) (A : Around) (outer : List Env) (s : Shared) (H : Hp) (E : XK), Room k (A.deeper (envOfC qual (defScope st) s.heap.objs.size f cdv)) →
      X = (cxOf CX0 P w K mg base N qual (defScope st) f cdv A outer s H E).nox → PSs X (defBody st) (tS K W b)) :
    FnOk P w K mg base CX0 (k + 1) f fd ps (spOf K ps.length (runF N.length b)) := by
  refine F.ok Sc (fun vs H Q E h => let ⟨_, _, _, h, _⟩ := h; h) (fun cdv A outer s H vs Q E hr h => ?_)
  obtain ⟨w, S, ds, hl, sm, r, p⟩ := h
  refine ⟨_, hb _ (fun c d _ H => E c d H) cdv A outer s H E hr rfl, w, S, _, sm, start_env r, ?_⟩
  unfold runF at p
  cases hbb : b (ds.map some ++ List.replicate (N.length - ds.length) none) S with
  | nx ρ S' => rw [hbb] at p; exact fun w' H' σ' e s' r' => gc_post sm e s' (by simp only [RV]) p
  | rt d S' => rw [hbb] at p; exact fun w' H' v e s' r' => gc_post sm e s' r' p
  | ex x ρ S' => rw [hbb] at p; exact fun w' H' σ' dx v e s' _ h1 h2 => p w' H' dx v e s' h1 h2
  | bk ρ S' => rw [hbb] at p; exact p.elim
  | ct ρ S' => rw [hbb] at p; exact p.elim
  | no => rw [hbb] at p; exact p.elim
theorem fun_okL {x qual : Str} {st : Stmt} {f : Addr} {fd : FuncData} {N ps : List Str} {k : Nat} {b : SF} (F : Fun K x qual st f fd) (Sc : FnScope N ps (defScope st))
    (hb : ∀ (X : Cx) (W : WX) (cdv : Value) (A : Around) (outer : List Env) (s : Shared) (H : Hp) (E : XK), Room k (A.deeper (envOfC qual (defScope st) s.heap.objs.size f cdv)) →
      X = (cxOf CX0 P w K mg base N qual (defScope st) f cdv A outer s H E).nox → PSs X (defBody st) (tS K W b)) :
    FnOk P w K mg base CX0 (k + 1) f fd ps (spOf K ps.length (runL N.length b)) := by
  refine F.ok Sc (fun vs H Q E h => let ⟨_, _, _, h, _⟩ := h; h) (fun cdv A outer s H vs Q E hr h => ?_)
  obtain ⟨w, S, ds, hl, sm, r, p⟩ := h
  refine ⟨_, hb _ (fun c d _ H => E c d H) cdv A outer s H E hr rfl, w, S, _, sm, start_env r, ?_⟩
  unfold runL at p
  cases hbb : b (ds.map some ++ List.replicate (N.length - ds.length) none) S with
  | nx ρ S' => rw [hbb] at p; exact p.elim
  | rt d S' => rw [hbb] at p; exact fun w' H' v e s' r' => gcL_post sm e s' r' p
  | ex x ρ S' => rw [hbb] at p; exact fun w' H' σ' dx v e s' _ h1 h2 => p w' H' dx v e s' h1 h2
  | bk ρ S' => rw [hbb] at p; exact p.elim
  | ct ρ S' => rw [hbb] at p; exact p.elim
  | no => rw [hbb] at p; exact p.elim
/-- a def that can be called by its name -/
structure Cal (P : Program) (w : World) (K : PySem.W.Frag) (mg : Str → Option Value) (base : Heap) (CX : CXT) (k : Nat) (x : Str) (n : Nat) (F : List D → Sto → R D) : Prop where
  ex : ∃ f fd ps, FnOk P w K mg base CX k f fd ps (spOf K n F) ∧ mg x = some (.ref f) ∧ PySem.W.keepIn K (.ref f) = true ∧ Binds K fd ps []
theorem pass0S {X : Cx} (σ : St) {E : XK} : PassesAt CX0 X σ E := fun _ _ _ _ _ _ h => h.elim
end
def eCall (n : Nat) (F : List D → Sto → R D) (fa : AF) : EF := fun ρ S => (fa ρ S).bind fun ds S1 => if ds.length = n then F ds S1 else .no
theorem PostG.toE {K : PySem.W.Frag} {W : WX} {w : Wo} {H : Hp} {σ σ' : St} {r : R D} {Q : VK} (h : PostG K (RV K) W w H σ r Q) : PostG K (RV K) (fun c d _ H => W c d σ H) w H σ' r Q := by
  cases r with
  | ok a S => exact h
  | ex e S => exact h
  | no => exact h
section
variable {X : Cx} {W : WX} {CXc : CXT} {x : Str} {p pos : Pos} {e : Expr} {es : List Expr} {fa : AF} {k j n : Nat} {F : List D → Sto → R D}
theorem tCall_of {σ : St} {H : Hp} {Q : VK} (h : tE X.K W (eCall n F fa) σ H Q) : tCallS (spOf X.K n F) (WE W) (tA X.K W fa) σ H Q := by
  obtain ⟨w, S, ρ, s, re, p⟩ := h
  refine ⟨w, S, ρ, s, re, p.bind fun w1 H1 vs ds S1 e1 s1 rd p1 => ?_⟩
  split at p1
  · rename_i hl
    exact ⟨w1, S1, ds, by rw [← rd.length, hl], s1, rd, p1.toE⟩
  · exact p1.elim
theorem E_call (c : Cal X.prog X.w X.K X.mg X.base CXc k x n F) (hr : Room j X.A) (hx : ∀ σ, PassesAt CXc X σ (WE W σ)) (ha : PA X (e :: es) (tA X.K W fa)) (hk : k ≤ j := by first | decide | omega) (hg : Gl X x := by rfl)
    (hdb : (x == ("__debug__" : Str)) = false := by decide) (he : starEach (e :: es) X.env = (false, eval e X.env) :: starEach es X.env := by rfl) (hpl : (backTo pos (starEach es X.env)).any (·.1) = false := by rfl) :
    PE X (.Call (.Name x p) (e :: es) [] pos) (tE X.K W (eCall n F fa)) := by
  obtain ⟨f, fd, ps, G, hm, hkp, hb⟩ := c.ex
  exact PE.weak (pe_callS G (hr.mono hk) hg hm hkp hb hx ha hdb he hpl) fun σ H Q h => tCall_of h
end
end Ev

namespace Ev
open PySem PySem.Spec PyProof.Rows L2

/-! ### built-ins by values -/
abbrev OpN := List D → Sto → Option (D × Sto)
def CallS (K : PySem.W.Frag) (r : List V → Hp → VK → Prop) (o : OpN) : Prop := ∀ (w : Wo) (S : Sto) (H : Hp) (ds : List D) (vs : List V) (d : D) (S' : Sto) (Q : VK), Sim K w S H → RVs K w H ds vs → o ds S = some (d, S') →
  (∀ w' H' z, Ext w H w' H' → Sim K w' S' H' → RV K w' H' d z → Q z H') → r vs H Q
def liftP (x : Option (D × Sto)) : R D := match x with
  | some (d, S) => .ok d S
  | none => .no
@[simp] theorem liftP_some (d : D) (S : Sto) : liftP (some (d, S)) = .ok d S := rfl
@[simp] theorem liftP_none : liftP none = .no := rfl
def eCb (o : OpN) (fa : AF) : EF := fun ρ S => (fa ρ S).bind fun ds S1 => liftP (o ds S1)
/-- what does not touch the store -/
def pure1 (g : List D → Sto → Option D) : OpN := fun ds S => (g ds S).map fun d => (d, S)
section
variable {X : Cx} {W : WX} {x : Str} {p pos : Pos} {e : Expr} {es : List Expr} {fa : AF} {id T : String} {r : List V → Hp → VK → Prop} {o : OpN}
theorem tCB_of {σ : St} {H : Hp} {Q : VK} (hs : CallS X.K r o) (h : tE X.K W (eCb o fa) σ H Q) : tCB r (tA X.K W fa) σ H Q := by
  obtain ⟨w, S, ρ, s, re, p⟩ := h
  refine ⟨w, S, ρ, s, re, p.bind fun w1 H1 vs ds S1 e1 s1 rd p1 => ?_⟩
  cases ho : o ds S1 with
  | none => rw [ho] at p1; exact p1.elim
  | some q => obtain ⟨d, S2⟩ := q; rw [ho] at p1; exact hs w1 S1 H1 ds vs d S2 Q s1 rd ho fun w2 H2 z e2 s2 rz => p1 w2 H2 z e2 s2 rz
theorem E_cb (hc : CallR X (.builtin id) r) (hs : CallS X.K r o) (hm : X.mg x = none) (ha : PA X (e :: es) (tA X.K W fa)) (hg : Gl X x := by rfl) (hv : bootBuiltins x = some (.builtin id) := by decide +kernel) (hn : x ≠ "__name__" := by decide) (hdb : (x == ("__debug__" : Str)) = false := by decide)
    (he : starEach (e :: es) X.env = (false, eval e X.env) :: starEach es X.env := by rfl) (hpl : (backTo pos (starEach es X.env)).any (·.1) = false := by rfl) : PE X (.Call (.Name x p) (e :: es) [] pos) (tE X.K W (eCb o fa)) :=
  PE.weak (pe_callB hc hg hm hv ha hn hdb he hpl) fun σ H Q h => tCB_of hs h
theorem E_cty (hc : CallR X (.type T) r) (hs : CallS X.K r o) (hm : X.mg x = none) (ha : PA X (e :: es) (tA X.K W fa)) (hg : Gl X x := by rfl) (hv : bootBuiltins x = some (.type T) := by decide +kernel) (hn : x ≠ "__name__" := by decide) (hdb : (x == ("__debug__" : Str)) = false := by decide)
    (he : starEach (e :: es) X.env = (false, eval e X.env) :: starEach es X.env := by rfl) (hpl : (backTo pos (starEach es X.env)).any (·.1) = false := by rfl) : PE X (.Call (.Name x p) (e :: es) [] pos) (tE X.K W (eCb o fa)) :=
  PE.weak (pe_callTy hc hg hm hv ha hn hdb he hpl) fun σ H Q h => tCB_of hs h
theorem E_cbf (hc : CallR X (.builtin id) r) (hs : CallS X.K r o) (hm : X.mg x = some (.builtin id)) (ha : PA X (e :: es) (tA X.K W fa)) (hg : Gl X x := by rfl) (hdb : (x == ("__debug__" : Str)) = false := by decide)
    (he : starEach (e :: es) X.env = (false, eval e X.env) :: starEach es X.env := by rfl) (hpl : (backTo pos (starEach es X.env)).any (·.1) = false := by rfl) : PE X (.Call (.Name x p) (e :: es) [] pos) (tE X.K W (eCb o fa)) :=
  PE.weak (pe_callBfun hc hg hm ha hdb he hpl) fun σ H Q h => tCB_of hs h
end
theorem callS_pure {K : PySem.W.Frag} {r : List V → Hp → VK → Prop} {g : List D → Sto → Option D}
    (h : ∀ (w : Wo) (S : Sto) (H : Hp) (ds : List D) (vs : List V) (d : D) (Q : VK), Sim K w S H → RVs K w H ds vs → g ds S = some d → (∀ w' H' z, Ext w H w' H' → Sim K w' S H' → RV K w' H' d z → Q z H') → r vs H Q) : CallS K r (pure1 g) := by
  intro w S H ds vs d S' Q s rd e k
  unfold pure1 at e
  cases hg : g ds S with
  | none => rw [hg] at e; cases e
  | some d' => rw [hg] at e; cases e; exact h w S H ds vs d Q s rd hg k
/-- len -/
def gLen : List D → Sto → Option D := fun ds S => match ds with
  | [d] => match seqOf S d with
    | some es => some (.int es.length)
    | none => match d with
      | .str z => if z.length ≤ sizeLine then some (.int z.length) else none
      | _ => none
  | _ => none
theorem callS_len {K : PySem.W.Frag} : CallS K (fun xs H Q => ∃ x n, xs = [x] ∧ LenV K x H n ∧ Q (.int n) H) (pure1 gLen) := callS_pure fun w S H ds vs d Q s rd e k => by
  unfold gLen at e
  split at e
  · rename_i d0
    obtain ⟨v, rfl, rv⟩ := rd.one
    split at e
    · rename_i es he
      cases e
      obtain ⟨a, xs, rfl, h2, h3⟩ := seqOf_sq s rv he
      refine ⟨_, es.length, rfl, ?_, k w H _ .refl s (by simp only [RV])⟩
      rcases h2 with h2 | h2
      · exact .inl ⟨xs, h2, h3.length⟩
      · exact .inr ⟨xs, h2, h3.length⟩
    · split at e
      · split at e
        · rename_i z _ hz
          cases e
          simp only [RV] at rv
          subst rv
          exact ⟨_, z.length, rfl, ⟨hz, rfl⟩, k w H _ .refl s (by simp only [RV])⟩
        · cases e
      · cases e
  · cases e
/-- ints -/
def gAbs : List D → Sto → Option D := fun ds _ => match ds with
  | [.int i] => some (.int (if i < 0 then -i else i))
  | _ => none
theorem callS_abs {K : PySem.W.Frag} : CallS K (fun xs H Q => ∃ i, xs = [.int i] ∧ Q (.int (if i < 0 then -i else i)) H) (pure1 gAbs) := callS_pure fun w S H ds vs d Q s rd e k => by
  unfold gAbs at e
  split at e
  · obtain ⟨v, rfl, rv⟩ := rd.one
    simp only [RV] at rv
    subst rv
    cases e
    exact ⟨_, rfl, k w H _ .refl s (by simp only [RV])⟩
  · cases e
def gInt : List D → Sto → Option D := fun ds _ => match ds with
  | [.int i] => some (.int i)
  | _ => none
theorem callS_int {K : PySem.W.Frag} : CallS K (fun xs H Q => (∃ i, xs = [.int i] ∧ Q (.int i) H) ∨ ∃ k, xs = [.bl k] ∧ Q (.int (if k then 1 else 0)) H) (pure1 gInt) := callS_pure fun w S H ds vs d Q s rd e k => by
  unfold gInt at e
  split at e
  · obtain ⟨v, rfl, rv⟩ := rd.one
    simp only [RV] at rv
    subst rv
    cases e
    exact .inl ⟨_, rfl, k w H _ .refl s (by simp only [RV])⟩
  · cases e
def gMin : List D → Sto → Option D := fun ds _ => match ds with
  | [.int i, .int j] => some (.int (if j < i then j else i))
  | _ => none
def gMax : List D → Sto → Option D := fun ds _ => match ds with
  | [.int i, .int j] => some (.int (if j > i then j else i))
  | _ => none
theorem callS_min {K : PySem.W.Frag} : CallS K (fun xs H Q => ∃ i j, xs = [.int i, .int j] ∧ Q (.int (if j < i then j else i)) H) (pure1 gMin) := callS_pure fun w S H ds vs d Q s rd e k => by
  unfold gMin at e
  split at e
  · obtain ⟨v, u, rfl, rv, ru⟩ := rd.two
    simp only [RV] at rv ru
    subst rv ru
    cases e
    exact ⟨_, _, rfl, k w H _ .refl s (by simp only [RV])⟩
  · cases e
theorem callS_max {K : PySem.W.Frag} : CallS K (fun xs H Q => ∃ i j, xs = [.int i, .int j] ∧ Q (.int (if j > i then j else i)) H) (pure1 gMax) := callS_pure fun w S H ds vs d Q s rd e k => by
  unfold gMax at e
  split at e
  · obtain ⟨v, u, rfl, rv, ru⟩ := rd.two
    simp only [RV] at rv ru
    subst rv ru
    cases e
    exact ⟨_, _, rfl, k w H _ .refl s (by simp only [RV])⟩
  · cases e
def gGcd : List D → Sto → Option D := fun ds _ => match ds with
  | [.int i, .int j] => some (.int ((Nat.gcd i.natAbs j.natAbs : Nat) : Int))
  | _ => none
theorem callS_gcd {K : PySem.W.Frag} : CallS K rGcd (pure1 gGcd) := callS_pure fun w S H ds vs d Q s rd e k => by
  unfold gGcd at e
  split at e
  · obtain ⟨v, u, rfl, rv, ru⟩ := rd.two
    simp only [RV] at rv ru
    subst rv ru
    cases e
    exact ⟨_, _, rfl, k w H _ .refl s (by simp only [RV])⟩
  · cases e
/-- over a list of ints, of bools -/
def blsOf : List D → Option (List Bool)
  | [] => some []
  | .bl i :: ds => (blsOf ds).map (i :: ·)
  | _ :: _ => none
theorem blsOf_eq : ∀ {ds : List D} {is : List Bool}, blsOf ds = some is → ds = is.map D.bl
  | [], is, h => by cases h; rfl
  | d :: ds, is, h => by
    cases d with
    | bl i =>
      simp only [blsOf] at h
      cases e : blsOf ds with
      | none => rw [e] at h; cases h
      | some js => rw [e] at h; cases h; rw [blsOf_eq e]; rfl
    | _ => cases h
@[simp] theorem blsOf_map (is : List Bool) : blsOf (is.map D.bl) = some is := by
  induction is with
  | nil => rfl
  | cons i is ih => simp only [List.map_cons, blsOf, ih, Option.map_some]
def gSum : List D → Sto → Option D := fun ds S => match ds with
  | [d] => ((seqOf S d).bind intsOf).map fun is => .int is.sum
  | _ => none
def gAny : List D → Sto → Option D := fun ds S => match ds with
  | [d] => ((lstOf S d).bind blsOf).map fun bs => .bl (bs.any id)
  | _ => none
def gAll : List D → Sto → Option D := fun ds S => match ds with
  | [d] => ((lstOf S d).bind blsOf).map fun bs => .bl (bs.all id)
  | _ => none
theorem sum_tupG {prog : Program} {w : World} {A : Around} {E : Value → Shared → Prop} {s : Shared} {l : Addr} {xs : Array (Int × Tok)} {Q : Value → Shared → Prop} (hh : A.handled = none) (hl : s.heap.IsTuple l (intItems xs))
    (h : ∀ h' tk t', (∀ b o, s.heap.get? b = some o → h'.get? b = some o) → Q (.int (preSum (numAt xs) xs.size) t') { s with heap := h', toks := tk }) : wpAny (model prog w) A (call (.builtin "sum") [.ref l]) Q E s := by
  have hlt : l < s.heap.objs.size := let ⟨_, e, _⟩ := hl; Heap.lt_size e
  refine call_sum_walkG (wpAny_pyIter_tuple hl ?_)
  refine ⟨_, [_, l], [_], _, _, _, numAt xs, rfl, Walks.tuple (A := A.in1) hh _ l (Nat.ne_of_lt hlt) (intItems xs),
    ⟨⟨_, Heap.get?_push_size _ rfl, rfl, rfl⟩, hl.push _⟩, fun c hc => ?_, (fun _ _ => intItems_at), fun h' tk t' hk => ?_⟩
  · show c < (s.heap.push _).objs.size
    rw [Heap.size_push]
    rcases List.mem_cons.mp hc with rfl | hc
    · exact Nat.lt_succ_self _
    · rcases List.mem_cons.mp hc with rfl | hc
      · exact Nat.lt_succ_of_lt hlt
      · cases hc
  · have hold : ∀ c o, s.heap.get? c = some o → h'.get? c = some o := fun c o e => by
      refine hk c o (fun hm => ?_) (Heap.get?_push_of_some _ e)
      rcases List.mem_cons.mp hm with e1 | hm
      · have := Heap.lt_size e; rw [e1] at this; exact Nat.lt_irrefl _ this
      · cases hm
    have := h h' tk t' hold
    simpa [intItems] using this
theorem sum_rawT {prog : Program} {w : World} {A : Around} {E : Value → Shared → Prop} {s : Shared} {l : Addr} {its : List Value} {ns : List Int} {Q : Value → Shared → Prop} (hh : A.handled = none) (hl : s.heap.IsTuple l its.toArray) (hi : IntsAre its ns)
    (h : ∀ h' tk t', (∀ b o, s.heap.get? b = some o → h'.get? b = some o) → Q (.int ns.sum t') { s with heap := h', toks := tk }) : wpAny (model prog w) A (call (.builtin "sum") [.ref l]) Q E s := by
  obtain ⟨xs, e⟩ := hi.allInts.items
  have hn : numsOf (intItems xs).toList = ns := by rw [← e]; exact hi.numsOf
  rw [nums_intItems] at hn
  rw [e] at hl
  refine sum_tupG hh hl fun h' tk t' hk => ?_
  have := h h' tk t' hk
  rw [preSum_eq, List.take_of_length_le (by simp), hn]; exact this
def rSumA (K : PySem.W.Frag) : List V → Hp → VK → Prop := fun vs H Q => ∃ (a : Addr) (ns : List Int), vs = [V.ref a] ∧ (SqL K H a (ns.map V.int) ∨ SqT K H a (ns.map V.int)) ∧ Q (.int ns.sum) H
theorem cr_sumA {X : Cx} (hc : X.calm = true) : CallR X (.builtin "sum") (rSumA X.K) := by
  intro pins s σ H vs us Q I r h
  obtain ⟨a, ns, rfl, hs | hs, q⟩ := h
  · obtain ⟨its, rv, hl, _⟩ := I.list hs
    rw [Vals.ref1 r]
    exact sum_raw (I.ok.hd hc) hl.isList rv.ints fun h' tk t' hk => ⟨.int _, H, I.kept hk, ⟨_, rfl⟩, q⟩
  · obtain ⟨its, rv, hl, _⟩ := I.tuple hs
    rw [Vals.ref1 r]
    exact sum_rawT (I.ok.hd hc) hl rv.ints fun h' tk t' hk => ⟨.int _, H, I.kept hk, ⟨_, rfl⟩, q⟩
theorem callS_sum {K : PySem.W.Frag} : CallS K (rSumA K) (pure1 gSum) := callS_pure fun w S H ds vs d Q s rd e k => by
  unfold gSum at e
  split at e
  · rename_i d0
    obtain ⟨v, rfl, rv⟩ := rd.one
    cases hl : seqOf S d0 with
    | none => rw [hl] at e; cases e
    | some es =>
      rw [hl] at e
      cases hi : intsOf es with
      | none => simp only [Option.bind_some, hi] at e; cases e
      | some is =>
        simp only [Option.bind_some, hi, Option.map_some] at e
        cases e
        obtain ⟨a, xs, rfl, h2, h3⟩ := seqOf_sq s rv hl
        rw [intsOf_eq hi] at h3
        rw [h3.ints] at h2
        exact ⟨a, is, rfl, h2, k w H _ .refl s (by simp only [RV])⟩
  · cases e
theorem callS_any {K : PySem.W.Frag} : CallS K (rAny K) (pure1 gAny) := callS_pure fun w S H ds vs d Q s rd e k => by
  unfold gAny at e
  split at e
  · rename_i d0
    obtain ⟨v, rfl, rv⟩ := rd.one
    cases hl : lstOf S d0 with
    | none => rw [hl] at e; cases e
    | some es =>
      rw [hl] at e
      cases hi : blsOf es with
      | none => simp only [Option.bind_some, hi] at e; cases e
      | some is =>
        simp only [Option.bind_some, hi, Option.map_some] at e
        cases e
        obtain ⟨a, xs, rfl, h2, h3⟩ := lstOf_sq s rv hl
        rw [blsOf_eq hi] at h3
        rw [h3.bls] at h2
        exact ⟨a, is, rfl, h2, k w H _ .refl s (by simp only [RV])⟩
  · cases e
theorem callS_all {K : PySem.W.Frag} : CallS K (rAll K) (pure1 gAll) := callS_pure fun w S H ds vs d Q s rd e k => by
  unfold gAll at e
  split at e
  · rename_i d0
    obtain ⟨v, rfl, rv⟩ := rd.one
    cases hl : lstOf S d0 with
    | none => rw [hl] at e; cases e
    | some es =>
      rw [hl] at e
      cases hi : blsOf es with
      | none => simp only [Option.bind_some, hi] at e; cases e
      | some is =>
        simp only [Option.bind_some, hi, Option.map_some] at e
        cases e
        obtain ⟨a, xs, rfl, h2, h3⟩ := lstOf_sq s rv hl
        rw [blsOf_eq hi] at h3
        rw [h3.bls] at h2
        exact ⟨a, is, rfl, h2, k w H _ .refl s (by simp only [RV])⟩
  · cases e
/-- sorted, of ints -/
def insI (x : Int) : List Int → List Int
  | [] => [x]
  | y :: ys => if x ≤ y then x :: y :: ys else y :: insI x ys
def isort : List Int → List Int
  | [] => []
  | x :: xs => insI x (isort xs)
theorem insI_perm (x : Int) : ∀ ys : List Int, (insI x ys).Perm (x :: ys)
  | [] => .refl _
  | y :: ys => by
    unfold insI
    split
    · exact .refl _
    · exact ((insI_perm x ys).cons y).trans (.swap x y ys)
theorem isort_perm : ∀ xs : List Int, (isort xs).Perm xs
  | [] => .refl _
  | x :: xs => (insI_perm x _).trans ((isort_perm xs).cons x)
theorem insI_sorted (x : Int) : ∀ ys : List Int, ys.Pairwise (· ≤ ·) → (insI x ys).Pairwise (· ≤ ·)
  | [], _ => List.pairwise_singleton _ _
  | y :: ys, h => by
    have h' := List.pairwise_cons.mp h
    unfold insI
    split
    · rename_i hx
      refine List.pairwise_cons.mpr ⟨fun z hz => ?_, h⟩
      rcases List.mem_cons.mp hz with e | e
      · rw [e]; exact hx
      · exact Int.le_trans hx (h'.1 z e)
    · rename_i hx
      refine List.pairwise_cons.mpr ⟨fun z hz => ?_, insI_sorted x ys h'.2⟩
      rcases List.mem_cons.mp ((insI_perm x ys).mem_iff.mp hz) with e | e
      · rw [e]; omega
      · exact h'.1 z e
theorem isort_sorted : ∀ xs : List Int, (isort xs).Pairwise (· ≤ ·)
  | [] => List.Pairwise.nil
  | x :: xs => insI_sorted x _ (isort_sorted xs)
theorem isort_same {a b : List Int} (hp : a.Perm b) (ha : a.Pairwise (· ≤ ·)) : a = isort b :=
  PySem.W.ksm_same (hp.trans (isort_perm b).symm) ha (isort_sorted b)
def oSort (al : Bool) : OpN := fun ds S => match ds with
  | [d] => ((lstOf S d).bind intsOf).map fun is => if al then (.loc S.length, S ++ [.lst ((isort is).map D.int)]) else (.lst ((isort is).map D.int), S)
  | _ => none
/-- a new list: a value, or in the store -/
theorem newList {K : PySem.W.Frag} {w : Wo} {S : Sto} {H : Hp} {es : List D} {xs : List V} {Q : VK} {al : Bool} {d : D} {S' : Sto} {q : Addr} (s : Sim K w S H) (r : RVs K w H es xs) (hq : H q = none)
    (e : (if al then ((.loc S.length : D), S ++ [Cel.lst es]) else (.lst es, S)) = (d, S')) (k : ∀ w' H' z, Ext w H w' H' → Sim K w' S' H' → RV K w' H' d z → Q z H') : Q (.ref q) (upd H q (.lst xs)) := by
  cases al with
  | true => cases e; exact k (w.add q) _ _ (Ext.alloc hq) (s.alloc hq (RC.newLst hq r)) (RV.newLoc s.len)
  | false => cases e; exact k w _ _ (Ext.fresh hq) (s.fresh hq) (RV.newLst s hq r)
theorem callS_sort {K : PySem.W.Frag} (al : Bool) : CallS K (rSortedI K) (oSort al) := by
  intro w S H ds vs d S' Q s rd e k
  unfold oSort at e
  split at e
  · rename_i d0
    obtain ⟨v, rfl, rv⟩ := rd.one
    cases hl : lstOf S d0 with
    | none => rw [hl] at e; cases e
    | some es =>
      rw [hl] at e
      cases hi : intsOf es with
      | none => simp only [Option.bind_some, hi] at e; cases e
      | some is =>
        simp only [Option.bind_some, hi, Option.map_some] at e
        obtain ⟨a, xs, rfl, h2, h3⟩ := lstOf_sq s rv hl
        rw [intsOf_eq hi] at h3
        rw [h3.ints] at h2
        refine ⟨a, is, rfl, h2, fun ns' p hp ho hn => ?_⟩
        rw [isort_same hp ho]
        exact newList s (.of_ints _) hn (Option.some.inj e) k
  · cases e
def oList (al : Bool) : OpN := fun ds S => match ds with
  | [d] => (seqOf S d).map fun es => if al then (.loc S.length, S ++ [.lst es]) else (.lst es, S)
  | _ => none
theorem callS_list {K : PySem.W.Frag} (al : Bool) : CallS K (fun xs H Q => ∃ p ys, xs = [.ref p] ∧ (SqL K H p ys ∨ SqT K H p ys) ∧ ∀ l, H l = none → Q (.ref l) (upd H l (.lst ys))) (oList al) := by
  intro w S H ds vs d S' Q s rd e k
  unfold oList at e
  split at e
  · rename_i d0
    obtain ⟨v, rfl, rv⟩ := rd.one
    cases hl : seqOf S d0 with
    | none => rw [hl] at e; cases e
    | some es =>
      rw [hl] at e
      obtain ⟨a, xs, rfl, h2, h3⟩ := seqOf_sq s rv hl
      exact ⟨a, xs, rfl, h2, fun l hn => newList s h3 hn (Option.some.inj e) k⟩
  · cases e
def gTuple : List D → Sto → Option D := fun ds S => match ds with
  | [d] => match tupOf d with
    | some _ => some d
    | none => (lstOf S d).map D.tup
  | _ => none
theorem callS_tuple {K : PySem.W.Frag} : CallS K (fun xs H Q => ∃ p ys, xs = [.ref p] ∧ ((SqL K H p ys ∧ ∀ l, H l = none → Q (.ref l) (upd H l (.tup ys))) ∨ (SqT K H p ys ∧ Q (.ref p) H))) (pure1 gTuple) := callS_pure fun w S H ds vs d Q s rd e k => by
  unfold gTuple at e
  split at e
  · rename_i d0
    obtain ⟨v, rfl, rv⟩ := rd.one
    split at e
    · rename_i es he
      cases e
      obtain ⟨a, xs, rfl, h2, h3⟩ := tupOf_sq rv he
      exact ⟨a, xs, rfl, .inr ⟨h2, k w H _ .refl s rv⟩⟩
    · cases hl : lstOf S d0 with
      | none => rw [hl] at e; cases e
      | some es =>
        rw [hl] at e
        cases e
        obtain ⟨a, xs, rfl, h2, h3⟩ := lstOf_sq s rv hl
        exact ⟨a, xs, rfl, .inl ⟨h2, fun l hn => k w _ _ (Ext.fresh hn) (s.fresh hn) (RV.newTup hn h3)⟩⟩
  · cases e
section
variable {X : Cx} {W : WX} {p pos : Pos} {e : Expr} {es : List Expr} {fa : AF}
theorem E_len (hm : X.mg "len" = none) (ha : PA X (e :: es) (tA X.K W fa)) (hg : Gl X "len" := by rfl)
    (he : starEach (e :: es) X.env = (false, eval e X.env) :: starEach es X.env := by rfl) (hpl : (backTo pos (starEach es X.env)).any (·.1) = false := by rfl) : PE X (.Call (.Name "len" p) (e :: es) [] pos) (tE X.K W (eCb (pure1 gLen) fa)) :=
  E_cb call_len callS_len hm ha hg boot_len (by decide) (by decide) he hpl
theorem E_abs (hm : X.mg "abs" = none) (ha : PA X (e :: es) (tA X.K W fa)) (hg : Gl X "abs" := by rfl)
    (he : starEach (e :: es) X.env = (false, eval e X.env) :: starEach es X.env := by rfl) (hpl : (backTo pos (starEach es X.env)).any (·.1) = false := by rfl) : PE X (.Call (.Name "abs" p) (e :: es) [] pos) (tE X.K W (eCb (pure1 gAbs) fa)) :=
  E_cb call_abs callS_abs hm ha hg (by decide +kernel) (by decide) (by decide) he hpl
theorem E_intc (hm : X.mg "int" = none) (ha : PA X (e :: es) (tA X.K W fa)) (hg : Gl X "int" := by rfl)
    (he : starEach (e :: es) X.env = (false, eval e X.env) :: starEach es X.env := by rfl) (hpl : (backTo pos (starEach es X.env)).any (·.1) = false := by rfl) : PE X (.Call (.Name "int" p) (e :: es) [] pos) (tE X.K W (eCb (pure1 gInt) fa)) :=
  E_cty call_int1 callS_int hm ha hg (by decide +kernel) (by decide) (by decide) he hpl
theorem E_min (hc : X.calm = true) (hm : X.mg "min" = none) (ha : PA X (e :: es) (tA X.K W fa)) (hg : Gl X "min" := by rfl)
    (he : starEach (e :: es) X.env = (false, eval e X.env) :: starEach es X.env := by rfl) (hpl : (backTo pos (starEach es X.env)).any (·.1) = false := by rfl) : PE X (.Call (.Name "min" p) (e :: es) [] pos) (tE X.K W (eCb (pure1 gMin) fa)) :=
  E_cb (call_min2 hc) callS_min hm ha hg (by decide +kernel) (by decide) (by decide) he hpl
theorem E_max (hc : X.calm = true) (hm : X.mg "max" = none) (ha : PA X (e :: es) (tA X.K W fa)) (hg : Gl X "max" := by rfl)
    (he : starEach (e :: es) X.env = (false, eval e X.env) :: starEach es X.env := by rfl) (hpl : (backTo pos (starEach es X.env)).any (·.1) = false := by rfl) : PE X (.Call (.Name "max" p) (e :: es) [] pos) (tE X.K W (eCb (pure1 gMax) fa)) :=
  E_cb (call_max2 hc) callS_max hm ha hg (by decide +kernel) (by decide) (by decide) he hpl
theorem E_sum (hc : X.calm = true) (hm : X.mg "sum" = none) (ha : PA X (e :: es) (tA X.K W fa)) (hg : Gl X "sum" := by rfl)
    (he : starEach (e :: es) X.env = (false, eval e X.env) :: starEach es X.env := by rfl) (hpl : (backTo pos (starEach es X.env)).any (·.1) = false := by rfl) : PE X (.Call (.Name "sum" p) (e :: es) [] pos) (tE X.K W (eCb (pure1 gSum) fa)) :=
  E_cb (cr_sumA hc) callS_sum hm ha hg (by decide +kernel) (by decide) (by decide) he hpl
theorem E_any (hc : X.calm = true) (hm : X.mg "any" = none) (ha : PA X (e :: es) (tA X.K W fa)) (hg : Gl X "any" := by rfl)
    (he : starEach (e :: es) X.env = (false, eval e X.env) :: starEach es X.env := by rfl) (hpl : (backTo pos (starEach es X.env)).any (·.1) = false := by rfl) : PE X (.Call (.Name "any" p) (e :: es) [] pos) (tE X.K W (eCb (pure1 gAny) fa)) :=
  E_cb (cr_any hc) callS_any hm ha hg (by decide +kernel) (by decide) (by decide) he hpl
theorem E_all (hc : X.calm = true) (hm : X.mg "all" = none) (ha : PA X (e :: es) (tA X.K W fa)) (hg : Gl X "all" := by rfl)
    (he : starEach (e :: es) X.env = (false, eval e X.env) :: starEach es X.env := by rfl) (hpl : (backTo pos (starEach es X.env)).any (·.1) = false := by rfl) : PE X (.Call (.Name "all" p) (e :: es) [] pos) (tE X.K W (eCb (pure1 gAll) fa)) :=
  E_cb (cr_all hc) callS_all hm ha hg (by decide +kernel) (by decide) (by decide) he hpl
theorem E_sorted (al : Bool) (hm : X.mg "sorted" = none) (ha : PA X (e :: es) (tA X.K W fa)) (hg : Gl X "sorted" := by rfl)
    (he : starEach (e :: es) X.env = (false, eval e X.env) :: starEach es X.env := by rfl) (hpl : (backTo pos (starEach es X.env)).any (·.1) = false := by rfl) : PE X (.Call (.Name "sorted" p) (e :: es) [] pos) (tE X.K W (eCb (oSort al) fa)) :=
  E_cb cr_sortedI (callS_sort al) hm ha hg (by decide +kernel) (by decide) (by decide) he hpl
theorem E_list (al : Bool) (hm : X.mg "list" = none) (ha : PA X (e :: es) (tA X.K W fa)) (hg : Gl X "list" := by rfl)
    (he : starEach (e :: es) X.env = (false, eval e X.env) :: starEach es X.env := by rfl) (hpl : (backTo pos (starEach es X.env)).any (·.1) = false := by rfl) : PE X (.Call (.Name "list" p) (e :: es) [] pos) (tE X.K W (eCb (oList al) fa)) :=
  E_cty call_list_of (callS_list al) hm ha hg (by decide +kernel) (by decide) (by decide) he hpl
theorem E_tuple (hm : X.mg "tuple" = none) (ha : PA X (e :: es) (tA X.K W fa)) (hg : Gl X "tuple" := by rfl)
    (he : starEach (e :: es) X.env = (false, eval e X.env) :: starEach es X.env := by rfl) (hpl : (backTo pos (starEach es X.env)).any (·.1) = false := by rfl) : PE X (.Call (.Name "tuple" p) (e :: es) [] pos) (tE X.K W (eCb (pure1 gTuple) fa)) :=
  E_cty call_tuple_of callS_tuple hm ha hg (by decide +kernel) (by decide) (by decide) he hpl
theorem E_gcd (hm : X.mg "gcd" = some (.builtin "math.gcd")) (ha : PA X (e :: es) (tA X.K W fa)) (hg : Gl X "gcd" := by rfl)
    (he : starEach (e :: es) X.env = (false, eval e X.env) :: starEach es X.env := by rfl) (hpl : (backTo pos (starEach es X.env)).any (·.1) = false := by rfl) : PE X (.Call (.Name "gcd" p) (e :: es) [] pos) (tE X.K W (eCb (pure1 gGcd) fa)) :=
  E_cbf cr_gcd callS_gcd hm ha hg (by decide) he hpl
end

/-! ### list(range(..)) -/
def okRg (a b : Int) : Bool := decide (-(2 ^ 62) ≤ a ∧ a < 2 ^ 62 ∧ -(2 ^ 62) ≤ b ∧ b < 2 ^ 62 ∧ (b - a).toNat ≤ 2 ^ 24)
def mkRg (al : Bool) (a b : Int) (S : Sto) : R D := if okRg a b then (if al then .ok (.loc S.length) (S ++ [.lst (rngD a (b - a).toNat)]) else .ok (.lst (rngD a (b - a).toNat)) S) else .no
def eLr1 (al : Bool) (fa : EF) : EF := fun ρ S => (fa ρ S).bind fun x S1 => match x with
  | .int n => mkRg al 0 n S1
  | _ => .no
def eLr2 (al : Bool) (fa fb : EF) : EF := fun ρ S => (fa ρ S).bind fun x S1 => (fb ρ S1).bind fun y S2 => match x, y with
  | .int i, .int j => mkRg al i j S2
  | _, _ => .no
theorem rng_rel {K : PySem.W.Frag} {w : Wo} {H : Hp} (a b : Int) : RVs K w H (rngD a (b - a).toNat) (rgV a b) := by
  unfold rngD rgV
  generalize (b - a).toNat = n
  generalize List.range n = l
  induction l with
  | nil => exact .nil
  | cons i l ih => exact .cons (by simp only [RV]) ih
theorem mkRg_of {K : PySem.W.Frag} {W : WX} {w : Wo} {S : Sto} {H : Hp} {σ : St} {Q : VK} {al : Bool} {a b : Int} (s : Sim K w S H) (p : PostG K (RV K) W w H σ (mkRg al a b S) Q) : RgOk a b ∧ ∀ q, H q = none → Q (.ref q) (upd H q (.lst (rgV a b))) := by
  unfold mkRg at p
  split at p
  · rename_i hk
    refine ⟨by have h := hk; unfold okRg at h; have h2 := of_decide_eq_true h; exact h2, fun q hq => ?_⟩
    cases al with
    | true => exact newList (al := true) s (rng_rel a b) hq rfl p
    | false => exact newList (al := false) s (rng_rel a b) hq rfl p
  · exact p.elim
section
variable {X : Cx} {W : WX} {p pos p2 pos2 : Pos} {a b : Expr} {fa fb : EF}
theorem E_lr1 (al : Bool) (hc : X.calm = true) (hl : X.mg "list" = none) (hr : X.mg "range" = none) (ha : PE X a (tE X.K W fa)) (hg : Gl X "list" := by rfl) (hg2 : Gl X "range" := by rfl) (na : starEach [a] X.env = (false, eval a X.env) :: starEach [] X.env := by rfl)
    (na2 : starEach [Expr.Call (.Name "range" p2) [a] [] pos2] X.env = (false, eval (.Call (.Name "range" p2) [a] [] pos2) X.env) :: starEach [] X.env := by rfl) : PE X (.Call (.Name "list" p) [.Call (.Name "range" p2) [a] [] pos2] [] pos) (tE X.K W (eLr1 al fa)) :=
  PE.weak (pe_listRg hc hg hl (prg_1 hg2 hr ha na) na2) fun σ H Q h => by
    obtain ⟨w, S, ρ, s, re, p⟩ := h
    refine ⟨w, S, ρ, s, re, p.bind fun w1 H1 v x S1 e1 s1 rx p1 => ?_⟩
    cases x with
    | int n =>
      simp only [RV] at rx
      exact ⟨n, rx, mkRg_of s1 p1⟩
    | _ => exact p1.elim
theorem E_lr2 (al : Bool) (hc : X.calm = true) (hl : X.mg "list" = none) (hr : X.mg "range" = none) (ha : PE X a (tE X.K W fa)) (hb : PE X b (tE X.K W fb)) (hg : Gl X "list" := by rfl) (hg2 : Gl X "range" := by rfl)
    (na : starEach [a, b] X.env = (false, eval a X.env) :: starEach [b] X.env := by rfl) (nb : starEach [b] X.env = (false, eval b X.env) :: starEach [] X.env := by rfl) (hp : (backTo pos2 (starEach [b] X.env)).any (·.1) = false := by rfl)
    (na2 : starEach [Expr.Call (.Name "range" p2) [a, b] [] pos2] X.env = (false, eval (.Call (.Name "range" p2) [a, b] [] pos2) X.env) :: starEach [] X.env := by rfl) : PE X (.Call (.Name "list" p) [.Call (.Name "range" p2) [a, b] [] pos2] [] pos) (tE X.K W (eLr2 al fa fb)) :=
  PE.weak (pe_listRg hc hg hl (prg_2 hg2 hr ha hb na nb hp) na2) fun σ H Q h => by
    obtain ⟨w, S, ρ, s, re, p⟩ := h
    refine ⟨w, S, ρ, s, re, p.bind fun w1 H1 v x S1 e1 s1 rx p1 => ?_⟩
    refine ⟨w1, S1, ρ, s1, re.mono e1, p1.bind fun w2 H2 u y S2 e2 s2 ry p2 => ?_⟩
    cases x with
    | int i =>
      cases y with
      | int j =>
        simp only [RV] at rx ry
        exact ⟨i, j, rx, ry, mkRg_of s2 p2⟩
      | _ => exact p2.elim
    | _ => exact p2.elim
end

/-! ### isinstance(x, T) -/
def isiD (T : String) (S : Sto) : D → Option Bool
  | .non => L2.kitB "NoneType" T
  | .bl _ => kitB "bool" T
  | .int _ => kitB "int" T
  | .str _ => kitB "str" T
  | .tup _ => kitB "tuple" T
  | .con _ => kitB "tuple" T
  | .lst _ => kitB "list" T
  | .frz _ => kitB "list" T
  | .loc n => match S[n]? with
    | some (.lst _) => kitB "list" T
    | _ => none
def eIsi (T : String) (fa : EF) : EF := fun ρ S => (fa ρ S).bind fun x S1 => liftO ((isiD T S1 x).map D.bl) S1
section
variable {X : Cx} {W : WX} {p pos q : Pos} {a : Expr} {fa : EF} {T : String} {t : Str}
theorem tyx_of {K : PySem.W.Frag} {w : Wo} {S : Sto} {H : Hp} {x : D} {v : V} {b : Bool} (s : Sim K w S H) (rx : RV K w H x v) (h : isiD T S x = some b) : ∃ u, TyX K H v u ∧ PySem.W.kitOne K u (.type T) = some b := by
  cases x with
  | non => simp only [RV] at rx; subst rx; exact ⟨_, .base .non, kit_ty h⟩
  | bl k => simp only [RV] at rx; subst rx; exact ⟨_, .base (.bl k), kit_ty h⟩
  | int k => simp only [RV] at rx; subst rx; exact ⟨_, .base (.int k), kit_ty h⟩
  | str k => simp only [RV] at rx; subst rx; exact ⟨_, .base (.str k), kit_ty h⟩
  | tup ds => simp only [RV] at rx; obtain ⟨a, xs, rfl, h2, h3⟩ := rx; exact ⟨_, .base (.tup h2), kit_ty h⟩
  | con ds => simp only [RV] at rx; obtain ⟨a, xs, rfl, ⟨o, its, n, h2, h4, _⟩, h3⟩ := rx; exact ⟨_, .kTuple h2 h4, kit_ty h⟩
  | lst ds => simp only [RV] at rx; obtain ⟨a, xs, rfl, h2, _, h3⟩ := rx; exact ⟨_, .base (.lst h2), kit_ty h⟩
  | frz ds =>
    simp only [RV] at rx
    obtain ⟨a, xs, rfl, h2, h3⟩ := rx
    rcases h2 with ⟨o, h2, _⟩ | ⟨o, its, n, h2, h4, _⟩
    · exact ⟨_, .base (.frz h2), kit_ty h⟩
    · exact ⟨_, .kList h2 h4, kit_ty h⟩
  | loc n =>
    simp only [isiD] at h
    split at h
    · rename_i ds hd
      obtain ⟨a, rfl, h2, xs, h3, h4⟩ := s.get hd rx
      exact ⟨_, .base (.lst h3), kit_ty h⟩
    · cases h
theorem E_isi (hm : X.mg "isinstance" = none) (hm2 : X.mg t = none) (ha : PE X a (tE X.K W fa)) (hv : bootBuiltins t = some (.type T) := by decide +kernel) (hg : Gl X "isinstance" := by rfl) (hg2 : Gl X t := by rfl) (hn : t ≠ "__name__" := by decide) (hd : (t == ("__debug__" : Str)) = false := by decide)
    (na : starEach [a, .Name t q] X.env = (false, eval a X.env) :: starEach [.Name t q] X.env := by rfl) (nb : starEach [.Name t q] X.env = (false, eval (.Name t q) X.env) :: starEach [] X.env := by rfl) (hpl : (backTo pos (starEach [.Name t q] X.env)).any (·.1) = false := by rfl) :
    PE X (.Call (.Name "isinstance" p) [a, .Name t q] [] pos) (tE X.K W (eIsi T fa)) :=
  PE.weak (pe_callB call_isi hg hm (by decide +kernel) (pa_cons ha (pa_cons (pe_bltn (v := .ty T) hg2 hm2 hv rfl hn hd) pa_nil nb) na) (by decide) (by decide) na hpl) fun σ H Q h => by
    obtain ⟨w, S, ρ, s, re, p⟩ := h
    refine ⟨w, S, ρ, s, re, p.bind fun w1 H1 v x S1 e1 s1 rx p1 => ?_⟩
    cases hb : isiD T S1 x with
    | none => rw [hb] at p1; exact p1.elim
    | some b =>
      rw [hb] at p1
      obtain ⟨u, h1, h2⟩ := tyx_of s1 rx hb
      exact ⟨v, .ty T, u, .type T, b, rfl, .ty _, h1, h2, p1 w1 H1 _ .refl s1 (by simp only [RV])⟩
end
end Ev

namespace Ev
open PySem PySem.Spec PyProof.Rows L2

/-! ### slices -/
abbrev PF := En → Sto → R (Option Int)
def relP : Wo → Hp → Option Int → Option Int → Prop := fun _ _ a b => b = a
def tP (K : PySem.W.Frag) (W : WX) (f : PF) : TO := tG K relP W f
def pNone : PF := fun _ S => .ok none S
def pSome (fe : EF) : PF := fun ρ S => (fe ρ S).bind fun x S1 => match x with
  | .int i => .ok (some i) S1
  | _ => .no
def cutD {α : Type} (xs : List α) (lo hi : Option Int) : List α := (xs.drop (HT.sIx xs.length 0 lo)).take (HT.sIx xs.length xs.length hi - HT.sIx xs.length 0 lo)
/-- of a list (a new one), of a tuple -/
def oSl (al : Bool) (x : D) (lo hi : Option Int) (S : Sto) : R D := match tupOf x with
  | some ds => if HT.sIx ds.length 0 lo = 0 ∧ HT.sIx ds.length ds.length hi = ds.length then .ok x S else .ok (.tup (cutD ds lo hi)) S
  | none => match lstOf S x with
    | some ds => if al then .ok (.loc S.length) (S ++ [.lst (cutD ds lo hi)]) else .ok (.lst (cutD ds lo hi)) S
    | none => .no
def eSl (al : Bool) (fe : EF) (fl fh : PF) : EF := fun ρ S => (fe ρ S).bind fun x S1 => (fl ρ S1).bind fun l S2 => (fh ρ S2).bind fun h S3 => oSl al x l h S3
section
variable {X : Cx} {W : WX} {pos p2 : Pos} {e : Expr} {fe : EF} {fl fh : PF} {lo hi : Option Expr}
theorem PO.weak {t t' : TO} {lo : Option Expr} (h : PO X lo t) (k : ∀ σ H Q, t' σ H Q → t σ H Q) : PO X lo t' := ⟨fun pins s σ H Q I q => h.run pins s σ H Q I (k σ H Q q)⟩
theorem P_none : PO X none (tP X.K W pNone) := PO.weak po_none fun σ H Q h => let ⟨w, S, ρ, s, re, p⟩ := h; p.ret s rfl
theorem P_some (he : PE X e (tE X.K W fe)) : PO X (some e) (tP X.K W (pSome fe)) :=
  PO.weak (po_some he) fun σ H Q h => by
    obtain ⟨w, S, ρ, s, re, p⟩ := h
    refine ⟨w, S, ρ, s, re, p.bind fun w1 H1 v x S1 e1 s1 rx p1 => ?_⟩
    cases x with
    | int i => simp only [RV] at rx; exact ⟨i, rx, p1 w1 H1 _ .refl s1 rfl⟩
    | _ => exact p1.elim
theorem cut_rel {K : PySem.W.Frag} {w : Wo} {H : Hp} {ds : List D} {xs : List V} (r : RVs K w H ds xs) (lo hi : Option Int) : RVs K w H (cutD ds lo hi) (cutV xs lo hi) := by
  unfold cutD cutV
  rw [← r.length]
  exact (r.drop _).take _
theorem E_slice (al : Bool) (he : PE X e (tE X.K W fe)) (hl : PO X lo (tP X.K W fl)) (hh : PO X hi (tP X.K W fh)) : PE X (.Subscript e (.Slice lo hi none p2) pos) (tE X.K W (eSl al fe fl fh)) :=
  PE.weak (pe_slice (sl_list.or sl_tupA) he hl hh) fun σ H Q h => by
    obtain ⟨w, S, ρ, s, re, p⟩ := h
    refine ⟨w, S, ρ, s, re, p.bind fun w1 H1 v x S1 e1 s1 rx p1 => ?_⟩
    refine ⟨w1, S1, ρ, s1, re.mono e1, p1.bind fun w2 H2 l l' S2 e2 s2 rl p2 => ?_⟩
    cases rl
    refine ⟨w2, S2, ρ, s2, (re.mono e1).mono e2, p2.bind fun w3 H3 u u' S3 e3 s3 ru p3 => ?_⟩
    cases ru
    have rx := (rx.mono e2).mono e3
    unfold oSl at p3
    split at p3
    · rename_i ds hd
      obtain ⟨a, xs, rfl, h2, h3⟩ := tupOf_sq rx hd
      rw [h3.length] at p3
      refine .inr ⟨a, xs, rfl, h2, fun hc => ?_, fun hc q hq => ?_⟩
      · rw [if_pos hc] at p3; exact p3 w3 H3 _ .refl s3 rx
      · rw [if_neg hc] at p3; exact p3 w3 _ _ (Ext.fresh hq) (s3.fresh hq) (RV.newTup hq (cut_rel h3 _ _))
    · split at p3
      · rename_i ds hd
        obtain ⟨a, xs, rfl, h2, h3⟩ := lstOf_sq s3 rx hd
        refine .inl ⟨a, xs, rfl, h2, fun q hq => ?_⟩
        cases al with
        | true => exact newList (al := true) s3 (cut_rel h3 _ _) hq rfl p3
        | false => exact newList (al := false) s3 (cut_rel h3 _ _) hq rfl p3
      · exact p3.elim
end

/-! ### methods of lists -/
abbrev OpM := D → List D → Sto → Option (D × Sto)
def MethS (K : PySem.W.Frag) (r : V → List V → Hp → VK → Prop) (o : OpM) : Prop := ∀ (w : Wo) (S : Sto) (H : Hp) (x : D) (v : V) (ds : List D) (vs : List V) (d : D) (S' : Sto) (Q : VK), Sim K w S H → RV K w H x v → RVs K w H ds vs → o x ds S = some (d, S') →
  (∀ w' H' z, Ext w H w' H' → Sim K w' S' H' → RV K w' H' d z → Q z H') → r v vs H Q
def isLst (S : Sto) (x : D) : Bool := (lstOf S x).isSome
def eLm (o : OpM) (fx : EF) (fa : AF) : EF := fun ρ S => (fx ρ S).bind fun x S1 => if isLst S1 x = true then (fa ρ S1).bind fun ds S2 => liftP (o x ds S2) else .no
theorem isLst_ty {K : PySem.W.Frag} {w : Wo} {S : Sto} {H : Hp} {x : D} {v : V} (s : Sim K w S H) (rx : RV K w H x v) (h : isLst S x = true) : tyV K "list" v H := by
  unfold isLst at h
  cases hl : lstOf S x with
  | none => rw [hl] at h; cases h
  | some ds =>
    obtain ⟨a, xs, rfl, h2, h3⟩ := lstOf_sq s rx hl
    exact .inl ⟨rfl, xs, h2⟩
section
variable {X : Cx} {W : WX} {o e : Expr} {es : List Expr} {fx : EF} {fa : AF} {name : Str} {apos cpos : Pos} {id : String} {r : V → List V → Hp → VK → Prop} {op : OpM}
theorem E_lm (pa : PlainAttrs "list") (slot : Slot "list" name id) (hty : typeOf (.builtin id) = pure (.type "method_descriptor")) (hm : MtR X id r) (hs : MethS X.K r op) (ho : PE X o (tE X.K W fx)) (ha : PA X (e :: es) (tA X.K W fa))
    (hbase : attributeBase o name X.env (eval o X.env) = eval o X.env := by rfl)
    (hfew : ((backTo cpos (starEach (e :: es) X.env)).all (fun x => !x.1) && (backToKw cpos (keywordEach [] X.env)).all (fun x => x.1.isSome)
      && decide ((e :: es).length + ([] : List Keyword).length + (if ([] : List Keyword).isEmpty then 0 else 1) < 30)) = true := by rfl)
    (hline : (apos.endLine == cpos.line) = true := by rfl) (hst : starEach (e :: es) X.env = (false, eval e X.env) :: starEach es X.env := by rfl) (hplain : (backTo cpos (starEach es X.env)).any (·.1) = false := by rfl) :
    PE X (.Call (.Attribute o name apos) (e :: es) [] cpos) (tE X.K W (eLm op fx fa)) :=
  PE.weak (pe_bm pa slot hty hm ho ha hbase hfew hline hst hplain) fun σ H Q h => by
    obtain ⟨w, S, ρ, s, re, p⟩ := h
    refine ⟨w, S, ρ, s, re, p.bind fun w1 H1 v x S1 e1 s1 rx p1 => ?_⟩
    by_cases hl : isLst S1 x = true
    · rw [if_pos hl] at p1
      refine ⟨isLst_ty s1 rx hl, w1, S1, ρ, s1, re.mono e1, p1.bind fun w2 H2 vs ds S2 e2 s2 rd p2 => ?_⟩
      cases hop : op x ds S2 with
      | none => rw [hop] at p2; exact p2.elim
      | some q => obtain ⟨d, S3⟩ := q; rw [hop] at p2; exact hs w2 S2 H2 x v ds vs d S3 Q s2 (rx.mono e2) rd hop fun w3 H3 z e3 s3 rz => p2 w3 H3 z e3 s3 rz
    · rw [if_neg hl] at p1; exact p1.elim
end
def mAppend : OpM := fun x ds S => match x, ds with
  | .loc n, [d] => match S[n]? with
    | some (.lst es) => if es.length < sizeLine then some (.non, S.set n (.lst (es ++ [d]))) else none
    | _ => none
  | _, _ => none
def mInsert : OpM := fun x ds S => match x, ds with
  | .loc n, [.int i, d] => match S[n]? with
    | some (.lst es) => if es.length < sizeLine ∧ 0 ≤ i ∧ i < 2 ^ 63 then some (.non, S.set n (.lst (es.take i.toNat ++ [d] ++ es.drop i.toNat))) else none
    | _ => none
  | _, _ => none
def mExtend : OpM := fun x ds S => match x, ds with
  | .loc n, [d] => match S[n]? with
    | some (.lst es) => match lstX S d with
      | some fs => if es.length + fs.length ≤ sizeLine then some (.non, S.set n (.lst (es ++ fs))) else none
      | none => none
    | _ => none
  | _, _ => none
theorem setCell {K : PySem.W.Frag} {w : Wo} {S : Sto} {H : Hp} {n : Nat} {a : Addr} {c : Cel} {o : HO} {Q : Hp → Prop} (s : Sim K w S H) (hn : w.m[n]? = some a) (hc : RC K w (upd H a o) a c)
    (k : ∀ w' H', Ext w H w' H' → Sim K w' (S.set n c) H' → Q H') : Q (upd H a o) := k w _ (Ext.write s (List.mem_of_getElem? hn)) (s.write hn hc)
theorem RVs.wr {K : PySem.W.Frag} {w : Wo} {S : Sto} {H : Hp} {n : Nat} {a : Addr} {o : HO} {ds : List D} {vs : List V} (s : Sim K w S H) (hn : w.m[n]? = some a) (r : RVs K w H ds vs) : RVs K w (upd H a o) ds vs := r.mono (Ext.write s (List.mem_of_getElem? hn))
theorem methS_append {K : PySem.W.Frag} : MethS K rAppend mAppend := by
  intro w S H x v ds vs d S' Q s rx rd e k
  unfold mAppend at e
  split at e
  · rename_i n d0
    split at e
    · rename_i es he
      split at e
      · rename_i hz
        cases e
        obtain ⟨a, rfl, h2, xs, h3, h4⟩ := s.get he rx
        obtain ⟨u, rfl, ru⟩ := rd.one
        refine ⟨a, xs, u, rfl, rfl, h3, by rw [← h4.length]; exact hz, ?_⟩
        exact k w _ _ (Ext.write s (List.mem_of_getElem? h2)) (s.write h2 ⟨_, upd_same, (h4.snoc ru).wr s h2⟩) (by simp only [RV])
      · cases e
    · cases e
  · cases e
theorem methS_insert {K : PySem.W.Frag} : MethS K (fun x vs H Q => ∃ (l : Addr) (xs : List V) (i : Int) (y : V), x = .ref l ∧ vs = [.int i, y] ∧ H l = some (.lst xs) ∧ xs.length < sizeLine ∧ 0 ≤ i ∧ i < 2 ^ 63 ∧
    Q .non (upd H l (.lst (xs.take i.toNat ++ [y] ++ xs.drop i.toNat)))) mInsert := by
  intro w S H x v ds vs d S' Q s rx rd e k
  unfold mInsert at e
  split at e
  · rename_i n i d0
    split at e
    · rename_i es he
      split at e
      · rename_i hz
        cases e
        obtain ⟨a, rfl, h2, xs, h3, h4⟩ := s.get he rx
        obtain ⟨u, u2, rfl, ru, ru2⟩ := rd.two
        simp only [RV] at ru
        subst ru
        refine ⟨a, xs, i, u2, rfl, rfl, h3, by rw [← h4.length]; exact hz.1, hz.2.1, hz.2.2, ?_⟩
        exact k w _ _ (Ext.write s (List.mem_of_getElem? h2)) (s.write h2 ⟨_, upd_same, (((h4.take _).snoc ru2).append (h4.drop _)).wr s h2⟩) (by simp only [RV])
      · cases e
    · cases e
  · cases e
theorem methS_extend {K : PySem.W.Frag} : MethS K rExtend mExtend := by
  intro w S H x v ds vs d S' Q s rx rd e k
  unfold mExtend at e
  split at e
  · rename_i n d0
    split at e
    · rename_i es he
      split at e
      · rename_i fs hf
        split at e
        · rename_i hz
          cases e
          obtain ⟨a, rfl, h2, xs, h3, h4⟩ := s.get he rx
          obtain ⟨u, rfl, ru⟩ := rd.one
          obtain ⟨b, zs, rfl, g2, g3⟩ := lstX_sq s ru hf
          refine ⟨a, b, xs, zs, rfl, rfl, h3, g2, by rw [← h4.length, ← g3.length]; exact hz, ?_⟩
          exact k w _ _ (Ext.write s (List.mem_of_getElem? h2)) (s.write h2 ⟨_, upd_same, (h4.append g3).wr s h2⟩) (by simp only [RV])
        · cases e
      · cases e
    · cases e
  · cases e
section
variable {X : Cx} {W : WX} {o e : Expr} {es : List Expr} {fx : EF} {fa : AF} {apos cpos : Pos}
theorem E_append (ho : PE X o (tE X.K W fx)) (ha : PA X (e :: es) (tA X.K W fa)) (hbase : attributeBase o "append" X.env (eval o X.env) = eval o X.env := by rfl)
    (hfew : ((backTo cpos (starEach (e :: es) X.env)).all (fun x => !x.1) && (backToKw cpos (keywordEach [] X.env)).all (fun x => x.1.isSome)
      && decide ((e :: es).length + ([] : List Keyword).length + (if ([] : List Keyword).isEmpty then 0 else 1) < 30)) = true := by rfl)
    (hline : (apos.endLine == cpos.line) = true := by rfl) (hst : starEach (e :: es) X.env = (false, eval e X.env) :: starEach es X.env := by rfl) (hplain : (backTo cpos (starEach es X.env)).any (·.1) = false := by rfl) :
    PE X (.Call (.Attribute o "append" apos) (e :: es) [] cpos) (tE X.K W (eLm mAppend fx fa)) :=
  E_lm PySem.F.plainAttrs_list PySem.F.slot_list_append PySem.F.type_list_append mt_append methS_append ho ha hbase hfew hline hst hplain
theorem E_insert (ho : PE X o (tE X.K W fx)) (ha : PA X (e :: es) (tA X.K W fa)) (hbase : attributeBase o "insert" X.env (eval o X.env) = eval o X.env := by rfl)
    (hfew : ((backTo cpos (starEach (e :: es) X.env)).all (fun x => !x.1) && (backToKw cpos (keywordEach [] X.env)).all (fun x => x.1.isSome)
      && decide ((e :: es).length + ([] : List Keyword).length + (if ([] : List Keyword).isEmpty then 0 else 1) < 30)) = true := by rfl)
    (hline : (apos.endLine == cpos.line) = true := by rfl) (hst : starEach (e :: es) X.env = (false, eval e X.env) :: starEach es X.env := by rfl) (hplain : (backTo cpos (starEach es X.env)).any (·.1) = false := by rfl) :
    PE X (.Call (.Attribute o "insert" apos) (e :: es) [] cpos) (tE X.K W (eLm mInsert fx fa)) :=
  E_lm PySem.F.plainAttrs_list PySem.F.slot_list_insert PySem.F.type_list_insert mt_insert methS_insert ho ha hbase hfew hline hst hplain
theorem E_extend (ho : PE X o (tE X.K W fx)) (ha : PA X (e :: es) (tA X.K W fa)) (hbase : attributeBase o "extend" X.env (eval o X.env) = eval o X.env := by rfl)
    (hfew : ((backTo cpos (starEach (e :: es) X.env)).all (fun x => !x.1) && (backToKw cpos (keywordEach [] X.env)).all (fun x => x.1.isSome)
      && decide ((e :: es).length + ([] : List Keyword).length + (if ([] : List Keyword).isEmpty then 0 else 1) < 30)) = true := by rfl)
    (hline : (apos.endLine == cpos.line) = true := by rfl) (hst : starEach (e :: es) X.env = (false, eval e X.env) :: starEach es X.env := by rfl) (hplain : (backTo cpos (starEach es X.env)).any (·.1) = false := by rfl) :
    PE X (.Call (.Attribute o "extend" apos) (e :: es) [] cpos) (tE X.K W (eLm mExtend fx fa)) :=
  E_lm PySem.F.plainAttrs_list PySem.F.slot_list_extend PySem.F.type_list_extend mt_extend methS_extend ho ha hbase hfew hline hst hplain
end

/-! ### xs[i] = v -/
def sSub (fo fi fe : EF) : SF := fun ρ S => sB (fe ρ S) ρ fun d S1 => sB (fo ρ S1) ρ fun x S2 => sB (fi ρ S2) ρ fun y S3 => match x, y with
  | .loc n, .int i => match S3[n]? with
    | some (.lst es) => match ixN es.length i with
      | some j => .nx ρ (S3.set n (.lst (es.set j d)))
      | none => .no
    | _ => .no
  | _, _ => .no
section
variable {X : Cx} {W : WX} {pos pos' : Pos} {o i e : Expr} {fo fi fe : EF}
theorem S_sub (he : PE X e (tE X.K W fe)) (ho : PE X o (tE X.K W fo)) (hi : PE X i (tE X.K W fi))
    (ha : ∀ v, assign (.Subscript o i pos') X.env v = (do
      let ov ← holding [v] (eval o X.env)
      let iv ← holding [v, ov] (eval i X.env)
      standAt pos'
      holding [v, ov, iv] (setItem ov iv v)
      release [v, ov, iv] []) := by intro _; rfl) (hs : swapsWithSole [.Subscript o i pos'] e pos.line X.env = pure false := by rfl) (hw : swappedStores [.Subscript o i pos'] e X.env = pure none := by rfl)
    (h1 : (assignEach [.Subscript o i pos'] X.env).map (·.2) = [assign (.Subscript o i pos') X.env] := by rfl) : PS X (.Assign [.Subscript o i pos'] e pos) (tS X.K W (sSub fo fi fe)) :=
  PS.weak (ps_asg he (pg_sub ho hi set_list ha) hs hw h1) fun D0 σ H h => by
    obtain ⟨w, S, ρ, s, re, p⟩ := h
    refine ⟨w, S, ρ, s, re, PostS.bind p re fun w1 H1 v d S1 e1 s1 rd p1 => ?_⟩
    refine ⟨w1, S1, ρ, s1, re.mono e1, PostS.bind p1 (re.mono e1) fun w2 H2 u x S2 e2 s2 rx p2 => ?_⟩
    refine ⟨w2, S2, ρ, s2, (re.mono e1).mono e2, PostS.bind p2 ((re.mono e1).mono e2) fun w3 H3 t y S3 e3 s3 ry p3 => ?_⟩
    split at p3
    · rename_i n i0
      split at p3
      · rename_i es hes
        split at p3
        · rename_i j hj
          simp only [RV] at ry
          subst ry
          obtain ⟨a, rfl, h2, xs, h3, h4⟩ := s3.get hes (rx.mono e3)
          refine ⟨a, xs, i0, j, rfl, rfl, h3, by rw [← h4.length]; exact hj, ?_⟩
          have ew := Ext.write (o := .lst (xs.set j v)) s3 (List.mem_of_getElem? h2)
          exact p3 w3 _ σ ew (s3.write h2 ⟨_, upd_same, (h4.set j ((rd.mono e2).mono e3)).wr s3 h2⟩) ((((re.mono e1).mono e2).mono e3).mono ew)
        · exact p3.elim
      · exact p3.elim
    · exact p3.elim
end
end Ev

namespace Ev
open PySem PySem.Spec PyProof.Rows L2

/-! ### a for over a list or a tuple -/
def seqW (d : D) (S : Sto) : R Wk := match tupOf d with
  | some ds => .ok ⟨ds, none⟩ S
  | none => match d with
    | .lst ds => .ok ⟨ds, none⟩ S
    | .frz ds => .ok ⟨ds, none⟩ S
    | .loc n => match S[n]? with
      | some (.lst ds) => .ok ⟨ds, some n⟩ S
      | _ => .no
    | _ => .no
def iSeqD (fe : EF) : IF := fun ρ S => (fe ρ S).bind seqW
section
variable {X : Cx} {W : WX} {tg e : Expr} {fe : EF}
theorem pi_seq {l : Expr} {tl : TE} (hl : PE X l tl) : PI X tg l (fun σ H R => tl σ H fun x H1 => ∃ a, x = .ref a ∧ (((∃ xs, SqL X.K H1 a xs) ∧ R (Itl X.K a) H1) ∨ ((∃ xs, SqT X.K H1 a xs) ∧ R (Itt X.K a) H1))) := by
  refine ⟨fun pins s σ H R I h => ?_⟩
  refine thn (hl.run pins s σ H _ I h) fun v s1 ⟨x, H1, I1, r1, q1⟩ => ?_
  obtain ⟨a, e, q⟩ := q1
  subst e
  cases r1
  rcases q with ⟨⟨xs, hq⟩, q⟩ | ⟨⟨xs, hq⟩, q⟩
  · obtain ⟨its, rv, p, hz⟩ := I1.list hq
    refine wpAny_pyIter_list p.isList ?_
    refine ⟨s1.heap.objs.size, [s1.heap.objs.size], _, _, H1, rfl, I1.kept (t' := s1.toks) fun b o e => Heap.get?_push_of_some _ e, turn_list a _, ⟨_, Heap.get?_push_size _ rfl, rfl, rfl⟩, fun b hb => ?_, q⟩
    have e : b = s1.heap.objs.size := by simpa using hb
    subst e
    exact I1.fpOk (Nat.le_refl _) (I1.hok.fresh (Nat.le_refl _))
  · obtain ⟨its, rv, p, hz⟩ := I1.tuple hq
    refine wpAny_pyIter_tuple (show s1.heap.IsTuple a its.toArray from p) ?_
    refine ⟨s1.heap.objs.size, [s1.heap.objs.size], _, _, H1, rfl, I1.kept (t' := s1.toks) fun b o e => Heap.get?_push_of_some _ e, turn_tuple a _, ⟨_, Heap.get?_push_size _ rfl, rfl, rfl⟩, fun b hb => ?_, q⟩
    have e : b = s1.heap.objs.size := by simpa using hb
    subst e
    exact I1.fpOk (Nat.le_refl _) (I1.hok.fresh (Nat.le_refl _))
theorem seqW_walks {K : PySem.W.Frag} {w : Wo} {S : Sto} {H : Hp} {σ : St} {d : D} {v : V} {R0 : It → Hp → Prop} (s : Sim K w S H) (rd : RV K w H d v) (p : PostG K (Walks K) W w H σ (seqW d S) R0) :
    ∃ a, v = .ref a ∧ (((∃ xs, SqL K H a xs) ∧ R0 (Itl K a) H) ∨ ((∃ xs, SqT K H a xs) ∧ R0 (Itt K a) H)) := by
  unfold seqW at p
  split at p
  · rename_i ds hd
    obtain ⟨a, xs, h1, h2, h3⟩ := tupOf_sq rd hd
    exact ⟨a, h1, .inr ⟨⟨xs, h2⟩, p w H _ .refl s (walks_tup s h2 h3)⟩⟩
  · cases d with
    | lst ds =>
      simp only [RV] at rd
      obtain ⟨a, xs, h1, h2, h4, h3⟩ := rd
      exact ⟨a, h1, .inl ⟨⟨xs, SqL.of h2⟩, p w H _ .refl s (walks_lst ⟨⟨_, h2⟩, h4.1⟩ (.inl h2) h3)⟩⟩
    | frz ds =>
      simp only [RV] at rd
      obtain ⟨a, xs, h1, h2, h3⟩ := rd
      exact ⟨a, h1, .inl ⟨⟨xs, h2.sq⟩, p w H _ .refl s (walks_frz h2 h3)⟩⟩
    | loc n =>
      dsimp only at p
      split at p
      · rename_i ds hd
        obtain ⟨a, h1, h2, xs, h3, h4⟩ := s.get hd rd
        exact ⟨a, h1, .inl ⟨⟨xs, SqL.of h3⟩, p w H _ .refl s (walks_loc h2)⟩⟩
      · exact p.elim
    | _ => exact p.elim
theorem I_seq (he : PE X e (tE X.K W fe)) : PI X tg e (tI X.K W (iSeqD fe)) :=
  PI.weak (pi_seq he) fun σ H R h => by
    obtain ⟨w, S, ρ, s, re, p⟩ := h
    exact ⟨w, S, ρ, s, re, p.bind fun w1 H1 v d S1 e1 s1 rd p1 => seqW_walks s1 rd p1⟩
end

/-! ### a op b op c -/
def eChain (o o' : Op2) (fa fb fc : EF) : EF := fun ρ S => (fa ρ S).bind fun x S1 => (fb ρ S1).bind fun y S2 => (liftB (o x y S2) S2).bind fun k S3 => if k = true then (fc ρ S3).bind fun z S4 => liftO (o' y z S4) S4 else .ok (.bl false) S3
def bChain (o o' : Op2) (fa fb fc : EF) : BF := fun ρ S => (fa ρ S).bind fun x S1 => (fb ρ S1).bind fun y S2 => (liftB (o x y S2) S2).bind fun k S3 => if k = true then (fc ρ S3).bind fun z S4 => liftB (o' y z S4) S4 else .ok false S3
section
variable {X : Cx} {W : WX} {pos : Pos} {a b c : Expr} {fa fb fc : EF} {r r' : R2} {o o' : Op2} {op op' : CmpOp}
theorem E_chain (ho : OpR X (compareOp op) r) (hs : OpS X.K r o) (ho' : OpR X (compareOp op') r') (hs' : OpS X.K r' o') (ha : PE X a (tE X.K W fa)) (hb : PE X b (tE X.K W fb)) (hc : PE X c (tE X.K W fc)) (hm : lastMarks [op, op'] [b, c] = false := by with_unfolding_all rfl) :
    PE X (.Compare a [op, op'] [b, c] pos) (tE X.K W (eChain o o' fa fb fc)) :=
  PE.weak (pe_chain ho ho' ha hb hc hm) fun σ H Q h => by
    obtain ⟨w, S, ρ, s, re, p⟩ := h
    refine ⟨w, S, ρ, s, re, p.bind fun w1 H1 v x S1 e1 s1 rx p1 => ?_⟩
    refine ⟨w1, S1, ρ, s1, re.mono e1, p1.bind fun w2 H2 u y S2 e2 s2 ry p2 => ?_⟩
    cases hd : o x y S2 with
    | none => rw [hd] at p2; exact p2.elim
    | some d =>
      rw [hd] at p2
      refine hs w2 S2 H2 x y d v u _ s2 (rx.mono e2) ry hd fun w3 H3 z e3 s3 rz => ?_
      cases d with
      | bl k =>
        simp only [RV] at rz
        refine ⟨k, rz, ?_⟩
        simp only [liftB_bl, R.bind_ok] at p2
        split
        · rename_i hk
          rw [if_pos hk] at p2
          have p2 := p2.shift e3
          refine ⟨w3, S2, ρ, s3, ((re.mono e1).mono e2).mono e3, p2.bind fun w4 H4 t zz S4 e4 s4 rt p4 => ?_⟩
          cases hd' : o' y zz S4 with
          | none => rw [hd'] at p4; exact p4.elim
          | some d' => rw [hd'] at p4; exact hs' w4 S4 H4 y zz d' u t Q s4 ((ry.mono e3).mono e4) rt hd' fun w5 H5 q e5 s5 rq => p4 w5 H5 q e5 s5 rq
        · rename_i hk
          rw [if_neg hk] at p2
          exact p2 w3 H3 _ e3 s3 (by simp only [RV])
      | _ => exact p2.elim
theorem T_chain (ho : OpR X (compareOp op) r) (hs : OpS X.K r o) (ho' : OpR X (compareOp op') r') (hs' : OpS X.K r' o') (ha : PE X a (tE X.K W fa)) (hb : PE X b (tE X.K W fb)) (hc : PE X c (tE X.K W fc)) (hm : lastMarks [op, op'] [b, c] = false := by with_unfolding_all rfl) :
    PT X (.Compare a [op, op'] [b, c] pos) (tT X.K W (bChain o o' fa fb fc)) :=
  PT.weak (pt_chain ho ho' ha hb hc hm) fun σ H Q h => by
    obtain ⟨w, S, ρ, s, re, p⟩ := h
    refine ⟨w, S, ρ, s, re, p.bind fun w1 H1 v x S1 e1 s1 rx p1 => ?_⟩
    refine ⟨w1, S1, ρ, s1, re.mono e1, p1.bind fun w2 H2 u y S2 e2 s2 ry p2 => ?_⟩
    cases hd : o x y S2 with
    | none => rw [hd] at p2; exact p2.elim
    | some d =>
      rw [hd] at p2
      refine hs w2 S2 H2 x y d v u _ s2 (rx.mono e2) ry hd fun w3 H3 z e3 s3 rz => ?_
      cases d with
      | bl k =>
        simp only [RV] at rz
        refine ⟨k, rz, ?_⟩
        simp only [liftB_bl, R.bind_ok] at p2
        split
        · rename_i hk
          rw [if_pos hk] at p2
          have p2 := p2.shift e3
          refine ⟨w3, S2, ρ, s3, ((re.mono e1).mono e2).mono e3, p2.bind fun w4 H4 t zz S4 e4 s4 rt p4 => ?_⟩
          cases hd' : o' y zz S4 with
          | none => rw [hd'] at p4; exact p4.elim
          | some d' =>
            rw [hd'] at p4
            refine hs' w4 S4 H4 y zz d' u t _ s4 ((ry.mono e3).mono e4) rt hd' fun w5 H5 q e5 s5 rq => ?_
            cases d' with
            | bl k' => simp only [RV] at rq; exact ⟨k', rq, p4 w5 H5 k' e5 s5 rfl⟩
            | _ => exact p4.elim
        · rename_i hk
          rw [if_neg hk] at p2
          exact ⟨false, rfl, p2 w3 H3 _ e3 s3 rfl⟩
      | _ => exact p2.elim
end
/-- the lid of a while -/
def bigW : Nat := 1000000000

/-! ### the end -/
theorem law_sp {K : PySem.W.Frag} {H : Hp} {a : Addr} {ns : List Int} {F : List D → Sto → R D} (ho : Only H) (hS : SqL K H a (ns.map V.int)) (h : ∃ S', F [.frz (ns.map D.int)] [] = .ok (.bl true) S') :
    spOf K 1 F [.ref a] H (fun v _ => v = .bl true) fun _ _ _ => False := by
  obtain ⟨S', e⟩ := h
  refine ⟨⟨[], []⟩, [], [.frz (ns.map D.int)], rfl, ⟨rfl, List.nodup_nil, fun i c q => by simp at q, fun a h => by simp at h⟩, .cons ?_ .nil, ?_⟩
  · simp only [RV]
    refine ⟨a, _, rfl, ?_, .of_ints ns⟩
    rcases hS with (h | ⟨o, h⟩) | h
    · rcases ho a with z | ⟨o, xs, z⟩
      · rw [h] at z; cases z
      · rw [h] at z; cases z
    · exact .inl ⟨o, h, by simp, by simp⟩
    · exact .inr h
  · rw [e]
    intro w' H' b _ _ r
    simpa only [RV] using r
end Ev

namespace Ev
open PySem PySem.Spec PyProof.Rows L2
/-! ### enumerate(x), x a tuple or a list -/
theorem enumMade {v : Value} {o : Obj} {H : Heap → Prop} (B : Begins v o H) :
    Meets (Builtin.«enumerate.__new__» ⟨[.type "enumerate", v], []⟩) (fun _ R s => H s.heap ∧
      R (.ok (.ret (.ref (s.heap.push o).objs.size))) { s with heap := (s.heap.push o).push { cls := .type "enumerate", data := .fields #[.none, .bool false, .ref s.heap.objs.size, rawInt 0, .none, .none] } }) :=
  .of_wp fun prog w A R s hyp => by
    obtain ⟨hp, gg, dd, tk, os⟩ := s
    obtain ⟨hh1, hh2⟩ := hyp
    have hsub := sub_enumerate
    have go1 : ∀ {A' : Around} {E : Value → Shared → Prop} {Q : Value → Shared → Prop}, Q (.ref hp.objs.size) ⟨hp.push o, gg, dd, tk, os⟩ → wpAny (model prog w) A' (pyIter v) Q E ⟨hp, gg, dd, tk, os⟩ :=
      fun hq => B.iter prog w _ _ ⟨hp, gg, dd, tk, os⟩ _ hh1 hq
    wp_walk using go1
    refine wpAny_stack_any fun _ => wpAny_pure ?_
    split
    · rename_i cc _ _ _ _ _
      cases (cc == Value.type "enumerate") <;> (wp_walk using go1; exact ⟨_, rfl, hh2⟩)
    · wp_walk using go1
      exact ⟨_, rfl, hh2⟩
theorem enumCall {prog : Program} {w : World} {A : Around} {E : Value → Shared → Prop} {s : Shared} {v : Value} {o : Obj} {H : Heap → Prop} {Q : Value → Shared → Prop} (B : Begins v o H) (h1 : H s.heap)
    (k : ∀ h', IsEnum h' (s.heap.objs.size + 1) s.heap.objs.size 0 .none → h'.get? s.heap.objs.size = some o → (∀ b ob, s.heap.get? b = some ob → h'.get? b = some ob) → Q (.ref (s.heap.objs.size + 1)) { s with heap := h' }) :
    wpAny (model prog w) A (call (.type "enumerate") [v]) Q E s := by
  refine callType_new F.called_enumerate (by decide) (F.typeCall_enumerate_1 _) (F.newCall_enumerate_1 _) (fun ob => F.args_object_init_2 ob _) F.entry_enumerate_new (enumMade B) ⟨h1, ?_⟩
  have z1 : (s.heap.push o).objs.size = s.heap.objs.size + 1 := Heap.size_push ..
  have at1 := Heap.get?_push_size (s.heap.push o) (o := { cls := .type "enumerate", data := .fields #[.none, .bool false, .ref s.heap.objs.size, rawInt 0, .none, .none] }) rfl
  rw [z1] at at1
  show _ ∧ _
  rw [z1]
  exact ⟨⟨_, at1, rfl⟩, k _ at1 (Heap.get?_push_of_some _ (Heap.get?_push_size _ B.free)) fun b ob e => Heap.get?_push_of_some _ (Heap.get?_push_of_some _ e)⟩
/-- what enumerate gives: the items of a tuple, each in a new pair -/
def Iet (K : PySem.W.Frag) (a : Addr) : It :=
  ⟨fun i H => ∃ (xs : List V) (x : V), SqT K H a xs ∧ xs[i]? = some x,
   fun i H v H' => ∃ T x, v = .ref T ∧ H T = none ∧ H' = upd H T (.tup [.int (i : Nat), x]) ∧ ∀ xs, SqT K H a xs → xs[i]? = some x,
   fun i H => ∃ xs : List V, SqT K H a xs ∧ xs.length ≤ i⟩
theorem tup_ne {h : Heap} {a b : Addr} {items vs : Array Value} {o : Obj} (ht : h.IsTuple a items) (hb : h.get? b = some o) (hd : o.data = .fields vs) : a ≠ b := by
  intro q
  subst q
  obtain ⟨o2, e2, _, n2, d2⟩ := ht
  rw [hb] at e2
  cases e2
  rw [hd] at d2
  cases d2
theorem turnEt {P : Program} {w : World} {K : PySem.W.Frag} {elts : List Expr} {kk : Nat} {tpos : Pos} (a e it : Addr) :
    Turn P w K (.Tuple elts kk tpos) (Iet K a) [e, it] e (fun i h => (∃ old, IsEnum h e it ((i : Nat) : Int) old) ∧ h.IsTupleIter it a i ∧ e ≠ it) where
  mem := List.mem_cons_self
  obj := by
    rintro i h ⟨⟨old, he⟩, ⟨o, ho, hc, hd⟩, -⟩ b hb
    simp only [List.mem_cons, List.not_mem_nil, or_false] at hb
    rcases hb with rfl | rfl
    · exact ⟨_, he, fun v q => nomatch q⟩
    · exact ⟨o, ho, fun v q => by rw [hd] at q; cases q⟩
  keep := by
    rintro i h h' ⟨⟨old, he⟩, hi, hne⟩ k
    exact ⟨⟨old, k e (by simp) _ he⟩, hi.at fun o q => k it (by simp) o q, hne⟩
  item := by
    intro X hP hw hK hc i pins s σ H E I hf st hg
    subst hP hw hK
    obtain ⟨⟨old, he⟩, hit, hne⟩ := st
    obtain ⟨xs, x, hq, hx⟩ := hg
    obtain ⟨its, rv, p, hz⟩ := I.tuple hq
    have p : s.heap.IsTuple a its.toArray := p
    obtain ⟨u, hu, ru⟩ := rv.get hx
    obtain ⟨oi, hoi, _, hdi⟩ := id hit
    have hai : a ≠ it := tup_ne p hoi hdi
    have hae : a ≠ e := tup_ne p he rfl
    have hel : e < s.heap.objs.size := Heap.lt_size he
    have hil : it < s.heap.objs.size := Heap.lt_size hoi
    have hlt : i < its.toArray.size := by
      have := (List.getElem?_eq_some_iff.mp hu).1
      simpa using this
    refine wpAny_pyNext_enum_itemD (Draws.tuple (A := X.A.in1) (I.ok.hd hc) it a hai its.toArray) he ⟨hit, p⟩ hlt hne (by simp [hne, Ne.symm hae]) fun x' h' tk hx' ho hst' hT hsz hk => ?_
    have ex : x' = u := by
      have hu' : its.toArray[i]? = some u := by simpa using hu
      exact Option.some.inj (hx'.symm.trans hu')
    subst ex
    refine ⟨_, rfl, wpAny_letOwnedTupleGo_enum (s := { s with heap := h', toks := tk + 1 }) ho fun h'' he' sb => ?_⟩
    have hT2 : h''.get? s.heap.objs.size = some { cls := .type "tuple", data := .seq #[.int i tk, x'] } := (sb.2 _ (Nat.ne_of_gt hel)).trans hT
    have ok2 : ObjOk X.prog X.w (upd H s.heap.objs.size (.tup [.int (i : Nat), x])) h'' s.heap.objs.size (.tup [.int (i : Nat), x]) :=
      ⟨by show 2 ≤ sizeLine; decide, [.int i tk, x'], .cons ⟨_, rfl⟩ (.cons ru .nil), ⟨_, hT2, rfl, _, rfl⟩⟩
    have I1 : Inv X pins σ (upd H s.heap.objs.size (.tup [.int (i : Nat), x])) { s with heap := h'', toks := tk + 1 } :=
      I.turnedNew (ch := [e, it]) (fun b ob hb q => (sb.2 b (fun z => hb (by simp [z]))).trans (hk b ob (fun z => hb (by simp [z])) (fun z => hb (by simp [z])) q)) hf (Nat.le_refl _) ok2
    have e1 : ((i + 1 : Nat) : Int) = (i : Int) + 1 := by omega
    refine ⟨.ref s.heap.objs.size, _, I1, rfl, ⟨_, x, rfl, I.hok.fresh (Nat.le_refl _), rfl, fun ys hy => by rw [I.tuple_inj hy hq]; exact hx⟩, ⟨⟨x', by rw [e1]; exact he'⟩, hst'.1.at fun o q => (sb.2 it (Ne.symm hne)).trans q, hne⟩, fun b hb => ?_⟩
    have hb' : b < s.heap.objs.size := by
      simp only [List.mem_cons, List.not_mem_nil, or_false] at hb
      rcases hb with rfl | rfl
      · exact hel
      · exact hil
    rw [upd_ne (Nat.ne_of_lt hb')]
    exact (hf b hb).1
  done := by
    intro X hP hw hK hc i pins s σ H E I hf st hg
    subst hP hw hK
    obtain ⟨⟨old, he⟩, hit, hne⟩ := st
    obtain ⟨xs, hq, hx⟩ := hg
    obtain ⟨its, rv, p, hz⟩ := I.tuple hq
    have p : s.heap.IsTuple a its.toArray := p
    obtain ⟨oi, hoi, _, hdi⟩ := id hit
    obtain ⟨f0, f1, f2, f3, f4, f5⟩ := hf it (by simp)
    have hl := rv.length
    unfold pyNext
    have hT : s.TypeIs (.ref e) "enumerate" := ⟨_, he, rfl⟩
    refine wpAny_bind (wpAny_attempt (wpAny_callSpecial?_slot (name := Str.ofString "__next__") hT F.slot_enumerate_next
      (wpAny_call_entry F.slot_enumerate_next hT F.entry_enumerate_next ?_ (F.args_enumerate_next_1 _))))
    show wpAny _ _ (field (.ref e) 2 >>= _) _ _ _
    refine wpAny_bind (wpAny_field he rfl (x := .ref it) rfl ?_)
    refine wpAny_bind (wpAny_nextOf_tuple_end (I.ok.hd hc) hit p (by simp; omega) fun h' x he' hx' => ?_)
    obtain ⟨ox, hox, hcx⟩ := hx'
    refine wpAny_bind (wpAny_isInstance (T := "StopIteration") (b := true) ⟨ox, hox, hcx⟩ isSubtype_stop ?_)
    exact wpAny_pure ⟨rfl, I.turned (t' := s.toks) (fun b o hb q => he' b o hb q) f0 f1 f3 f4 f5⟩
  self := fun A i s Q E st h => let ⟨⟨_, he⟩, _⟩ := st; wpAny_pyIter_enum he h
section
variable {X : Cx} {W : WX} {e : Expr} {fa : AF} {p pos tpos : Pos} {elts : List Expr} {kk : Nat}
/-- the two, as the call's argument says -/
theorem piEn {ta : TA} (hg : Gl X "enumerate") (hm : X.mg "enumerate" = none) (ha : PA X [e] ta) (hs : starEach [e] X.env = [(false, eval e X.env)]) :
    PI X (.Tuple elts kk tpos) (.Call (.Name "enumerate" p) [e] [] pos) (fun σ H R => ta σ H fun vs H1 => ∃ a, vs = [.ref a] ∧ (((∃ xs, SqL X.K H1 a xs) ∧ R (Ite X.K a) H1) ∨ ((∃ xs, SqT X.K H1 a xs) ∧ R (Iet X.K a) H1))) := by
  refine ⟨fun pins s σ H R I h => ?_⟩
  refine Call_ (ld_blt I hg hm boot_enumerate (PyProof.Rows.callWith_type1 (thn (ha.run pos pins s σ H _ I h) fun us s1 ⟨vs, H1, I1, r1, q1⟩ => ?_) hs rfl))
  obtain ⟨a, ex, q⟩ := q1
  subst ex
  cases r1 with
  | cons r rr =>
    cases rr
    cases r
    have fpo : ∀ b ∈ [s1.heap.objs.size + 1, s1.heap.objs.size], FpOk X pins H1 b := fun b hb => by
      have hle : s1.heap.objs.size ≤ b := by
        simp only [List.mem_cons, List.not_mem_nil, or_false] at hb
        rcases hb with rfl | rfl
        · exact Nat.le_succ _
        · exact Nat.le_refl _
      exact I1.fpOk hle (I1.hok.fresh hle)
    rcases q with ⟨⟨xs, hq⟩, q⟩ | ⟨⟨xs, hq⟩, q⟩
    · obtain ⟨its, rv, p', hz⟩ := I1.list hq
      refine enumCall (begins_list a its.toArray) p'.isList fun h' he hit hk => wpAny_pyIter_enum he ?_
      have I2 : Inv X pins σ H1 { s1 with heap := h' } := I1.kept (t' := s1.toks) hk
      exact ⟨s1.heap.objs.size + 1, [s1.heap.objs.size + 1, s1.heap.objs.size], _, _, H1, rfl, I2, turn_enum a (s1.heap.objs.size + 1) s1.heap.objs.size, ⟨⟨.none, he⟩, ⟨_, hit, rfl, rfl⟩, Nat.succ_ne_self _⟩, fpo, q⟩
    · obtain ⟨its, rv, p', hz⟩ := I1.tuple hq
      refine enumCall (begins_tuple a its.toArray) p' fun h' he hit hk => wpAny_pyIter_enum he ?_
      have I2 : Inv X pins σ H1 { s1 with heap := h' } := I1.kept (t' := s1.toks) hk
      exact ⟨s1.heap.objs.size + 1, [s1.heap.objs.size + 1, s1.heap.objs.size], _, _, H1, rfl, I2, turnEt a (s1.heap.objs.size + 1) s1.heap.objs.size, ⟨⟨.none, he⟩, ⟨_, hit, rfl, rfl⟩, Nat.succ_ne_self _⟩, fpo, q⟩
end
def enumDs : Nat → List D → List D
  | _, [] => []
  | i, d :: ds => .tup [.int i, d] :: enumDs (i + 1) ds
theorem enumDs_get : ∀ (ds : List D) (k i : Nat), (enumDs k ds)[i]? = (ds[i]?).map fun d => .tup [.int (k + i : Nat), d]
  | [], k, i => by simp [enumDs]
  | d :: ds, k, 0 => rfl
  | d :: ds, k, i + 1 => by
    show (enumDs (k + 1) ds)[i]? = (ds[i]?).map _
    rw [enumDs_get ds (k + 1) i, Nat.add_right_comm k 1 i]
    rfl
@[simp] theorem enumDs_len : ∀ (ds : List D) (k : Nat), (enumDs k ds).length = ds.length
  | [], _ => rfl
  | d :: ds, k => congrArg (· + 1) (enumDs_len ds (k + 1))
/-- enumerate of a tuple, or of a list that nobody changes -/
def enW (d : D) (S : Sto) : R Wk := match tupOf d with
  | some ds => .ok ⟨enumDs 0 ds, none⟩ S
  | none => match d with
    | .lst ds => .ok ⟨enumDs 0 ds, none⟩ S
    | .frz ds => .ok ⟨enumDs 0 ds, none⟩ S
    | _ => .no
def iEnumD (fa : AF) : IF := fun ρ S => (fa ρ S).bind fun ds S1 => match ds with
  | [d] => enW d S1
  | _ => .no
theorem walksEt {K : PySem.W.Frag} {w : Wo} {H : Hp} {a : Addr} {ds : List D} {xs : List V} {S0 : Sto} (s0 : Sim K w S0 H) (h : SqT K H a xs) (r : RVs K w H ds xs) : Walks K w H ⟨enumDs 0 ds, none⟩ (Iet K a) := fun w1 H1 S e s _ => by
  have h1 := SqT.ext s0 e h
  have r1 := r.mono e
  refine ⟨fun i d hd => ?_, ⟨xs, h1, by rw [enumDs_len, r.length]; exact Nat.le_refl _⟩⟩
  rw [enumDs_get] at hd
  obtain ⟨d0, hd0, rfl⟩ := Option.map_eq_some_iff.mp hd
  obtain ⟨v, hv, rv⟩ := r1.get hd0
  refine ⟨⟨xs, v, h1, hv⟩, fun x H' hy => ?_⟩
  obtain ⟨T, y, rfl, hT, rfl, hy⟩ := hy
  have : y = v := Option.some.inj ((hy xs h1).symm.trans hv)
  subst this
  refine ⟨Ext.fresh hT, s.fresh hT, RV.newTup hT ?_⟩
  simp only [RVs]
  exact ⟨_, _, rfl, by simp only [RV, Nat.zero_add], _, _, rfl, rv, rfl⟩
theorem walksEl {K : PySem.W.Frag} {w : Wo} {H : Hp} {a : Addr} {ds : List D} {xs : List V} (h1 : ∀ w1 H1, Ext w H w1 H1 → SqL K H1 a xs) (r : RVs K w H ds xs) : Walks K w H ⟨enumDs 0 ds, none⟩ (Ite K a) := fun w1 H1 S e s _ => by
  have h1 := h1 w1 H1 e
  have r1 := r.mono e
  refine ⟨fun i d hd => ?_, ⟨xs, h1, by rw [enumDs_len, r.length]; exact Nat.le_refl _⟩⟩
  rw [enumDs_get] at hd
  obtain ⟨d0, hd0, rfl⟩ := Option.map_eq_some_iff.mp hd
  obtain ⟨v, hv, rv⟩ := r1.get hd0
  refine ⟨⟨xs, v, h1, hv⟩, fun x H' hy => ?_⟩
  obtain ⟨T, y, rfl, hT, rfl, hy⟩ := hy
  have : y = v := Option.some.inj ((hy xs h1).symm.trans hv)
  subst this
  refine ⟨Ext.fresh hT, s.fresh hT, RV.newTup hT ?_⟩
  simp only [RVs]
  exact ⟨_, _, rfl, by simp only [RV, Nat.zero_add], _, _, rfl, rv, rfl⟩
theorem I_enum {X : Cx} {W : WX} {e : Expr} {fa : AF} {p pos tpos : Pos} {elts : List Expr} {kk : Nat} (hm : X.mg "enumerate" = none) (ha : PA X [e] (tA X.K W fa)) (hg : Gl X "enumerate" := by rfl) (hs : starEach [e] X.env = [(false, eval e X.env)] := by rfl) :
    PI X (.Tuple elts kk tpos) (.Call (.Name "enumerate" p) [e] [] pos) (tI X.K W (iEnumD fa)) :=
  PI.weak (piEn hg hm ha hs) fun σ H R h => by
    obtain ⟨w, S, ρ, s, re, p⟩ := h
    refine ⟨w, S, ρ, s, re, p.bind fun w1 H1 vs ds S1 e1 s1 rd p1 => ?_⟩
    split at p1
    · rename_i d
      obtain ⟨v, rfl, rv⟩ := rd.one
      unfold enW at p1
      split at p1
      · rename_i es hd
        obtain ⟨a, xs, h1, h2, h3⟩ := tupOf_sq rv hd
        exact ⟨a, by rw [h1], .inr ⟨⟨xs, h2⟩, p1 w1 H1 _ .refl s1 (walksEt s1 h2 h3)⟩⟩
      · split at p1
        · simp only [RV] at rv
          obtain ⟨a, xs, h1, h2, h4, h3⟩ := rv
          exact ⟨a, by rw [h1], .inl ⟨⟨xs, SqL.of h2⟩, p1 w1 H1 _ .refl s1 (walksEl (fun w2 H2 e2 => .inl (e2.rd (.inl h2) h4.1)) h3)⟩⟩
        · simp only [RV] at rv
          obtain ⟨a, xs, h1, h2, h3⟩ := rv
          exact ⟨a, by rw [h1], .inl ⟨⟨xs, h2.sq⟩, p1 w1 H1 _ .refl s1 (walksEl (fun w2 H2 e2 => (h2.mono e2).sq) h3)⟩⟩
        · exact p1.elim
    · exact p1.elim
end Ev

namespace Ev
open PySem PySem.Spec PyProof.Rows L2
/-! ### the evaluation's steps, for simp -/
section
variable {i j : Int} {S : Sto} {a b : Str} {x y : D} {p : Bool}
theorem oAdd_int : oAdd (.int i) (.int j) S = some (.int (i + j)) := rfl
theorem oSub_int : oSub (.int i) (.int j) S = some (.int (i - j)) := rfl
theorem oMul_int (h : CMul i j) : oMul (.int i) (.int j) S = some (.int (i * j)) := by unfold oMul oI; exact if_pos h
theorem oDiv_int (h : CDiv i j) : oDiv (.int i) (.int j) S = some (.int (i / j)) := by unfold oDiv oI; exact if_pos h
theorem oMod_int (h : 0 < j) : oMod (.int i) (.int j) S = some (.int (i % j)) := by unfold oMod oI; exact if_pos h
theorem oPow_int (h : CPow i j) : oPow (.int i) (.int j) S = some (.int (i ^ j.toNat)) := by unfold oPow oI; exact if_pos h
theorem oShl_int (h : CPow i j) : oShl (.int i) (.int j) S = some (.int (i * 2 ^ j.toNat)) := by unfold oShl oI; exact if_pos h
theorem oLt_int : oLt (.int i) (.int j) S = some (.bl (decide (i < j))) := rfl
theorem oLe_int : oLe (.int i) (.int j) S = some (.bl (decide (i ≤ j))) := rfl
theorem oGt_int : oGt (.int i) (.int j) S = some (.bl (decide (j < i))) := rfl
theorem oGe_int : oGe (.int i) (.int j) S = some (.bl (decide (j ≤ i))) := rfl
theorem oEq_int : oEq (.int i) (.int j) S = some (.bl (decide (i = j))) := rfl
theorem oNe_int : oNe (.int i) (.int j) S = some (.bl (!decide (i = j))) := rfl
theorem oEq_str : oEq (.str a) (.str b) S = some (.bl (decide (a = b))) := rfl
theorem oEq_bl {q : Bool} : oEq (.bl p) (.bl q) S = some (.bl (decide (p = q))) := rfl
theorem CMul.l (h : (-(2 ^ 64) < i ∧ i < 2 ^ 64)) : CMul i j := .inl h
theorem CMul.r (h : (-(2 ^ 64) < j ∧ j < 2 ^ 64)) : CMul i j := .inr h
theorem ixN_ok {n k : Nat} (h : k < n) : ixN n (k : Int) = some k := by
  unfold ixN
  rw [if_pos (by omega), if_pos (by omega)]
  simp
theorem atI_ok {α : Type} {xs : List α} {k : Nat} {v : α} (h : xs[k]? = some v) : atI xs (k : Int) = some v := atI_nat h
theorem atI_0 {α : Type} {x : α} {xs : List α} : atI (x :: xs) 0 = some x := atI_nat (j := 0) rfl
theorem atI_1 {α : Type} {x y : α} {xs : List α} : atI (x :: y :: xs) 1 = some y := atI_nat (j := 1) rfl
theorem atI_2 {α : Type} {x y z : α} {xs : List α} : atI (x :: y :: z :: xs) 2 = some z := atI_nat (j := 2) rfl
theorem atI_3 {α : Type} {x y z u : α} {xs : List α} : atI (x :: y :: z :: u :: xs) 3 = some u := atI_nat (j := 3) rfl
theorem atI_4 {α : Type} {x y z u v : α} {xs : List α} : atI (x :: y :: z :: u :: v :: xs) 4 = some v := atI_nat (j := 4) rfl
theorem ixN51 : ixN 5 1 = some 1 := by decide
theorem ixN52 : ixN 5 2 = some 2 := by decide
theorem ixN53 : ixN 5 3 = some 3 := by decide
theorem ixN54 : ixN 5 4 = some 4 := by decide
theorem set_get {l : List α} {k : Nat} {c : α} (h : k < l.length) : (l.set k c)[k]? = some c := List.getElem?_set_self h
theorem sizeLine_ok {n : Nat} (h : n ≤ 1000) : n ≤ sizeLine := by rw [sizeLine_eq]; omega
theorem gLen_seq {d : D} {es : List D} (h : seqOf S d = some es) : gLen [d] S = some (.int es.length) := by unfold gLen; simp only [h]
theorem seqOf_tup {es : List D} : seqOf S (.tup es) = some es := rfl
theorem seqOf_lst {es : List D} : seqOf S (.lst es) = some es := rfl
theorem seqOf_loc {n : Nat} {es : List D} (h : S[n]? = some (.lst es)) : seqOf S (.loc n) = some es := by unfold seqOf lstOf lstX; simp only [tupOf, h]
theorem oIx_tup {es : List D} : oIx (.tup es) (.int i) S = atI es i := rfl
theorem oIx_lst {es : List D} : oIx (.lst es) (.int i) S = atI es i := rfl
theorem oIx_con {es : List D} : oIx (.con es) (.int i) S = atI es i := rfl
theorem oIx_loc {n : Nat} {es : List D} (h : S[n]? = some (.lst es)) : oIx (.loc n) (.int i) S = atI es i := by unfold oIx lstOf lstX; simp only [tupOf, h]
theorem lstOf_loc {n : Nat} {es : List D} (h : S[n]? = some (.lst es)) : lstOf S (.loc n) = some es := by unfold lstOf lstX; simp only [h]
end
/-- a store cut back -/
theorem gc_set {S S' : Sto} {d : D} (h1 : S.length ≤ S'.length) (h2 : okD S.length d = true) (h3 : ∀ i, i < S.length → S'[i]? = S[i]? ∨ ∃ c, S'[i]? = some c ∧ okC S.length c = true) : gc S d S' = .ok d (S'.take S.length) := by
  unfold gc; exact if_pos ⟨h1, h2, h3⟩
theorem gc_same {S : Sto} {d : D} (h2 : okD S.length d = true) : gc S d S = .ok d S := by
  rw [gc_set (Nat.le_refl _) h2 fun i _ => .inl rfl, List.take_length]
theorem gc_app {S T : Sto} {d : D} (h2 : okD S.length d = true) : gc S d (S ++ T) = .ok d S := by
  rw [gc_set (by simp) h2 fun i hi => .inl (List.getElem?_append_left hi), List.take_left']
  rfl
theorem gc_put {S : Sto} {d : D} {p : Nat} {c : Cel} (h2 : okD S.length d = true) (hc : okC S.length c = true) : gc S d (S.set p c) = .ok d (S.set p c) := by
  have := gc_set (S := S) (S' := S.set p c) (d := d) (by simp) h2 fun i hi => by
    by_cases e : i = p
    · subst e; exact .inr ⟨c, List.getElem?_set_self hi, hc⟩
    · exact .inl (List.getElem?_set_ne (Ne.symm e))
  rw [this, show List.take S.length (S.set p c) = S.set p c from List.take_of_length_le (by simp)]
theorem gc_put_app {S T : Sto} {d : D} {p : Nat} {c : Cel} (h2 : okD S.length d = true) (hc : okC S.length c = true) : gc S d (S.set p c ++ T) = .ok d (S.set p c) := by
  have := gc_set (S := S) (S' := S.set p c ++ T) (d := d) (by simp) h2 fun i hi => by
    rw [List.getElem?_append_left (by simpa using hi)]
    by_cases e : i = p
    · subst e; exact .inr ⟨c, List.getElem?_set_self hi, hc⟩
    · exact .inl (List.getElem?_set_ne (Ne.symm e))
  rw [this, List.take_left' (by simp)]
theorem okDs_ints (n : Nat) (is : List Int) : okDs n (is.map D.int) = true := by
  induction is with
  | nil => rfl
  | cons i is ih => simp only [List.map_cons, okDs, okD, ih, Bool.and_self]
end Ev
namespace Ev
open PySem PySem.Spec PyProof.Rows L2
/-- a for by an invariant -/
theorem forGo_inv {k : Wk} {tg : Tg} {b : SF} (I : Nat → En → Sto → Prop) (hk : ∀ i ρ S, I i ρ S → k.ok S) : ∀ (ds : List D) (i : Nat) (ρ : En) (S : Sto), I i ρ S →
    (∀ (j : Nat) (d : D) (ρ : En) (S : Sto), ds[j]? = some d → I (i + j) ρ S → ∃ ρ1 ρ2 S2, tg.asg d ρ S = some ρ1 ∧ (b ρ1 S = .nx ρ2 S2 ∨ b ρ1 S = .ct ρ2 S2) ∧ I (i + j + 1) ρ2 S2) →
    ∃ ρ' S', forGo k tg b ds ρ S = .nx ρ' S' ∧ I (i + ds.length) ρ' S'
  | [], i, ρ, S, h, _ => ⟨ρ, S, by unfold forGo Wk.guard; rw [if_pos (hk _ _ _ h)], h⟩
  | d :: ds, i, ρ, S, h, step => by
    obtain ⟨ρ1, ρ2, S2, h1, h2, h3⟩ := step 0 d ρ S rfl h
    obtain ⟨ρ', S', h4, h5⟩ := forGo_inv I hk ds (i + 1) ρ2 S2 h3 fun j d' ρ S hd hI => by
      have := step (j + 1) d' ρ S (by simpa using hd) (by rw [← Nat.add_assoc, Nat.add_right_comm]; exact hI)
      simpa only [← Nat.add_assoc, Nat.add_right_comm i j 1, Nat.add_right_comm (i + 1) j 1] using this
    refine ⟨ρ', S', ?_, by simpa only [List.length_cons, Nat.add_right_comm i 1, ← Nat.add_assoc] using h5⟩
    unfold forGo Wk.guard
    rw [if_pos (hk _ _ _ h), h1]
    rcases h2 with h2 | h2 <;> (dsimp only; rw [h2]; exact h4)
/-- .. over what no one changes -/
theorem forGo_v {items : List D} {tg : Tg} {b : SF} (I : Nat → En → Sto → Prop) {ρ : En} {S : Sto} (h0 : I 0 ρ S)
    (step : ∀ (j : Nat) (d : D) (ρ : En) (S : Sto), items[j]? = some d → I j ρ S → ∃ ρ1 ρ2 S2, tg.asg d ρ S = some ρ1 ∧ (b ρ1 S = .nx ρ2 S2 ∨ b ρ1 S = .ct ρ2 S2) ∧ I (j + 1) ρ2 S2) :
    ∃ ρ' S', forGo ⟨items, none⟩ tg b items ρ S = .nx ρ' S' ∧ I items.length ρ' S' := by
  obtain ⟨ρ', S', h1, h2⟩ := forGo_inv (k := ⟨items, none⟩) (tg := tg) (b := b) I (fun _ _ _ _ => True.intro) items 0 ρ S h0 fun j d ρ S hd hI => by
    have := step j d ρ S hd (by simpa using hI)
    simpa using this
  exact ⟨ρ', S', h1, by simpa using h2⟩
/-- a comprehension whose items do not touch the store -/
theorem lcGo_map {k : Wk} {tg : Tg} {te : EF} {ρ0 : En} {S : Sto} {g : D → D} (hk : k.ok S) : ∀ (ds : List D), (∀ d ∈ ds, ∃ ρ1, tg.asg d ρ0 S = some ρ1 ∧ te ρ1 S = .ok (g d) S) → lcGo k tg bYes te ρ0 ds S = .ok (ds.map g) S
  | [], _ => by unfold lcGo Wk.guard; rw [if_pos hk]; rfl
  | d :: ds, h => by
    obtain ⟨ρ1, h1, h2⟩ := h d List.mem_cons_self
    have ih := lcGo_map hk ds fun d' hd => h d' (List.mem_cons_of_mem _ hd)
    unfold lcGo Wk.guard
    rw [if_pos hk, h1]
    simp only [bYes, R.nox, R.bind, h2, ih, List.map_cons, if_true]
theorem lcGo_filter {k : Wk} {tg : Tg} {tt : BF} {te : EF} {ρ0 : En} {S : Sto} {c : D → Bool} {g : D → D} (hk : k.ok S) : ∀ (ds : List D), (∀ d ∈ ds, ∃ ρ1, tg.asg d ρ0 S = some ρ1 ∧ tt ρ1 S = .ok (c d) S ∧ (c d = true → te ρ1 S = .ok (g d) S)) →
    lcGo k tg tt te ρ0 ds S = .ok ((ds.filter c).map g) S
  | [], _ => by unfold lcGo Wk.guard; rw [if_pos hk]; rfl
  | d :: ds, h => by
    obtain ⟨ρ1, h1, h2, h3⟩ := h d List.mem_cons_self
    have ih := lcGo_filter hk ds fun d' hd => h d' (List.mem_cons_of_mem _ hd)
    unfold lcGo Wk.guard
    rw [if_pos hk, h1]
    cases hc : c d with
    | true => simp only [R.nox, R.bind, h2, hc, h3 hc, ih, List.filter_cons, List.map_cons, if_true]
    | false => simp only [R.nox, R.bind, h2, hc, ih, List.filter_cons, Bool.false_eq_true, if_false]
/-- .. that may -/
theorem lcGo_inv {k : Wk} {tg : Tg} {tt : BF} {te : EF} {ρ0 : En} (I : Sto → Prop) (J : D → Prop) (hk : ∀ S, I S → k.ok S) : ∀ (ds : List D) (S : Sto), I S →
    (∀ d ∈ ds, ∀ S, I S → ∃ ρ1 b S1, tg.asg d ρ0 S = some ρ1 ∧ tt ρ1 S = .ok b S1 ∧ I S1 ∧ (b = true → ∃ y S2, te ρ1 S1 = .ok y S2 ∧ I S2 ∧ J y)) → ∃ ys S', lcGo k tg tt te ρ0 ds S = .ok ys S' ∧ I S' ∧ (∀ y ∈ ys, J y) ∧ ys.length ≤ ds.length
  | [], S, h, _ => ⟨[], S, by unfold lcGo Wk.guard; rw [if_pos (hk _ h)], h, fun _ q => by simp at q, Nat.le_refl _⟩
  | d :: ds, S, h, step => by
    obtain ⟨ρ1, b, S1, h1, h2, h3, h4⟩ := step d List.mem_cons_self S h
    have st : ∀ d' ∈ ds, _ := fun d' hd => step d' (List.mem_cons_of_mem _ hd)
    unfold lcGo Wk.guard
    rw [if_pos (hk _ h), h1]
    cases b with
    | true =>
      obtain ⟨y, S2, g1, g2, g3⟩ := h4 rfl
      obtain ⟨ys, S', i1, i2, i3, i4⟩ := lcGo_inv I J hk ds S2 g2 st
      refine ⟨y :: ys, S', ?_, i2, fun z hz => ?_, by simp; omega⟩
      · simp only [R.nox, R.bind, h2, g1, i1, if_true]
      · rcases List.mem_cons.mp hz with e | e
        · rw [e]; exact g3
        · exact i3 z e
    | false =>
      obtain ⟨ys, S', i1, i2, i3, i4⟩ := lcGo_inv I J hk ds S1 h3 st
      refine ⟨ys, S', ?_, i2, i3, by simp; omega⟩
      simp only [R.nox, R.bind, h2, i1, Bool.false_eq_true, if_false]
theorem sSeq_nx {f g : SF} {ρ ρ1 : En} {S S1 : Sto} (h : f ρ S = .nx ρ1 S1) : sSeq f g ρ S = g ρ1 S1 := by unfold sSeq; rw [h]
theorem sSeq_rt {f g : SF} {ρ : En} {S S1 : Sto} {d : D} (h : f ρ S = .rt d S1) : sSeq f g ρ S = .rt d S1 := by unfold sSeq; rw [h]
theorem rngD_get' {lo : Int} {n i : Nat} (h : i < n) : (rngD lo n)[i]? = some (.int (lo + i)) := by
  unfold rngD
  rw [List.getElem?_map, List.getElem?_range h]
  rfl
end Ev

namespace Ev
open PySem PySem.Spec PyProof.Rows L2
/-! ### one step each: what the evaluation's functions give -/
theorem b62 {i : Int} (h : -(2 ^ 62) ≤ i) (h2 : i < 2 ^ 62) : big62 i = true := by unfold big62; exact decide_eq_true ⟨h, h2⟩
theorem big62_nat {i : Int} (h : 0 ≤ i) (h2 : i < 1000000) : big62 i = true := b62 (by omega) (by omega)
section
variable {ρ ρ1 : En} {S S1 S2 : Sto} {fa : AF} {fe fb : EF} {d x y : D} {ds : List D} {o : O}
theorem iRng2D_ok {i j : Int} (h : fa ρ S = .ok [.int i, .int j] S1) (hi : 0 ≤ i ∧ i < 1000000) (hj : 0 ≤ j ∧ j < 1000000) : iRng2D fa ρ S = .ok ⟨rngD i (j - i).toNat, none⟩ S1 := by
  unfold iRng2D
  rw [h]
  simp only [R.bind, big62_nat hi.1 hi.2, big62_nat hj.1 hj.2, Bool.and_self, if_true]
theorem iRng1D_int {j : Int} (h : fa ρ S = .ok [.int j] S1) (hj : big62 j = true) : iRng1D fa ρ S = .ok ⟨rngD 0 j.toNat, none⟩ S1 := by
  unfold iRng1D
  rw [h]
  simp only [R.bind, hj, if_true]
theorem iRng1D_ok {j : Nat} (h : fa ρ S = .ok [.int j] S1) (hj : j < 1000000) : iRng1D fa ρ S = .ok ⟨rngD 0 j, none⟩ S1 := iRng1D_int h (big62_nat (Int.natCast_nonneg j) (by omega))
theorem iSeqD_tup (h : fe ρ S = .ok (.tup ds) S1) : iSeqD fe ρ S = .ok ⟨ds, none⟩ S1 := by
  unfold iSeqD
  rw [h]
  rfl
theorem iSeqD_lst (h : fe ρ S = .ok (.lst ds) S1) : iSeqD fe ρ S = .ok ⟨ds, none⟩ S1 := by
  unfold iSeqD
  rw [h]
  rfl
theorem iSeqD_con (h : fe ρ S = .ok (.con ds) S1) : iSeqD fe ρ S = .ok ⟨ds, none⟩ S1 := by
  unfold iSeqD
  rw [h]
  rfl
theorem iSeqD_loc {n : Nat} (h : fe ρ S = .ok (.loc n) S1) (h2 : S1[n]? = some (.lst ds)) : iSeqD fe ρ S = .ok ⟨ds, some n⟩ S1 := by
  unfold iSeqD
  rw [h]
  simp only [R.bind, seqW, tupOf, h2]
theorem sFor_ok {fi : IF} {tg : Tg} {b : SF} {k : Wk} (h : fi ρ S = .ok k S1) (h2 : forGo k tg b k.ds ρ S1 = o) : sFor fi tg b ρ S = o := by
  unfold sFor
  rw [h]
  exact h2
theorem sIf_t {t : BF} {f g : SF} (h : t ρ S = .ok true S1) : sIf t f g ρ S = f ρ S1 := by
  unfold sIf
  rw [h]
  rfl
theorem sIf_f {t : BF} {f g : SF} (h : t ρ S = .ok false S1) : sIf t f g ρ S = g ρ S1 := by
  unfold sIf
  rw [h]
  rfl
theorem sIf_fn {t : BF} {f : SF} (h : t ρ S = .ok false S1) : sIf t f sNext ρ S = .nx ρ S1 := (sIf_f h).trans rfl
theorem eLc_ok {fi : IF} {tg : Tg} {tt : BF} {te : EF} {vs : List Nat} {k : Wk} (h : fi ρ S = .ok k S1) (h2 : lcGo k tg tt te (wipeD ρ vs) k.ds S1 = .ok ds S2) (hl : ds.length ≤ sizeLine) : eLc fi tg tt te vs ρ S = .ok (.lst ds) S2 := by
  unfold eLc
  rw [h]
  simp only [R.bind]
  rw [h2]
  simp only [R.bind, hl, if_true]
theorem eLcA_ok {fi : IF} {tg : Tg} {tt : BF} {te : EF} {vs : List Nat} {k : Wk} (h : fi ρ S = .ok k S1) (h2 : lcGo k tg tt te (wipeD ρ vs) k.ds S1 = .ok ds S2) (hl : ds.length ≤ sizeLine) : eLcA fi tg tt te vs ρ S = .ok (.loc S2.length) (S2 ++ [.lst ds]) := by
  unfold eLcA
  rw [h]
  simp only [R.bind]
  rw [h2]
  simp only [R.bind, hl, if_true]
theorem eVar_ok {i : Nat} (h : ρ[i]? = some (some d)) : eVar i ρ S = .ok d S := by
  unfold eVar
  rw [h]
theorem eC_ok : eC d ρ S = .ok d S := rfl
theorem aNil_ok : aNil ρ S = .ok [] S := rfl
theorem eLstA_nil : eLstA aNil ρ S = .ok (.loc S.length) (S ++ [.lst []]) := by
  unfold eLstA
  rw [aNil_ok]
  simp only [R.bind, List.length_nil, Nat.zero_le, if_true]
theorem aCons_ok (h : fe ρ S = .ok d S1) (h2 : fa ρ S1 = .ok ds S2) : aCons fe fa ρ S = .ok (d :: ds) S2 := by
  unfold aCons
  rw [h]
  simp only [R.bind]
  rw [h2]
theorem eBin_ok {op : Op2} (ha : fe ρ S = .ok x S1) (hb : fb ρ S1 = .ok y S2) (ho : op x y S2 = some d) : eBin op fe fb ρ S = .ok d S2 := by
  unfold eBin
  rw [ha]
  simp only [R.bind]
  rw [hb]
  simp only [R.bind]
  rw [ho]
  rfl
theorem bBin_ok {op : Op2} {c : Bool} (ha : fe ρ S = .ok x S1) (hb : fb ρ S1 = .ok y S2) (ho : op x y S2 = some (.bl c)) : bBin op fe fb ρ S = .ok c S2 := by
  unfold bBin
  rw [ha]
  simp only [R.bind]
  rw [hb]
  simp only [R.bind]
  rw [ho]
  rfl
theorem eCb_ok {op : OpN} (ha : fa ρ S = .ok ds S1) (ho : op ds S1 = some (d, S2)) : eCb op fa ρ S = .ok d S2 := by
  unfold eCb
  rw [ha]
  simp only [R.bind]
  rw [ho]
  rfl
theorem eCall_ok {n : Nat} {F : List D → Sto → R D} (ha : fa ρ S = .ok ds S1) (hn : ds.length = n) (hF : F ds S1 = .ok d S2) : eCall n F fa ρ S = .ok d S2 := by
  unfold eCall
  rw [ha]
  simp only [R.bind]
  rw [hF, if_pos hn]
theorem sSet_ok {i : Nat} (h : fe ρ S = .ok d S1) : sSet i fe ρ S = .nx (ρ.set i (some d)) S1 := by
  unfold sSet
  rw [h]
  rfl
theorem sRet_ok (h : fe ρ S = .ok d S1) : sRet fe ρ S = .rt d S1 := by
  unfold sRet
  rw [h]
  rfl
theorem sAsg_ok {t : Tg} (h : fe ρ S = .ok d S1) (h2 : t.asg d ρ S1 = some ρ1) : sAsg t fe ρ S = .nx ρ1 S1 := by
  unfold sAsg
  rw [h]
  simp only [sB]
  rw [h2]
theorem sExpr_ok (h : fe ρ S = .ok d S1) : sExpr fe ρ S = .nx ρ S1 := by
  unfold sExpr
  rw [h]
  rfl
theorem runF_rt {n : Nat} {b : SF} {r : R D} (h : b (ds.map some ++ List.replicate (n - ds.length) none) S = .rt d S1) (h2 : gc S d S1 = r) : runF n b ds S = r := by
  unfold runF
  rw [h]
  exact h2
theorem eLm_ok {op : OpM} {S' : Sto} (hx : fe ρ S = .ok x S1) (hl : isLst S1 x = true) (ha : fa ρ S1 = .ok ds S2) (ho : op x ds S2 = some (d, S')) : eLm op fe fa ρ S = .ok d S' := by
  unfold eLm
  rw [hx]
  simp only [R.bind, hl, if_true]
  rw [ha]
  simp only [R.bind]
  rw [ho]
  rfl
end
theorem set_app {S : Sto} {x y : Cel} : (S ++ [x]).set S.length y = S ++ [y] := by
  induction S with
  | nil => rfl
  | cons c S ih => exact congrArg (c :: ·) ih
theorem get_app {S : Sto} {x : Cel} : (S ++ [x])[S.length]? = some x := by simp
theorem mAppend_ok {S : Sto} {n : Nat} {es : List D} {d : D} (h : S[n]? = some (.lst es)) (hl : es.length < sizeLine) : mAppend (.loc n) [d] S = some (.non, S.set n (.lst (es ++ [d]))) := by
  unfold mAppend
  simp only [h, hl, if_true]
theorem isLst_loc {S : Sto} {n : Nat} {es : List D} (h : S[n]? = some (.lst es)) : isLst S (.loc n) = true := by
  unfold isLst
  rw [lstOf_loc h]
  rfl
def natD (F : List Nat) : List D := F.map fun (x : Nat) => D.int (x : Int)
theorem natD_len (F : List Nat) : (natD F).length = F.length := List.length_map _
theorem natD_app (F G : List Nat) : natD (F ++ G) = natD F ++ natD G := List.map_append
theorem natD_get {F : List Nat} {j x : Nat} (h : F[j]? = some x) : (natD F)[j]? = some (.int x) := by
  unfold natD
  rw [List.getElem?_map, h]
  rfl
theorem natD_inv {F : List Nat} {j : Nat} {d : D} (h : (natD F)[j]? = some d) : ∃ x, F[j]? = some x ∧ d = .int x := by
  unfold natD at h
  rw [List.getElem?_map] at h
  cases e : F[j]? with
  | none => rw [e] at h; cases h
  | some x => rw [e] at h; cases h; exact ⟨x, rfl, rfl⟩
theorem natD_mem {F : List Nat} {d : D} (h : d ∈ natD F) : ∃ x ∈ F, d = .int x := by
  obtain ⟨x, a, b⟩ := List.mem_map.mp h
  exact ⟨x, a, b.symm⟩
theorem natD_eq (F : List Nat) : natD F = (F.map Int.ofNat).map D.int := by
  unfold natD
  rw [List.map_map]
  rfl
theorem rngD_nat (n : Nat) : rngD 0 n = natD (List.range n) := by
  unfold rngD natD
  exact List.map_congr_left fun (x : Nat) _ => congrArg D.int (Int.zero_add (x : Int))
theorem intsOf_nat (F : List Nat) : intsOf (natD F) = some (F.map Int.ofNat) := by rw [natD_eq, intsOf_map]
theorem okDs_nat (n : Nat) (F : List Nat) : okDs n (natD F) = true := by rw [natD_eq]; exact okDs_ints _ _
theorem mem_ofNat {F : List Nat} {a : Nat} : (a : Int) ∈ F.map Int.ofNat ↔ a ∈ F := by
  constructor
  · intro h
    obtain ⟨x, hx, e⟩ := List.mem_map.mp h
    have : x = a := Int.ofNat.inj e
    rw [← this]; exact hx
  · intro h
    exact List.mem_map.mpr ⟨a, h, rfl⟩
theorem inB_nat {S : Sto} {y : D} {F : List Nat} {a : Nat} (h : seqOf S y = some (natD F)) : inB (.int a) y S = some (decide (a ∈ F)) := by
  unfold inB
  rw [h]
  simp only [Option.bind_some, intsOf_nat, mem_ofNat]
theorem oIn_nat {S : Sto} {y : D} {F : List Nat} {a : Nat} (h : seqOf S y = some (natD F)) : oIn (.int a) y S = some (.bl (decide (a ∈ F))) := by
  unfold oIn
  rw [inB_nat h]
  rfl
theorem oNotIn_nat {S : Sto} {y : D} {F : List Nat} {a : Nat} (h : seqOf S y = some (natD F)) : oNotIn (.int a) y S = some (.bl (!decide (a ∈ F))) := by
  unfold oNotIn
  rw [inB_nat h]
  rfl
theorem lcGo_mapN {α : Type} {it : List D} {tg : Tg} {te : EF} {ρ0 : En} {S : Sto} {f g : α → D} : ∀ (xs : List α), (∀ x ∈ xs, ∃ ρ1, tg.asg (f x) ρ0 S = some ρ1 ∧ te ρ1 S = .ok (g x) S) → lcGo ⟨it, none⟩ tg bYes te ρ0 (xs.map f) S = .ok (xs.map g) S
  | [], _ => by simp only [List.map_nil]; unfold lcGo Wk.guard; rw [if_pos (show Wk.ok ⟨it, none⟩ S from True.intro)]
  | x :: xs, h => by
    obtain ⟨ρ1, h1, h2⟩ := h x List.mem_cons_self
    have ih := lcGo_mapN (it := it) xs fun d' hd => h d' (List.mem_cons_of_mem _ hd)
    simp only [List.map_cons]
    unfold lcGo Wk.guard
    rw [if_pos (show Wk.ok ⟨it, none⟩ S from True.intro), h1]
    simp only [bYes, R.nox, R.bind, h2, ih, if_true]
theorem lcGo_filterN {α : Type} {it : List D} {tg : Tg} {tt : BF} {te : EF} {ρ0 : En} {S : Sto} {c : α → Bool} {f g : α → D} : ∀ (xs : List α), (∀ x ∈ xs, ∃ ρ1, tg.asg (f x) ρ0 S = some ρ1 ∧ tt ρ1 S = .ok (c x) S ∧ (c x = true → te ρ1 S = .ok (g x) S)) →
    lcGo ⟨it, none⟩ tg tt te ρ0 (xs.map f) S = .ok ((xs.filter c).map g) S
  | [], _ => by simp only [List.map_nil]; unfold lcGo Wk.guard; rw [if_pos (show Wk.ok ⟨it, none⟩ S from True.intro)]; rfl
  | x :: xs, h => by
    obtain ⟨ρ1, h1, h2, h3⟩ := h x List.mem_cons_self
    have ih := lcGo_filterN (it := it) xs fun d' hd => h d' (List.mem_cons_of_mem _ hd)
    simp only [List.map_cons]
    unfold lcGo Wk.guard
    rw [if_pos (show Wk.ok ⟨it, none⟩ S from True.intro), h1]
    cases hc : c x with
    | true => simp only [R.nox, R.bind, h2, hc, h3 hc, ih, List.filter_cons, List.map_cons, if_true]
    | false => simp only [R.nox, R.bind, h2, hc, ih, List.filter_cons, Bool.false_eq_true, if_false]
theorem okRg_nat {n : Nat} (h : n ≤ 1000) : okRg 0 (n : Int) = true := by
  unfold okRg
  refine decide_eq_true ⟨?_, ?_, ?_, ?_, ?_⟩
  · exact Int.le_trans (Int.neg_nonpos_of_nonneg (Int.pow_nonneg (by omega))) (Int.le_refl 0)
  · exact Int.pow_pos (by omega)
  · exact Int.le_trans (Int.neg_nonpos_of_nonneg (Int.pow_nonneg (by omega))) (Int.natCast_nonneg n)
  · omega
  · rw [Int.sub_zero, Int.toNat_natCast]; omega
theorem eLr1_aux {ρ : En} {S S1 : Sto} {fe : EF} {n : Int} (h : fe ρ S = .ok (.int n) S1) (M : Int → Sto → R D) : ((fe ρ S).bind fun x S1 => match x with
  | .int n => M n S1
  | _ => .no) = M n S1 := by rw [h]; rfl
theorem mkRg_ok {n : Nat} {S : Sto} (hn : n ≤ 1000) : mkRg false 0 (n : Int) S = .ok (.lst (natD (List.range n))) S := by
  unfold mkRg
  rw [if_pos (okRg_nat hn), if_neg (by decide), Int.sub_zero, Int.toNat_natCast, rngD_nat]
theorem eLr1_ok {ρ : En} {S S1 : Sto} {fe : EF} {n : Nat} (h : fe ρ S = .ok (.int n) S1) (hn : n ≤ 1000) : eLr1 false fe ρ S = .ok (.lst (natD (List.range n))) S1 :=
  Eq.trans (eLr1_aux h (fun n S => mkRg false 0 n S)) (mkRg_ok hn)
theorem oAdd_lst {S : Sto} {xs ys : List D} (h : (xs ++ ys).length ≤ sizeLine) : oAdd (.lst xs) (.lst ys) S = some (.lst (xs ++ ys)) := by
  rw [List.length_append] at h
  unfold oAdd
  simp only [tupOf, lstOf, lstX, h, if_true]
end Ev

namespace Ev
open PySem PySem.Spec PyProof.Rows L2
/-- a for that may return -/
theorem forGo_rtA {k : Wk} {tg : Tg} {b : SF} (I : Nat → En → Sto → Prop) (Q : D → Sto → Prop) (hk : ∀ i ρ S, I i ρ S → k.ok S) : ∀ (ds : List D) (i : Nat) (ρ : En) (S : Sto), I i ρ S →
    (∀ (j : Nat) (d : D) (ρ : En) (S : Sto), ds[j]? = some d → I (i + j) ρ S → ∃ ρ1, tg.asg d ρ S = some ρ1 ∧ ((∃ ρ2 S2, (b ρ1 S = .nx ρ2 S2 ∨ b ρ1 S = .ct ρ2 S2) ∧ I (i + j + 1) ρ2 S2) ∨ ∃ v S2, b ρ1 S = .rt v S2 ∧ Q v S2)) →
    (∃ ρ' S', forGo k tg b ds ρ S = .nx ρ' S' ∧ I (i + ds.length) ρ' S') ∨ ∃ v S', forGo k tg b ds ρ S = .rt v S' ∧ Q v S'
  | [], i, ρ, S, h, _ => .inl ⟨ρ, S, by unfold forGo Wk.guard; rw [if_pos (hk _ _ _ h)], h⟩
  | d :: ds, i, ρ, S, h, step => by
    obtain ⟨ρ1, h1, h2⟩ := step 0 d ρ S rfl h
    rcases h2 with ⟨ρ2, S2, h2, h3⟩ | ⟨v, S2, h2, h3⟩
    · have ih := forGo_rtA I Q hk ds (i + 1) ρ2 S2 h3 fun j d' ρ S hd hI => by
        have := step (j + 1) d' ρ S (by simpa using hd) (by rw [← Nat.add_assoc, Nat.add_right_comm]; exact hI)
        simpa only [← Nat.add_assoc, Nat.add_right_comm i j 1, Nat.add_right_comm (i + 1) j 1] using this
      have eq : forGo k tg b (d :: ds) ρ S = forGo k tg b ds ρ2 S2 := by
        rw [forGo, Wk.guard, if_pos (hk _ _ _ h), h1]
        rcases h2 with h2 | h2 <;> (dsimp only; rw [h2])
      rw [eq]
      rcases ih with ⟨ρ', S', h4, h5⟩ | h4
      · exact .inl ⟨ρ', S', h4, by simpa only [List.length_cons, Nat.add_right_comm i 1, ← Nat.add_assoc] using h5⟩
      · exact .inr h4
    · refine .inr ⟨v, S2, ?_, h3⟩
      rw [forGo, Wk.guard, if_pos (hk _ _ _ h), h1]
      dsimp only
      rw [h2]
theorem forGo_rt {items : List D} {tg : Tg} {b : SF} (I : Nat → En → Sto → Prop) (Q : D → Sto → Prop) {ρ : En} {S : Sto} (h0 : I 0 ρ S)
    (step : ∀ (j : Nat) (d : D) (ρ : En) (S : Sto), items[j]? = some d → I j ρ S → ∃ ρ1, tg.asg d ρ S = some ρ1 ∧ ((∃ ρ2 S2, (b ρ1 S = .nx ρ2 S2 ∨ b ρ1 S = .ct ρ2 S2) ∧ I (j + 1) ρ2 S2) ∨ ∃ v S2, b ρ1 S = .rt v S2 ∧ Q v S2)) :
    (∃ ρ' S', forGo ⟨items, none⟩ tg b items ρ S = .nx ρ' S' ∧ I items.length ρ' S') ∨ ∃ v S', forGo ⟨items, none⟩ tg b items ρ S = .rt v S' ∧ Q v S' := by
  have := forGo_rtA (k := ⟨items, none⟩) (tg := tg) (b := b) I Q (fun _ _ _ _ => True.intro) items 0 ρ S h0 fun j d ρ S hd hI => by
    have := step j d ρ S hd (by simpa using hI)
    simpa using this
  simpa using this
theorem sSeq_nxo {f g : SF} {ρ ρ1 : En} {S S1 : Sto} {o : O} (h : f ρ S = .nx ρ1 S1) (h2 : g ρ1 S1 = o) : sSeq f g ρ S = o := (sSeq_nx h).trans h2
theorem eTup_ok {fa : AF} {ρ : En} {S S1 : Sto} {ds : List D} (h : fa ρ S = .ok ds S1) (hl : ds.length ≤ 1000) : eTup fa ρ S = .ok (.tup ds) S1 := by
  unfold eTup
  rw [h]
  simp only [R.bind, sizeLine_ok hl, if_true]
theorem eLst_ok {fa : AF} {ρ : En} {S S1 : Sto} {ds : List D} (h : fa ρ S = .ok ds S1) (hl : ds.length ≤ 1000) : eLst fa ρ S = .ok (.lst ds) S1 := by
  unfold eLst
  rw [h]
  simp only [R.bind, sizeLine_ok hl, if_true]
theorem eLstA_ok {fa : AF} {ρ : En} {S S1 : Sto} {ds : List D} (h : fa ρ S = .ok ds S1) (hl : ds.length ≤ 1000) : eLstA fa ρ S = .ok (.loc S1.length) (S1 ++ [.lst ds]) := by
  unfold eLstA
  rw [h]
  simp only [R.bind, sizeLine_ok hl, if_true]
theorem sumL {S : Sto} {is : List Int} : pure1 gSum [.lst (is.map D.int)] S = some (.int is.sum, S) := by
  unfold pure1 gSum
  simp only [seqOf_lst, Option.bind_some, intsOf_map, Option.map_some]
theorem sumT {S : Sto} {is : List Int} : pure1 gSum [.tup (is.map D.int)] S = some (.int is.sum, S) := by
  unfold pure1 gSum
  simp only [seqOf_tup, Option.bind_some, intsOf_map, Option.map_some]
end Ev

namespace Ev
open PySem PySem.Spec PyProof.Rows L2
/-! ### data of ints, None and truth values, nested k deep -/
mutual
def flat : Nat → D → Bool
  | _, .int _ => true
  | _, .non => true
  | _, .bl _ => true
  | k + 1, .tup ds => flats k ds
  | k + 1, .lst ds => flats k ds
  | _, _ => false
def flats : Nat → List D → Bool
  | _, [] => true
  | k, d :: ds => flat k d && flats k ds
end
mutual
theorem flat_ok : ∀ {k : Nat} {d : D}, flat k d = true → pyOk d = true ∧ (py d).canLay0 = true ∧ (py d).depth ≤ k + 1
  | k, .int _, _ => ⟨rfl, by simp only [py, PyData.canLay0], by simp only [py, PyData.depth]; omega⟩
  | k, .non, _ => ⟨rfl, by simp only [py, PyData.canLay0], by simp only [py, PyData.depth]; omega⟩
  | k, .bl _, _ => ⟨rfl, by simp only [py, PyData.canLay0], by simp only [py, PyData.depth]; omega⟩
  | k + 1, .tup ds, h => by
    simp only [flat] at h
    obtain ⟨a, b, c⟩ := flats_ok h
    exact ⟨by simp only [pyOk, a], by simp only [py, PyData.canLay0, b], by simp only [py, PyData.depth]; omega⟩
  | k + 1, .lst ds, h => by
    simp only [flat] at h
    obtain ⟨a, b, c⟩ := flats_ok h
    exact ⟨by simp only [pyOk, a], by simp only [py, PyData.canLay0, b], by simp only [py, PyData.depth]; omega⟩
  | 0, .tup ds, h => by simp only [flat] at h; cases h
  | 0, .lst ds, h => by simp only [flat] at h; cases h
  | k, .str _, h => by simp only [flat] at h; cases h
  | k, .con _, h => by simp only [flat] at h; cases h
  | k, .frz _, h => by simp only [flat] at h; cases h
  | k, .loc _, h => by simp only [flat] at h; cases h
theorem flats_ok : ∀ {k : Nat} {ds : List D}, flats k ds = true → pyOks ds = true ∧ PyData.canLayAll0 (pys ds) = true ∧ PyData.depthAll (pys ds) ≤ k + 1
  | k, [], _ => ⟨rfl, by simp only [pys, PyData.canLayAll0], by simp only [pys, PyData.depthAll]; omega⟩
  | k, d :: ds, h => by
    simp only [flats, Bool.and_eq_true] at h
    obtain ⟨a, b, c⟩ := flat_ok h.1
    obtain ⟨a2, b2, c2⟩ := flats_ok h.2
    exact ⟨by simp only [pyOks, a, a2, Bool.and_self], by simp only [pys, PyData.canLayAll0, b, b2, Bool.and_self], by simp only [pys, PyData.depthAll]; omega⟩
end
theorem eqOk_flat {k : Nat} {d : D} (h : flat k d = true) (hk : k ≤ 60) : eqOk d = true := by
  obtain ⟨a, b, c⟩ := flat_ok h
  unfold eqOk SeqAt.shaped
  rw [a, b, decide_eq_true (by omega)]
  rfl
theorem flats_of {k : Nat} {ds : List D} (h : ∀ d ∈ ds, flat k d = true) : flats k ds = true := by
  induction ds with
  | nil => simp only [flats]
  | cons d ds ih =>
    simp only [flats, h d List.mem_cons_self, ih fun e he => h e (List.mem_cons_of_mem _ he), Bool.and_self]
/-- x in y, x no int -/
theorem inB_flat {k : Nat} {S : Sto} {y : D} {xs ds : List D} (h : seqOf S y = some ds) (hk : k ≤ 59) (hx : flat (k + 1) (.tup xs) = true) (hd : flats k ds = true) : inB (.tup xs) y S = some (ds.any fun z => deq z (.tup xs)) := by
  unfold inB
  rw [h]
  have e1 := eqOk_flat hx (by omega)
  have e2 : eqOk (.lst ds) = true := eqOk_flat (k := k + 1) (by simp only [flat]; exact hd) (by omega)
  simp only [e1, e2, Bool.and_self, if_true]
theorem oIn_flat {k : Nat} {S : Sto} {y : D} {xs ds : List D} (h : seqOf S y = some ds) (hk : k ≤ 59) (hx : flat (k + 1) (.tup xs) = true) (hd : flats k ds = true) : oIn (.tup xs) y S = some (.bl (ds.any fun z => deq z (.tup xs))) := by
  unfold oIn
  rw [inB_flat h hk hx hd]
  rfl
theorem oNotIn_flat {k : Nat} {S : Sto} {y : D} {xs ds : List D} (h : seqOf S y = some ds) (hk : k ≤ 59) (hx : flat (k + 1) (.tup xs) = true) (hd : flats k ds = true) : oNotIn (.tup xs) y S = some (.bl (!(ds.any fun z => deq z (.tup xs)))) := by
  unfold oNotIn
  rw [inB_flat h hk hx hd]
  rfl
theorem iEnumD_tup {fa : AF} {ρ : En} {S S1 : Sto} {ds : List D} (h : fa ρ S = .ok [.tup ds] S1) : iEnumD fa ρ S = .ok ⟨enumDs 0 ds, none⟩ S1 := by
  unfold iEnumD
  rw [h]
  rfl
end Ev

namespace Ev
/-! ### places that ways connect: no program here -/
abbrev Edge := Nat × Nat
def Con (E : List Edge) (x y : Nat) : Prop := ∀ f : Nat → Nat, (∀ e ∈ E, f e.1 = f e.2) → f x = f y
theorem Con.refl (E : List Edge) (x : Nat) : Con E x x := fun _ _ => rfl
theorem Con.symm {E : List Edge} {x y : Nat} (h : Con E x y) : Con E y x := fun f hf => (h f hf).symm
theorem Con.trans {E : List Edge} {x y z : Nat} (h : Con E x y) (h2 : Con E y z) : Con E x z := fun f hf => (h f hf).trans (h2 f hf)
theorem Con.mono {E E' : List Edge} {x y : Nat} (h : Con E x y) (s : ∀ e ∈ E, e ∈ E') : Con E' x y := fun f hf => h f fun e he => hf e (s e he)
theorem Con.edge {E : List Edge} {e : Edge} (h : e ∈ E) : Con E e.1 e.2 := fun f hf => hf e h
def Eok (n : Nat) (E : List Edge) : Prop := ∀ e ∈ E, e.1 < n ∧ e.2 < n
def stepM (m : List Nat) (e : Edge) : List Nat :=
  m.map fun z => if z = max (m.getD e.1 0) (m.getD e.2 0) then min (m.getD e.1 0) (m.getD e.2 0) else z
structure MarkI (n : Nat) (E : List Edge) (m : List Nat) : Prop where
  len : m.length = n
  con : ∀ x, x < n → Con E x (m.getD x 0)
  le : ∀ x, x < n → m.getD x 0 ≤ x
  edge : ∀ e ∈ E, m.getD e.1 0 = m.getD e.2 0
theorem getD_map {m : List Nat} {g : Nat → Nat} {x : Nat} (h : x < m.length) : (m.map g).getD x 0 = g (m.getD x 0) := by
  rw [List.getD_eq_getElem?_getD, List.getD_eq_getElem?_getD, List.getElem?_map, List.getElem?_eq_getElem h]
  rfl
theorem MarkI.init (n : Nat) : MarkI n [] (List.range n) := by
  have hg : ∀ x, x < n → (List.range n).getD x 0 = x := fun x h => by rw [List.getD_eq_getElem?_getD, List.getElem?_range h]; rfl
  refine ⟨List.length_range, fun x h => by rw [hg x h]; exact Con.refl _ _, fun x h => by rw [hg x h]; exact Nat.le_refl _, fun e he => by simp at he⟩
theorem MarkI.step {n : Nat} {E : List Edge} {m : List Nat} {e : Edge} (hE : Eok n E) (he : e.1 < n ∧ e.2 < n) (h : MarkI n E m) : MarkI n (E ++ [e]) (stepM m e) := by
  have hg : ∀ x, x < n → (stepM m e).getD x 0 = if m.getD x 0 = max (m.getD e.1 0) (m.getD e.2 0) then min (m.getD e.1 0) (m.getD e.2 0) else m.getD x 0 := fun x hx => getD_map (by rw [h.len]; exact hx)
  have sub : ∀ f ∈ E, f ∈ E ++ [e] := fun f hf => List.mem_append_left _ hf
  have ce : Con (E ++ [e]) (m.getD e.1 0) (m.getD e.2 0) := ((h.con _ he.1).mono sub).symm.trans ((Con.edge (by simp)).trans ((h.con _ he.2).mono sub))
  refine ⟨by simp only [stepM, List.length_map, h.len], fun x hx => ?_, fun x hx => ?_, fun f hf => ?_⟩
  · rw [hg x hx]
    have c0 := (h.con x hx).mono sub
    split
    · rename_i q
      refine c0.trans ?_
      rw [q]
      rcases Nat.le_total (m.getD e.1 0) (m.getD e.2 0) with k | k
      · rw [Nat.max_eq_right k, Nat.min_eq_left k]; exact ce.symm
      · rw [Nat.max_eq_left k, Nat.min_eq_right k]; exact ce
    · exact c0
  · rw [hg x hx]
    have := h.le x hx
    split <;> omega
  · rcases List.mem_append.mp hf with z | z
    · rw [hg _ (hE f z).1, hg _ (hE f z).2, h.edge f z]
    · have : f = e := by simpa using z
      subst this
      rw [hg _ he.1, hg _ he.2]
      split <;> split <;> omega
theorem MarkI.fold {n : Nat} : ∀ (F E : List Edge) (m : List Nat), Eok n (E ++ F) → MarkI n E m → MarkI n (E ++ F) (F.foldl stepM m)
  | [], E, m, _, h => by simpa using h
  | f :: F, E, m, hE, h => by
    have hs := h.step (e := f) (fun e he => hE e (by simp [he])) (hE f (by simp))
    have := MarkI.fold F (E ++ [f]) (stepM m f) (by simpa using hE) hs
    simpa using this
def markOf (n : Nat) (E : List Edge) : List Nat := E.foldl stepM (List.range n)
theorem markOf_ok {n : Nat} {E : List Edge} (hE : Eok n E) : MarkI n E (markOf n E) := by
  have := MarkI.fold E [] (List.range n) (by simpa using hE) (MarkI.init n)
  unfold markOf
  simpa using this
/-- the least place of a place's group -/
def rep (n : Nat) (E : List Edge) (x : Nat) : Nat := (markOf n E).getD x 0
theorem rep_iff {n : Nat} {E : List Edge} {x y : Nat} (hE : Eok n E) (hx : x < n) (hy : y < n) : rep n E x = rep n E y ↔ Con E x y := by
  have h := markOf_ok hE
  constructor
  · intro q
    have := h.con y hy
    rw [show (markOf n E).getD y 0 = (markOf n E).getD x 0 from q.symm] at this
    exact (h.con x hx).trans this.symm
  · intro c
    exact c (fun z => (markOf n E).getD z 0) h.edge
theorem rep_le {n : Nat} {E : List Edge} {x : Nat} (hE : Eok n E) (hx : x < n) : rep n E x ≤ x := (markOf_ok hE).le x hx
theorem rep_lt {n : Nat} {E : List Edge} {x : Nat} (hE : Eok n E) (hx : x < n) : rep n E x < n := Nat.lt_of_le_of_lt (rep_le hE hx) hx
theorem rep_rep {n : Nat} {E : List Edge} {x : Nat} (hE : Eok n E) (hx : x < n) : rep n E (rep n E x) = rep n E x :=
  ((rep_iff hE hx (rep_lt hE hx)).2 ((markOf_ok hE).con x hx)).symm
def groupOf (n : Nat) (E : List Edge) (p : Nat) : List Nat := (List.range n).filter fun x => rep n E x == p
def parts (n : Nat) (E : List Edge) : List (List Nat) := ((List.range n).filter fun p => rep n E p == p).map (groupOf n E)
/-! ### the same from one place on -/
def putF (F : List Nat) (a b : Nat) : List Nat := if a ∈ F ∧ b ∉ F then F ++ [b] else F
def stepF (F : List Nat) (e : Edge) : List Nat := putF (putF F e.1 e.2) e.2 e.1
def roundF (E : List Edge) (F : List Nat) : List Nat := E.foldl stepF F
def roundsF (E : List Edge) (F : List Nat) : Nat → List Nat
  | 0 => F
  | k + 1 => roundF E (roundsF E F k)
structure FoundI (n : Nat) (E : List Edge) (p : Nat) (F : List Nat) : Prop where
  nd : F.Nodup
  con : ∀ x ∈ F, x < n ∧ Con E p x
  mem : p ∈ F
theorem FoundI.put {n p a b : Nat} {E : List Edge} {F : List Nat} (h : FoundI n E p F) (hb : b < n) (c : Con E a b) : FoundI n E p (putF F a b) := by
  unfold putF
  split
  · rename_i q
    refine ⟨?_, fun x hx => ?_, List.mem_append_left _ h.mem⟩
    · rw [List.nodup_append]
      exact ⟨h.nd, by simp, fun x hx y hy e => q.2 (by have : y = b := by simpa using hy
                                                       rw [← this, ← e]; exact hx)⟩
    · rcases List.mem_append.mp hx with z | z
      · exact h.con x z
      · have : x = b := by simpa using z
        rw [this]
        exact ⟨hb, (h.con a q.1).2.trans c⟩
  · exact h
theorem FoundI.step {n p : Nat} {E : List Edge} {e : Edge} {F : List Nat} (hE : Eok n E) (he : e ∈ E) (h : FoundI n E p F) : FoundI n E p (stepF F e) :=
  (h.put (hE e he).2 (Con.edge he)).put (hE e he).1 (Con.edge he).symm
theorem FoundI.fold {n p : Nat} {E : List Edge} (hE : Eok n E) : ∀ (G : List Edge) (F : List Nat), (∀ e ∈ G, e ∈ E) → FoundI n E p F → FoundI n E p (G.foldl stepF F)
  | [], F, _, h => h
  | g :: G, F, hs, h => FoundI.fold hE G (stepF F g) (fun e he => hs e (List.mem_cons_of_mem _ he)) (h.step hE (hs g List.mem_cons_self))
theorem FoundI.rounds {n p : Nat} {E : List Edge} {F : List Nat} (hE : Eok n E) (h : FoundI n E p F) : ∀ k, FoundI n E p (roundsF E F k)
  | 0 => h
  | k + 1 => FoundI.fold hE E _ (fun _ h => h) (FoundI.rounds hE h k)
theorem putF_le (F : List Nat) (a b : Nat) : F.length ≤ (putF F a b).length := by unfold putF; split <;> simp
theorem putF_eq {F : List Nat} {a b : Nat} (h : (putF F a b).length = F.length) : putF F a b = F ∧ (a ∈ F → b ∈ F) := by
  unfold putF at h ⊢
  split at h
  · simp at h
  · rename_i q
    rw [if_neg q]
    exact ⟨rfl, fun ha => Classical.byContradiction fun hb => q ⟨ha, hb⟩⟩
theorem stepF_le (F : List Nat) (e : Edge) : F.length ≤ (stepF F e).length := Nat.le_trans (putF_le _ _ _) (putF_le _ _ _)
theorem stepF_eq {F : List Nat} {e : Edge} (h : (stepF F e).length = F.length) : stepF F e = F ∧ (e.1 ∈ F ↔ e.2 ∈ F) := by
  have h1 := putF_le F e.1 e.2
  have h2 := putF_le (putF F e.1 e.2) e.2 e.1
  have h3 : (putF (putF F e.1 e.2) e.2 e.1).length = F.length := h
  obtain ⟨a, b⟩ := putF_eq (F := F) (a := e.1) (b := e.2) (by omega)
  rw [a] at h3
  obtain ⟨c, d⟩ := putF_eq h3
  exact ⟨by unfold stepF; rw [a, c], b, d⟩
def Closed (E : List Edge) (F : List Nat) : Prop := ∀ e ∈ E, (e.1 ∈ F ↔ e.2 ∈ F)
theorem foldF_le : ∀ (E : List Edge) (F : List Nat), F.length ≤ (E.foldl stepF F).length
  | [], F => Nat.le_refl _
  | e :: E, F => Nat.le_trans (stepF_le F e) (foldF_le E (stepF F e))
theorem foldF_eq : ∀ (E : List Edge) (F : List Nat), (E.foldl stepF F).length = F.length → Closed E F
  | [], F, _ => fun e he => by simp at he
  | e :: E, F, h => by
    have h1 := stepF_le F e
    have h2 := foldF_le E (stepF F e)
    simp only [List.foldl_cons] at h
    obtain ⟨a, b⟩ := stepF_eq (F := F) (e := e) (by omega)
    rw [a] at h
    have := foldF_eq E F h
    intro f hf
    rcases List.mem_cons.mp hf with z | z
    · rw [z]; exact b
    · exact this f z
theorem foldF_closed : ∀ (E : List Edge) (F : List Nat), Closed E F → E.foldl stepF F = F
  | [], F, _ => rfl
  | e :: E, F, h => by
    have he := h e List.mem_cons_self
    have h1 : putF F e.1 e.2 = F := by unfold putF; exact if_neg fun q => q.2 (he.1 q.1)
    have h2 : putF F e.2 e.1 = F := by unfold putF; exact if_neg fun q => q.2 (he.2 q.1)
    simp only [List.foldl_cons, stepF, h1, h2]
    exact foldF_closed E F fun f hf => h f (List.mem_cons_of_mem _ hf)
theorem rounds_or (E : List Edge) (F : List Nat) (h0 : 1 ≤ F.length) : ∀ k, Closed E (roundsF E F k) ∨ k + 1 ≤ (roundsF E F k).length
  | 0 => .inr h0
  | k + 1 => by
    rcases rounds_or E F h0 k with c | c
    · left
      show Closed E (roundF E (roundsF E F k))
      unfold roundF
      rw [foldF_closed _ _ c]
      exact c
    · by_cases q : (roundF E (roundsF E F k)).length = (roundsF E F k).length
      · have cl := foldF_eq _ _ q
        left
        show Closed E (roundF E (roundsF E F k))
        unfold roundF
        rw [foldF_closed _ _ cl]
        exact cl
      · right
        have := foldF_le E (roundsF E F k)
        show k + 1 + 1 ≤ (roundF E (roundsF E F k)).length
        unfold roundF at q ⊢
        omega
theorem perm_filter {n : Nat} {F : List Nat} {c : Nat → Bool} (nd : F.Nodup) (h : ∀ x, x ∈ F ↔ x < n ∧ c x = true) : F.Perm ((List.range n).filter c) :=
  (List.perm_ext_iff_of_nodup nd (List.nodup_range.filter _)).2 fun x => by rw [h x, List.mem_filter, List.mem_range]
theorem found_len {n : Nat} {F : List Nat} (nd : F.Nodup) (h : ∀ x ∈ F, x < n) : F.length ≤ n := by
  have := (perm_filter (n := n) (F := F) (c := fun x => decide (x ∈ F)) nd fun x => ⟨fun z => ⟨h x z, decide_eq_true z⟩, fun z => of_decide_eq_true z.2⟩).length_eq
  rw [this]
  exact Nat.le_trans (List.length_filter_le _ _) (by simp)
theorem FoundI.all {n p : Nat} {E : List Edge} {F : List Nat} (hE : Eok n E) (hp : p < n) (h : FoundI n E p F) (cl : Closed E F) (x : Nat) : x ∈ F ↔ x < n ∧ (rep n E x == rep n E p) = true := by
  constructor
  · intro hx
    obtain ⟨a, b⟩ := h.con x hx
    exact ⟨a, by rw [beq_iff_eq]; exact ((rep_iff hE hp a).2 b).symm⟩
  · rintro ⟨a, b⟩
    have c : Con E p x := (rep_iff hE hp a).1 (beq_iff_eq.mp b).symm
    have := c (fun z => if z ∈ F then 1 else 0) fun e he => by
      by_cases q : e.1 ∈ F
      · simp only [q, (cl e he).1 q, if_true]
      · simp only [q, mt (cl e he).2 q, if_false]
    simp only [h.mem, if_true] at this
    exact Classical.byContradiction fun q => by rw [if_neg q] at this; cases this
theorem rounds_perm {n p : Nat} {E : List Edge} (hE : Eok n E) (hp : p < n) : (roundsF E [p] n).Perm (groupOf n E (rep n E p)) := by
  have h0 : FoundI n E p [p] := ⟨by simp, fun x hx => by have : x = p := by simpa using hx
                                                         rw [this]; exact ⟨hp, Con.refl _ _⟩, by simp⟩
  have h := h0.rounds hE n
  have cl : Closed E (roundsF E [p] n) := by
    rcases rounds_or E [p] (by simp) n with c | c
    · exact c
    · have := found_len h.nd fun x hx => (h.con x hx).1
      omega
  exact perm_filter h.nd (h.all hE hp cl)
theorem rounds_le {n p : Nat} {E : List Edge} (hE : Eok n E) (hp : p < n) (k : Nat) : (roundsF E [p] k).length ≤ n := by
  have h0 : FoundI n E p [p] := ⟨by simp, fun x hx => by have : x = p := by simpa using hx
                                                         rw [this]; exact ⟨hp, Con.refl _ _⟩, by simp⟩
  have h := h0.rounds hE k
  exact found_len h.nd fun x hx => (h.con x hx).1
def natI (F : List Nat) : List Int := F.map Int.ofNat
theorem sort_group {n : Nat} {c : Nat → Bool} {F : List Nat} (h : F.Perm ((List.range n).filter c)) : isort (natI F) = natI ((List.range n).filter c) := by
  symm
  refine isort_same (h.symm.map _) ?_
  unfold natI
  rw [List.pairwise_map]
  exact (List.pairwise_lt_range.filter _).imp fun h => Int.ofNat_le.mpr (Nat.le_of_lt h)
/-- the first of a group is its least place -/
theorem group_head {n : Nat} {E : List Edge} {p : Nat} (hE : Eok n E) (hp : p < n) : (groupOf n E (rep n E p))[0]? = some (rep n E p) := by
  have hm : rep n E p ∈ groupOf n E (rep n E p) := by
    unfold groupOf
    rw [List.mem_filter, List.mem_range]
    exact ⟨rep_lt hE hp, by rw [beq_iff_eq]; exact rep_rep hE hp⟩
  have hs : (groupOf n E (rep n E p)).Pairwise (· < ·) := List.pairwise_lt_range.filter _
  have hmin : ∀ x ∈ groupOf n E (rep n E p), rep n E p ≤ x := fun x hx => by
    unfold groupOf at hx
    rw [List.mem_filter, List.mem_range, beq_iff_eq] at hx
    rw [← hx.2]
    exact rep_le hE hx.1
  cases hg : groupOf n E (rep n E p) with
  | nil => rw [hg] at hm; simp at hm
  | cons x xs =>
    rw [hg] at hm hs hmin
    have h1 := hmin x List.mem_cons_self
    rcases List.mem_cons.mp hm with z | z
    · rw [z]; rfl
    · have := (List.pairwise_cons.mp hs).1 _ z
      omega
end Ev

namespace Ev
open PySem PySem.Spec PyProof.Rows L2
noncomputable def b_law_pool : SF :=
  (sRet (eLstA (aCons (eCb (oList false) (aCons (eVar 0) aNil)) (aCons (eC (.int 0)) (aCons (eC (.int 0)) (aCons (eC (.int 0)) (aCons (eC (.int 0)) aNil)))))))
noncomputable def f_law_pool : List D → Sto → R D := runF 1 b_law_pool
noncomputable def b_law_draw : SF :=
  (sSeq (sIf (bBin oGt (eBin oIx (eVar 0) (eC (.int 2))) (eC (.int 0))) (sSeq (sSet 2 (eBin oMod (eCb (pure1 gInt) (aCons (eBin oIx (eVar 0) (eC (.int 2))) aNil)) (eVar 1)))
    (sSeq (sSub (eVar 0) (eC (.int 2)) (eBin oDiv (eBin oIx (eVar 0) (eC (.int 2))) (eVar 1)))
    (sRet (eVar 2)))) sNext)
    (sSeq (sIf (bAnd (bBin oEq (eBin oMod (eCb (pure1 gInt) (aCons (eBin oIx (eVar 0) (eC (.int 4))) aNil)) (eC (.int 8))) (eC (.int 0))) (bBin oLt (eBin oIx (eVar 0) (eC (.int 1))) (eCb (pure1 gLen) (aCons (eBin oIx (eVar 0) (eC (.int 0))) aNil)))) (sSeq (sSet 3 (eCb (pure1 gAbs) (aCons (eBin oIx (eBin oIx (eVar 0) (eC (.int 0))) (eBin oIx (eVar 0) (eC (.int 1)))) aNil)))
    (sSeq (sSub (eVar 0) (eC (.int 1)) (eBin oAdd (eBin oIx (eVar 0) (eC (.int 1))) (eC (.int 1))))
    (sSeq (sIf (bBin oGe (eVar 3) (eBin oPow (eC (.int 10)) (eC (.int 18)))) (sSeq (sSub (eVar 0) (eC (.int 2)) (eBin oDiv (eVar 3) (eVar 1)))
    (sRet (eBin oMod (eCb (pure1 gInt) (aCons (eVar 3) aNil)) (eVar 1)))) sNext)
    (sSub (eVar 0) (eC (.int 3)) (eVar 3))))) sNext)
    (sSeq (sSub (eVar 0) (eC (.int 4)) (eBin oAdd (eBin oIx (eVar 0) (eC (.int 4))) (eC (.int 1))))
    (sSeq (sSet 4 (eBin oMod (eCb (pure1 gInt) (aCons (eBin oAdd (eBin oAdd (eBin oMul (eBin oIx (eVar 0) (eC (.int 3))) (eC (.int 48271))) (eBin oMul (eBin oIx (eVar 0) (eC (.int 4))) (eC (.int 69621)))) (eC (.int 7919))) aNil)) (eC (.int 2147483647))))
    (sSeq (sSet 4 (eBin oMod (eCb (pure1 gInt) (aCons (eBin oAdd (eBin oMul (eVar 4) (eVar 4)) (eBin oMul (eBin oIx (eVar 0) (eC (.int 4))) (eC (.int 40692)))) aNil)) (eC (.int 2147483399))))
    (sRet (eBin oMod (eCb (pure1 gInt) (aCons (eVar 4) aNil)) (eVar 1))))))))
noncomputable def f_law_draw : List D → Sto → R D := runF 5 b_law_draw
noncomputable def b_law_cost : SF :=
  (sSeq (sSet 1 (eCall 2 f_law_draw (aCons (eVar 0) (aCons (eC (.int 8)) aNil))))
    (sSeq (sIf (bBin oEq (eVar 1) (eC (.int 0))) (sRet (eBin oAdd (eC (.int 1)) (eCall 2 f_law_draw (aCons (eVar 0) (aCons (eC (.int 10000)) aNil))))) sNext)
    (sSeq (sIf (bBin oLt (eVar 1) (eC (.int 4))) (sRet (eBin oIx (eLst (aCons (eC (.int 1)) (aCons (eC (.int 2)) (aCons (eC (.int 2)) (aCons (eC (.int 3)) (aCons (eC (.int 4)) aNil)))))) (eCall 2 f_law_draw (aCons (eVar 0) (aCons (eC (.int 5)) aNil))))) sNext)
    (sRet (eBin oAdd (eC (.int 1)) (eCall 2 f_law_draw (aCons (eVar 0) (aCons (eC (.int 12)) aNil))))))))
noncomputable def f_law_cost : List D → Sto → R D := runF 2 b_law_cost
noncomputable def b_law_way : SF :=
  (sSeq (sSet 2 (eCall 2 f_law_draw (aCons (eVar 0) (aCons (eBin oSub (eVar 1) (eC (.int 1))) aNil))))
    (sRet (eTup (aCons (eVar 2) (aCons (eBin oAdd (eBin oAdd (eVar 2) (eC (.int 1))) (eCall 2 f_law_draw (aCons (eVar 0) (aCons (eBin oSub (eBin oSub (eVar 1) (eC (.int 1))) (eVar 2)) aNil)))) (aCons (eCall 1 f_law_cost (aCons (eVar 0) aNil)) aNil))))))
noncomputable def f_law_way : List D → Sto → R D := runF 3 b_law_way
noncomputable def b_law_net : SF :=
  (sSeq (sSet 3 (eBin oAdd (eC (.int 1)) (eCall 2 f_law_draw (aCons (eVar 0) (aCons (eVar 1) aNil)))))
    (sSeq (sSet 4 (eLstA aNil))
    (sSeq (sIf (bAnd (bBin oGt (eVar 3) (eC (.int 1))) (bBin oGt (eCall 2 f_law_draw (aCons (eVar 0) (aCons (eC (.int 5)) aNil))) (eC (.int 0)))) (sFor (iRng2D (aCons (eC (.int 1)) (aCons (eVar 3) aNil))) (.nm 5) (sExpr (eLm mAppend (eVar 4) (aCons (eTup (aCons (eCall 2 f_law_draw (aCons (eVar 0) (aCons (eVar 5) aNil))) (aCons (eVar 5) (aCons (eCall 1 f_law_cost (aCons (eVar 0) aNil)) aNil)))) aNil)))) sNext)
    (sSeq (sIf (bBin oGt (eVar 3) (eC (.int 1))) (sFor (iRng1D (aCons (eCall 2 f_law_draw (aCons (eVar 0) (aCons (eBin oSub (eBin oAdd (eVar 2) (eC (.int 1))) (eCb (pure1 gMin) (aCons (eVar 2) (aCons (eCb (pure1 gLen) (aCons (eVar 4) aNil)) aNil)))) aNil))) aNil)) (.nm 6) (sExpr (eLm mInsert (eVar 4) (aCons (eCall 2 f_law_draw (aCons (eVar 0) (aCons (eBin oAdd (eCb (pure1 gLen) (aCons (eVar 4) aNil)) (eC (.int 1))) aNil))) (aCons (eCall 2 f_law_way (aCons (eVar 0) (aCons (eVar 3) aNil))) aNil))))) sNext)
    (sRet (eTup (aCons (eVar 3) (aCons (eCb (pure1 gTuple) (aCons (eSl false (eVar 4) pNone (pSome (eVar 2))) aNil)) aNil))))))))
noncomputable def f_law_net : List D → Sto → R D := runF 7 b_law_net
noncomputable def b_law_pick : SF :=
  (sRet (eBin oIx (eVar 1) (eCall 2 f_law_draw (aCons (eVar 0) (aCons (eCb (pure1 gLen) (aCons (eVar 1) aNil)) aNil)))))
noncomputable def f_law_pick : List D → Sto → R D := runF 2 b_law_pick
noncomputable def b_law_pairs : SF :=
  (sSeq (sSet 3 (eLstA aNil))
    (sSeq (sFor (iRng1D (aCons (eCall 2 f_law_draw (aCons (eVar 0) (aCons (eBin oAdd (eVar 2) (eC (.int 1))) aNil))) aNil)) (.nm 4) (sIf (bBin oGt (eVar 1) (eC (.int 1))) (sSeq (sSet 5 (eCall 2 f_law_draw (aCons (eVar 0) (aCons (eBin oSub (eVar 1) (eC (.int 1))) aNil))))
    (sSeq (sSet 6 (eTup (aCons (eVar 5) (aCons (eBin oAdd (eBin oAdd (eVar 5) (eC (.int 1))) (eCall 2 f_law_draw (aCons (eVar 0) (aCons (eBin oSub (eBin oSub (eVar 1) (eC (.int 1))) (eVar 5)) aNil)))) aNil))))
    (sIf (bBin oNotIn (eVar 6) (eVar 3)) (sExpr (eLm mAppend (eVar 3) (aCons (eVar 6) aNil))) sNext))) sNext))
    (sRet (eCb (pure1 gTuple) (aCons (eVar 3) aNil)))))
noncomputable def f_law_pairs : List D → Sto → R D := runF 7 b_law_pairs
noncomputable def b_law_choice : SF :=
  (sSeq (sSet 2 (eBin oAdd (eC (.int 1)) (eCall 2 f_law_draw (aCons (eVar 0) (aCons (eC (.int 4)) aNil)))))
    (sRet (eCb (pure1 gTuple) (aCons (eLc (iRng1D (aCons (eCb (pure1 gLen) (aCons (eBin oIx (eVar 1) (eC (.int 1))) aNil)) aNil)) (.nm 3) (bBin oLt (eCall 2 f_law_draw (aCons (eVar 0) (aCons (eC (.int 4)) aNil))) (eVar 2)) (eVar 3) [3]) aNil))))
noncomputable def f_law_choice : List D → Sto → R D := runF 4 b_law_choice
noncomputable def b_groups : SF :=
  (sSeq (sAsg (.tp [(.nm 2), (.nm 3)]) (eVar 0))
    (sSeq (sSet 4 (eLr1 false (eVar 2)))
    (sSeq (sFor (iSeqD (eVar 1)) (.nm 5) (sSeq (sAsg (.tp [(.nm 6), (.nm 7), (.nm 8)]) (eBin oIx (eVar 3) (eVar 5)))
    (sSeq (sAsg (.ls [(.nm 9), (.nm 10)]) (eCb (oSort false) (aCons (eLst (aCons (eBin oIx (eVar 4) (eVar 6)) (aCons (eBin oIx (eVar 4) (eVar 7)) aNil))) aNil)))
    (sSet 4 (eLc (iSeqD (eVar 4)) (.nm 13) bYes (eIf (bBin oEq (eVar 13) (eVar 10)) (eVar 9) (eVar 13)) [13])))))
    (sSeq (sSet 11 (eLstA aNil))
    (sSeq (sFor (iRng1D (aCons (eVar 2) aNil)) (.nm 12) (sIf (bBin oEq (eBin oIx (eVar 4) (eVar 12)) (eVar 12)) (sExpr (eLm mAppend (eVar 11) (aCons (eCb (pure1 gTuple) (aCons (eLc (iRng1D (aCons (eVar 2) aNil)) (.nm 14) (bBin oEq (eBin oIx (eVar 4) (eVar 14)) (eVar 12)) (eVar 14) [14]) aNil)) aNil))) sNext))
    (sRet (eCb (pure1 gTuple) (aCons (eVar 11) aNil))))))))
noncomputable def f_groups : List D → Sto → R D := runF 15 b_groups
noncomputable def b_group_of : SF :=
  (sSeq (sFor (iSeqD (eVar 0)) (.nm 2) (sIf (bBin oIn (eVar 1) (eVar 2)) (sRet (eVar 2)) sNext))
    (sRet (eTup aNil)))
noncomputable def f_group_of : List D → Sto → R D := runF 3 b_group_of
noncomputable def b_first_apart : SF :=
  (sSeq (sSet 3 (eCall 2 f_groups (aCons (eVar 0) (aCons (eVar 2) aNil))))
    (sSeq (sFor (iEnumD (aCons (eVar 1) aNil)) (.tp [(.nm 4), (.tp [(.nm 5), (.nm 6)])]) (sIf (bBin oNotIn (eVar 6) (eCall 2 f_group_of (aCons (eVar 3) (aCons (eVar 5) aNil)))) (sRet (eVar 4)) sNext))
    (sRet (eC .non))))
noncomputable def f_first_apart : List D → Sto → R D := runF 7 b_first_apart
noncomputable def b_joins : SF :=
  (sRet (eBin oIsN (eCall 3 f_first_apart (aCons (eVar 0) (aCons (eVar 1) (aCons (eVar 2) aNil)))) (eC .non)))
noncomputable def f_joins : List D → Sto → R D := runF 3 b_joins
noncomputable def b_law_group : SF :=
  (sSeq (sSet 3 (eLstA (aCons (eVar 2) aNil)))
    (sSeq (sFor (iRng1D (aCons (eBin oIx (eVar 0) (eC (.int 0))) aNil)) (.nm 4) (sFor (iSeqD (eVar 1)) (.nm 5) (sSeq (sAsg (.tp [(.nm 6), (.nm 7), (.nm 8)]) (eBin oIx (eBin oIx (eVar 0) (eC (.int 1))) (eVar 5)))
    (sSeq (sIf (bAnd (bBin oIn (eVar 6) (eVar 3)) (bBin oNotIn (eVar 7) (eVar 3))) (sExpr (eLm mAppend (eVar 3) (aCons (eVar 7) aNil))) sNext)
    (sIf (bAnd (bBin oIn (eVar 7) (eVar 3)) (bBin oNotIn (eVar 6) (eVar 3))) (sExpr (eLm mAppend (eVar 3) (aCons (eVar 6) aNil))) sNext)))))
    (sRet (eCb (pure1 gTuple) (aCons (eCb (oSort false) (aCons (eVar 3) aNil)) aNil)))))
noncomputable def f_law_group : List D → Sto → R D := runF 9 b_law_group
noncomputable def b_law_joins : SF :=
  (sRet (eBin oEq (eCb (pure1 gLen) (aCons (eLc (iSeqD (eVar 1)) (.nm 3) (bBin oNotIn (eBin oIx (eVar 3) (eC (.int 1))) (eCall 3 f_law_group (aCons (eVar 0) (aCons (eVar 2) (aCons (eBin oIx (eVar 3) (eC (.int 0))) aNil))))) (eVar 3) [3]) aNil)) (eC (.int 0))))
noncomputable def f_law_joins : List D → Sto → R D := runF 4 b_law_joins
noncomputable def b_law_same (F : List D → Sto → R D) : SF :=
  (sSeq (sIf (bVal (eIsi "tuple" (eVar 1))) (sSeq (sIf (bOr (bNot (bVal (eIsi "tuple" (eVar 0)))) (bBin oNe (eCb (pure1 gLen) (aCons (eVar 0) aNil)) (eCb (pure1 gLen) (aCons (eVar 1) aNil)))) (sRet (eC (.bl false))) sNext)
    (sRet (eBin oEq (eCb (pure1 gLen) (aCons (eLc (iRng1D (aCons (eCb (pure1 gLen) (aCons (eVar 1) aNil)) aNil)) (.nm 2) (bNot (bVal (eCall 2 F (aCons (eBin oIx (eVar 0) (eVar 2)) (aCons (eBin oIx (eVar 1) (eVar 2)) aNil))))) (eVar 2) [2]) aNil)) (eC (.int 0))))) sNext)
    (sSeq (sIf (bBin oIsN (eVar 1) (eC .non)) (sRet (eBin oIsN (eVar 0) (eC .non))) sNext)
    (sSeq (sIf (bVal (eIsi "str" (eVar 1))) (sRet (eAnd (eIsi "str" (eVar 0)) (eBin oEq (eVar 0) (eVar 1)))) sNext)
    (sRet (eAnd (eIsi "int" (eVar 0)) (eAnd (eNot (eIsi "bool" (eVar 0))) (eBin oEq (eVar 0) (eVar 1))))))))
noncomputable def f_law_sameN : Nat → List D → Sto → R D
  | 0 => runF 3 sNo
  | k + 1 => runF 3 (b_law_same (f_law_sameN k))
noncomputable def f_law_same : List D → Sto → R D := f_law_sameN 7
noncomputable def b_law_spare : SF :=
  (sSeq (sFor (iSeqD (eVar 2)) (.nm 3) (sIf (bVal (eCall 3 f_law_joins (aCons (eVar 0) (aCons (eVar 1) (aCons (eLc (iSeqD (eVar 2)) (.nm 4) (bBin oNe (eVar 4) (eVar 3)) (eVar 4) [4]) aNil))))) (sRet (eVar 3)) sNext))
    (sRet (eC .non)))
noncomputable def f_law_spare : List D → Sto → R D := runF 5 b_law_spare
noncomputable def b_spare : SF :=
  (sSeq (sFor (iSeqD (eVar 2)) (.nm 3) (sIf (bVal (eCall 3 f_joins (aCons (eVar 0) (aCons (eVar 1) (aCons (eLc (iSeqD (eVar 2)) (.nm 4) (bBin oNe (eVar 4) (eVar 3)) (eVar 4) [4]) aNil))))) (sRet (eVar 3)) sNext))
    (sRet (eC .non)))
noncomputable def f_spare : List D → Sto → R D := runF 5 b_spare
noncomputable def b_law : SF :=
  (sSeq (sSet 1 (eCall 1 f_law_pool (aCons (eVar 0) aNil)))
    (sSeq (sSet 2 (eCall 3 f_law_net (aCons (eVar 1) (aCons (eCall 2 f_law_pick (aCons (eVar 1) (aCons (eLst (aCons (eC (.int 10)) (aCons (eC (.int 12)) aNil))) aNil))) (aCons (eCall 2 f_law_pick (aCons (eVar 1) (aCons (eLst (aCons (eC (.int 18)) (aCons (eC (.int 24)) aNil))) aNil))) aNil)))))
    (sSeq (sFor (iRng1D (aCons (eC (.int 4)) aNil)) (.nm 3) (sSeq (sSet 4 (eCall 3 f_law_pairs (aCons (eVar 1) (aCons (eBin oIx (eVar 2) (eC (.int 0))) (aCons (eC (.int 6)) aNil)))))
    (sSeq (sSet 5 (eCall 2 f_law_choice (aCons (eVar 1) (aCons (eVar 2) aNil))))
    (sSeq (sSet 6 (eCall 3 f_joins (aCons (eVar 2) (aCons (eVar 4) (aCons (eVar 5) aNil)))))
    (sSeq (sIf (bOr (bNot (bVal (eIsi "bool" (eVar 6)))) (bBin oNe (eVar 6) (eCall 3 f_law_joins (aCons (eVar 2) (aCons (eVar 4) (aCons (eVar 5) aNil)))))) (sRet (eC (.bl false))) sNext)
    (sIf (bAnd (bVal (eVar 6)) (bNot (bVal (eCall 2 f_law_same (aCons (eCall 3 f_spare (aCons (eVar 2) (aCons (eVar 4) (aCons (eVar 5) aNil)))) (aCons (eCall 3 f_law_spare (aCons (eVar 2) (aCons (eVar 4) (aCons (eVar 5) aNil)))) aNil)))))) (sRet (eC (.bl false))) sNext))))))
    (sRet (eC (.bl true))))))
noncomputable def f_law : List D → Sto → R D := runF 7 b_law
def topS (i : Nat) : Stmt := PySem.Challenge.pw_moatways_k01_pairs_that_are_joined.main.body.getD i (.Pass ⟨0, 0, 0, 0⟩)
abbrev s_groups : Stmt := topS 1
abbrev N_groups : List Str := ["net", "choice", "places", "ways", "mark", "index", "a", "b", "_", "low", "high", "found", "first", "one", "place"]
theorem sc_groups : FnScope N_groups ["net", "choice"] (defScope s_groups) := ⟨rfl, rfl, rfl, by decide +kernel, rfl, by decide +kernel, by decide +kernel⟩
abbrev s_group_of : Stmt := topS 2
abbrev N_group_of : List Str := ["parts", "place", "part"]
theorem sc_group_of : FnScope N_group_of ["parts", "place"] (defScope s_group_of) := ⟨rfl, rfl, rfl, by decide +kernel, rfl, by decide +kernel, by decide +kernel⟩
abbrev s_first_apart : Stmt := topS 3
abbrev N_first_apart : List Str := ["net", "pairs", "choice", "parts", "index", "a", "b"]
theorem sc_first_apart : FnScope N_first_apart ["net", "pairs", "choice"] (defScope s_first_apart) := ⟨rfl, rfl, rfl, by decide +kernel, rfl, by decide +kernel, by decide +kernel⟩
abbrev s_joins : Stmt := topS 4
abbrev N_joins : List Str := ["net", "pairs", "choice"]
theorem sc_joins : FnScope N_joins ["net", "pairs", "choice"] (defScope s_joins) := ⟨rfl, rfl, rfl, by decide +kernel, rfl, by decide +kernel, by decide +kernel⟩
abbrev s_spare : Stmt := topS 5
abbrev N_spare : List Str := ["net", "pairs", "choice", "way", "index"]
theorem sc_spare : FnScope N_spare ["net", "pairs", "choice"] (defScope s_spare) := ⟨rfl, rfl, rfl, by decide +kernel, rfl, by decide +kernel, by decide +kernel⟩
abbrev s_law_pool : Stmt := topS 7
abbrev N_law_pool : List Str := ["_law_script"]
theorem sc_law_pool : FnScope N_law_pool ["_law_script"] (defScope s_law_pool) := ⟨rfl, rfl, rfl, by decide +kernel, rfl, by decide +kernel, by decide +kernel⟩
abbrev s_law_draw : Stmt := topS 8
abbrev N_law_draw : List Str := ["_law_pool_here", "_law_many", "_law_found", "_law_cell", "_law_mixed"]
theorem sc_law_draw : FnScope N_law_draw ["_law_pool_here", "_law_many"] (defScope s_law_draw) := ⟨rfl, rfl, rfl, by decide +kernel, rfl, by decide +kernel, by decide +kernel⟩
abbrev s_law_pick : Stmt := topS 9
abbrev N_law_pick : List Str := ["_law_pool_here", "_law_rows"]
theorem sc_law_pick : FnScope N_law_pick ["_law_pool_here", "_law_rows"] (defScope s_law_pick) := ⟨rfl, rfl, rfl, by decide +kernel, rfl, by decide +kernel, by decide +kernel⟩
abbrev s_law_same : Stmt := topS 10
abbrev N_law_same : List Str := ["_law_actual", "_law_due", "_law_k"]
theorem sc_law_same : FnScope N_law_same ["_law_actual", "_law_due"] (defScope s_law_same) := ⟨rfl, rfl, rfl, by decide +kernel, rfl, by decide +kernel, by decide +kernel⟩
abbrev s_law_cost : Stmt := topS 11
abbrev N_law_cost : List Str := ["_law_pool_here", "_law_pick_here"]
theorem sc_law_cost : FnScope N_law_cost ["_law_pool_here"] (defScope s_law_cost) := ⟨rfl, rfl, rfl, by decide +kernel, rfl, by decide +kernel, by decide +kernel⟩
abbrev s_law_way : Stmt := topS 12
abbrev N_law_way : List Str := ["_law_pool_here", "_law_places", "_law_a"]
theorem sc_law_way : FnScope N_law_way ["_law_pool_here", "_law_places"] (defScope s_law_way) := ⟨rfl, rfl, rfl, by decide +kernel, rfl, by decide +kernel, by decide +kernel⟩
abbrev s_law_net : Stmt := topS 13
abbrev N_law_net : List Str := ["_law_pool_here", "_law_most", "_law_ways", "_law_places", "_law_found", "_law_place", "_law_k"]
theorem sc_law_net : FnScope N_law_net ["_law_pool_here", "_law_most", "_law_ways"] (defScope s_law_net) := ⟨rfl, rfl, rfl, by decide +kernel, rfl, by decide +kernel, by decide +kernel⟩
abbrev s_law_pairs : Stmt := topS 14
abbrev N_law_pairs : List Str := ["_law_pool_here", "_law_places", "_law_most", "_law_found", "_law_k", "_law_a", "_law_pair"]
theorem sc_law_pairs : FnScope N_law_pairs ["_law_pool_here", "_law_places", "_law_most"] (defScope s_law_pairs) := ⟨rfl, rfl, rfl, by decide +kernel, rfl, by decide +kernel, by decide +kernel⟩
abbrev s_law_group : Stmt := topS 15
abbrev N_law_group : List Str := ["_law_net_here", "_law_choice_here", "_law_place", "_law_found", "_law_turn", "_law_index", "_law_a", "_law_b", "_law_cost_here"]
theorem sc_law_group : FnScope N_law_group ["_law_net_here", "_law_choice_here", "_law_place"] (defScope s_law_group) := ⟨rfl, rfl, rfl, by decide +kernel, rfl, by decide +kernel, by decide +kernel⟩
abbrev s_law_joins : Stmt := topS 16
abbrev N_law_joins : List Str := ["_law_net_here", "_law_pairs_here", "_law_choice_here", "_law_pair"]
theorem sc_law_joins : FnScope N_law_joins ["_law_net_here", "_law_pairs_here", "_law_choice_here"] (defScope s_law_joins) := ⟨rfl, rfl, rfl, by decide +kernel, rfl, by decide +kernel, by decide +kernel⟩
abbrev s_law_choice : Stmt := topS 17
abbrev N_law_choice : List Str := ["_law_pool_here", "_law_net_here", "_law_some", "_law_k"]
theorem sc_law_choice : FnScope N_law_choice ["_law_pool_here", "_law_net_here"] (defScope s_law_choice) := ⟨rfl, rfl, rfl, by decide +kernel, rfl, by decide +kernel, by decide +kernel⟩
abbrev s_law_spare : Stmt := topS 18
abbrev N_law_spare : List Str := ["_law_net_here", "_law_pairs_here", "_law_choice_here", "_law_way_here", "_law_other"]
theorem sc_law_spare : FnScope N_law_spare ["_law_net_here", "_law_pairs_here", "_law_choice_here"] (defScope s_law_spare) := ⟨rfl, rfl, rfl, by decide +kernel, rfl, by decide +kernel, by decide +kernel⟩
abbrev s_law : Stmt := topS 19
abbrev N_law : List Str := ["_law_script", "_law_pool_here", "_law_net_here", "_law_turn", "_law_pairs_here", "_law_choice_here", "_law_found"]
theorem sc_law : FnScope N_law ["_law_script"] (defScope s_law) := ⟨rfl, rfl, rfl, by decide +kernel, rfl, by decide +kernel, by decide +kernel⟩
structure Txt (K : PySem.W.Frag) (mg : Str → Option Value) : Prop where
  z_abs : mg "abs" = none
  z_bool : mg "bool" = none
  z_enumerate : mg "enumerate" = none
  z_int : mg "int" = none
  z_isinstance : mg "isinstance" = none
  z_len : mg "len" = none
  z_list : mg "list" = none
  z_min : mg "min" = none
  z_range : mg "range" = none
  z_sorted : mg "sorted" = none
  z_str : mg "str" = none
  z_tuple : mg "tuple" = none
section
variable {P : Program} {w : World} {K : PySem.W.Frag} {mg : Str → Option Value} {base : Heap}
theorem ok_law_pool {f : Addr} {fd : FuncData} (F : Fun K "_law_pool" "_law_pool" s_law_pool f fd) (T : Txt K mg)  : FnOk P w K mg base CX0 1 f fd ["_law_script"] (spOf K 1 f_law_pool) :=
  fun_ok0 F sc_law_pool fun X W cdv A outer s H E hr hX => by
    subst hX
    exact (S_one (S_ret (E_lstA (A_cons (E_list false T.z_list (A_cons (E_var 0) A_nil)) (A_cons E_int (A_cons E_int (A_cons E_int (A_cons E_int A_nil))))))))
theorem ok_law_draw {f : Addr} {fd : FuncData} (F : Fun K "_law_draw" "_law_draw" s_law_draw f fd) (T : Txt K mg)  : FnOk P w K mg base CX0 1 f fd ["_law_pool_here", "_law_many"] (spOf K 2 f_law_draw) :=
  fun_ok0 F sc_law_draw fun X W cdv A outer s H E hr hX => by
    subst hX
    exact (S_cons (S_if (T_cmp op_gt opS_intB (E_ix (E_var 0) E_int) E_int (nomark _)) (S_cons (S_set 2 sc_law_draw.nd (E_mod (E_intc T.z_int (A_cons (E_ix (E_var 0) E_int) A_nil)) (E_var 1)))
      (S_cons (S_sub (E_div (E_ix (E_var 0) E_int) (E_var 1)) (E_var 0) E_int)
      (S_one (S_ret (E_var 2))))) S_nil)
      (S_cons (S_if (T_and (T_cmp (op_eqA ⟨rfl, hr, sc_law_draw.nd⟩) opS_eq (E_mod (E_intc T.z_int (A_cons (E_ix (E_var 0) E_int) A_nil)) E_int) E_int (nomark _)) (T_and1 (T_cmp op_lt opS_intB (E_ix (E_var 0) E_int) (E_len T.z_len (A_cons (E_ix (E_var 0) E_int) A_nil)) (nomark _)))).pt (S_cons (S_set 3 sc_law_draw.nd (E_abs T.z_abs (A_cons (E_ix (E_ix (E_var 0) E_int) (E_ix (E_var 0) E_int)) A_nil)))
      (S_cons (S_sub (E_add (E_ix (E_var 0) E_int) E_int) (E_var 0) E_int)
      (S_cons (S_if (T_cmp op_ge opS_intB (E_var 3) (E_pow E_int E_int) (nomark _)) (S_cons (S_sub (E_div (E_var 3) (E_var 1)) (E_var 0) E_int)
      (S_one (S_ret (E_mod (E_intc T.z_int (A_cons (E_var 3) A_nil)) (E_var 1))))) S_nil)
      (S_one (S_sub (E_var 3) (E_var 0) E_int))))) S_nil)
      (S_cons (S_sub (E_add (E_ix (E_var 0) E_int) E_int) (E_var 0) E_int)
      (S_cons (S_set 4 sc_law_draw.nd (E_mod (E_intc T.z_int (A_cons (E_add (E_add (E_mul (E_ix (E_var 0) E_int) E_int) (E_mul (E_ix (E_var 0) E_int) E_int)) E_int) A_nil)) E_int))
      (S_cons (S_set 4 sc_law_draw.nd (E_mod (E_intc T.z_int (A_cons (E_add (E_mul (E_var 4) (E_var 4)) (E_mul (E_ix (E_var 0) E_int) E_int)) A_nil)) E_int))
      (S_one (S_ret (E_mod (E_intc T.z_int (A_cons (E_var 4) A_nil)) (E_var 1)))))))))
theorem ok_law_cost {f : Addr} {fd : FuncData} (F : Fun K "_law_cost" "_law_cost" s_law_cost f fd) (T : Txt K mg) (c_law_draw : Cal P w K mg base CX0 1 "_law_draw" 2 f_law_draw) : FnOk P w K mg base CX0 2 f fd ["_law_pool_here"] (spOf K 1 f_law_cost) :=
  fun_ok0 F sc_law_cost fun X W cdv A outer s H E hr hX => by
    subst hX
    exact (S_cons (S_set 1 sc_law_cost.nd (E_call c_law_draw hr (fun σ => pass0S σ) (A_cons (E_var 0) (A_cons E_int A_nil))))
      (S_cons (S_if (T_cmp (op_eqA ⟨rfl, hr, sc_law_cost.nd⟩) opS_eq (E_var 1) E_int (nomark _)) (S_one (S_ret (E_add E_int (E_call c_law_draw hr (fun σ => pass0S σ) (A_cons (E_var 0) (A_cons E_int A_nil)))))) S_nil)
      (S_cons (S_if (T_cmp op_lt opS_intB (E_var 1) E_int (nomark _)) (S_one (S_ret (E_ix (E_lst (A_cons E_int (A_cons E_int (A_cons E_int (A_cons E_int (A_cons E_int A_nil)))))) (E_call c_law_draw hr (fun σ => pass0S σ) (A_cons (E_var 0) (A_cons E_int A_nil)))))) S_nil)
      (S_one (S_ret (E_add E_int (E_call c_law_draw hr (fun σ => pass0S σ) (A_cons (E_var 0) (A_cons E_int A_nil)))))))))
theorem ok_law_way {f : Addr} {fd : FuncData} (F : Fun K "_law_way" "_law_way" s_law_way f fd) (T : Txt K mg) (c_law_draw : Cal P w K mg base CX0 1 "_law_draw" 2 f_law_draw) (c_law_cost : Cal P w K mg base CX0 2 "_law_cost" 1 f_law_cost) : FnOk P w K mg base CX0 3 f fd ["_law_pool_here", "_law_places"] (spOf K 2 f_law_way) :=
  fun_ok0 F sc_law_way fun X W cdv A outer s H E hr hX => by
    subst hX
    exact (S_cons (S_set 2 sc_law_way.nd (E_call c_law_draw hr (fun σ => pass0S σ) (A_cons (E_var 0) (A_cons (E_sub (E_var 1) E_int) A_nil))))
      (S_one (S_ret (E_tup (A_cons (E_var 2) (A_cons (E_add (E_add (E_var 2) E_int) (E_call c_law_draw hr (fun σ => pass0S σ) (A_cons (E_var 0) (A_cons (E_sub (E_sub (E_var 1) E_int) (E_var 2)) A_nil)))) (A_cons (E_call c_law_cost hr (fun σ => pass0S σ) (A_cons (E_var 0) A_nil)) A_nil)))))))
theorem ok_law_net {f : Addr} {fd : FuncData} (F : Fun K "_law_net" "_law_net" s_law_net f fd) (T : Txt K mg) (c_law_draw : Cal P w K mg base CX0 1 "_law_draw" 2 f_law_draw) (c_law_cost : Cal P w K mg base CX0 2 "_law_cost" 1 f_law_cost) (c_law_way : Cal P w K mg base CX0 3 "_law_way" 2 f_law_way) : FnOk P w K mg base CX0 4 f fd ["_law_pool_here", "_law_most", "_law_ways"] (spOf K 3 f_law_net) :=
  fun_ok0 F sc_law_net fun X W cdv A outer s H E hr hX => by
    subst hX
    exact (S_cons (S_set 3 sc_law_net.nd (E_add E_int (E_call c_law_draw hr (fun σ => pass0S σ) (A_cons (E_var 0) (A_cons (E_var 1) A_nil)))))
      (S_cons (S_set 4 sc_law_net.nd (E_lstA A_nil))
      (S_cons (S_if (T_and (T_cmp op_gt opS_intB (E_var 3) E_int (nomark _)) (T_and1 (T_cmp op_gt opS_intB (E_call c_law_draw hr (fun σ => pass0S σ) (A_cons (E_var 0) (A_cons E_int A_nil))) E_int (nomark _)))).pt (S_one (S_for PassesOwn.never rfl (I_rng2 T.z_range (A_cons E_int (A_cons (E_var 3) A_nil))) (G_nm 5 sc_law_net.nd) (S_one (S_expr (E_append (E_var 4) (A_cons (E_tup (A_cons (E_call c_law_draw hr (fun σ => pass0S σ) (A_cons (E_var 0) (A_cons (E_var 5) A_nil))) (A_cons (E_var 5) (A_cons (E_call c_law_cost hr (fun σ => pass0S σ) (A_cons (E_var 0) A_nil)) A_nil)))) A_nil)))))) S_nil)
      (S_cons (S_if (T_cmp op_gt opS_intB (E_var 3) E_int (nomark _)) (S_one (S_for PassesOwn.never rfl (I_rng1 T.z_range (A_cons (E_call c_law_draw hr (fun σ => pass0S σ) (A_cons (E_var 0) (A_cons (E_sub (E_add (E_var 2) E_int) (E_min rfl T.z_min (A_cons (E_var 2) (A_cons (E_len T.z_len (A_cons (E_var 4) A_nil)) A_nil)))) A_nil))) A_nil)) (G_nm 6 sc_law_net.nd) (S_one (S_expr (E_insert (E_var 4) (A_cons (E_call c_law_draw hr (fun σ => pass0S σ) (A_cons (E_var 0) (A_cons (E_add (E_len T.z_len (A_cons (E_var 4) A_nil)) E_int) A_nil))) (A_cons (E_call c_law_way hr (fun σ => pass0S σ) (A_cons (E_var 0) (A_cons (E_var 3) A_nil))) A_nil))))))) S_nil)
      (S_one (S_ret (E_tup (A_cons (E_var 3) (A_cons (E_tuple T.z_tuple (A_cons (E_slice false (E_var 4) P_none (P_some (E_var 2))) A_nil)) A_nil)))))))))
theorem ok_law_pick {f : Addr} {fd : FuncData} (F : Fun K "_law_pick" "_law_pick" s_law_pick f fd) (T : Txt K mg) (c_law_draw : Cal P w K mg base CX0 1 "_law_draw" 2 f_law_draw) : FnOk P w K mg base CX0 2 f fd ["_law_pool_here", "_law_rows"] (spOf K 2 f_law_pick) :=
  fun_ok0 F sc_law_pick fun X W cdv A outer s H E hr hX => by
    subst hX
    exact (S_one (S_ret (E_ix (E_var 1) (E_call c_law_draw hr (fun σ => pass0S σ) (A_cons (E_var 0) (A_cons (E_len T.z_len (A_cons (E_var 1) A_nil)) A_nil))))))
theorem ok_law_pairs {f : Addr} {fd : FuncData} (F : Fun K "_law_pairs" "_law_pairs" s_law_pairs f fd) (T : Txt K mg) (c_law_draw : Cal P w K mg base CX0 1 "_law_draw" 2 f_law_draw) : FnOk P w K mg base CX0 2 f fd ["_law_pool_here", "_law_places", "_law_most"] (spOf K 3 f_law_pairs) :=
  fun_ok0 F sc_law_pairs fun X W cdv A outer s H E hr hX => by
    subst hX
    exact (S_cons (S_set 3 sc_law_pairs.nd (E_lstA A_nil))
      (S_cons (S_for PassesOwn.never rfl (I_rng1 T.z_range (A_cons (E_call c_law_draw hr (fun σ => pass0S σ) (A_cons (E_var 0) (A_cons (E_add (E_var 2) E_int) A_nil))) A_nil)) (G_nm 4 sc_law_pairs.nd) (S_one (S_if (T_cmp op_gt opS_intB (E_var 1) E_int (nomark _)) (S_cons (S_set 5 sc_law_pairs.nd (E_call c_law_draw hr (fun σ => pass0S σ) (A_cons (E_var 0) (A_cons (E_sub (E_var 1) E_int) A_nil))))
      (S_cons (S_set 6 sc_law_pairs.nd (E_tup (A_cons (E_var 5) (A_cons (E_add (E_add (E_var 5) E_int) (E_call c_law_draw hr (fun σ => pass0S σ) (A_cons (E_var 0) (A_cons (E_sub (E_sub (E_var 1) E_int) (E_var 5)) A_nil)))) A_nil))))
      (S_one (S_if (T_cmp (op_notInA ⟨rfl, hr, sc_law_pairs.nd⟩) opS_notIn (E_var 6) (E_var 3) rfl) (S_one (S_expr (E_append (E_var 3) (A_cons (E_var 6) A_nil)))) S_nil)))) S_nil)))
      (S_one (S_ret (E_tuple T.z_tuple (A_cons (E_var 3) A_nil))))))
theorem ok_law_choice {f : Addr} {fd : FuncData} (F : Fun K "_law_choice" "_law_choice" s_law_choice f fd) (T : Txt K mg) (c_law_draw : Cal P w K mg base CX0 1 "_law_draw" 2 f_law_draw) : FnOk P w K mg base CX0 2 f fd ["_law_pool_here", "_law_net_here"] (spOf K 2 f_law_choice) :=
  fun_ok0 F sc_law_choice fun X W cdv A outer s H E hr hX => by
    subst hX
    exact (S_cons (S_set 2 sc_law_choice.nd (E_add E_int (E_call c_law_draw hr (fun σ => pass0S σ) (A_cons (E_var 0) (A_cons E_int A_nil)))))
      (S_one (S_ret (E_tuple T.z_tuple (A_cons (E_lc rfl sc_law_choice.nd (I_rng1 T.z_range (A_cons (E_len T.z_len (A_cons (E_ix (E_var 1) E_int) A_nil)) A_nil)) (blkOk_by (N := N_law_choice) (sc := (defScope s_law_choice)) (own := [(("_law_k" : Str), 3)]) (by decide +kernel)) (fun _ _ _ _ _ => (G_nm 3 sc_law_choice.nd)) (fun _ _ _ _ _ => (C_one (T_cmp op_lt opS_intB (E_call c_law_draw hr (fun σ => pass0S σ) (A_cons (E_var 0) (A_cons E_int A_nil))) (E_var 2) (nomark _)))) (fun _ _ _ _ _ => (E_var 3))) A_nil)))))
theorem ok_groups {f : Addr} {fd : FuncData} (F : Fun K "groups" "groups" s_groups f fd) (T : Txt K mg)  : FnOk P w K mg base CX0 1 f fd ["net", "choice"] (spOf K 2 f_groups) :=
  fun_ok0 F sc_groups fun X W cdv A outer s H E hr hX => by
    subst hX
    exact (S_cons (S_asg (E_var 0) (G_tp rfl (Gs_cons (G_nm 2 sc_groups.nd) (Gs_cons (G_nm 3 sc_groups.nd) Gs_nil))))
      (S_cons (S_set 4 sc_groups.nd (E_lr1 false rfl T.z_list T.z_range (E_var 2)))
      (S_cons (S_for PassesOwn.never rfl (I_seq (E_var 1)) (G_nm 5 sc_groups.nd) (S_cons (S_asg (E_ix (E_var 3) (E_var 5)) (G_tp rfl (Gs_cons (G_nm 6 sc_groups.nd) (Gs_cons (G_nm 7 sc_groups.nd) (Gs_cons (G_nm 8 sc_groups.nd) Gs_nil)))))
      (S_cons (S_asg (E_sorted false T.z_sorted (A_cons (E_lst (A_cons (E_ix (E_var 4) (E_var 6)) (A_cons (E_ix (E_var 4) (E_var 7)) A_nil))) A_nil)) (G_ls rfl (Gs_cons (G_nm 9 sc_groups.nd) (Gs_cons (G_nm 10 sc_groups.nd) Gs_nil))))
      (S_one (S_set 4 sc_groups.nd (E_lc rfl sc_groups.nd (I_seq (E_var 4)) (blkOk_by (N := N_groups) (sc := (defScope s_groups)) (own := [(("one" : Str), 13)]) (by decide +kernel)) (fun _ _ _ _ _ => (G_nm 13 sc_groups.nd)) (fun _ _ _ _ _ => C_nil) (fun _ _ _ _ _ => (E_ifx (T_cmp (op_eqA ⟨rfl, hr, sc_groups.nd⟩) opS_eq (E_var 13) (E_var 10) (nomark _)) (E_var 9) (E_var 13)))))))))
      (S_cons (S_set 11 sc_groups.nd (E_lstA A_nil))
      (S_cons (S_for PassesOwn.never rfl (I_rng1 T.z_range (A_cons (E_var 2) A_nil)) (G_nm 12 sc_groups.nd) (S_one (S_if (T_cmp (op_eqA ⟨rfl, hr, sc_groups.nd⟩) opS_eq (E_ix (E_var 4) (E_var 12)) (E_var 12) (nomark _)) (S_one (S_expr (E_append (E_var 11) (A_cons (E_tuple T.z_tuple (A_cons (E_lc rfl sc_groups.nd (I_rng1 T.z_range (A_cons (E_var 2) A_nil)) (blkOk_by (N := N_groups) (sc := (defScope s_groups)) (own := [(("place" : Str), 14)]) (by decide +kernel)) (fun _ _ _ _ _ => (G_nm 14 sc_groups.nd)) (fun _ _ _ _ _ => (C_one (T_cmp (op_eqA ⟨rfl, hr, sc_groups.nd⟩) opS_eq (E_ix (E_var 4) (E_var 14)) (E_var 12) (nomark _)))) (fun _ _ _ _ _ => (E_var 14))) A_nil)) A_nil)))) S_nil)))
      (S_one (S_ret (E_tuple T.z_tuple (A_cons (E_var 11) A_nil)))))))))
theorem ok_group_of {f : Addr} {fd : FuncData} (F : Fun K "group_of" "group_of" s_group_of f fd) (T : Txt K mg)  : FnOk P w K mg base CX0 1 f fd ["parts", "place"] (spOf K 2 f_group_of) :=
  fun_ok0 F sc_group_of fun X W cdv A outer s H E hr hX => by
    subst hX
    exact (S_cons (S_for PassesOwn.never rfl (I_seq (E_var 0)) (G_nm 2 sc_group_of.nd) (S_one (S_if (T_cmp (op_inA ⟨rfl, hr, sc_group_of.nd⟩) opS_in (E_var 1) (E_var 2) rfl) (S_one (S_ret (E_var 2))) S_nil)))
      (S_one (S_ret (E_tup A_nil))))
theorem ok_first_apart {f : Addr} {fd : FuncData} (F : Fun K "first_apart" "first_apart" s_first_apart f fd) (T : Txt K mg) (c_groups : Cal P w K mg base CX0 1 "groups" 2 f_groups) (c_group_of : Cal P w K mg base CX0 1 "group_of" 2 f_group_of) : FnOk P w K mg base CX0 2 f fd ["net", "pairs", "choice"] (spOf K 3 f_first_apart) :=
  fun_ok0 F sc_first_apart fun X W cdv A outer s H E hr hX => by
    subst hX
    exact (S_cons (S_set 3 sc_first_apart.nd (E_call c_groups hr (fun σ => pass0S σ) (A_cons (E_var 0) (A_cons (E_var 2) A_nil))))
      (S_cons (S_for PassesOwn.never rfl (I_enum T.z_enumerate (A_cons (E_var 1) A_nil)) (G_tp rfl (Gs_cons (G_nm 4 sc_first_apart.nd) (Gs_cons (G_tp rfl (Gs_cons (G_nm 5 sc_first_apart.nd) (Gs_cons (G_nm 6 sc_first_apart.nd) Gs_nil))) Gs_nil))) (S_one (S_if (T_cmp (op_notInA ⟨rfl, hr, sc_first_apart.nd⟩) opS_notIn (E_var 6) (E_call c_group_of hr (fun σ => pass0S σ) (A_cons (E_var 3) (A_cons (E_var 5) A_nil))) rfl) (S_one (S_ret (E_var 4))) S_nil)))
      (S_one (S_ret E_non))))
theorem ok_joins {f : Addr} {fd : FuncData} (F : Fun K "joins" "joins" s_joins f fd) (T : Txt K mg) (c_first_apart : Cal P w K mg base CX0 2 "first_apart" 3 f_first_apart) : FnOk P w K mg base CX0 3 f fd ["net", "pairs", "choice"] (spOf K 3 f_joins) :=
  fun_ok0 F sc_joins fun X W cdv A outer s H E hr hX => by
    subst hX
    exact (S_one (S_ret (E_cmp op_isN opS_isN (E_call c_first_apart hr (fun σ => pass0S σ) (A_cons (E_var 0) (A_cons (E_var 1) (A_cons (E_var 2) A_nil)))) E_non (nomark _))))
theorem ok_law_group {f : Addr} {fd : FuncData} (F : Fun K "_law_group" "_law_group" s_law_group f fd) (T : Txt K mg)  : FnOk P w K mg base CX0 1 f fd ["_law_net_here", "_law_choice_here", "_law_place"] (spOf K 3 f_law_group) :=
  fun_ok0 F sc_law_group fun X W cdv A outer s H E hr hX => by
    subst hX
    exact (S_cons (S_set 3 sc_law_group.nd (E_lstA (A_cons (E_var 2) A_nil)))
      (S_cons (S_for PassesOwn.never rfl (I_rng1 T.z_range (A_cons (E_ix (E_var 0) E_int) A_nil)) (G_nm 4 sc_law_group.nd) (S_one (S_for PassesOwn.never rfl (I_seq (E_var 1)) (G_nm 5 sc_law_group.nd) (S_cons (S_asg (E_ix (E_ix (E_var 0) E_int) (E_var 5)) (G_tp rfl (Gs_cons (G_nm 6 sc_law_group.nd) (Gs_cons (G_nm 7 sc_law_group.nd) (Gs_cons (G_nm 8 sc_law_group.nd) Gs_nil)))))
      (S_cons (S_if (T_and (T_cmp (op_inA ⟨rfl, hr, sc_law_group.nd⟩) opS_in (E_var 6) (E_var 3) rfl) (T_and1 (T_cmp (op_notInA ⟨rfl, hr, sc_law_group.nd⟩) opS_notIn (E_var 7) (E_var 3) rfl))).pt (S_one (S_expr (E_append (E_var 3) (A_cons (E_var 7) A_nil)))) S_nil)
      (S_one (S_if (T_and (T_cmp (op_inA ⟨rfl, hr, sc_law_group.nd⟩) opS_in (E_var 7) (E_var 3) rfl) (T_and1 (T_cmp (op_notInA ⟨rfl, hr, sc_law_group.nd⟩) opS_notIn (E_var 6) (E_var 3) rfl))).pt (S_one (S_expr (E_append (E_var 3) (A_cons (E_var 6) A_nil)))) S_nil)))))))
      (S_one (S_ret (E_tuple T.z_tuple (A_cons (E_sorted false T.z_sorted (A_cons (E_var 3) A_nil)) A_nil))))))
theorem ok_law_joins {f : Addr} {fd : FuncData} (F : Fun K "_law_joins" "_law_joins" s_law_joins f fd) (T : Txt K mg) (c_law_group : Cal P w K mg base CX0 1 "_law_group" 3 f_law_group) : FnOk P w K mg base CX0 2 f fd ["_law_net_here", "_law_pairs_here", "_law_choice_here"] (spOf K 3 f_law_joins) :=
  fun_ok0 F sc_law_joins fun X W cdv A outer s H E hr hX => by
    subst hX
    exact (S_one (S_ret (E_cmp (op_eqA ⟨rfl, hr, sc_law_joins.nd⟩) opS_eq (E_len T.z_len (A_cons (E_lc rfl sc_law_joins.nd (I_seq (E_var 1)) (blkOk_by (N := N_law_joins) (sc := (defScope s_law_joins)) (own := [(("_law_pair" : Str), 3)]) (by decide +kernel)) (fun _ _ _ _ _ => (G_nm 3 sc_law_joins.nd)) (fun _ _ _ _ _ => (C_one (T_cmp (op_notInA ⟨rfl, hr, sc_law_joins.nd⟩) opS_notIn (E_ix (E_var 3) E_int) (E_call c_law_group hr (fun σ => pass0S σ) (A_cons (E_var 0) (A_cons (E_var 2) (A_cons (E_ix (E_var 3) E_int) A_nil)))) rfl))) (fun _ _ _ _ _ => (E_var 3))) A_nil)) E_int (nomark _))))
theorem ok_law_sameN {f : Addr} {fd : FuncData} (F : Fun K "_law_same" "_law_same" s_law_same f fd) (T : Txt K mg) (hm : mg "_law_same" = some (.ref f)) (hb : Binds K fd ["_law_actual", "_law_due"] [])  : ∀ k : Nat, FnOk P w K mg base CX0 (0 + k + 1) f fd ["_law_actual", "_law_due"] (spOf K 2 (f_law_sameN k))
  | 0 => fun_ok0 F sc_law_same fun X W cdv A outer s H E hr hX => by
    subst hX
    exact PSs.weak pss_never fun D σ H h => let ⟨_, _, _, _, _, p⟩ := h; p.elim
  | k + 1 => fun_ok0 F sc_law_same fun X W cdv A outer s H E hr hX => by
    have c_law_same : Cal P w K mg base CX0 (0 + k + 1) "_law_same" 2 (f_law_sameN k) := ⟨f, fd, ["_law_actual", "_law_due"], ok_law_sameN F T hm hb  k, hm, F.kp, hb⟩
    subst hX
    exact (S_cons (S_if (T_val (E_isi T.z_isinstance T.z_tuple (E_var 1))) (S_cons (S_if (T_or (T_not (T_val (E_isi T.z_isinstance T.z_tuple (E_var 0)))) (T_or1 (T_cmp (op_neA ⟨rfl, hr, sc_law_same.nd⟩) opS_ne (E_len T.z_len (A_cons (E_var 0) A_nil)) (E_len T.z_len (A_cons (E_var 1) A_nil)) (nomark _)))).pt (S_one (S_ret E_bl)) S_nil)
      (S_one (S_ret (E_cmp (op_eqA ⟨rfl, hr, sc_law_same.nd⟩) opS_eq (E_len T.z_len (A_cons (E_lc rfl sc_law_same.nd (I_rng1 T.z_range (A_cons (E_len T.z_len (A_cons (E_var 1) A_nil)) A_nil)) (blkOk_by (N := N_law_same) (sc := (defScope s_law_same)) (own := [(("_law_k" : Str), 2)]) (by decide +kernel)) (fun _ _ _ _ _ => (G_nm 2 sc_law_same.nd)) (fun _ _ _ _ _ => (C_one (T_not (T_val (E_call c_law_same hr (fun σ => pass0S σ) (A_cons (E_ix (E_var 0) (E_var 2)) (A_cons (E_ix (E_var 1) (E_var 2)) A_nil))))))) (fun _ _ _ _ _ => (E_var 2))) A_nil)) E_int (nomark _))))) S_nil)
      (S_cons (S_if (T_cmp op_isN opS_isN (E_var 1) E_non (nomark _)) (S_one (S_ret (E_cmp op_isN opS_isN (E_var 0) E_non (nomark _)))) S_nil)
      (S_cons (S_if (T_val (E_isi T.z_isinstance T.z_str (E_var 1))) (S_one (S_ret (E_andV (E_isi T.z_isinstance T.z_str (E_var 0)) (E_one (E_cmp (op_eqA ⟨rfl, hr, sc_law_same.nd⟩) opS_eq (E_var 0) (E_var 1) (nomark _)))))) S_nil)
      (S_one (S_ret (E_andV (E_isi T.z_isinstance T.z_int (E_var 0)) (E_andV (E_notV (E_isi T.z_isinstance T.z_bool (E_var 0))) (E_one (E_cmp (op_eqA ⟨rfl, hr, sc_law_same.nd⟩) opS_eq (E_var 0) (E_var 1) (nomark _))))))))))
theorem ok_law_same {f : Addr} {fd : FuncData} (F : Fun K "_law_same" "_law_same" s_law_same f fd) (T : Txt K mg) (hm : mg "_law_same" = some (.ref f)) (hb : Binds K fd ["_law_actual", "_law_due"] [])  : FnOk P w K mg base CX0 8 f fd ["_law_actual", "_law_due"] (spOf K 2 f_law_same) := ok_law_sameN F T hm hb  7
theorem ok_law_spare {f : Addr} {fd : FuncData} (F : Fun K "_law_spare" "_law_spare" s_law_spare f fd) (T : Txt K mg) (c_law_joins : Cal P w K mg base CX0 2 "_law_joins" 3 f_law_joins) : FnOk P w K mg base CX0 3 f fd ["_law_net_here", "_law_pairs_here", "_law_choice_here"] (spOf K 3 f_law_spare) :=
  fun_ok0 F sc_law_spare fun X W cdv A outer s H E hr hX => by
    subst hX
    exact (S_cons (S_for PassesOwn.never rfl (I_seq (E_var 2)) (G_nm 3 sc_law_spare.nd) (S_one (S_if (T_val (E_call c_law_joins hr (fun σ => pass0S σ) (A_cons (E_var 0) (A_cons (E_var 1) (A_cons (E_lc rfl sc_law_spare.nd (I_seq (E_var 2)) (blkOk_by (N := N_law_spare) (sc := (defScope s_law_spare)) (own := [(("_law_other" : Str), 4)]) (by decide +kernel)) (fun _ _ _ _ _ => (G_nm 4 sc_law_spare.nd)) (fun _ _ _ _ _ => (C_one (T_cmp (op_neA ⟨rfl, hr, sc_law_spare.nd⟩) opS_ne (E_var 4) (E_var 3) (nomark _)))) (fun _ _ _ _ _ => (E_var 4))) A_nil))))) (S_one (S_ret (E_var 3))) S_nil)))
      (S_one (S_ret E_non)))
theorem ok_spare {f : Addr} {fd : FuncData} (F : Fun K "spare" "spare" s_spare f fd) (T : Txt K mg) (c_joins : Cal P w K mg base CX0 3 "joins" 3 f_joins) : FnOk P w K mg base CX0 4 f fd ["net", "pairs", "choice"] (spOf K 3 f_spare) :=
  fun_ok0 F sc_spare fun X W cdv A outer s H E hr hX => by
    subst hX
    exact (S_cons (S_for PassesOwn.never rfl (I_seq (E_var 2)) (G_nm 3 sc_spare.nd) (S_one (S_if (T_val (E_call c_joins hr (fun σ => pass0S σ) (A_cons (E_var 0) (A_cons (E_var 1) (A_cons (E_lc rfl sc_spare.nd (I_seq (E_var 2)) (blkOk_by (N := N_spare) (sc := (defScope s_spare)) (own := [(("index" : Str), 4)]) (by decide +kernel)) (fun _ _ _ _ _ => (G_nm 4 sc_spare.nd)) (fun _ _ _ _ _ => (C_one (T_cmp (op_neA ⟨rfl, hr, sc_spare.nd⟩) opS_ne (E_var 4) (E_var 3) (nomark _)))) (fun _ _ _ _ _ => (E_var 4))) A_nil))))) (S_one (S_ret (E_var 3))) S_nil)))
      (S_one (S_ret E_non)))
theorem ok_law {f : Addr} {fd : FuncData} (F : Fun K "law" "law" s_law f fd) (T : Txt K mg) (c_law_pool : Cal P w K mg base CX0 1 "_law_pool" 1 f_law_pool) (c_law_net : Cal P w K mg base CX0 4 "_law_net" 3 f_law_net) (c_law_pick : Cal P w K mg base CX0 2 "_law_pick" 2 f_law_pick) (c_law_pairs : Cal P w K mg base CX0 2 "_law_pairs" 3 f_law_pairs) (c_law_choice : Cal P w K mg base CX0 2 "_law_choice" 2 f_law_choice) (c_joins : Cal P w K mg base CX0 3 "joins" 3 f_joins) (c_law_joins : Cal P w K mg base CX0 2 "_law_joins" 3 f_law_joins) (c_law_same : Cal P w K mg base CX0 8 "_law_same" 2 f_law_same) (c_law_spare : Cal P w K mg base CX0 3 "_law_spare" 3 f_law_spare) (c_spare : Cal P w K mg base CX0 4 "spare" 3 f_spare) : FnOk P w K mg base CX0 9 f fd ["_law_script"] (spOf K 1 f_law) :=
  fun_ok0 F sc_law fun X W cdv A outer s H E hr hX => by
    subst hX
    exact (S_cons (S_set 1 sc_law.nd (E_call c_law_pool hr (fun σ => pass0S σ) (A_cons (E_var 0) A_nil)))
      (S_cons (S_set 2 sc_law.nd (E_call c_law_net hr (fun σ => pass0S σ) (A_cons (E_var 1) (A_cons (E_call c_law_pick hr (fun σ => pass0S σ) (A_cons (E_var 1) (A_cons (E_lst (A_cons E_int (A_cons E_int A_nil))) A_nil))) (A_cons (E_call c_law_pick hr (fun σ => pass0S σ) (A_cons (E_var 1) (A_cons (E_lst (A_cons E_int (A_cons E_int A_nil))) A_nil))) A_nil)))))
      (S_cons (S_for PassesOwn.never rfl (I_rng1 T.z_range (A_cons E_int A_nil)) (G_nm 3 sc_law.nd) (S_cons (S_set 4 sc_law.nd (E_call c_law_pairs hr (fun σ => pass0S σ) (A_cons (E_var 1) (A_cons (E_ix (E_var 2) E_int) (A_cons E_int A_nil)))))
      (S_cons (S_set 5 sc_law.nd (E_call c_law_choice hr (fun σ => pass0S σ) (A_cons (E_var 1) (A_cons (E_var 2) A_nil))))
      (S_cons (S_set 6 sc_law.nd (E_call c_joins hr (fun σ => pass0S σ) (A_cons (E_var 2) (A_cons (E_var 4) (A_cons (E_var 5) A_nil)))))
      (S_cons (S_if (T_or (T_not (T_val (E_isi T.z_isinstance T.z_bool (E_var 6)))) (T_or1 (T_cmp (op_neA ⟨rfl, hr, sc_law.nd⟩) opS_ne (E_var 6) (E_call c_law_joins hr (fun σ => pass0S σ) (A_cons (E_var 2) (A_cons (E_var 4) (A_cons (E_var 5) A_nil)))) (nomark _)))).pt (S_one (S_ret E_bl)) S_nil)
      (S_one (S_if (T_and (T_val (E_var 6)) (T_and1 (T_not (T_val (E_call c_law_same hr (fun σ => pass0S σ) (A_cons (E_call c_spare hr (fun σ => pass0S σ) (A_cons (E_var 2) (A_cons (E_var 4) (A_cons (E_var 5) A_nil)))) (A_cons (E_call c_law_spare hr (fun σ => pass0S σ) (A_cons (E_var 2) (A_cons (E_var 4) (A_cons (E_var 5) A_nil)))) A_nil))))))).pt (S_one (S_ret E_bl)) S_nil)))))))
      (S_one (S_ret E_bl)))))
end
end Ev

namespace Ev
open PySem PySem.Spec PyProof.Rows L2
structure Pool where
  s : List Int
  pos : Int
  acc : Int
  cell : Int
  cnt : Int
def poolC (P : Pool) : Cel := .lst [.lst (P.s.map D.int), .int P.pos, .int P.acc, .int P.cell, .int P.cnt]
theorem okC_pool (n : Nat) (P : Pool) : okC n (poolC P) = true := by simp only [poolC, okC, okDs, okD, okDs_ints, Bool.and_self]
def mix (y c : Int) : Int := ((y * 48271 + c * 69621 + 7919) % 2147483647 * ((y * 48271 + c * 69621 + 7919) % 2147483647) + c * 40692) % 2147483399
theorem draw_spec {S : Sto} {p : Nat} {P : Pool} {n : Int} (hS : S[p]? = some (poolC P)) (h0 : 0 ≤ P.pos) (hn : 0 < n) (hn2 : n < 1073741824) :
    ∃ r P', 0 ≤ r ∧ r < n ∧ 0 ≤ P'.pos ∧ f_law_draw [.loc p, .int n] S = .ok (.int r) (S.set p (poolC P')) := by
  have hp : p < S.length := (List.getElem?_eq_some_iff.mp hS).1
  have sg : ∀ (c : Cel), (S.set p c)[p]? = some c := fun c => set_get hp
  have cd : ∀ x : Int, CDiv x n := fun x => ⟨hn, hn2⟩
  have pw : ∀ S : Sto, oPow (.int 10) (.int 18) S = some (.int 1000000000000000000) := fun S => oPow_int (by decide)
  have cm1 : ∀ x : Int, CMul x 48271 := fun x => Or.inr (by decide)
  have cm2 : ∀ x : Int, CMul x 69621 := fun x => Or.inr (by decide)
  have cm3 : ∀ x : Int, CMul x 40692 := fun x => Or.inr (by decide)
  have cm4 : ∀ x : Int, CMul (x % 2147483647) (x % 2147483647) := fun x => Or.inl (by omega)
  have m1 : (0 : Int) < 2147483647 := by decide
  have m2 : (0 : Int) < 2147483399 := by decide
  have m3 : (0 : Int) < 8 := by decide
  unfold f_law_draw runF
  by_cases hc : 0 < P.acc
  · refine ⟨P.acc % n, { P with acc := P.acc / n }, Int.emod_nonneg _ (by omega), Int.emod_lt_of_pos _ hn, h0, ?_⟩
    unfold poolC at hS
    simp only [eVar, eC, eBin, bBin, bVal, bAnd, bOr, bNot, eAnd, eOr, eNot, eIf, eNeg, eOrT, liftO_some, liftB_bl, liftG_some, liftP_some, R.bind, R.nox_ok, sB, aNil, aCons, sSeq, sSet, sIf, sRet, sRetN, sNext, sExpr, sAsg, sSub, sBrk, sCnt, eCb, pure1, eIsi, bYes, pNone, pSome, List.getElem?_cons_zero, List.getElem?_cons_succ, List.set_cons_zero, List.set_cons_succ, Option.map_some, Option.bind_some, List.map_cons, List.map_nil, List.length_cons, List.length_nil, List.nil_append, List.cons_append, List.replicate_succ, List.replicate_zero, Nat.reduceSub, Nat.reduceAdd, Nat.add_eq, Nat.zero_add, if_true, if_false, reduceIte, Bool.false_eq_true, Bool.not_true, Bool.not_false, Tg.asg, asgs, tupOf, decide_true, decide_false, ite_true, ite_false, oAdd_int, oSub_int, oLt_int, oLe_int, oGt_int, oGe_int, oEq_int, oNe_int, oEq_str, atI_0, atI_1, atI_2, atI_3, atI_4, ixN51, ixN52, ixN53, ixN54, gInt, gAbs, gMin, gMax, oIx_tup, oIx_lst, oIx_con, seqOf_tup, seqOf_lst, List.length_set, b_law_draw, oIx_loc hS, oMod_int hn, oDiv_int (cd _), hS, hc]
    exact gc_put rfl (okC_pool _ { P with acc := P.acc / n })
  · unfold poolC at hS
    by_cases h8 : P.cnt % 8 = 0 ∧ P.pos < (P.s.length : Int)
    · obtain ⟨x, hx⟩ : ∃ x, P.s[P.pos.toNat]? = some x := ⟨_, List.getElem?_eq_getElem (by omega)⟩
      have hix : atI (P.s.map D.int) P.pos = some (.int x) := by
        have := atI_nat (xs := P.s.map D.int) (j := P.pos.toNat) (v := .int x) (by rw [List.getElem?_map, hx]; rfl)
        rwa [Int.toNat_of_nonneg h0] at this
      generalize hy : (if x < 0 then -x else x) = y
      by_cases hb : (1000000000000000000 : Int) ≤ y
      · refine ⟨y % n, { P with pos := P.pos + 1, acc := y / n }, Int.emod_nonneg _ (by omega), Int.emod_lt_of_pos _ hn, by show 0 ≤ P.pos + 1; omega, ?_⟩
        simp only [eVar, eC, eBin, bBin, bVal, bAnd, bOr, bNot, eAnd, eOr, eNot, eIf, eNeg, eOrT, liftO_some, liftB_bl, liftG_some, liftP_some, R.bind, R.nox_ok, sB, aNil, aCons, sSeq, sSet, sIf, sRet, sRetN, sNext, sExpr, sAsg, sSub, sBrk, sCnt, eCb, pure1, eIsi, bYes, pNone, pSome, List.getElem?_cons_zero, List.getElem?_cons_succ, List.set_cons_zero, List.set_cons_succ, Option.map_some, Option.bind_some, List.map_cons, List.map_nil, List.length_cons, List.length_nil, List.nil_append, List.cons_append, List.replicate_succ, List.replicate_zero, Nat.reduceSub, Nat.reduceAdd, Nat.add_eq, Nat.zero_add, if_true, if_false, reduceIte, Bool.false_eq_true, Bool.not_true, Bool.not_false, Tg.asg, asgs, tupOf, decide_true, decide_false, ite_true, ite_false, oAdd_int, oSub_int, oLt_int, oLe_int, oGt_int, oGe_int, oEq_int, oNe_int, oEq_str, atI_0, atI_1, atI_2, atI_3, atI_4, ixN51, ixN52, ixN53, ixN54, gInt, gAbs, gMin, gMax, oIx_tup, oIx_lst, oIx_con, seqOf_tup, seqOf_lst, List.length_set, b_law_draw, oIx_loc hS, oMod_int hn, oDiv_int (cd _), hS, hc, h8.1, h8.2, oMod_int m3, gLen_seq seqOf_lst, List.length_map, hix, sg, List.set_set, pw, hb, hy, oIx_loc (sg _)]
        exact gc_put rfl (okC_pool _ { P with pos := P.pos + 1, acc := y / n })
      · refine ⟨mix y (P.cnt + 1) % n, { P with pos := P.pos + 1, cell := y, cnt := P.cnt + 1 }, Int.emod_nonneg _ (by omega), Int.emod_lt_of_pos _ hn, by show 0 ≤ P.pos + 1; omega, ?_⟩
        · simp only [eVar, eC, eBin, bBin, bVal, bAnd, bOr, bNot, eAnd, eOr, eNot, eIf, eNeg, eOrT, liftO_some, liftB_bl, liftG_some, liftP_some, R.bind, R.nox_ok, sB, aNil, aCons, sSeq, sSet, sIf, sRet, sRetN, sNext, sExpr, sAsg, sSub, sBrk, sCnt, eCb, pure1, eIsi, bYes, pNone, pSome, List.getElem?_cons_zero, List.getElem?_cons_succ, List.set_cons_zero, List.set_cons_succ, Option.map_some, Option.bind_some, List.map_cons, List.map_nil, List.length_cons, List.length_nil, List.nil_append, List.cons_append, List.replicate_succ, List.replicate_zero, Nat.reduceSub, Nat.reduceAdd, Nat.add_eq, Nat.zero_add, if_true, if_false, reduceIte, Bool.false_eq_true, Bool.not_true, Bool.not_false, Tg.asg, asgs, tupOf, decide_true, decide_false, ite_true, ite_false, oAdd_int, oSub_int, oLt_int, oLe_int, oGt_int, oGe_int, oEq_int, oNe_int, oEq_str, atI_0, atI_1, atI_2, atI_3, atI_4, ixN51, ixN52, ixN53, ixN54, gInt, gAbs, gMin, gMax, oIx_tup, oIx_lst, oIx_con, seqOf_tup, seqOf_lst, List.length_set, b_law_draw, oIx_loc hS, oMod_int hn, oDiv_int (cd _), hS, hc, h8.1, h8.2, oMod_int m3, gLen_seq seqOf_lst, List.length_map, hix, sg, List.set_set, pw, hb, hy, oIx_loc (sg _), oMul_int (cm1 _), oMul_int (cm2 _), oMul_int (cm3 _), oMul_int (cm4 _), oMod_int m1, oMod_int m2]
          exact gc_put rfl (okC_pool _ { P with pos := P.pos + 1, cell := y, cnt := P.cnt + 1 })
    · have hand : (decide (P.cnt % 8 = 0) && decide (P.pos < (P.s.length : Int))) = false := by simp; omega
      refine ⟨mix P.cell (P.cnt + 1) % n, { P with cnt := P.cnt + 1 }, Int.emod_nonneg _ (by omega), Int.emod_lt_of_pos _ hn, h0, ?_⟩
      · by_cases h9 : P.cnt % 8 = 0
        · have h10 : ¬ P.pos < (P.s.length : Int) := fun z => h8 ⟨h9, z⟩
          simp only [eVar, eC, eBin, bBin, bVal, bAnd, bOr, bNot, eAnd, eOr, eNot, eIf, eNeg, eOrT, liftO_some, liftB_bl, liftG_some, liftP_some, R.bind, R.nox_ok, sB, aNil, aCons, sSeq, sSet, sIf, sRet, sRetN, sNext, sExpr, sAsg, sSub, sBrk, sCnt, eCb, pure1, eIsi, bYes, pNone, pSome, List.getElem?_cons_zero, List.getElem?_cons_succ, List.set_cons_zero, List.set_cons_succ, Option.map_some, Option.bind_some, List.map_cons, List.map_nil, List.length_cons, List.length_nil, List.nil_append, List.cons_append, List.replicate_succ, List.replicate_zero, Nat.reduceSub, Nat.reduceAdd, Nat.add_eq, Nat.zero_add, if_true, if_false, reduceIte, Bool.false_eq_true, Bool.not_true, Bool.not_false, Tg.asg, asgs, tupOf, decide_true, decide_false, ite_true, ite_false, oAdd_int, oSub_int, oLt_int, oLe_int, oGt_int, oGe_int, oEq_int, oNe_int, oEq_str, atI_0, atI_1, atI_2, atI_3, atI_4, ixN51, ixN52, ixN53, ixN54, gInt, gAbs, gMin, gMax, oIx_tup, oIx_lst, oIx_con, seqOf_tup, seqOf_lst, List.length_set, b_law_draw, oIx_loc hS, oMod_int hn, oDiv_int (cd _), hS, hc, h9, h10, oMod_int m3, gLen_seq seqOf_lst, List.length_map, sg, List.set_set, pw, oIx_loc (sg _), oMul_int (cm1 _), oMul_int (cm2 _), oMul_int (cm3 _), oMul_int (cm4 _), oMod_int m1, oMod_int m2]
          exact gc_put rfl (okC_pool _ { P with cnt := P.cnt + 1 })
        · simp only [eVar, eC, eBin, bBin, bVal, bAnd, bOr, bNot, eAnd, eOr, eNot, eIf, eNeg, eOrT, liftO_some, liftB_bl, liftG_some, liftP_some, R.bind, R.nox_ok, sB, aNil, aCons, sSeq, sSet, sIf, sRet, sRetN, sNext, sExpr, sAsg, sSub, sBrk, sCnt, eCb, pure1, eIsi, bYes, pNone, pSome, List.getElem?_cons_zero, List.getElem?_cons_succ, List.set_cons_zero, List.set_cons_succ, Option.map_some, Option.bind_some, List.map_cons, List.map_nil, List.length_cons, List.length_nil, List.nil_append, List.cons_append, List.replicate_succ, List.replicate_zero, Nat.reduceSub, Nat.reduceAdd, Nat.add_eq, Nat.zero_add, if_true, if_false, reduceIte, Bool.false_eq_true, Bool.not_true, Bool.not_false, Tg.asg, asgs, tupOf, decide_true, decide_false, ite_true, ite_false, oAdd_int, oSub_int, oLt_int, oLe_int, oGt_int, oGe_int, oEq_int, oNe_int, oEq_str, atI_0, atI_1, atI_2, atI_3, atI_4, ixN51, ixN52, ixN53, ixN54, gInt, gAbs, gMin, gMax, oIx_tup, oIx_lst, oIx_con, seqOf_tup, seqOf_lst, List.length_set, b_law_draw, oIx_loc hS, oMod_int hn, oDiv_int (cd _), hS, hc, h9, oMod_int m3, gLen_seq seqOf_lst, List.length_map, sg, List.set_set, pw, oIx_loc (sg _), oMul_int (cm1 _), oMul_int (cm2 _), oMul_int (cm3 _), oMul_int (cm4 _), oMod_int m1, oMod_int m2]
          exact gc_put rfl (okC_pool _ { P with cnt := P.cnt + 1 })
end Ev

namespace Ev
open PySem PySem.Spec PyProof.Rows L2
theorem pool_get {S : Sto} {p : Nat} (c : Cel) (h : p < S.length) : (S.set p c)[p]? = some c := set_get h
/-- what a def does that draws: it hands back v, the pool turns -/
def Turn1 (p : Nat) (S : Sto) (r : R D) (v : D) : Prop := ∃ P' : Pool, 0 ≤ P'.pos ∧ r = .ok v (S.set p (poolC P'))
theorem pick_spec {S : Sto} {p : Nat} {P : Pool} {ds : List D} (hS : S[p]? = some (poolC P)) (h0 : 0 ≤ P.pos) (hn : 0 < ds.length) (hn2 : ds.length < 1073741824) (hok : okDs S.length ds = true) :
    ∃ v, v ∈ ds ∧ Turn1 p S (f_law_pick [.loc p, .lst ds] S) v := by
  obtain ⟨r, P1, r0, r1, p1, e1⟩ := draw_spec (n := (ds.length : Int)) hS h0 (by omega) (by omega)
  have hr : r.toNat < ds.length := by omega
  refine ⟨ds[r.toNat], List.getElem_mem hr, P1, p1, ?_⟩
  have hix : atI ds r = some ds[r.toNat] := by
    have := atI_nat (xs := ds) (j := r.toNat) (v := ds[r.toNat]) (List.getElem?_eq_getElem hr)
    rwa [Int.toNat_of_nonneg r0] at this
  have okd : ∀ (ds : List D) (i : Nat) (h : i < ds.length), okDs S.length ds = true → okD S.length ds[i] = true := by
    intro ds
    induction ds with
    | nil => intro i h; simp at h
    | cons d ds ih =>
      intro i h o
      simp only [okDs, Bool.and_eq_true] at o
      cases i with
      | zero => exact o.1
      | succ i => exact ih i (by simpa using h) o.2
  unfold f_law_pick runF
  simp only [eVar, eC, eBin, bBin, bVal, bAnd, bOr, bNot, eAnd, eOr, eNot, eIf, eNeg, eOrT, liftO_some, liftB_bl, liftG_some, liftP_some, R.bind, R.nox_ok, sB, aNil, aCons, sSeq, sSet, sIf, sRet, sRetN, sNext, sExpr, sAsg, sSub, sBrk, sCnt, eCb, pure1, eIsi, bYes, pNone, pSome, List.getElem?_cons_zero, List.getElem?_cons_succ, List.set_cons_zero, List.set_cons_succ, Option.map_some, Option.bind_some, List.map_cons, List.map_nil, List.length_cons, List.length_nil, List.nil_append, List.cons_append, List.replicate_succ, List.replicate_zero, Nat.reduceSub, Nat.reduceAdd, Nat.add_eq, Nat.zero_add, if_true, if_false, reduceIte, Bool.false_eq_true, Bool.not_true, Bool.not_false, Tg.asg, asgs, tupOf, decide_true, decide_false, ite_true, ite_false, oAdd_int, oSub_int, oLt_int, oLe_int, oGt_int, oGe_int, oEq_int, oNe_int, oEq_str, atI_0, atI_1, atI_2, atI_3, atI_4, ixN51, ixN52, ixN53, ixN54, gInt, gAbs, gMin, gMax, oIx_tup, oIx_lst, oIx_con, seqOf_tup, seqOf_lst, List.length_set, b_law_pick, gLen_seq seqOf_lst, eCall, e1, hix]
  exact gc_put (okd ds _ hr hok) (okC_pool _ P1)
theorem cost_spec {S : Sto} {p : Nat} {P : Pool} (hS : S[p]? = some (poolC P)) (h0 : 0 ≤ P.pos) : ∃ c : Nat, 1 ≤ c ∧ c ≤ 10000 ∧ Turn1 p S (f_law_cost [.loc p] S) (.int c) := by
  have hp : p < S.length := (List.getElem?_eq_some_iff.mp hS).1
  obtain ⟨r, P1, r0, r1, p1, e1⟩ := draw_spec (n := 8) hS h0 (by decide) (by decide)
  have hS1 := pool_get (poolC P1) hp
  unfold f_law_cost runF
  by_cases c0 : r = 0
  · obtain ⟨r2, P2, a0, a1, p2, e2⟩ := draw_spec (n := 10000) hS1 p1 (by decide) (by decide)
    refine ⟨(1 + r2).toNat, by omega, by omega, P2, p2, ?_⟩
    rw [Int.toNat_of_nonneg (by omega)]
    simp only [List.set_set] at e2
    simp only [eVar, eC, eBin, bBin, bVal, bAnd, bOr, bNot, eAnd, eOr, eNot, eIf, eNeg, eOrT, liftO_some, liftB_bl, liftG_some, liftP_some, R.bind, R.nox_ok, sB, aNil, aCons, sSeq, sSet, sIf, sRet, sRetN, sNext, sExpr, sAsg, sSub, sBrk, sCnt, eCb, pure1, eIsi, bYes, pNone, pSome, List.getElem?_cons_zero, List.getElem?_cons_succ, List.set_cons_zero, List.set_cons_succ, Option.map_some, Option.bind_some, List.map_cons, List.map_nil, List.length_cons, List.length_nil, List.nil_append, List.cons_append, List.replicate_succ, List.replicate_zero, Nat.reduceSub, Nat.reduceAdd, Nat.add_eq, Nat.zero_add, if_true, if_false, reduceIte, Bool.false_eq_true, Bool.not_true, Bool.not_false, Tg.asg, asgs, tupOf, decide_true, decide_false, ite_true, ite_false, oAdd_int, oSub_int, oLt_int, oLe_int, oGt_int, oGe_int, oEq_int, oNe_int, oEq_str, atI_0, atI_1, atI_2, atI_3, atI_4, ixN51, ixN52, ixN53, ixN54, gInt, gAbs, gMin, gMax, oIx_tup, oIx_lst, oIx_con, seqOf_tup, seqOf_lst, List.length_set, b_law_cost, eCall, e1, c0, e2]
    exact gc_put rfl (okC_pool _ P2)
  · by_cases c4 : r < 4
    · obtain ⟨r2, P2, a0, a1, p2, e2⟩ := draw_spec (n := 5) hS1 p1 (by decide) (by decide)
      simp only [List.set_set] at e2
      have key : ∀ (v : Nat), 1 ≤ v ∧ v ≤ 10000 → atI [D.int 1, .int 2, .int 2, .int 3, .int 4] r2 = some (.int v) → ∃ c : Nat, 1 ≤ c ∧ c ≤ 10000 ∧ Turn1 p S (match b_law_cost (List.map some [D.loc p] ++ List.replicate (2 - [D.loc p].length) none) S with
        | O.rt d S' => gc S d S'
        | O.nx ρ S' => gc S D.non S'
        | O.ex e ρ S' => R.ex e S'
        | x => R.no) (.int c) := by
        intro v hv hix
        refine ⟨v, hv.1, hv.2, P2, p2, ?_⟩
        have sl : (5 : Nat) ≤ sizeLine := sizeLine_ok (by decide)
        simp only [eVar, eC, eBin, bBin, bVal, bAnd, bOr, bNot, eAnd, eOr, eNot, eIf, eNeg, eOrT, liftO_some, liftB_bl, liftG_some, liftP_some, R.bind, R.nox_ok, sB, aNil, aCons, sSeq, sSet, sIf, sRet, sRetN, sNext, sExpr, sAsg, sSub, sBrk, sCnt, eCb, pure1, eIsi, bYes, pNone, pSome, List.getElem?_cons_zero, List.getElem?_cons_succ, List.set_cons_zero, List.set_cons_succ, Option.map_some, Option.bind_some, List.map_cons, List.map_nil, List.length_cons, List.length_nil, List.nil_append, List.cons_append, List.replicate_succ, List.replicate_zero, Nat.reduceSub, Nat.reduceAdd, Nat.add_eq, Nat.zero_add, if_true, if_false, reduceIte, Bool.false_eq_true, Bool.not_true, Bool.not_false, Tg.asg, asgs, tupOf, decide_true, decide_false, ite_true, ite_false, oAdd_int, oSub_int, oLt_int, oLe_int, oGt_int, oGe_int, oEq_int, oNe_int, oEq_str, atI_0, atI_1, atI_2, atI_3, atI_4, ixN51, ixN52, ixN53, ixN54, gInt, gAbs, gMin, gMax, oIx_tup, oIx_lst, oIx_con, seqOf_tup, seqOf_lst, List.length_set, b_law_cost, eCall, e1, c0, c4, e2, eLst, hix, sl]
        exact gc_put rfl (okC_pool _ P2)
      obtain h | h | h | h | h : r2 = 0 ∨ r2 = 1 ∨ r2 = 2 ∨ r2 = 3 ∨ r2 = 4 := by omega
      · exact key 1 (by decide) (by rw [h]; rfl)
      · exact key 2 (by decide) (by rw [h]; rfl)
      · exact key 2 (by decide) (by rw [h]; rfl)
      · exact key 3 (by decide) (by rw [h]; rfl)
      · exact key 4 (by decide) (by rw [h]; rfl)
    · obtain ⟨r2, P2, a0, a1, p2, e2⟩ := draw_spec (n := 12) hS1 p1 (by decide) (by decide)
      refine ⟨(1 + r2).toNat, by omega, by omega, P2, p2, ?_⟩
      rw [Int.toNat_of_nonneg (by omega)]
      simp only [List.set_set] at e2
      simp only [eVar, eC, eBin, bBin, bVal, bAnd, bOr, bNot, eAnd, eOr, eNot, eIf, eNeg, eOrT, liftO_some, liftB_bl, liftG_some, liftP_some, R.bind, R.nox_ok, sB, aNil, aCons, sSeq, sSet, sIf, sRet, sRetN, sNext, sExpr, sAsg, sSub, sBrk, sCnt, eCb, pure1, eIsi, bYes, pNone, pSome, List.getElem?_cons_zero, List.getElem?_cons_succ, List.set_cons_zero, List.set_cons_succ, Option.map_some, Option.bind_some, List.map_cons, List.map_nil, List.length_cons, List.length_nil, List.nil_append, List.cons_append, List.replicate_succ, List.replicate_zero, Nat.reduceSub, Nat.reduceAdd, Nat.add_eq, Nat.zero_add, if_true, if_false, reduceIte, Bool.false_eq_true, Bool.not_true, Bool.not_false, Tg.asg, asgs, tupOf, decide_true, decide_false, ite_true, ite_false, oAdd_int, oSub_int, oLt_int, oLe_int, oGt_int, oGe_int, oEq_int, oNe_int, oEq_str, atI_0, atI_1, atI_2, atI_3, atI_4, ixN51, ixN52, ixN53, ixN54, gInt, gAbs, gMin, gMax, oIx_tup, oIx_lst, oIx_con, seqOf_tup, seqOf_lst, List.length_set, b_law_cost, eCall, e1, c0, c4, e2]
      exact gc_put rfl (okC_pool _ P2)
/-! ### nets -/
structure Way where
  a : Nat
  b : Nat
  c : Nat
def wayD (w : Way) : D := .tup [.int w.a, .int w.b, .int w.c]
def Way.Ok (n : Nat) (w : Way) : Prop := w.a < w.b ∧ w.b < n ∧ 1 ≤ w.c ∧ w.c ≤ 10000
structure Net where
  n : Nat
  ways : List Way
def netD (N : Net) : D := .tup [.int N.n, .tup (N.ways.map wayD)]
structure Net.Ok (most bound : Nat) (N : Net) : Prop where
  n1 : 1 ≤ N.n
  n2 : N.n ≤ most
  len : N.ways.length ≤ bound
  ways : ∀ w ∈ N.ways, w.Ok N.n
theorem way_spec {S : Sto} {p : Nat} {P : Pool} {n : Nat} (hS : S[p]? = some (poolC P)) (h0 : 0 ≤ P.pos) (hn : 2 ≤ n) (hn2 : n ≤ 1000) : ∃ w : Way, w.Ok n ∧ Turn1 p S (f_law_way [.loc p, .int n] S) (wayD w) := by
  have hp : p < S.length := (List.getElem?_eq_some_iff.mp hS).1
  obtain ⟨r, P1, r0, r1, p1, e1⟩ := draw_spec (n := (n : Int) - 1) hS h0 (by omega) (by omega)
  obtain ⟨r2, P2, a0, a1, p2, e2⟩ := draw_spec (n := (n : Int) - 1 - r) (pool_get (poolC P1) hp) p1 (by omega) (by omega)
  simp only [List.set_set] at e2
  obtain ⟨c, c1, c2, P3, p3, e3⟩ := cost_spec (pool_get (poolC P2) hp) p2
  simp only [List.set_set] at e3
  refine ⟨⟨r.toNat, (r + 1 + r2).toNat, c⟩, ⟨by show r.toNat < (r + 1 + r2).toNat; omega, by show (r + 1 + r2).toNat < n; omega, c1, c2⟩, P3, p3, ?_⟩
  unfold f_law_way runF wayD
  rw [Int.toNat_of_nonneg r0, Int.toNat_of_nonneg (by omega)]
  have sl : (3 : Nat) ≤ sizeLine := sizeLine_ok (by decide)
  simp only [eVar, eC, eBin, bBin, bVal, bAnd, bOr, bNot, eAnd, eOr, eNot, eIf, eNeg, eOrT, liftO_some, liftB_bl, liftG_some, liftP_some, R.bind, R.nox_ok, sB, aNil, aCons, sSeq, sSet, sIf, sRet, sRetN, sNext, sExpr, sAsg, sSub, sBrk, sCnt, eCb, pure1, eIsi, bYes, pNone, pSome, List.getElem?_cons_zero, List.getElem?_cons_succ, List.set_cons_zero, List.set_cons_succ, Option.map_some, Option.bind_some, List.map_cons, List.map_nil, List.length_cons, List.length_nil, List.nil_append, List.cons_append, List.replicate_succ, List.replicate_zero, Nat.reduceSub, Nat.reduceAdd, Nat.add_eq, Nat.zero_add, if_true, if_false, reduceIte, Bool.false_eq_true, Bool.not_true, Bool.not_false, Tg.asg, asgs, tupOf, decide_true, decide_false, ite_true, ite_false, oAdd_int, oSub_int, oLt_int, oLe_int, oGt_int, oGe_int, oEq_int, oNe_int, oEq_str, atI_0, atI_1, atI_2, atI_3, atI_4, ixN51, ixN52, ixN53, ixN54, gInt, gAbs, gMin, gMax, oIx_tup, oIx_lst, oIx_con, seqOf_tup, seqOf_lst, List.length_set, b_law_way, eCall, e1, e2, e3, eTup, sl]
  exact gc_put rfl (okC_pool _ P3)
theorem okDs_ways (k : Nat) (ws : List Way) : okDs k (ws.map wayD) = true := by
  induction ws with
  | nil => rfl
  | cons w ws ih => simp only [List.map_cons, okDs, wayD, okD, ih, Bool.and_self]
theorem okD_net (k : Nat) (N : Net) : okD k (netD N) = true := by simp only [netD, okD, okDs, okDs_ways, Bool.and_self]
end Ev

namespace Ev
open PySem PySem.Spec PyProof.Rows L2
theorem draw1 {T : Sto} {P : Pool} {n : Int} (h0 : 0 ≤ P.pos) (hn : 0 < n) (hn2 : n < 1073741824) :
    ∃ r P', 0 ≤ r ∧ r < n ∧ 0 ≤ P'.pos ∧ f_law_draw [.loc 0, .int n] (poolC P :: T) = .ok (.int r) (poolC P' :: T) := by
  obtain ⟨r, P', a, b, c, d⟩ := draw_spec (S := poolC P :: T) (p := 0) rfl h0 hn hn2
  exact ⟨r, P', a, b, c, d⟩
theorem cost1 {T : Sto} {P : Pool} (h0 : 0 ≤ P.pos) : ∃ (c : Nat) (P' : Pool), 1 ≤ c ∧ c ≤ 10000 ∧ 0 ≤ P'.pos ∧ f_law_cost [.loc 0] (poolC P :: T) = .ok (.int c) (poolC P' :: T) := by
  obtain ⟨c, a, b, P', d, e⟩ := cost_spec (S := poolC P :: T) (p := 0) rfl h0
  exact ⟨c, P', a, b, d, e⟩
theorem way1 {T : Sto} {P : Pool} {n : Nat} (h0 : 0 ≤ P.pos) (hn : 2 ≤ n) (hn2 : n ≤ 1000) : ∃ (w : Way) (P' : Pool), w.Ok n ∧ 0 ≤ P'.pos ∧ f_law_way [.loc 0, .int n] (poolC P :: T) = .ok (wayD w) (poolC P' :: T) := by
  obtain ⟨w, a, P', d, e⟩ := way_spec (S := poolC P :: T) (p := 0) rfl h0 hn hn2
  exact ⟨w, P', a, d, e⟩
theorem pick1 {T : Sto} {P : Pool} {ds : List D} (h0 : 0 ≤ P.pos) (hn : 0 < ds.length) (hn2 : ds.length < 1073741824) (hok : okDs (T.length + 1) ds = true) :
    ∃ (v : D) (P' : Pool), v ∈ ds ∧ 0 ≤ P'.pos ∧ f_law_pick [.loc 0, .lst ds] (poolC P :: T) = .ok v (poolC P' :: T) := by
  obtain ⟨v, a, P', d, e⟩ := pick_spec (S := poolC P :: T) (p := 0) rfl h0 hn hn2 (by simpa using hok)
  exact ⟨v, P', a, d, e⟩
def netEnv (most W n : Nat) (x5 x6 : Option D) : En := [some (.loc 0), some (.int most), some (.int W), some (.int n), some (.loc 1), x5, x6]
def NetI (most W n : Nat) (ρ : En) (S : Sto) (fs : List Way) : Prop := ∃ (P : Pool) (x5 x6 : Option D), 0 ≤ P.pos ∧ ρ = netEnv most W n x5 x6 ∧ S = [poolC P, .lst (fs.map wayD)] ∧ ∀ w ∈ fs, w.Ok n
theorem sizeLine_lt {n : Nat} (h : n ≤ 1000) : n < sizeLine := by rw [sizeLine_eq]; omega
theorem loopTree {most W n : Nat} (hn : 2 ≤ n) (hn2 : n ≤ 12) {P : Pool} (h0 : 0 ≤ P.pos) {x5 x6 : Option D} :
    ∃ ρ' S' fs, forGo ⟨rngD 1 (n - 1), none⟩ (.nm 5) (sExpr (eLm mAppend (eVar 4) (aCons (eTup (aCons (eCall 2 f_law_draw (aCons (eVar 0) (aCons (eVar 5) aNil))) (aCons (eVar 5) (aCons (eCall 1 f_law_cost (aCons (eVar 0) aNil)) aNil)))) aNil)))
      (rngD 1 (n - 1)) (netEnv most W n x5 x6) [poolC P, .lst []] = .nx ρ' S' ∧ NetI most W n ρ' S' fs ∧ fs.length = n - 1 := by
  have key := forGo_v (items := rngD 1 (n - 1)) (tg := .nm 5) (b := (sExpr (eLm mAppend (eVar 4) (aCons (eTup (aCons (eCall 2 f_law_draw (aCons (eVar 0) (aCons (eVar 5) aNil))) (aCons (eVar 5) (aCons (eCall 1 f_law_cost (aCons (eVar 0) aNil)) aNil)))) aNil))))
    (fun j ρ S => ∃ fs, NetI most W n ρ S fs ∧ fs.length = j) (ρ := netEnv most W n x5 x6) (S := [poolC P, .lst []]) ⟨[], ⟨P, x5, x6, h0, rfl, rfl, by simp⟩, rfl⟩ (by
    rintro j d ρ S hd ⟨fs, ⟨P, y5, y6, p0, rfl, rfl, hf⟩, hl⟩
    obtain ⟨hj, rfl⟩ := rngD_get hd
    obtain ⟨r, P1, r0, r1, p1, e1⟩ := draw1 (T := [.lst (fs.map wayD)]) (n := 1 + (j : Int)) p0 (by omega) (by omega)
    obtain ⟨c, P2, c1, c2, p2, e2⟩ := cost1 (T := [.lst (fs.map wayD)]) p1
    have sl : (3 : Nat) ≤ sizeLine := sizeLine_ok (by decide)
    have sl2 : (fs.map wayD).length < sizeLine := sizeLine_lt (by simp; omega)
    refine ⟨_, netEnv most W n (some (.int (1 + (j : Int)))) y6, [poolC P2, .lst ((fs ++ [(⟨r.toNat, j + 1, c⟩ : Way)]).map wayD)], rfl, .inl ?_, fs ++ [(⟨r.toNat, j + 1, c⟩ : Way)], ?_, by simp [hl]⟩
    · unfold netEnv
      simp only [eVar, eC, eBin, bBin, bVal, bAnd, bOr, bNot, eAnd, eOr, eNot, eIf, eNeg, eOrT, liftO_some, liftB_bl, liftG_some, liftP_some, R.bind, R.nox_ok, sB, aNil, aCons, sSeq, sSet, sIf, sRet, sRetN, sNext, sExpr, sAsg, sSub, sBrk, sCnt, eCb, pure1, eIsi, bYes, pNone, pSome, List.getElem?_cons_zero, List.getElem?_cons_succ, List.set_cons_zero, List.set_cons_succ, Option.map_some, Option.bind_some, List.map_cons, List.map_nil, List.length_cons, List.length_nil, List.nil_append, List.cons_append, List.replicate_succ, List.replicate_zero, Nat.reduceSub, Nat.reduceAdd, Nat.add_eq, Nat.zero_add, if_true, if_false, reduceIte, Bool.false_eq_true, Bool.not_true, Bool.not_false, Tg.asg, asgs, tupOf, decide_true, decide_false, ite_true, ite_false, oAdd_int, oSub_int, oLt_int, oLe_int, oGt_int, oGe_int, oEq_int, oNe_int, oEq_str, atI_0, atI_1, atI_2, atI_3, atI_4, ixN51, ixN52, ixN53, ixN54, gInt, gAbs, gMin, gMax, oIx_tup, oIx_lst, oIx_con, seqOf_tup, seqOf_lst, List.length_set, eLm, isLst, lstOf, lstX, Option.isSome_some, eCall, e1, e2, eTup, sl, mAppend, sl2]
      simp only [List.map_append, List.map_cons, List.map_nil, wayD]
      rw [Int.toNat_of_nonneg r0, show (1 + (j : Int)) = ((j + 1 : Nat) : Int) by omega]
    · refine ⟨P2, _, _, p2, rfl, rfl, fun w hw => ?_⟩
      rcases List.mem_append.mp hw with z | z
      · exact hf w z
      · have : w = ⟨r.toNat, j + 1, c⟩ := by simpa using z
        subst this
        exact ⟨by show r.toNat < j + 1; omega, by show j + 1 < n; omega, c1, c2⟩)
  obtain ⟨ρ', S', h1, fs, h2, h3⟩ := key
  exact ⟨ρ', S', fs, h1, h2, by simpa using h3⟩

theorem loopMore {most W n k : Nat} (hn : 2 ≤ n) (hn2 : n ≤ 12) {ρ : En} {S : Sto} {fs : List Way} (h : NetI most W n ρ S fs) (hk : fs.length + k ≤ 500) :
    ∃ ρ' S' fs', forGo ⟨rngD 0 k, none⟩ (.nm 6) (sExpr (eLm mInsert (eVar 4) (aCons (eCall 2 f_law_draw (aCons (eVar 0) (aCons (eBin oAdd (eCb (pure1 gLen) (aCons (eVar 4) aNil)) (eC (.int 1))) aNil))) (aCons (eCall 2 f_law_way (aCons (eVar 0) (aCons (eVar 3) aNil))) aNil))))
      (rngD 0 k) ρ S = .nx ρ' S' ∧ NetI most W n ρ' S' fs' ∧ fs'.length = fs.length + k := by
  have key := forGo_v (items := rngD 0 k) (tg := .nm 6) (b := (sExpr (eLm mInsert (eVar 4) (aCons (eCall 2 f_law_draw (aCons (eVar 0) (aCons (eBin oAdd (eCb (pure1 gLen) (aCons (eVar 4) aNil)) (eC (.int 1))) aNil))) (aCons (eCall 2 f_law_way (aCons (eVar 0) (aCons (eVar 3) aNil))) aNil)))))
    (fun j ρ S => ∃ fs', NetI most W n ρ S fs' ∧ fs'.length = fs.length + j ∧ j ≤ k) (ρ := ρ) (S := S) ⟨fs, h, rfl, Nat.zero_le _⟩ (by
    rintro j d ρ S hd ⟨fs, ⟨P, y5, y6, p0, rfl, rfl, hf⟩, hl, hjk⟩
    obtain ⟨hj, rfl⟩ := rngD_get hd
    obtain ⟨r, P1, r0, r1, p1, e1⟩ := draw1 (T := [.lst (fs.map wayD)]) (n := (fs.length : Int) + 1) p0 (by omega) (by omega)
    obtain ⟨wy, P2, c1, p2, e2⟩ := way1 (T := [.lst (fs.map wayD)]) (n := n) p1 hn (by omega)
    have sl2 : (fs.map wayD).length < sizeLine ∧ 0 ≤ r ∧ r < 2 ^ 63 := ⟨sizeLine_lt (by simp; omega), r0, by omega⟩
    refine ⟨_, netEnv most W n y5 (some (.int (0 + (j : Int)))), [poolC P2, .lst ((fs.take r.toNat ++ [wy] ++ fs.drop r.toNat).map wayD)], rfl, .inl ?_, fs.take r.toNat ++ [wy] ++ fs.drop r.toNat, ?_, by simp; omega, hj⟩
    · unfold netEnv
      simp only [eVar, eC, eBin, bBin, bVal, bAnd, bOr, bNot, eAnd, eOr, eNot, eIf, eNeg, eOrT, liftO_some, liftB_bl, liftG_some, liftP_some, R.bind, R.nox_ok, sB, aNil, aCons, sSeq, sSet, sIf, sRet, sRetN, sNext, sExpr, sAsg, sSub, sBrk, sCnt, eCb, pure1, eIsi, bYes, pNone, pSome, List.getElem?_cons_zero, List.getElem?_cons_succ, List.set_cons_zero, List.set_cons_succ, Option.map_some, Option.bind_some, List.map_cons, List.map_nil, List.length_cons, List.length_nil, List.nil_append, List.cons_append, List.replicate_succ, List.replicate_zero, Nat.reduceSub, Nat.reduceAdd, Nat.add_eq, Nat.zero_add, if_true, if_false, reduceIte, Bool.false_eq_true, Bool.not_true, Bool.not_false, Tg.asg, asgs, tupOf, decide_true, decide_false, ite_true, ite_false, oAdd_int, oSub_int, oLt_int, oLe_int, oGt_int, oGe_int, oEq_int, oNe_int, oEq_str, atI_0, atI_1, atI_2, atI_3, atI_4, ixN51, ixN52, ixN53, ixN54, gInt, gAbs, gMin, gMax, oIx_tup, oIx_lst, oIx_con, seqOf_tup, seqOf_lst, List.length_set, eLm, isLst, lstOf, lstX, Option.isSome_some, eCall, gLen_seq (seqOf_loc (S := [poolC P, .lst (fs.map wayD)]) (n := 1) rfl), List.length_map, e1, e2, mInsert]
      rw [List.length_map] at sl2
      rw [if_pos sl2]
      simp only [List.map_append, List.map_cons, List.map_nil, List.map_take, List.map_drop]
      rfl
    · refine ⟨P2, _, _, p2, rfl, rfl, fun w hw => ?_⟩
      rcases List.mem_append.mp hw with z | z
      · rcases List.mem_append.mp z with z | z
        · exact hf w (List.mem_of_mem_take z)
        · have : w = wy := by simpa using z
          subst this
          exact c1
      · exact hf w (List.mem_of_mem_drop z))
  obtain ⟨ρ', S', h1, fs', h2, h3⟩ := key
  exact ⟨ρ', S', fs', h1, h2, by simpa using h3.1⟩

theorem net_fin {most W n : Nat} (n1 : 1 ≤ n) (n2 : n ≤ most) : ∀ (ρ : En) (S : Sto) (fs : List Way), NetI most W n ρ S fs → ∃ (N : Net) (P' : Pool), N.Ok most W ∧ 0 ≤ P'.pos ∧ ∃ T, sRet (eTup (aCons (eVar 3) (aCons (eCb (pure1 gTuple) (aCons (eSl false (eVar 4) pNone (pSome (eVar 2))) aNil)) aNil))) ρ S = .rt (netD N) ([poolC P'] ++ T) := by
  rintro ρ S fs ⟨P, y5, y6, q0, rfl, rfl, hf⟩
  have sl : (2 : Nat) ≤ sizeLine := sizeLine_ok (by decide)
  have hcut : cutD (fs.map wayD) none (some (W : Int)) = (fs.take W).map wayD := by
    unfold cutD
    rw [HT.sIx_none, show HT.sIx (fs.map wayD).length (fs.map wayD).length (some (W : Int)) = min W (fs.map wayD).length from HT.sIx_nat _ _ _, List.drop_zero, Nat.sub_zero, List.map_take]
    exact (List.take_eq_take_min).symm
  refine ⟨⟨n, fs.take W⟩, P, ⟨n1, n2, by simp; omega, fun w hw => hf w (List.mem_of_mem_take hw)⟩, q0, [.lst (fs.map wayD)], ?_⟩
  unfold netEnv
  simp only [eVar, eC, eBin, bBin, bVal, bAnd, bOr, bNot, eAnd, eOr, eNot, eIf, eNeg, eOrT, liftO_some, liftB_bl, liftG_some, liftP_some, R.bind, R.nox_ok, sB, aNil, aCons, sSeq, sSet, sIf, sRet, sRetN, sNext, sExpr, sAsg, sSub, sBrk, sCnt, eCb, pure1, eIsi, bYes, pNone, pSome, List.getElem?_cons_zero, List.getElem?_cons_succ, List.set_cons_zero, List.set_cons_succ, Option.map_some, Option.bind_some, List.map_cons, List.map_nil, List.length_cons, List.length_nil, List.nil_append, List.cons_append, List.replicate_succ, List.replicate_zero, Nat.reduceSub, Nat.reduceAdd, Nat.add_eq, Nat.zero_add, if_true, if_false, reduceIte, Bool.false_eq_true, Bool.not_true, Bool.not_false, Tg.asg, asgs, tupOf, decide_true, decide_false, ite_true, ite_false, oAdd_int, oSub_int, oLt_int, oLe_int, oGt_int, oGe_int, oEq_int, oNe_int, oEq_str, atI_0, atI_1, atI_2, atI_3, atI_4, ixN51, ixN52, ixN53, ixN54, gInt, gAbs, gMin, gMax, oIx_tup, oIx_lst, oIx_con, seqOf_tup, seqOf_lst, List.length_set, eSl, oSl, lstOf, lstX, hcut, gTuple, eTup, sl]
  rfl
theorem net_tail {most W n : Nat} (hm2 : most ≤ 12) (hW : W ≤ 24) (n1 : 1 ≤ n) (n2 : n ≤ most) : ∀ (P : Pool) (x5 x6 : Option D) (fs : List Way), 0 ≤ P.pos → (∀ w ∈ fs, w.Ok n) → fs.length ≤ 12 → (n < 2 → fs = []) →
      ∃ (N : Net) (P' : Pool), N.Ok most W ∧ 0 ≤ P'.pos ∧ ∃ T, (sSeq (sIf (bBin oGt (eVar 3) (eC (.int 1))) (sFor (iRng1D (aCons (eCall 2 f_law_draw (aCons (eVar 0) (aCons (eBin oSub (eBin oAdd (eVar 2) (eC (.int 1))) (eCb (pure1 gMin) (aCons (eVar 2) (aCons (eCb (pure1 gLen) (aCons (eVar 4) aNil)) aNil)))) aNil))) aNil)) (.nm 6) (sExpr (eLm mInsert (eVar 4) (aCons (eCall 2 f_law_draw (aCons (eVar 0) (aCons (eBin oAdd (eCb (pure1 gLen) (aCons (eVar 4) aNil)) (eC (.int 1))) aNil))) (aCons (eCall 2 f_law_way (aCons (eVar 0) (aCons (eVar 3) aNil))) aNil))))) sNext)
    (sRet (eTup (aCons (eVar 3) (aCons (eCb (pure1 gTuple) (aCons (eSl false (eVar 4) pNone (pSome (eVar 2))) aNil)) aNil))))) (netEnv most W n x5 x6) [poolC P, .lst (fs.map wayD)] = .rt (netD N) ([poolC P'] ++ T) := by
  intro P x5 x6 fs p0 hf hl12 hnil
  have fin := net_fin (most := most) (W := W) n1 n2
  by_cases h2 : n < 2
  · have := hnil h2
    subst this
    obtain ⟨N, P', a, b, T, e⟩ := fin _ _ [] ⟨P, x5, x6, p0, rfl, rfl, by simp⟩
    refine ⟨N, P', a, b, T, ?_⟩
    rw [← e]
    have hng : ¬ (1 : Int) < n := by omega
    unfold netEnv
    simp only [eVar, eC, eBin, bBin, bVal, bAnd, bOr, bNot, eAnd, eOr, eNot, eIf, eNeg, eOrT, liftO_some, liftB_bl, liftG_some, liftP_some, R.bind, R.nox_ok, sB, aNil, aCons, sSeq, sSet, sIf, sRet, sRetN, sNext, sExpr, sAsg, sSub, sBrk, sCnt, eCb, pure1, eIsi, bYes, pNone, pSome, List.getElem?_cons_zero, List.getElem?_cons_succ, List.set_cons_zero, List.set_cons_succ, Option.map_some, Option.bind_some, List.map_cons, List.map_nil, List.length_cons, List.length_nil, List.nil_append, List.cons_append, List.replicate_succ, List.replicate_zero, Nat.reduceSub, Nat.reduceAdd, Nat.add_eq, Nat.zero_add, if_true, if_false, reduceIte, Bool.false_eq_true, Bool.not_true, Bool.not_false, Tg.asg, asgs, tupOf, decide_true, decide_false, ite_true, ite_false, oAdd_int, oSub_int, oLt_int, oLe_int, oGt_int, oGe_int, oEq_int, oNe_int, oEq_str, atI_0, atI_1, atI_2, atI_3, atI_4, ixN51, ixN52, ixN53, ixN54, gInt, gAbs, gMin, gMax, oIx_tup, oIx_lst, oIx_con, seqOf_tup, seqOf_lst, List.length_set, hng]
  · have hg : (1 : Int) < n := by omega
    obtain ⟨k, P2, k0, k1, p2, e2⟩ := draw1 (T := [.lst (fs.map wayD)]) (n := (W : Int) + 1 - (if (fs.length : Int) < W then (fs.length : Int) else W)) p0 (by split <;> omega) (by split <;> omega)
    obtain ⟨ρ', S', fs', g1, g2, g3⟩ := loopMore (most := most) (W := W) (k := k.toNat) (by omega) (by omega) ⟨P2, x5, x6, p2, rfl, rfl, hf⟩ (by split at k1 <;> omega)
    obtain ⟨N, P', a, b, T, e⟩ := fin _ _ fs' g2
    refine ⟨N, P', a, b, T, ?_⟩
    rw [← e]
    have hb : big62 k = true := decide_eq_true (by split at k1 <;> omega)
    unfold netEnv at g1 ⊢
    have hlen := gLen_seq (seqOf_loc (S := [poolC P, .lst (fs.map wayD)]) (n := 1) rfl)
    rw [List.length_map] at hlen
    simp only [eVar, eC, eBin, bBin, bVal, bAnd, bOr, bNot, eAnd, eOr, eNot, eIf, eNeg, eOrT, liftO_some, liftB_bl, liftG_some, liftP_some, R.bind, R.nox_ok, sB, aNil, aCons, sSeq, sSet, sIf, sRet, sRetN, sNext, sExpr, sAsg, sSub, sBrk, sCnt, eCb, pure1, eIsi, bYes, pNone, pSome, List.getElem?_cons_zero, List.getElem?_cons_succ, List.set_cons_zero, List.set_cons_succ, Option.map_some, Option.bind_some, List.map_cons, List.map_nil, List.length_cons, List.length_nil, List.nil_append, List.cons_append, List.replicate_succ, List.replicate_zero, Nat.reduceSub, Nat.reduceAdd, Nat.add_eq, Nat.zero_add, if_true, if_false, reduceIte, Bool.false_eq_true, Bool.not_true, Bool.not_false, Tg.asg, asgs, tupOf, decide_true, decide_false, ite_true, ite_false, oAdd_int, oSub_int, oLt_int, oLe_int, oGt_int, oGe_int, oEq_int, oNe_int, oEq_str, atI_0, atI_1, atI_2, atI_3, atI_4, ixN51, ixN52, ixN53, ixN54, gInt, gAbs, gMin, gMax, oIx_tup, oIx_lst, oIx_con, seqOf_tup, seqOf_lst, List.length_set, hg, sFor, iRng1D, eCall, hlen, e2, hb, g1]
end Ev

namespace Ev
open PySem PySem.Spec PyProof.Rows L2
theorem net_gc (P : Pool) (N : Net) (P' : Pool) (T : Sto) : gc [poolC P] (netD N) ([poolC P'] ++ T) = .ok (netD N) [poolC P'] := gc_put_app (S := [poolC P]) (p := 0) (c := poolC P') (T := T) (okD_net _ N) (okC_pool _ P')
theorem net_s1 {most W n : Nat} {P P1 : Pool} {r : Int} (hn : (n : Int) = 1 + r) (e1 : f_law_draw [.loc 0, .int most] [poolC P] = .ok (.int r) [poolC P1]) : (sSet 3 (eBin oAdd (eC (.int 1)) (eCall 2 f_law_draw (aCons (eVar 0) (aCons (eVar 1) aNil))))) [some (.loc 0), some (.int most), some (.int W), none, none, none, none] [poolC P] = .nx [some (.loc 0), some (.int most), some (.int W), some (.int n), none, none, none] [poolC P1] := by
    simp only [eVar, eC, eBin, bBin, bVal, bAnd, bOr, bNot, eAnd, eOr, eNot, eIf, eNeg, eOrT, liftO_some, liftB_bl, liftG_some, liftP_some, R.bind, R.nox_ok, sB, aNil, aCons, sSeq, sSet, sIf, sRet, sRetN, sNext, sExpr, sAsg, sSub, sBrk, sCnt, eCb, pure1, eIsi, bYes, pNone, pSome, List.getElem?_cons_zero, List.getElem?_cons_succ, List.set_cons_zero, List.set_cons_succ, Option.map_some, Option.bind_some, List.map_cons, List.map_nil, List.length_cons, List.length_nil, List.nil_append, List.cons_append, List.replicate_succ, List.replicate_zero, Nat.reduceSub, Nat.reduceAdd, Nat.add_eq, Nat.zero_add, if_true, if_false, reduceIte, Bool.false_eq_true, Bool.not_true, Bool.not_false, Tg.asg, asgs, tupOf, decide_true, decide_false, ite_true, ite_false, oAdd_int, oSub_int, oLt_int, oLe_int, oGt_int, oGe_int, oEq_int, oNe_int, oEq_str, atI_0, atI_1, atI_2, atI_3, atI_4, ixN51, ixN52, ixN53, ixN54, gInt, gAbs, gMin, gMax, oIx_tup, oIx_lst, oIx_con, seqOf_tup, seqOf_lst, List.length_set, eCall, e1]
    rw [hn]
theorem net_s2 {most W n : Nat} {P1 : Pool} : (sSet 4 (eLstA aNil)) [some (.loc 0), some (.int most), some (.int W), some (.int n), none, none, none] [poolC P1] = .nx (netEnv most W n none none) [poolC P1, .lst []] := by
    unfold netEnv
    simp only [eVar, eC, eBin, bBin, bVal, bAnd, bOr, bNot, eAnd, eOr, eNot, eIf, eNeg, eOrT, liftO_some, liftB_bl, liftG_some, liftP_some, R.bind, R.nox_ok, sB, aNil, aCons, sSeq, sSet, sIf, sRet, sRetN, sNext, sExpr, sAsg, sSub, sBrk, sCnt, eCb, pure1, eIsi, bYes, pNone, pSome, List.getElem?_cons_zero, List.getElem?_cons_succ, List.set_cons_zero, List.set_cons_succ, Option.map_some, Option.bind_some, List.map_cons, List.map_nil, List.length_cons, List.length_nil, List.nil_append, List.cons_append, List.replicate_succ, List.replicate_zero, Nat.reduceSub, Nat.reduceAdd, Nat.add_eq, Nat.zero_add, if_true, if_false, reduceIte, Bool.false_eq_true, Bool.not_true, Bool.not_false, Tg.asg, asgs, tupOf, decide_true, decide_false, ite_true, ite_false, oAdd_int, oSub_int, oLt_int, oLe_int, oGt_int, oGe_int, oEq_int, oNe_int, oEq_str, atI_0, atI_1, atI_2, atI_3, atI_4, ixN51, ixN52, ixN53, ixN54, gInt, gAbs, gMin, gMax, oIx_tup, oIx_lst, oIx_con, seqOf_tup, seqOf_lst, List.length_set, eLstA, Nat.zero_le]
theorem net_s3a {most W n : Nat} {P1 : Pool} (hng : ¬ (1 : Int) < n) (g : SF) : (sIf (bAnd (bBin oGt (eVar 3) (eC (.int 1))) (bBin oGt (eCall 2 f_law_draw (aCons (eVar 0) (aCons (eC (.int 5)) aNil))) (eC (.int 0)))) g sNext) (netEnv most W n none none) [poolC P1, .lst []] = .nx (netEnv most W n none none) [poolC P1, .lst []] := by
      unfold netEnv
      simp only [eVar, eC, eBin, bBin, bVal, bAnd, bOr, bNot, eAnd, eOr, eNot, eIf, eNeg, eOrT, liftO_some, liftB_bl, liftG_some, liftP_some, R.bind, R.nox_ok, sB, aNil, aCons, sSeq, sSet, sIf, sRet, sRetN, sNext, sExpr, sAsg, sSub, sBrk, sCnt, eCb, pure1, eIsi, bYes, pNone, pSome, List.getElem?_cons_zero, List.getElem?_cons_succ, List.set_cons_zero, List.set_cons_succ, Option.map_some, Option.bind_some, List.map_cons, List.map_nil, List.length_cons, List.length_nil, List.nil_append, List.cons_append, List.replicate_succ, List.replicate_zero, Nat.reduceSub, Nat.reduceAdd, Nat.add_eq, Nat.zero_add, if_true, if_false, reduceIte, Bool.false_eq_true, Bool.not_true, Bool.not_false, Tg.asg, asgs, tupOf, decide_true, decide_false, ite_true, ite_false, oAdd_int, oSub_int, oLt_int, oLe_int, oGt_int, oGe_int, oEq_int, oNe_int, oEq_str, atI_0, atI_1, atI_2, atI_3, atI_4, ixN51, ixN52, ixN53, ixN54, gInt, gAbs, gMin, gMax, oIx_tup, oIx_lst, oIx_con, seqOf_tup, seqOf_lst, List.length_set, hng]
theorem net_s3b {most W n : Nat} {P1 P2 : Pool} {q : Int} (hg : (1 : Int) < n) (e2 : f_law_draw [.loc 0, .int 5] [poolC P1, .lst []] = .ok (.int q) [poolC P2, .lst []]) (hq : ¬ 0 < q) (g : SF) : (sIf (bAnd (bBin oGt (eVar 3) (eC (.int 1))) (bBin oGt (eCall 2 f_law_draw (aCons (eVar 0) (aCons (eC (.int 5)) aNil))) (eC (.int 0)))) g sNext) (netEnv most W n none none) [poolC P1, .lst []] = .nx (netEnv most W n none none) [poolC P2, .lst []] := by
        unfold netEnv
        simp only [eVar, eC, eBin, bBin, bVal, bAnd, bOr, bNot, eAnd, eOr, eNot, eIf, eNeg, eOrT, liftO_some, liftB_bl, liftG_some, liftP_some, R.bind, R.nox_ok, sB, aNil, aCons, sSeq, sSet, sIf, sRet, sRetN, sNext, sExpr, sAsg, sSub, sBrk, sCnt, eCb, pure1, eIsi, bYes, pNone, pSome, List.getElem?_cons_zero, List.getElem?_cons_succ, List.set_cons_zero, List.set_cons_succ, Option.map_some, Option.bind_some, List.map_cons, List.map_nil, List.length_cons, List.length_nil, List.nil_append, List.cons_append, List.replicate_succ, List.replicate_zero, Nat.reduceSub, Nat.reduceAdd, Nat.add_eq, Nat.zero_add, if_true, if_false, reduceIte, Bool.false_eq_true, Bool.not_true, Bool.not_false, Tg.asg, asgs, tupOf, decide_true, decide_false, ite_true, ite_false, oAdd_int, oSub_int, oLt_int, oLe_int, oGt_int, oGe_int, oEq_int, oNe_int, oEq_str, atI_0, atI_1, atI_2, atI_3, atI_4, ixN51, ixN52, ixN53, ixN54, gInt, gAbs, gMin, gMax, oIx_tup, oIx_lst, oIx_con, seqOf_tup, seqOf_lst, List.length_set, hg, eCall, e2, hq]
theorem net_s3c {most W n : Nat} {P1 P2 P3 : Pool} {x5 x6 : Option D} {fs : List Way} {q : Int} (hg : (1 : Int) < n) (hn2 : n ≤ 12) (e2 : f_law_draw [.loc 0, .int 5] [poolC P1, .lst []] = .ok (.int q) [poolC P2, .lst []]) (hq : 0 < q)
    (g1 : forGo ⟨rngD 1 (n - 1), none⟩ (.nm 5) (sExpr (eLm mAppend (eVar 4) (aCons (eTup (aCons (eCall 2 f_law_draw (aCons (eVar 0) (aCons (eVar 5) aNil))) (aCons (eVar 5) (aCons (eCall 1 f_law_cost (aCons (eVar 0) aNil)) aNil)))) aNil)))
      (rngD 1 (n - 1)) (netEnv most W n none none) [poolC P2, .lst []] = .nx (netEnv most W n x5 x6) [poolC P3, .lst (fs.map wayD)]) :
    (sIf (bAnd (bBin oGt (eVar 3) (eC (.int 1))) (bBin oGt (eCall 2 f_law_draw (aCons (eVar 0) (aCons (eC (.int 5)) aNil))) (eC (.int 0)))) (sFor (iRng2D (aCons (eC (.int 1)) (aCons (eVar 3) aNil))) (.nm 5) (sExpr (eLm mAppend (eVar 4) (aCons (eTup (aCons (eCall 2 f_law_draw (aCons (eVar 0) (aCons (eVar 5) aNil))) (aCons (eVar 5) (aCons (eCall 1 f_law_cost (aCons (eVar 0) aNil)) aNil)))) aNil)))) sNext) (netEnv most W n none none) [poolC P1, .lst []] = .nx (netEnv most W n x5 x6) [poolC P3, .lst (fs.map wayD)] := by
  have hit : ∀ S, iRng2D (aCons (eC (.int 1)) (aCons (eVar 3) aNil)) (netEnv most W n none none) S = .ok ⟨rngD 1 (n - 1), none⟩ S := by
    intro S
    have := iRng2D_ok (fa := (aCons (eC (.int 1)) (aCons (eVar 3) aNil))) (ρ := netEnv most W n none none) (S := S) (S1 := S) (i := 1) (j := n) rfl ⟨by omega, by omega⟩ ⟨by omega, by omega⟩
    rw [this, show ((n : Int) - 1).toNat = n - 1 by omega]
  have hc : (bAnd (bBin oGt (eVar 3) (eC (.int 1))) (bBin oGt (eCall 2 f_law_draw (aCons (eVar 0) (aCons (eC (.int 5)) aNil))) (eC (.int 0)))) (netEnv most W n none none) [poolC P1, .lst []] = .ok true [poolC P2, .lst []] := by
    unfold netEnv
    simp only [eVar, eC, eBin, bBin, bVal, bAnd, bOr, bNot, eAnd, eOr, eNot, eIf, eNeg, eOrT, liftO_some, liftB_bl, liftG_some, liftP_some, R.bind, R.nox_ok, sB, aNil, aCons, sSeq, sSet, sIf, sRet, sRetN, sNext, sExpr, sAsg, sSub, sBrk, sCnt, eCb, pure1, eIsi, bYes, pNone, pSome, List.getElem?_cons_zero, List.getElem?_cons_succ, List.set_cons_zero, List.set_cons_succ, Option.map_some, Option.bind_some, List.map_cons, List.map_nil, List.length_cons, List.length_nil, List.nil_append, List.cons_append, List.replicate_succ, List.replicate_zero, Nat.reduceSub, Nat.reduceAdd, Nat.add_eq, Nat.zero_add, if_true, if_false, reduceIte, Bool.false_eq_true, Bool.not_true, Bool.not_false, Tg.asg, asgs, tupOf, decide_true, decide_false, ite_true, ite_false, oAdd_int, oSub_int, oLt_int, oLe_int, oGt_int, oGe_int, oEq_int, oNe_int, oEq_str, atI_0, atI_1, atI_2, atI_3, atI_4, ixN51, ixN52, ixN53, ixN54, gInt, gAbs, gMin, gMax, oIx_tup, oIx_lst, oIx_con, seqOf_tup, seqOf_lst, List.length_set, hg, eCall, e2, hq]
  rw [sIf_t hc]
  exact sFor_ok (hit _) g1

theorem net_spec {most W : Nat} (hm : 1 ≤ most) (hm2 : most ≤ 12) (hW : W ≤ 24) {P : Pool} (h0 : 0 ≤ P.pos) :
    ∃ (N : Net) (P' : Pool), N.Ok most W ∧ 0 ≤ P'.pos ∧ f_law_net [.loc 0, .int most, .int W] [poolC P] = .ok (netD N) [poolC P'] := by
  obtain ⟨r, P1, r0, r1, p1, e1⟩ := draw1 (T := []) (n := (most : Int)) h0 (by omega) (by omega)
  obtain ⟨n, hn⟩ : ∃ n : Nat, (n : Int) = 1 + r := ⟨(1 + r).toNat, by omega⟩
  have n1 : 1 ≤ n := by omega
  have n2 : n ≤ most := by omega
  have tail := net_tail (most := most) (W := W) hm2 hW n1 n2
  have h : ∃ (N : Net) (P' : Pool), N.Ok most W ∧ 0 ≤ P'.pos ∧ ∃ T, b_law_net [some (.loc 0), some (.int most), some (.int W), none, none, none, none] [poolC P] = .rt (netD N) ([poolC P'] ++ T) := by
    unfold b_law_net
    rw [sSeq_nx (net_s1 hn e1), sSeq_nx net_s2]
    by_cases h2 : n < 2
    · have hng : ¬ (1 : Int) < n := by omega
      rw [sSeq_nx (net_s3a hng _)]
      exact tail P1 none none [] p1 (by simp) (by simp) (fun _ => rfl)
    · have hg : (1 : Int) < n := by omega
      obtain ⟨q, P2, q0, q1, p2, e2⟩ := draw1 (T := [.lst []]) (n := 5) p1 (by omega) (by omega)
      by_cases hq : 0 < q
      · obtain ⟨ρ', S', fs, g1, ⟨P3, x5, x6, p3, hρ, hS, hf⟩, g3⟩ := loopTree (most := most) (W := W) (n := n) (by omega) (by omega) p2 (x5 := none) (x6 := none)
        subst hρ hS
        rw [sSeq_nx (net_s3c hg (by omega) e2 hq g1)]
        exact tail P3 x5 x6 fs p3 hf (by omega) (fun z => absurd z h2)
      · rw [sSeq_nx (net_s3b hg e2 hq _)]
        exact tail P2 none none [] p2 (by simp) (by simp) (fun _ => rfl)
  obtain ⟨N, P', a, b, T, e⟩ := h
  refine ⟨N, P', a, b, ?_⟩
  unfold f_law_net runF
  simp only [List.map_cons, List.map_nil, List.length_cons, List.length_nil, Nat.reduceAdd, Nat.reduceSub, Nat.zero_add, List.replicate_succ, List.replicate_zero, List.cons_append, List.nil_append, e]
  exact net_gc P N P' T
end Ev

namespace Ev
open PySem PySem.Spec PyProof.Rows L2
/-! ### a drawn choice, groups, price -/
def wayAt (N : Net) (k : Nat) : Way := N.ways.getD k ⟨0, 1, 1⟩
def edgeAt (N : Net) (k : Nat) : Edge := ((wayAt N k).a, (wayAt N k).b)
def edges (N : Net) (c : List Nat) : List Edge := c.map (edgeAt N)
def ChOk (N : Net) (c : List Nat) : Prop := c.length ≤ N.ways.length ∧ ∀ k ∈ c, k < N.ways.length
theorem ways_at {N : Net} {k : Nat} (h : k < N.ways.length) : N.ways[k]? = some (wayAt N k) := by
  unfold wayAt
  rw [List.getD_eq_getElem?_getD, List.getElem?_eq_getElem h]
  rfl
theorem wayAt_ok {N : Net} {most W k : Nat} (hN : N.Ok most W) (h : k < N.ways.length) : (wayAt N k).Ok N.n := hN.ways _ (List.mem_of_getElem? (ways_at h))
theorem edges_ok {N : Net} {most W : Nat} {c : List Nat} (hN : N.Ok most W) (hc : ChOk N c) : Eok N.n (edges N c) := by
  intro e he
  obtain ⟨k, hk, rfl⟩ := List.mem_map.mp he
  have := wayAt_ok hN (hc.2 k hk)
  exact ⟨Nat.lt_trans this.1 this.2.1, this.2.1⟩
/-- net[1][k] -/
theorem net_ix {N : Net} {k : Nat} {S : Sto} (h : k < N.ways.length) : oIx (.tup (N.ways.map wayD)) (.int k) S = some (wayD (wayAt N k)) := by
  rw [oIx_tup]
  refine atI_ok ?_
  rw [List.getElem?_map, ways_at h]
  rfl
theorem way_asg {a b c : Nat} {w : Way} {ρ : En} {S : Sto} : (Tg.tp [.nm a, .nm b, .nm c]).asg (wayD w) ρ S = some (((ρ.set a (some (.int w.a))).set b (some (.int w.b))).set c (some (.int w.c))) := by
  simp only [Tg.asg, asgs, tupOf, wayD, List.length_cons, List.length_nil, if_true, Nat.reduceAdd]
theorem take_get {α : Type} {xs : List α} {j : Nat} {x : α} (h : xs[j]? = some x) : xs.take (j + 1) = xs.take j ++ [x] := by
  rw [List.take_succ, h]; rfl
theorem put_stmt {ρ : En} {S : Sto} {F : List Nat} {a b i j : Nat} (hi : ρ[i]? = some (some (.int a))) (hj : ρ[j]? = some (some (.int b))) (h3 : ρ[3]? = some (some (.loc S.length))) (hl : F.length ≤ 1000) :
    (sIf (bAnd (bBin oIn (eVar i) (eVar 3)) (bBin oNotIn (eVar j) (eVar 3))) (sExpr (eLm mAppend (eVar 3) (aCons (eVar j) aNil))) sNext) ρ (S ++ [.lst (natD F)]) = .nx ρ (S ++ [.lst (natD (putF F a b))]) := by
  have hg : (S ++ [Cel.lst (natD F)])[S.length]? = some (.lst (natD F)) := get_app
  have t1 : (bBin oIn (eVar i) (eVar 3)) ρ (S ++ [.lst (natD F)]) = .ok (decide (a ∈ F)) (S ++ [.lst (natD F)]) := bBin_ok (eVar_ok hi) (eVar_ok h3) (oIn_nat (seqOf_loc hg))
  have t2 : (bBin oNotIn (eVar j) (eVar 3)) ρ (S ++ [.lst (natD F)]) = .ok (!decide (b ∈ F)) (S ++ [.lst (natD F)]) := bBin_ok (eVar_ok hj) (eVar_ok h3) (oNotIn_nat (seqOf_loc hg))
  have sl : (natD F).length < sizeLine := sizeLine_lt (by rw [natD_len]; exact hl)
  have t3 : sExpr (eLm mAppend (eVar 3) (aCons (eVar j) aNil)) ρ (S ++ [.lst (natD F)]) = .nx ρ (S ++ [.lst (natD (F ++ [b]))]) := by
    refine sExpr_ok (d := .non) (eLm_ok (eVar_ok h3) (isLst_loc hg) (aCons_ok (eVar_ok hj) aNil_ok) ?_)
    rw [mAppend_ok hg sl, set_app, natD_app]
    rfl
  unfold putF
  by_cases ha : a ∈ F
  · by_cases hb : b ∈ F
    · rw [if_neg (fun q => q.2 hb)]
      refine sIf_f ?_
      unfold bAnd
      simp only [t1, t2, ha, hb, decide_true, R.bind, if_true, Bool.not_true]
    · rw [if_pos ⟨ha, hb⟩, ← t3]
      refine sIf_t ?_
      unfold bAnd
      simp only [t1, t2, ha, hb, decide_true, decide_false, R.bind, if_true, Bool.not_false]
  · rw [if_neg (fun q => ha q.1)]
    refine sIf_f ?_
    unfold bAnd
    simp only [t1, ha, decide_false, R.bind, Bool.false_eq_true, if_false]
/-- a choice, as a tuple or as a list -/
def SeqC (cd : D) (c : List Nat) : Prop := cd = .tup (natD c) ∨ cd = .lst (natD c)
theorem iSeqD_c {cd : D} {c : List Nat} {fe : EF} {ρ : En} {S S1 : Sto} (hcd : SeqC cd c) (h : fe ρ S = .ok cd S1) : iSeqD fe ρ S = .ok ⟨natD c, none⟩ S1 := by
  rcases hcd with rfl | rfl
  · exact iSeqD_tup h
  · exact iSeqD_lst h
def gEnv (N : Net) (cd : D) (p k : Nat) (x4 x5 x6 x7 x8 : Option D) : En := [some (netD N), some cd, some (.int p), some (.loc k), x4, x5, x6, x7, x8]
theorem foldF_length_le {n p : Nat} {E : List Edge} (hE : Eok n E) (hp : p < n) (k : Nat) (G : List Edge) (hG : ∀ e ∈ G, e ∈ E) : (G.foldl stepF (roundsF E [p] k)).length ≤ n := by
  have h0 : FoundI n E p [p] := ⟨by simp, fun x hx => by have : x = p := by simpa using hx
                                                         rw [this]; exact ⟨hp, Con.refl _ _⟩, by simp⟩
  have h := FoundI.fold hE G _ hG (h0.rounds hE k)
  exact found_len h.nd fun x hx => (h.con x hx).1
theorem gInner {N : Net} {most W : Nat} {c : List Nat} {p k : Nat} {S : Sto} {cd : D} (hcd : SeqC cd c) (hm : most ≤ 1000) (hN : N.Ok most W) (hc : ChOk N c) (hp : p < N.n) {x4 x5 x6 x7 x8 : Option D} :
    ∃ y5 y6 y7 y8, sFor (iSeqD (eVar 1)) (.nm 5) (sSeq (sAsg (.tp [(.nm 6), (.nm 7), (.nm 8)]) (eBin oIx (eBin oIx (eVar 0) (eC (.int 1))) (eVar 5)))
      (sSeq (sIf (bAnd (bBin oIn (eVar 6) (eVar 3)) (bBin oNotIn (eVar 7) (eVar 3))) (sExpr (eLm mAppend (eVar 3) (aCons (eVar 7) aNil))) sNext)
      (sIf (bAnd (bBin oIn (eVar 7) (eVar 3)) (bBin oNotIn (eVar 6) (eVar 3))) (sExpr (eLm mAppend (eVar 3) (aCons (eVar 6) aNil))) sNext)))
      (gEnv N cd p S.length x4 x5 x6 x7 x8) (S ++ [.lst (natD (roundsF (edges N c) [p] k))]) = .nx (gEnv N cd p S.length x4 y5 y6 y7 y8) (S ++ [.lst (natD (roundsF (edges N c) [p] (k + 1)))]) := by
  have hE := edges_ok hN hc
  have key := forGo_v (items := natD c) (tg := .nm 5) (b := (sSeq (sAsg (.tp [(.nm 6), (.nm 7), (.nm 8)]) (eBin oIx (eBin oIx (eVar 0) (eC (.int 1))) (eVar 5)))
      (sSeq (sIf (bAnd (bBin oIn (eVar 6) (eVar 3)) (bBin oNotIn (eVar 7) (eVar 3))) (sExpr (eLm mAppend (eVar 3) (aCons (eVar 7) aNil))) sNext)
      (sIf (bAnd (bBin oIn (eVar 7) (eVar 3)) (bBin oNotIn (eVar 6) (eVar 3))) (sExpr (eLm mAppend (eVar 3) (aCons (eVar 6) aNil))) sNext))))
    (fun j ρ S' => ∃ y5 y6 y7 y8, ρ = gEnv N cd p S.length x4 y5 y6 y7 y8 ∧ S' = S ++ [.lst (natD (((edges N c).take j).foldl stepF (roundsF (edges N c) [p] k)))])
    (ρ := gEnv N cd p S.length x4 x5 x6 x7 x8) (S := S ++ [.lst (natD (roundsF (edges N c) [p] k))]) ⟨x5, x6, x7, x8, rfl, rfl⟩ (by
    rintro j d ρ S' hd ⟨y5, y6, y7, y8, rfl, rfl⟩
    obtain ⟨q, hq, rfl⟩ := natD_inv hd
    have hk := hc.2 q (List.mem_of_getElem? hq)
    have he : (edges N c)[j]? = some (edgeAt N q) := by unfold edges; rw [List.getElem?_map, hq]; rfl
    have hl1 := foldF_length_le hE hp k ((edges N c).take j) (fun e he => List.mem_of_mem_take he)
    have hl2 := foldF_length_le hE hp k ((edges N c).take (j + 1)) (fun e he => List.mem_of_mem_take he)
    have hn := hN.n2
    rw [take_get he, List.foldl_append] at hl2 ⊢
    simp only [List.foldl_cons, List.foldl_nil] at hl2 ⊢
    generalize ((edges N c).take j).foldl stepF (roundsF (edges N c) [p] k) = F at hl1 hl2 ⊢
    refine ⟨gEnv N cd p S.length x4 (some (.int q)) y6 y7 y8, gEnv N cd p S.length x4 (some (.int q)) (some (.int (wayAt N q).a)) (some (.int (wayAt N q).b)) (some (.int (wayAt N q).c)), S ++ [.lst (natD (stepF F (edgeAt N q)))], rfl, .inl ?_, _, _, _, _, rfl, rfl⟩
    rw [sSeq_nx (sAsg_ok (eBin_ok (eBin_ok (eVar_ok rfl) eC_ok oIx_tup) (eVar_ok rfl) (by exact net_ix hk)) way_asg)]
    have l1 : (putF F (wayAt N q).a (wayAt N q).b).length ≤ 1000 := Nat.le_trans (putF_le _ (wayAt N q).b (wayAt N q).a) (Nat.le_trans hl2 (Nat.le_trans hn hm))
    rw [sSeq_nx (put_stmt (i := 6) (j := 7) (a := (wayAt N q).a) (b := (wayAt N q).b) rfl rfl rfl (by omega))]
    exact put_stmt (i := 7) (j := 6) (a := (wayAt N q).b) (b := (wayAt N q).a) rfl rfl rfl l1)
  obtain ⟨ρ', S', h1, y5, y6, y7, y8, rfl, rfl⟩ := key
  refine ⟨y5, y6, y7, y8, sFor_ok (iSeqD_c hcd (eVar_ok rfl)) ?_⟩
  rw [h1, List.take_of_length_le (by rw [natD_len]; unfold edges; simp)]
  rfl
theorem group_specC {N : Net} {most W : Nat} {c : List Nat} {p : Nat} {cd : D} (S : Sto) (hcd : SeqC cd c) (hm : most ≤ 1000) (hN : N.Ok most W) (hc : ChOk N c) (hp : p < N.n) :
    f_law_group [netD N, cd, .int p] S = .ok (.tup (natD (groupOf N.n (edges N c) (rep N.n (edges N c) p)))) S := by
  have hn := hN.n2
  have sl : (1 : Nat) ≤ sizeLine := sizeLine_ok (by decide)
  have s1 : (sSet 3 (eLstA (aCons (eVar 2) aNil))) [some (netD N), some cd, some (.int p), none, none, none, none, none, none] S = .nx (gEnv N cd p S.length none none none none none) (S ++ [.lst (natD (roundsF (edges N c) [p] 0))]) := by
    unfold gEnv
    simp only [eVar, eC, eBin, bBin, bVal, bAnd, bOr, bNot, eAnd, eOr, eNot, eIf, eNeg, eOrT, liftO_some, liftB_bl, liftG_some, liftP_some, R.bind, R.nox_ok, sB, aNil, aCons, sSeq, sSet, sIf, sRet, sRetN, sNext, sExpr, sAsg, sSub, sBrk, sCnt, eCb, pure1, eIsi, bYes, pNone, pSome, List.getElem?_cons_zero, List.getElem?_cons_succ, List.set_cons_zero, List.set_cons_succ, Option.map_some, Option.bind_some, List.map_cons, List.map_nil, List.length_cons, List.length_nil, List.nil_append, List.cons_append, List.replicate_succ, List.replicate_zero, Nat.reduceSub, Nat.reduceAdd, Nat.add_eq, Nat.zero_add, if_true, if_false, reduceIte, Bool.false_eq_true, Bool.not_true, Bool.not_false, Tg.asg, asgs, tupOf, decide_true, decide_false, ite_true, ite_false, oAdd_int, oSub_int, oLt_int, oLe_int, oGt_int, oGe_int, oEq_int, oNe_int, oEq_str, atI_0, atI_1, atI_2, atI_3, atI_4, ixN51, ixN52, ixN53, ixN54, gInt, gAbs, gMin, gMax, oIx_tup, oIx_lst, oIx_con, seqOf_tup, seqOf_lst, List.length_set, eLstA, sl]
    rfl
  have key := forGo_v (items := rngD 0 N.n) (tg := .nm 4) (b := _)
    (fun j ρ S' => ∃ y4 y5 y6 y7 y8, ρ = gEnv N cd p S.length y4 y5 y6 y7 y8 ∧ S' = S ++ [.lst (natD (roundsF (edges N c) [p] j))])
    (ρ := gEnv N cd p S.length none none none none none) (S := S ++ [.lst (natD (roundsF (edges N c) [p] 0))]) ⟨_, _, _, _, _, rfl, rfl⟩ (by
    rintro j d ρ S' hd ⟨y4, y5, y6, y7, y8, rfl, rfl⟩
    obtain ⟨z5, z6, z7, z8, e⟩ := gInner (k := j) (x4 := some d) (x5 := y5) (x6 := y6) (x7 := y7) (x8 := y8) (S := S) hcd hm hN hc hp
    exact ⟨gEnv N cd p S.length (some d) y5 y6 y7 y8, _, _, rfl, .inl e, _, _, _, _, _, rfl, rfl⟩)
  obtain ⟨ρ', S', h1, y4, y5, y6, y7, y8, rfl, rfl⟩ := key
  rw [rngD_length] at h1
  refine runF_rt (S1 := S ++ [.lst (natD (roundsF (edges N c) [p] N.n))]) (d := .tup (natD (groupOf N.n (edges N c) (rep N.n (edges N c) p)))) ?_ (gc_app (okDs_nat _ _))
  show b_law_group [some (netD N), some cd, some (.int p), none, none, none, none, none, none] S = _
  unfold b_law_group
  rw [sSeq_nx s1, sSeq_nx (sFor_ok (iRng1D_ok (j := N.n) (aCons_ok (eBin_ok (eVar_ok rfl) eC_ok (by exact (oIx_tup.trans atI_0))) aNil_ok) (by omega)) h1)]
  refine sRet_ok (eCb_ok (aCons_ok (eCb_ok (op := oSort false) (S2 := S ++ [.lst (natD (roundsF (edges N c) [p] N.n))]) (d := .lst (natD (groupOf N.n (edges N c) (rep N.n (edges N c) p)))) (aCons_ok (eVar_ok rfl) aNil_ok) ?_) aNil_ok) ?_)
  · unfold oSort
    simp only [lstOf_loc (get_app (S := S)), Option.bind_some, intsOf_nat, Option.map_some, Bool.false_eq_true, if_false]
    rw [show (roundsF (edges N c) [p] N.n).map Int.ofNat = natI (roundsF (edges N c) [p] N.n) from rfl, sort_group (rounds_perm (edges_ok hN hc) hp)]
    rw [show natI ((List.range N.n).filter fun x => rep N.n (edges N c) x == rep N.n (edges N c) p) = (groupOf N.n (edges N c) (rep N.n (edges N c) p)).map Int.ofNat from rfl, ← natD_eq]
  · rfl
theorem group_spec {N : Net} {most W : Nat} {c : List Nat} {p : Nat} (S : Sto) (hm : most ≤ 1000) (hN : N.Ok most W) (hc : ChOk N c) (hp : p < N.n) :
    f_law_group [netD N, .tup (natD c), .int p] S = .ok (.tup (natD (groupOf N.n (edges N c) (rep N.n (edges N c) p)))) S := group_specC S (.inl rfl) hm hN hc hp
end Ev

namespace Ev
open PySem PySem.Spec PyProof.Rows L2
/-! ### drawn pairs -/
def pairD (p : Nat × Nat) : D := .tup [.int p.1, .int p.2]
def pairsD (ps : List (Nat × Nat)) : D := .tup (ps.map pairD)
def PrOk (n : Nat) (ps : List (Nat × Nat)) : Prop := ∀ p ∈ ps, p.1 < p.2 ∧ p.2 < n
theorem pairD_flat (p : Nat × Nat) : flat 1 (pairD p) = true := by simp only [pairD, flat, flats, Bool.and_self]
theorem pairs_flat (ps : List (Nat × Nat)) : flats 1 (ps.map pairD) = true := flats_of fun d hd => by
  obtain ⟨p, _, rfl⟩ := List.mem_map.mp hd
  exact pairD_flat p
theorem okDs_pairs (k : Nat) (ps : List (Nat × Nat)) : okDs k (ps.map pairD) = true := by
  induction ps with
  | nil => rfl
  | cons p ps ih => simp only [List.map_cons, pairD, okDs, okD, ih, Bool.and_self]
def prEnv (n most : Nat) (x4 x5 x6 : Option D) : En := [some (.loc 0), some (.int n), some (.int most), some (.loc 1), x4, x5, x6]
noncomputable def prBody : SF := (sIf (bBin oGt (eVar 1) (eC (.int 1))) (sSeq (sSet 5 (eCall 2 f_law_draw (aCons (eVar 0) (aCons (eBin oSub (eVar 1) (eC (.int 1))) aNil))))
    (sSeq (sSet 6 (eTup (aCons (eVar 5) (aCons (eBin oAdd (eBin oAdd (eVar 5) (eC (.int 1))) (eCall 2 f_law_draw (aCons (eVar 0) (aCons (eBin oSub (eBin oSub (eVar 1) (eC (.int 1))) (eVar 5)) aNil)))) aNil))))
    (sIf (bBin oNotIn (eVar 6) (eVar 3)) (sExpr (eLm mAppend (eVar 3) (aCons (eVar 6) aNil))) sNext))) sNext)
theorem pr_step {n most : Nat} {P : Pool} {ps : List (Nat × Nat)} {x4 x5 x6 : Option D} (hn : n ≤ 1000) (h0 : 0 ≤ P.pos) (hp : PrOk n ps) (hl : ps.length < 1000) :
    ∃ (P' : Pool) (ps' : List (Nat × Nat)) (y5 y6 : Option D), 0 ≤ P'.pos ∧ PrOk n ps' ∧ ps'.length ≤ ps.length + 1 ∧ prBody (prEnv n most x4 x5 x6) [poolC P, .lst (ps.map pairD)] = .nx (prEnv n most x4 y5 y6) [poolC P', .lst (ps'.map pairD)] := by
  unfold prBody
  by_cases h1 : 1 < n
  · obtain ⟨a, P1, a0, a1, p1, e1⟩ := draw1 (T := [.lst (ps.map pairD)]) (n := (n : Int) - 1) h0 (by omega) (by omega)
    obtain ⟨b, P2, b0, b1, p2, e2⟩ := draw1 (T := [.lst (ps.map pairD)]) (n := (n : Int) - 1 - a) p1 (by omega) (by omega)
    obtain ⟨a', rfl⟩ : ∃ a' : Nat, a = a' := ⟨a.toNat, by omega⟩
    obtain ⟨b', hb'⟩ : ∃ b' : Nat, (a' : Int) + 1 + b = b' := ⟨((a' : Int) + 1 + b).toNat, by omega⟩
    have hpr : a' < b' ∧ b' < n := by omega
    have t1 : (bBin oGt (eVar 1) (eC (.int 1))) (prEnv n most x4 x5 x6) [poolC P, .lst (ps.map pairD)] = .ok true [poolC P, .lst (ps.map pairD)] := bBin_ok (eVar_ok rfl) eC_ok (by rw [oGt_int, decide_eq_true (by omega)])
    have s1 : (sSet 5 (eCall 2 f_law_draw (aCons (eVar 0) (aCons (eBin oSub (eVar 1) (eC (.int 1))) aNil)))) (prEnv n most x4 x5 x6) [poolC P, .lst (ps.map pairD)] = .nx (prEnv n most x4 (some (.int a')) x6) [poolC P1, .lst (ps.map pairD)] :=
      sSet_ok (eCall_ok (aCons_ok (eVar_ok rfl) (aCons_ok (eBin_ok (eVar_ok rfl) eC_ok oSub_int) aNil_ok)) rfl e1)
    have s2 : (sSet 6 (eTup (aCons (eVar 5) (aCons (eBin oAdd (eBin oAdd (eVar 5) (eC (.int 1))) (eCall 2 f_law_draw (aCons (eVar 0) (aCons (eBin oSub (eBin oSub (eVar 1) (eC (.int 1))) (eVar 5)) aNil)))) aNil)))) (prEnv n most x4 (some (.int a')) x6) [poolC P1, .lst (ps.map pairD)] = .nx (prEnv n most x4 (some (.int a')) (some (pairD (a', b')))) [poolC P2, .lst (ps.map pairD)] := by
      have := eTup_ok (fa := (aCons (eVar 5) (aCons (eBin oAdd (eBin oAdd (eVar 5) (eC (.int 1))) (eCall 2 f_law_draw (aCons (eVar 0) (aCons (eBin oSub (eBin oSub (eVar 1) (eC (.int 1))) (eVar 5)) aNil)))) aNil))) (ρ := prEnv n most x4 (some (.int a')) x6) (S := [poolC P1, .lst (ps.map pairD)])
        (aCons_ok (eVar_ok rfl) (aCons_ok (eBin_ok (eBin_ok (eVar_ok rfl) eC_ok oAdd_int) (eCall_ok (aCons_ok (eVar_ok rfl) (aCons_ok (eBin_ok (eBin_ok (eVar_ok rfl) eC_ok oSub_int) (eVar_ok rfl) oSub_int) aNil_ok)) rfl e2) oAdd_int) aNil_ok)) (by simp)
      rw [hb'] at this
      exact sSet_ok this
    have hg : ([poolC P2, Cel.lst (ps.map pairD)] : Sto)[1]? = some (.lst (ps.map pairD)) := rfl
    have t2 := bBin_ok (op := oNotIn) (fe := eVar 6) (fb := eVar 3) (ρ := prEnv n most x4 (some (.int a')) (some (pairD (a', b')))) (S := [poolC P2, .lst (ps.map pairD)]) (eVar_ok rfl) (eVar_ok rfl) (oNotIn_flat (k := 1) (xs := [.int a', .int b']) (seqOf_loc hg) (by omega) (by simp only [flat, flats, Bool.and_self]) (pairs_flat ps))
    cases hc : (ps.map pairD).any fun z => deq z (.tup [.int a', .int b']) with
    | true =>
      rw [hc] at t2
      exact ⟨P2, ps, _, _, p2, hp, Nat.le_succ _, (sIf_t t1).trans (sSeq_nxo s1 (sSeq_nxo s2 (sIf_fn t2)))⟩
    | false =>
      rw [hc] at t2
      refine ⟨P2, ps ++ [(a', b')], some (.int a'), some (pairD (a', b')), p2, fun p hp' => ?_, by simp, (sIf_t t1).trans (sSeq_nxo s1 (sSeq_nxo s2 ((sIf_t t2).trans ?_)))⟩
      · rcases List.mem_append.mp hp' with z | z
        · exact hp p z
        · have : p = (a', b') := by simpa using z
          rw [this]
          exact hpr
      · refine sExpr_ok (d := .non) (eLm_ok (eVar_ok rfl) (isLst_loc hg) (aCons_ok (eVar_ok rfl) aNil_ok) ?_)
        rw [mAppend_ok hg (sizeLine_lt (by rw [List.length_map]; omega)), List.map_append]
        rfl
  · have t1 : (bBin oGt (eVar 1) (eC (.int 1))) (prEnv n most x4 x5 x6) [poolC P, .lst (ps.map pairD)] = .ok false [poolC P, .lst (ps.map pairD)] := bBin_ok (eVar_ok rfl) eC_ok (by rw [oGt_int, decide_eq_false (by omega)])
    exact ⟨P, ps, x5, x6, h0, hp, Nat.le_succ _, sIf_fn t1⟩
theorem pairs_spec {n most : Nat} (hn : n ≤ 1000) (hm : most ≤ 100) {P : Pool} (h0 : 0 ≤ P.pos) :
    ∃ (ps : List (Nat × Nat)) (P' : Pool), PrOk n ps ∧ ps.length ≤ most ∧ 0 ≤ P'.pos ∧ f_law_pairs [.loc 0, .int n, .int most] [poolC P] = .ok (pairsD ps) [poolC P'] := by
  obtain ⟨k, P1, k0, k1, p1, e1⟩ := draw1 (T := [.lst []]) (n := (most : Int) + 1) h0 (by omega) (by omega)
  obtain ⟨k', rfl⟩ : ∃ k' : Nat, k = k' := ⟨k.toNat, by omega⟩
  have s1 : (sSet 3 (eLstA aNil)) [some (.loc 0), some (.int n), some (.int most), none, none, none, none] [poolC P] = .nx (prEnv n most none none none) [poolC P, .lst []] := (sSet_ok eLstA_nil).trans rfl
  have key := forGo_v (items := rngD 0 k') (tg := .nm 4) (b := prBody)
    (fun j ρ S => j ≤ k' ∧ (∃ x4 x5 x6, ρ = prEnv n most x4 x5 x6) ∧ ∃ (P : Pool) (ps : List (Nat × Nat)), 0 ≤ P.pos ∧ PrOk n ps ∧ ps.length ≤ j ∧ S = [poolC P, .lst (ps.map pairD)])
    (ρ := prEnv n most none none none) (S := [poolC P1, .lst []]) ⟨Nat.zero_le _, ⟨_, _, _, rfl⟩, P1, [], p1, (fun p h => by simp at h), Nat.le_refl _, rfl⟩ (by
    rintro j d ρ S hd ⟨hj0, ⟨x4, x5, x6, rfl⟩, P, ps, p0, hp, hl, rfl⟩
    obtain ⟨hj, rfl⟩ := rngD_get hd
    obtain ⟨P', ps', y5, y6, a, b, c, e⟩ := pr_step (n := n) (most := most) (x4 := some (.int (0 + (j : Int)))) (x5 := x5) (x6 := x6) hn p0 hp (by omega)
    exact ⟨prEnv n most (some (.int (0 + (j : Int)))) x5 x6, _, _, rfl, .inl e, hj, ⟨_, _, _, rfl⟩, P', ps', a, b, by omega, rfl⟩)
  obtain ⟨ρ', S', h1, -, ⟨x4, x5, x6, rfl⟩, P2, ps, p2, hp, hl, rfl⟩ := key
  rw [rngD_length] at hl
  refine ⟨ps, P2, hp, by omega, p2, ?_⟩
  have okk : okD [poolC P].length (pairsD ps) = true := okDs_pairs _ ps
  refine runF_rt (S1 := [poolC P2] ++ [.lst (ps.map pairD)]) (d := pairsD ps) ?_ (gc_put_app (S := [poolC P]) (p := 0) (c := poolC P2) okk (okC_pool _ P2))
  show b_law_pairs [some (.loc 0), some (.int n), some (.int most), none, none, none, none] [poolC P] = _
  unfold b_law_pairs
  refine sSeq_nxo s1 (sSeq_nxo (sFor_ok (k := ⟨rngD 0 k', none⟩) (iRng1D_ok (j := k') (aCons_ok (eCall_ok (aCons_ok (eVar_ok rfl) (aCons_ok (eBin_ok (eVar_ok rfl) eC_ok oAdd_int) aNil_ok)) rfl e1) aNil_ok) (by omega)) h1) ?_)
  exact sRet_ok (eCb_ok (aCons_ok (eVar_ok rfl) aNil_ok) rfl)
end Ev

namespace Ev
open PySem PySem.Spec PyProof.Rows L2
def partsD (n : Nat) (E : List Edge) (ps : List Nat) : List D := (ps.filter fun p => rep n E p == p).map fun p => .tup (natD (groupOf n E p))
theorem okDs_parts (k n : Nat) (E : List Edge) (ps : List Nat) : okDs k (partsD n E ps) = true := by
  unfold partsD
  induction (ps.filter fun p => rep n E p == p) with
  | nil => rfl
  | cons p ps ih => simp only [List.map_cons, okDs, okD, okDs_nat, ih, Bool.and_self]
theorem partsD_snoc (n : Nat) (E : List Edge) (ps : List Nat) (p : Nat) : partsD n E (ps ++ [p]) = if rep n E p = p then partsD n E ps ++ [.tup (natD (groupOf n E p))] else partsD n E ps := by
  unfold partsD
  rw [List.filter_append, List.map_append]
  by_cases h : rep n E p = p
  · simp only [List.filter_cons, List.filter_nil, beq_iff_eq, h, if_true, List.map_cons, List.map_nil]
  · simp only [List.filter_cons, List.filter_nil, beq_iff_eq, h, if_false, List.map_nil, List.append_nil]
theorem partsD_len (n : Nat) (E : List Edge) (ps : List Nat) : (partsD n E ps).length ≤ ps.length := by
  unfold partsD
  rw [List.length_map]
  exact List.length_filter_le _ _
end Ev

namespace Ev
open PySem PySem.Spec PyProof.Rows L2
/-! ### groups -/
def gsEnv (N : Net) (cd : D) (m : List Nat) (x5 x6 x7 x8 x9 x10 x11 x12 x13 x14 : Option D) : En :=
  [some (netD N), some cd, some (.int N.n), some (.tup (N.ways.map wayD)), some (.lst (natD m)), x5, x6, x7, x8, x9, x10, x11, x12, x13, x14]
theorem mark_at {m : List Nat} {k : Nat} (h : k < m.length) : m[k]? = some (m.getD k 0) := by
  rw [List.getD_eq_getElem?_getD, List.getElem?_eq_getElem h]; rfl
theorem isort2 (a b : Nat) : isort [(a : Int), (b : Int)] = [((min a b : Nat) : Int), ((max a b : Nat) : Int)] := by
  simp only [isort, insI]
  split
  · rw [Nat.min_eq_left (by omega), Nat.max_eq_right (by omega)]
  · rw [Nat.min_eq_right (by omega), Nat.max_eq_left (by omega)]
theorem sort2 {S : Sto} (a b : Nat) : oSort false [.lst [.int a, .int b]] S = some (.lst [.int (min a b : Nat), .int (max a b : Nat)], S) := by
  unfold oSort
  simp only [lstOf, lstX, intsOf, Option.bind_some, Option.map_some, isort2, Bool.false_eq_true, if_false, List.map_cons, List.map_nil]
theorem stepM_len (m : List Nat) (e : Edge) : (stepM m e).length = m.length := List.length_map _
theorem foldM_len : ∀ (E : List Edge) (m : List Nat), (E.foldl stepM m).length = m.length
  | [], m => rfl
  | e :: E, m => by rw [List.foldl_cons, foldM_len E, stepM_len]
theorem gs_loop {N : Net} {most W : Nat} {c : List Nat} {S : Sto} {cd : D} (hcd : SeqC cd c) (hm : most ≤ 1000) (hN : N.Ok most W) (hc : ChOk N c) :
    ∃ y5 y6 y7 y8 y9 y10, sFor (iSeqD (eVar 1)) (.nm 5) (sSeq (sAsg (.tp [(.nm 6), (.nm 7), (.nm 8)]) (eBin oIx (eVar 3) (eVar 5)))
    (sSeq (sAsg (.ls [(.nm 9), (.nm 10)]) (eCb (oSort false) (aCons (eLst (aCons (eBin oIx (eVar 4) (eVar 6)) (aCons (eBin oIx (eVar 4) (eVar 7)) aNil))) aNil)))
    (sSet 4 (eLc (iSeqD (eVar 4)) (.nm 13) bYes (eIf (bBin oEq (eVar 13) (eVar 10)) (eVar 9) (eVar 13)) [13]))))
     (gsEnv N cd (List.range N.n) none none none none none none none none none none) S = .nx (gsEnv N cd (markOf N.n (edges N c)) y5 y6 y7 y8 y9 y10 none none none none) S := by
  have hE := edges_ok hN hc
  have hn := hN.n2
  have key := forGo_v (items := natD c) (tg := .nm 5) (b := (sSeq (sAsg (.tp [(.nm 6), (.nm 7), (.nm 8)]) (eBin oIx (eVar 3) (eVar 5)))
    (sSeq (sAsg (.ls [(.nm 9), (.nm 10)]) (eCb (oSort false) (aCons (eLst (aCons (eBin oIx (eVar 4) (eVar 6)) (aCons (eBin oIx (eVar 4) (eVar 7)) aNil))) aNil)))
    (sSet 4 (eLc (iSeqD (eVar 4)) (.nm 13) bYes (eIf (bBin oEq (eVar 13) (eVar 10)) (eVar 9) (eVar 13)) [13])))))
    (fun j ρ S' => ∃ y5 y6 y7 y8 y9 y10, ρ = gsEnv N cd (((edges N c).take j).foldl stepM (List.range N.n)) y5 y6 y7 y8 y9 y10 none none none none ∧ S' = S)
    (ρ := gsEnv N cd (List.range N.n) none none none none none none none none none none) (S := S) ⟨_, _, _, _, _, _, rfl, rfl⟩ (by
    rintro j d ρ S' hd ⟨y5, y6, y7, y8, y9, y10, rfl, rfl⟩
    obtain ⟨q, hq, rfl⟩ := natD_inv hd
    have hk := hc.2 q (List.mem_of_getElem? hq)
    have he : (edges N c)[j]? = some (edgeAt N q) := by unfold edges; rw [List.getElem?_map, hq]; rfl
    have hl := foldM_len ((edges N c).take j) (List.range N.n)
    rw [List.length_range] at hl
    rw [take_get he, List.foldl_append]
    simp only [List.foldl_cons, List.foldl_nil]
    generalize ((edges N c).take j).foldl stepM (List.range N.n) = m at hl ⊢
    have hw := wayAt_ok hN hk
    generalize hwd : wayAt N q = w at hw
    have hed : edgeAt N q = (w.a, w.b) := by unfold edgeAt; rw [hwd]
    rw [hed]
    have ha : m[w.a]? = some (m.getD w.a 0) := mark_at (by have := hw.1; have := hw.2.1; omega)
    have hb : m[w.b]? = some (m.getD w.b 0) := mark_at (by have := hw.2.1; omega)
    generalize hlo : min (m.getD w.a 0) (m.getD w.b 0) = lo
    generalize hhi : max (m.getD w.a 0) (m.getD w.b 0) = hi
    have hst : stepM m (w.a, w.b) = m.map fun z => if z = hi then lo else z := by unfold stepM; rw [hlo, hhi]
    refine ⟨gsEnv N cd m (some (.int q)) y6 y7 y8 y9 y10 none none none none, gsEnv N cd (stepM m (w.a, w.b)) (some (.int q)) (some (.int w.a)) (some (.int w.b)) (some (.int w.c)) (some (.int lo)) (some (.int hi)) none none none none, S', rfl, .inl ?_, _, _, _, _, _, _, rfl, rfl⟩
    rw [sSeq_nx (sAsg_ok (eBin_ok (eVar_ok rfl) (eVar_ok rfl) (by exact net_ix hk)) way_asg), hwd]
    have e1 : (eCb (oSort false) (aCons (eLst (aCons (eBin oIx (eVar 4) (eVar 6)) (aCons (eBin oIx (eVar 4) (eVar 7)) aNil))) aNil)) (gsEnv N cd m (some (.int q)) (some (.int w.a)) (some (.int w.b)) (some (.int w.c)) y9 y10 none none none none) S' = .ok (.lst [.int lo, .int hi]) S' := by
      refine eCb_ok (aCons_ok (d := .lst [.int (m.getD w.a 0 : Nat), .int (m.getD w.b 0 : Nat)]) ?_ aNil_ok) (by rw [sort2, hlo, hhi])
      unfold eLst
      rw [aCons_ok (eBin_ok (eVar_ok rfl) (eVar_ok rfl) (oIx_lst.trans (atI_ok (natD_get ha)))) (aCons_ok (eBin_ok (eVar_ok rfl) (eVar_ok rfl) (oIx_lst.trans (atI_ok (natD_get hb)))) aNil_ok)]
      simp only [R.bind]
      exact if_pos (sizeLine_ok (by simp))
    have e2 : (Tg.ls [.nm 9, .nm 10]).asg (.lst [.int lo, .int hi]) (gsEnv N cd m (some (.int q)) (some (.int w.a)) (some (.int w.b)) (some (.int w.c)) y9 y10 none none none none) S' = some (gsEnv N cd m (some (.int q)) (some (.int w.a)) (some (.int w.b)) (some (.int w.c)) (some (.int lo)) (some (.int hi)) none none none none) := rfl
    refine (sSeq_nx (sAsg_ok e1 e2)).trans ?_
    have e3 : (eLc (iSeqD (eVar 4)) (.nm 13) bYes (eIf (bBin oEq (eVar 13) (eVar 10)) (eVar 9) (eVar 13)) [13]) (gsEnv N cd m (some (.int q)) (some (.int w.a)) (some (.int w.b)) (some (.int w.c)) (some (.int lo)) (some (.int hi)) none none none none) S' = .ok (.lst (natD (stepM m (w.a, w.b)))) S' := by
      have lm : lcGo ⟨natD m, none⟩ (.nm 13) bYes (eIf (bBin oEq (eVar 13) (eVar 10)) (eVar 9) (eVar 13)) (gsEnv N cd m (some (.int q)) (some (.int w.a)) (some (.int w.b)) (some (.int w.c)) (some (.int lo)) (some (.int hi)) none none none none) (natD m) S' = .ok (m.map fun (z : Nat) => D.int ((if z = hi then lo else z : Nat) : Int)) S' := lcGo_mapN m fun z hz => by
          refine ⟨gsEnv N cd m (some (.int q)) (some (.int w.a)) (some (.int w.b)) (some (.int w.c)) (some (.int lo)) (some (.int hi)) none none (some (.int z)) none, rfl, ?_⟩
          have b1 : (bBin oEq (eVar 13) (eVar 10)) (gsEnv N cd m (some (.int q)) (some (.int w.a)) (some (.int w.b)) (some (.int w.c)) (some (.int lo)) (some (.int hi)) none none (some (.int z)) none) S' = .ok (decide ((z : Int) = hi)) S' := bBin_ok (eVar_ok rfl) (eVar_ok rfl) oEq_int
          unfold eIf
          rw [b1]
          by_cases h : z = hi
          · rw [if_pos h, decide_eq_true (by rw [h])]
            simp only [R.bind, if_true]
            exact eVar_ok rfl
          · rw [if_neg h, decide_eq_false (by omega)]
            simp only [R.bind, Bool.false_eq_true, if_false]
            exact eVar_ok rfl
      have el : (m.map fun (z : Nat) => D.int ((if z = hi then lo else z : Nat) : Int)) = natD (stepM m (w.a, w.b)) := by
        rw [hst]
        unfold natD
        rw [List.map_map]
        rfl
      rw [el] at lm
      exact eLc_ok (k := ⟨natD m, none⟩) (iSeqD_lst (eVar_ok rfl)) lm (sizeLine_ok (by rw [natD_len, stepM_len]; omega))
    exact sSet_ok e3)
  obtain ⟨ρ', S', h1, y5, y6, y7, y8, y9, y10, rfl, rfl⟩ := key
  refine ⟨y5, y6, y7, y8, y9, y10, sFor_ok (iSeqD_c hcd (eVar_ok rfl)) ?_⟩
  rw [h1, List.take_of_length_le (by rw [natD_len]; unfold edges; simp)]
  rfl
def gEnv2 (N : Net) (cd : D) (m : List Nat) (y5 y6 y7 y8 y9 y10 : Option D) (k : Nat) (x12 x13 x14 : Option D) : En := gsEnv N cd m y5 y6 y7 y8 y9 y10 (some (.loc k)) x12 x13 x14
theorem gs_one {N : Net} {cd : D} {m : List Nat} {y5 y6 y7 y8 y9 y10 : Option D} {k f : Nat} {S : Sto} (hn : N.n ≤ 1000) (hl : m.length = N.n) :
    (eCb (pure1 gTuple) (aCons (eLc (iRng1D (aCons (eVar 2) aNil)) (.nm 14) (bBin oEq (eBin oIx (eVar 4) (eVar 14)) (eVar 12)) (eVar 14) [14]) aNil)) (gEnv2 N cd m y5 y6 y7 y8 y9 y10 k (some (.int f)) none none) S =
      .ok (.tup (natD ((List.range N.n).filter fun x => m.getD x 0 == f))) S := by
  have lm : lcGo ⟨rngD 0 N.n, none⟩ (.nm 14) (bBin oEq (eBin oIx (eVar 4) (eVar 14)) (eVar 12)) (eVar 14) (gEnv2 N cd m y5 y6 y7 y8 y9 y10 k (some (.int f)) none none) (natD (List.range N.n)) S =
      .ok (((List.range N.n).filter fun x => m.getD x 0 == f).map fun (x : Nat) => D.int (x : Int)) S := lcGo_filterN (List.range N.n) fun x hx => by
    rw [List.mem_range] at hx
    refine ⟨gEnv2 N cd m y5 y6 y7 y8 y9 y10 k (some (.int f)) none (some (.int x)), rfl, ?_, fun _ => eVar_ok rfl⟩
    rw [bBin_ok (eBin_ok (eVar_ok rfl) (eVar_ok rfl) (oIx_lst.trans (atI_ok (natD_get (mark_at (by omega)))))) (eVar_ok rfl) oEq_int]
    by_cases h : m.getD x 0 = f
    · rw [decide_eq_true (by rw [h]), beq_iff_eq.mpr h]
    · rw [decide_eq_false (by omega), beq_eq_false_iff_ne.mpr h]
  refine eCb_ok (ds := [.lst (natD ((List.range N.n).filter fun x => m.getD x 0 == f))]) (aCons_ok (eLc_ok (k := ⟨rngD 0 N.n, none⟩) (iRng1D_ok (aCons_ok (eVar_ok rfl) aNil_ok) (by omega)) (by rw [← rngD_nat] at lm; exact lm) ?_) aNil_ok) rfl
  rw [natD_len]
  exact sizeLine_ok (Nat.le_trans (List.length_filter_le _ _) (by rw [List.length_range]; exact hn))
theorem groups_specC {N : Net} {most W : Nat} {c : List Nat} {cd : D} (S : Sto) (hcd : SeqC cd c) (hm : most ≤ 1000) (hN : N.Ok most W) (hc : ChOk N c) :
    f_groups [netD N, cd] S = .ok (.tup (partsD N.n (edges N c) (List.range N.n))) S := by
  have hn := hN.n2
  have hE := edges_ok hN hc
  have hn1 : N.n ≤ 1000 := Nat.le_trans hn hm
  obtain ⟨y5, y6, y7, y8, y9, y10, e1⟩ := gs_loop (S := S) hcd hm hN hc
  have hl : (markOf N.n (edges N c)).length = N.n := (markOf_ok hE).len
  have sl : (0 : Nat) ≤ sizeLine := sizeLine_ok (by omega)
  have key := forGo_v (items := rngD 0 N.n) (tg := .nm 12) (b := (sIf (bBin oEq (eBin oIx (eVar 4) (eVar 12)) (eVar 12)) (sExpr (eLm mAppend (eVar 11) (aCons (eCb (pure1 gTuple) (aCons (eLc (iRng1D (aCons (eVar 2) aNil)) (.nm 14) (bBin oEq (eBin oIx (eVar 4) (eVar 14)) (eVar 12)) (eVar 14) [14]) aNil)) aNil))) sNext))
    (fun j ρ S' => j ≤ N.n ∧ ∃ x12, ρ = gEnv2 N cd (markOf N.n (edges N c)) y5 y6 y7 y8 y9 y10 S.length x12 none none ∧ S' = S ++ [.lst (partsD N.n (edges N c) (List.range j))])
    (ρ := gEnv2 N cd (markOf N.n (edges N c)) y5 y6 y7 y8 y9 y10 S.length none none none) (S := S ++ [.lst (partsD N.n (edges N c) (List.range 0))]) ⟨Nat.zero_le _, _, rfl, rfl⟩ (by
    rintro j d ρ S' hd ⟨hj0, x12, rfl, rfl⟩
    rw [rngD_nat] at hd
    obtain ⟨q, hq, rfl⟩ := natD_inv hd
    have hj : j < N.n := by
      have := (List.getElem?_eq_some_iff.mp hq).1
      simpa using this
    rw [List.getElem?_range hj] at hq
    cases hq
    rw [List.range_succ, partsD_snoc]
    have hg : (S ++ [Cel.lst (partsD N.n (edges N c) (List.range j))])[S.length]? = some (.lst (partsD N.n (edges N c) (List.range j))) := get_app
    have pl := partsD_len N.n (edges N c) (List.range j)
    rw [List.length_range] at pl
    have sl2 : (partsD N.n (edges N c) (List.range j)).length < sizeLine := sizeLine_lt (by omega)
    generalize hP : partsD N.n (edges N c) (List.range j) = P at hg pl sl2 ⊢
    have e2 : (bBin oEq (eBin oIx (eVar 4) (eVar 12)) (eVar 12)) (gEnv2 N cd (markOf N.n (edges N c)) y5 y6 y7 y8 y9 y10 S.length (some (.int j)) none none) (S ++ [.lst P]) = .ok (decide ((rep N.n (edges N c) j : Int) = j)) (S ++ [.lst P]) :=
      bBin_ok (eBin_ok (eVar_ok rfl) (eVar_ok rfl) (oIx_lst.trans (atI_ok (natD_get (mark_at (by omega)))))) (eVar_ok rfl) oEq_int
    by_cases hr : rep N.n (edges N c) j = j
    · rw [if_pos hr]
      refine ⟨gEnv2 N cd (markOf N.n (edges N c)) y5 y6 y7 y8 y9 y10 S.length (some (.int j)) none none, gEnv2 N cd (markOf N.n (edges N c)) y5 y6 y7 y8 y9 y10 S.length (some (.int j)) none none, S ++ [.lst (P ++ [.tup (natD (groupOf N.n (edges N c) j))])], rfl, .inl ?_, hj, _, rfl, rfl⟩
      refine (sIf_t (e2.trans (by rw [decide_eq_true (by rw [hr])]))).trans ?_
      refine sExpr_ok (d := .non) (eLm_ok (eVar_ok rfl) (isLst_loc hg) (aCons_ok (gs_one hn1 hl) aNil_ok) ?_)
      rw [mAppend_ok hg sl2, set_app]
      rfl
    · rw [if_neg hr]
      refine ⟨gEnv2 N cd (markOf N.n (edges N c)) y5 y6 y7 y8 y9 y10 S.length (some (.int j)) none none, gEnv2 N cd (markOf N.n (edges N c)) y5 y6 y7 y8 y9 y10 S.length (some (.int j)) none none, S ++ [.lst P], rfl, .inl ?_, hj, _, rfl, rfl⟩
      exact (sIf_f (e2.trans (by rw [decide_eq_false (by omega)]))).trans rfl)
  obtain ⟨ρ', S', h1, -, x12, rfl, rfl⟩ := key
  rw [rngD_length] at h1
  have s1 : (sAsg (.tp [(.nm 2), (.nm 3)]) (eVar 0)) [some (netD N), some cd, none, none, none, none, none, none, none, none, none, none, none, none, none] S = .nx [some (netD N), some cd, some (.int N.n), some (.tup (N.ways.map wayD)), none, none, none, none, none, none, none, none, none, none, none] S :=
    sAsg_ok (eVar_ok rfl) rfl
  have s2 : (sSet 4 (eLr1 false (eVar 2))) [some (netD N), some cd, some (.int N.n), some (.tup (N.ways.map wayD)), none, none, none, none, none, none, none, none, none, none, none] S = .nx (gsEnv N cd (List.range N.n) none none none none none none none none none none) S := by
    exact (sSet_ok (eLr1_ok (eVar_ok rfl) hn1)).trans rfl
  have s3 : (sSet 11 (eLstA aNil)) (gsEnv N cd (markOf N.n (edges N c)) y5 y6 y7 y8 y9 y10 none none none none) S = .nx (gEnv2 N cd (markOf N.n (edges N c)) y5 y6 y7 y8 y9 y10 S.length none none none) (S ++ [.lst (partsD N.n (edges N c) (List.range 0))]) := by
    refine (sSet_ok (d := .loc S.length) (S1 := S ++ [.lst []]) ?_).trans rfl
    exact eLstA_nil
  refine runF_rt (S1 := S ++ [.lst (partsD N.n (edges N c) (List.range N.n))]) (d := .tup (partsD N.n (edges N c) (List.range N.n))) ?_ (gc_app (okDs_parts _ _ _ _))
  show b_groups [some (netD N), some cd, none, none, none, none, none, none, none, none, none, none, none, none, none] S = _
  unfold b_groups
  rw [sSeq_nx s1, sSeq_nx s2, sSeq_nx e1, sSeq_nx s3, sSeq_nx (sFor_ok (iRng1D_ok (j := N.n) (aCons_ok (eVar_ok rfl) aNil_ok) (by omega)) h1)]
  refine sRet_ok (eCb_ok (aCons_ok (eVar_ok rfl) aNil_ok) ?_)
  unfold pure1 gTuple
  simp only [tupOf, lstOf_loc (get_app (S := S)), Option.map_some]
theorem groups_spec {N : Net} {most W : Nat} {c : List Nat} (S : Sto) (hm : most ≤ 1000) (hN : N.Ok most W) (hc : ChOk N c) :
    f_groups [netD N, .tup (natD c)] S = .ok (.tup (partsD N.n (edges N c) (List.range N.n))) S := groups_specC S (.inl rfl) hm hN hc
end Ev

namespace Ev
open PySem PySem.Spec PyProof.Rows L2
/-! ### same -/
theorem isi_tt {S : Sto} {ρ : En} {i : Nat} {ds : List D} (h : ρ[i]? = some (some (.tup ds))) : eIsi "tuple" (eVar i) ρ S = .ok (.bl true) S := by
  unfold eIsi
  rw [eVar_ok h]
  rfl
theorem isi_ti {S : Sto} {ρ : En} {i : Nat} {j : Int} (h : ρ[i]? = some (some (.int j))) : eIsi "tuple" (eVar i) ρ S = .ok (.bl false) S := by
  unfold eIsi
  rw [eVar_ok h]
  rfl
theorem isi_si {S : Sto} {ρ : En} {i : Nat} {j : Int} (h : ρ[i]? = some (some (.int j))) : eIsi "str" (eVar i) ρ S = .ok (.bl false) S := by
  unfold eIsi
  rw [eVar_ok h]
  rfl
theorem isi_ii {S : Sto} {ρ : En} {i : Nat} {j : Int} (h : ρ[i]? = some (some (.int j))) : eIsi "int" (eVar i) ρ S = .ok (.bl true) S := by
  unfold eIsi
  rw [eVar_ok h]
  rfl
theorem isi_bi {S : Sto} {ρ : En} {i : Nat} {j : Int} (h : ρ[i]? = some (some (.int j))) : eIsi "bool" (eVar i) ρ S = .ok (.bl false) S := by
  unfold eIsi
  rw [eVar_ok h]
  rfl
theorem bVal_ok {fe : EF} {ρ : En} {S S1 : Sto} {b : Bool} (h : fe ρ S = .ok (.bl b) S1) : bVal fe ρ S = .ok b S1 := by
  unfold bVal
  rw [h]
  rfl
theorem bNot_ok {t : BF} {ρ : En} {S S1 : Sto} {b : Bool} (h : t ρ S = .ok b S1) : bNot t ρ S = .ok (!b) S1 := by
  unfold bNot
  rw [h]
  rfl
theorem same_int (k : Nat) (i : Int) (S : Sto) : f_law_sameN (k + 1) [.int i, .int i] S = .ok (.bl true) S := by
  refine runF_rt (S1 := S) (d := .bl true) ?_ (gc_same rfl)
  show b_law_same (f_law_sameN k) [some (.int i), some (.int i), none] S = _
  unfold b_law_same
  rw [sSeq_nx (sIf_fn (bVal_ok (isi_ti rfl)))]
  rw [sSeq_nx (sIf_fn (bBin_ok (c := false) (eVar_ok rfl) eC_ok rfl))]
  rw [sSeq_nx (sIf_fn (bVal_ok (isi_si rfl)))]
  refine sRet_ok ?_
  have e3 : (eBin oEq (eVar 0) (eVar 1)) [some (.int i), some (.int i), none] S = .ok (.bl true) S := eBin_ok (eVar_ok rfl) (eVar_ok rfl) (by rw [oEq_int, decide_eq_true rfl])
  unfold eAnd eNot
  rw [isi_ii rfl]
  simp only [liftG_some, R.bind, truD]
  rw [isi_bi rfl]
  simp only [liftG_some, R.bind, truD, Bool.not_false, if_true]
  exact e3
theorem same_tup (k : Nat) (ds : List D) (hl : ds.length ≤ 1000) (S : Sto) (h : ∀ d ∈ ds, f_law_sameN k [d, d] S = .ok (.bl true) S) : f_law_sameN (k + 1) [.tup ds, .tup ds] S = .ok (.bl true) S := by
  refine runF_rt (S1 := S) (d := .bl true) ?_ (gc_same rfl)
  show b_law_same (f_law_sameN k) [some (.tup ds), some (.tup ds), none] S = _
  unfold b_law_same
  refine sSeq_rt ?_
  refine (sIf_t (bVal_ok (isi_tt rfl))).trans ?_
  have gl : (eCb (pure1 gLen) (aCons (eVar 0) aNil)) [some (.tup ds), some (.tup ds), none] S = .ok (.int ds.length) S := eCb_ok (aCons_ok (eVar_ok rfl) aNil_ok) rfl
  have gl1 : (eCb (pure1 gLen) (aCons (eVar 1) aNil)) [some (.tup ds), some (.tup ds), none] S = .ok (.int ds.length) S := eCb_ok (aCons_ok (eVar_ok rfl) aNil_ok) rfl
  have ne : (bBin oNe (eCb (pure1 gLen) (aCons (eVar 0) aNil)) (eCb (pure1 gLen) (aCons (eVar 1) aNil))) [some (.tup ds), some (.tup ds), none] S = .ok false S := bBin_ok gl gl1 (by rw [oNe_int, decide_eq_true rfl]; rfl)
  have orr : (bOr (bNot (bVal (eIsi "tuple" (eVar 0)))) (bBin oNe (eCb (pure1 gLen) (aCons (eVar 0) aNil)) (eCb (pure1 gLen) (aCons (eVar 1) aNil)))) [some (.tup ds), some (.tup ds), none] S = .ok false S := by
    unfold bOr
    rw [bNot_ok (bVal_ok (isi_tt rfl))]
    exact ne
  rw [sSeq_nx (sIf_fn orr)]
  have lm : lcGo ⟨rngD 0 ds.length, none⟩ (.nm 2) (bNot (bVal (eCall 2 (f_law_sameN k) (aCons (eBin oIx (eVar 0) (eVar 2)) (aCons (eBin oIx (eVar 1) (eVar 2)) aNil))))) (eVar 2) [some (.tup ds), some (.tup ds), none] (natD (List.range ds.length)) S =
      .ok (((List.range ds.length).filter fun _ => false).map fun (x : Nat) => D.int (x : Int)) S := lcGo_filterN (List.range ds.length) fun x hx => by
    rw [List.mem_range] at hx
    refine ⟨[some (.tup ds), some (.tup ds), some (.int x)], rfl, ?_, fun z => by cases z⟩
    have ix : oIx (.tup ds) (.int x) S = some ds[x] := oIx_tup.trans (atI_ok (List.getElem?_eq_getElem hx))
    exact bNot_ok (b := true) (bVal_ok (eCall_ok (aCons_ok (eBin_ok (eVar_ok rfl) (eVar_ok rfl) ix) (aCons_ok (eBin_ok (eVar_ok rfl) (eVar_ok rfl) ix) aNil_ok)) rfl (h _ (List.getElem_mem hx))))
  have hf : (List.range ds.length).filter (fun _ => false) = [] := by simp
  rw [hf, List.map_nil, ← rngD_nat] at lm
  refine sRet_ok (eBin_ok (eCb_ok (aCons_ok (eLc_ok (k := ⟨rngD 0 ds.length, none⟩) (iRng1D_ok (aCons_ok gl1 aNil_ok) (by omega)) (by exact lm) (Nat.zero_le _)) aNil_ok) rfl) eC_ok ?_)
  rfl
theorem same_nats (k : Nat) (F : List Nat) (hl : F.length ≤ 1000) (S : Sto) : f_law_sameN (k + 2) [.tup (natD F), .tup (natD F)] S = .ok (.bl true) S :=
  same_tup (k + 1) _ (by rw [natD_len]; exact hl) S fun d hd => by
    obtain ⟨x, _, rfl⟩ := natD_mem hd
    exact same_int k _ S
theorem same_parts {n : Nat} {E : List Edge} (hn : n ≤ 1000) (S : Sto) : f_law_same [.tup (partsD n E (List.range n)), .tup (partsD n E (List.range n))] S = .ok (.bl true) S :=
  same_tup 6 _ (Nat.le_trans (partsD_len _ _ _) (by rw [List.length_range]; exact hn)) S fun d hd => by
    unfold partsD at hd
    obtain ⟨p, _, rfl⟩ := List.mem_map.mp hd
    exact same_nats 4 _ (Nat.le_trans (List.length_filter_le _ _) (by rw [List.length_range]; exact hn)) S
end Ev

namespace Ev
open PySem PySem.Spec PyProof.Rows L2
theorem mem_group {n : Nat} {E : List Edge} {p x : Nat} : x ∈ groupOf n E p ↔ x < n ∧ rep n E x = p := by
  unfold groupOf
  rw [List.mem_filter, List.mem_range, beq_iff_eq]
theorem partsD_get {n j : Nat} {E : List Edge} {d : D} (h : (partsD n E (List.range n))[j]? = some d) : ∃ q, q < n ∧ rep n E q = q ∧ d = .tup (natD (groupOf n E q)) := by
  have := List.mem_of_getElem? h
  unfold partsD at this
  obtain ⟨q, hq, rfl⟩ := List.mem_map.mp this
  rw [List.mem_filter, List.mem_range, beq_iff_eq] at hq
  exact ⟨q, hq.1, hq.2, rfl⟩
theorem natD_inj {F G : List Nat} (h : natD F = natD G) : F = G := by
  have := congrArg intsOf h
  rw [intsOf_nat, intsOf_nat] at this
  have := Option.some.inj this
  exact (List.map_inj_right (f := Int.ofNat) (fun a b q => Int.ofNat.inj q)).1 this
theorem group_of_spec {n p : Nat} {E : List Edge} (hE : Eok n E) (hp : p < n) (S : Sto) :
    f_group_of [.tup (partsD n E (List.range n)), .int p] S = .ok (.tup (natD (groupOf n E (rep n E p)))) S := by
  have key := forGo_rt (items := partsD n E (List.range n)) (tg := .nm 2) (b := (sIf (bBin oIn (eVar 1) (eVar 2)) (sRet (eVar 2)) sNext))
    (fun j ρ S' => (∃ x2, ρ = [some (.tup (partsD n E (List.range n))), some (.int p), x2]) ∧ S' = S ∧ ∀ i, i < j → (partsD n E (List.range n))[i]? ≠ some (.tup (natD (groupOf n E (rep n E p)))))
    (fun v S' => v = .tup (natD (groupOf n E (rep n E p))) ∧ S' = S) (ρ := [some (.tup (partsD n E (List.range n))), some (.int p), none]) (S := S) ⟨⟨_, rfl⟩, rfl, fun i h => absurd h (Nat.not_lt_zero _)⟩ (by
    rintro j d ρ S' hd ⟨⟨x2, rfl⟩, rfl, hno⟩
    obtain ⟨q, hq, hr, rfl⟩ := partsD_get hd
    refine ⟨[some (.tup (partsD n E (List.range n))), some (.int p), some (.tup (natD (groupOf n E q)))], rfl, ?_⟩
    have t : (bBin oIn (eVar 1) (eVar 2)) [some (.tup (partsD n E (List.range n))), some (.int p), some (.tup (natD (groupOf n E q)))] S' = .ok (decide (p ∈ groupOf n E q)) S' := bBin_ok (eVar_ok rfl) (eVar_ok rfl) (oIn_nat seqOf_tup)
    by_cases h : p ∈ groupOf n E q
    · have hh := (mem_group.1 h).2
      refine .inr ⟨_, _, (sIf_t (t.trans (by rw [decide_eq_true h]))).trans (sRet_ok (eVar_ok rfl)), by rw [hh], rfl⟩
    · refine .inl ⟨_, _, .inl (sIf_fn (t.trans (by rw [decide_eq_false h]))), ⟨_, rfl⟩, rfl, fun i hi => ?_⟩
      rcases Nat.lt_or_ge i j with z | z
      · exact hno i z
      · have : i = j := by omega
        subst this
        rw [hd]
        intro e
        have e2 : D.tup (natD (groupOf n E q)) = .tup (natD (groupOf n E (rep n E p))) := Option.some.inj e
        injection e2 with e2
        rw [natD_inj e2] at h
        exact h (mem_group.2 ⟨hp, rfl⟩))
  have mm : .tup (natD (groupOf n E (rep n E p))) ∈ partsD n E (List.range n) := by
    unfold partsD
    refine List.mem_map.mpr ⟨rep n E p, ?_, rfl⟩
    rw [List.mem_filter, List.mem_range, beq_iff_eq]
    exact ⟨rep_lt hE hp, rep_rep hE hp⟩
  rcases key with ⟨ρ', S', h1, ⟨x2, rfl⟩, rfl, hno⟩ | ⟨v, S', h1, rfl, rfl⟩
  · obtain ⟨i, hi, e⟩ := List.getElem_of_mem mm
    exact absurd (by rw [List.getElem?_eq_getElem hi, e]) (hno i hi)
  · refine runF_rt (S1 := S') (d := .tup (natD (groupOf n E (rep n E p)))) ?_ (gc_same (okDs_nat _ _))
    show b_group_of [some (.tup (partsD n E (List.range n))), some (.int p), none] S' = _
    unfold b_group_of
    exact sSeq_rt (sFor_ok (iSeqD_tup (eVar_ok rfl)) h1)
end Ev

namespace Ev
open PySem PySem.Spec PyProof.Rows L2
/-! ### joins -/
def joined (n : Nat) (E : List Edge) (p : Nat × Nat) : Bool := rep n E p.1 == rep n E p.2
def joinsB (N : Net) (c : List Nat) (ps : List (Nat × Nat)) : Bool := ps.all (joined N.n (edges N c))
/-- the first pair that is not joined -/
def firstAp (n : Nat) (E : List Edge) (ps : List (Nat × Nat)) : Option Nat := ps.findIdx? fun p => !joined n E p
def optD : Option Nat → D
  | none => .non
  | some i => .int i
theorem firstAp_none {N : Net} {c : List Nat} {ps : List (Nat × Nat)} : (firstAp N.n (edges N c) ps).isNone = joinsB N c ps := by
  unfold firstAp joinsB
  induction ps with
  | nil => rfl
  | cons p ps ih =>
    rw [List.findIdx?_cons, List.all_cons]
    cases h : joined N.n (edges N c) p with
    | true =>
      simp only [Bool.not_true, Bool.false_eq_true, if_false, Bool.true_and, ← ih]
      cases List.findIdx? (fun p => !joined N.n (edges N c) p) ps <;> rfl
    | false => rfl
theorem mem_rep {n a b : Nat} {E : List Edge} (hb : b < n) : decide (b ∈ groupOf n E (rep n E a)) = joined n E (a, b) := by
  unfold joined
  by_cases h : rep n E a = rep n E b
  · rw [decide_eq_true (mem_group.2 ⟨hb, h.symm⟩)]
    exact (beq_iff_eq.mpr h).symm
  · rw [decide_eq_false (fun q => h (mem_group.1 q).2.symm)]
    exact (beq_eq_false_iff_ne.mpr h).symm
theorem first_apart_spec {N : Net} {most W : Nat} {c : List Nat} {cd : D} {ps : List (Nat × Nat)} (S : Sto) (hcd : SeqC cd c) (hm : most ≤ 1000) (hN : N.Ok most W) (hc : ChOk N c) (hp : PrOk N.n ps) :
    f_first_apart [netD N, pairsD ps, cd] S = .ok (optD (firstAp N.n (edges N c) ps)) S := by
  have hE := edges_ok hN hc
  have key := forGo_rt (items := enumDs 0 (ps.map pairD)) (tg := (.tp [(.nm 4), (.tp [(.nm 5), (.nm 6)])])) (b := (sIf (bBin oNotIn (eVar 6) (eCall 2 f_group_of (aCons (eVar 3) (aCons (eVar 5) aNil)))) (sRet (eVar 4)) sNext))
    (fun j ρ S' => (∃ x4 x5 x6, ρ = [some (netD N), some (pairsD ps), some cd, some (.tup (partsD N.n (edges N c) (List.range N.n))), x4, x5, x6]) ∧ S' = S ∧ ∀ i p, i < j → ps[i]? = some p → joined N.n (edges N c) p = true)
    (fun v S' => S' = S ∧ ∃ i, v = .int (i : Nat) ∧ firstAp N.n (edges N c) ps = some i)
    (ρ := [some (netD N), some (pairsD ps), some cd, some (.tup (partsD N.n (edges N c) (List.range N.n))), none, none, none]) (S := S) ⟨⟨_, _, _, rfl⟩, rfl, fun i p h => absurd h (Nat.not_lt_zero _)⟩ (by
    rintro j d ρ S' hd ⟨⟨x4, x5, x6, rfl⟩, rfl, hno⟩
    rw [enumDs_get, Nat.zero_add, List.getElem?_map] at hd
    obtain ⟨d0, hd0, rfl⟩ := Option.map_eq_some_iff.mp hd
    obtain ⟨p, hpj, rfl⟩ := Option.map_eq_some_iff.mp hd0
    have hpo := hp p (List.mem_of_getElem? hpj)
    refine ⟨[some (netD N), some (pairsD ps), some cd, some (.tup (partsD N.n (edges N c) (List.range N.n))), some (.int j), some (.int p.1), some (.int p.2)], rfl, ?_⟩
    have t : (bBin oNotIn (eVar 6) (eCall 2 f_group_of (aCons (eVar 3) (aCons (eVar 5) aNil)))) [some (netD N), some (pairsD ps), some cd, some (.tup (partsD N.n (edges N c) (List.range N.n))), some (.int j), some (.int p.1), some (.int p.2)] S' = .ok (!joined N.n (edges N c) p) S' :=
      bBin_ok (eVar_ok rfl) (eCall_ok (aCons_ok (eVar_ok rfl) (aCons_ok (eVar_ok rfl) aNil_ok)) rfl (group_of_spec hE (Nat.lt_trans hpo.1 hpo.2) S')) (by rw [oNotIn_nat seqOf_tup, mem_rep hpo.2])
    cases h : joined N.n (edges N c) p with
    | true =>
      rw [h] at t
      refine .inl ⟨_, _, .inl (sIf_fn t), ⟨_, _, _, rfl⟩, rfl, fun i q hi hq => ?_⟩
      rcases Nat.lt_or_ge i j with z | z
      · exact hno i q z hq
      · have : i = j := by omega
        subst this
        rw [hpj] at hq
        cases hq
        exact h
    | false =>
      rw [h] at t
      refine .inr ⟨_, _, (sIf_t t).trans (sRet_ok (eVar_ok rfl)), rfl, j, rfl, ?_⟩
      unfold firstAp
      rw [List.findIdx?_eq_some_iff_getElem]
      obtain ⟨hj, e⟩ := List.getElem?_eq_some_iff.mp hpj
      refine ⟨hj, by rw [e, h]; rfl, fun i hi => ?_⟩
      rw [hno i ps[i] hi (List.getElem?_eq_getElem (by omega))]
      decide)
  have s1 : (sSet 3 (eCall 2 f_groups (aCons (eVar 0) (aCons (eVar 2) aNil)))) [some (netD N), some (pairsD ps), some cd, none, none, none, none] S = .nx [some (netD N), some (pairsD ps), some cd, some (.tup (partsD N.n (edges N c) (List.range N.n))), none, none, none] S :=
    sSet_ok (eCall_ok (aCons_ok (eVar_ok rfl) (aCons_ok (eVar_ok rfl) aNil_ok)) rfl (groups_specC S hcd hm hN hc))
  rcases key with ⟨ρ', S', h1, ⟨x4, x5, x6, rfl⟩, rfl, hno⟩ | ⟨v, S', h1, rfl, i, rfl, hi⟩
  · have hnone : firstAp N.n (edges N c) ps = none := by
      unfold firstAp
      rw [List.findIdx?_eq_none_iff]
      intro p hp'
      obtain ⟨i, hi, e⟩ := List.getElem_of_mem hp'
      rw [hno i p (by rw [enumDs_len, List.length_map]; exact hi) (by rw [List.getElem?_eq_getElem hi, e])]
      rfl
    rw [hnone]
    refine runF_rt (S1 := S') (d := .non) ?_ (gc_same rfl)
    show b_first_apart [some (netD N), some (pairsD ps), some cd, none, none, none, none] S' = _
    unfold b_first_apart
    exact sSeq_nxo s1 (sSeq_nxo (sFor_ok (iEnumD_tup (aCons_ok (eVar_ok rfl) aNil_ok)) h1) (sRet_ok eC_ok))
  · rw [hi]
    refine runF_rt (S1 := S') (d := .int (i : Nat)) ?_ (gc_same rfl)
    show b_first_apart [some (netD N), some (pairsD ps), some cd, none, none, none, none] S' = _
    unfold b_first_apart
    exact sSeq_nxo s1 (sSeq_rt (sFor_ok (iEnumD_tup (aCons_ok (eVar_ok rfl) aNil_ok)) h1))
theorem oIsN_opt {S : Sto} (x : Option Nat) : oIsN (optD x) .non S = some (.bl x.isNone) := by cases x <;> rfl
theorem joins_spec {N : Net} {most W : Nat} {c : List Nat} {cd : D} {ps : List (Nat × Nat)} (S : Sto) (hcd : SeqC cd c) (hm : most ≤ 1000) (hN : N.Ok most W) (hc : ChOk N c) (hp : PrOk N.n ps) :
    f_joins [netD N, pairsD ps, cd] S = .ok (.bl (joinsB N c ps)) S := by
  refine runF_rt (S1 := S) (d := .bl (joinsB N c ps)) ?_ (gc_same rfl)
  show b_joins [some (netD N), some (pairsD ps), some cd] S = _
  unfold b_joins
  refine sRet_ok (eBin_ok (eCall_ok (aCons_ok (eVar_ok rfl) (aCons_ok (eVar_ok rfl) (aCons_ok (eVar_ok rfl) aNil_ok))) rfl (first_apart_spec S hcd hm hN hc hp)) eC_ok ?_)
  rw [oIsN_opt, firstAp_none]
end Ev

namespace Ev
open PySem PySem.Spec PyProof.Rows L2
theorem filter_zero {N : Net} {c : List Nat} {ps : List (Nat × Nat)} : decide (((ps.filter fun p => !joined N.n (edges N c) p).length : Int) = 0) = joinsB N c ps := by
  unfold joinsB
  cases h : ps.all (joined N.n (edges N c)) with
  | true =>
    rw [List.all_eq_true] at h
    have : ps.filter (fun p => !joined N.n (edges N c) p) = [] := List.filter_eq_nil_iff.2 fun p hp => by rw [h p hp]; decide
    rw [this]
    rfl
  | false =>
    refine decide_eq_false fun q => ?_
    have q : (ps.filter fun p => !joined N.n (edges N c) p).length = 0 := by omega
    rw [List.length_eq_zero_iff, List.filter_eq_nil_iff] at q
    have : ps.all (joined N.n (edges N c)) = true := List.all_eq_true.2 fun p hp => by
      have := q p hp
      simpa using this
    rw [h] at this
    cases this
theorem law_joins_spec {N : Net} {most W : Nat} {c : List Nat} {cd : D} {ps : List (Nat × Nat)} (S : Sto) (hcd : SeqC cd c) (hm : most ≤ 1000) (hN : N.Ok most W) (hc : ChOk N c) (hp : PrOk N.n ps) (hl : ps.length ≤ 1000) :
    f_law_joins [netD N, pairsD ps, cd] S = .ok (.bl (joinsB N c ps)) S := by
  have lm : lcGo ⟨ps.map pairD, none⟩ (.nm 3) (bBin oNotIn (eBin oIx (eVar 3) (eC (.int 1))) (eCall 3 f_law_group (aCons (eVar 0) (aCons (eVar 2) (aCons (eBin oIx (eVar 3) (eC (.int 0))) aNil))))) (eVar 3) [some (netD N), some (pairsD ps), some cd, none] (ps.map pairD) S =
      .ok ((ps.filter fun p => !joined N.n (edges N c) p).map pairD) S := lcGo_filterN ps fun p hp' => by
    have hpo := hp p hp'
    refine ⟨[some (netD N), some (pairsD ps), some cd, some (pairD p)], rfl, ?_, fun _ => eVar_ok rfl⟩
    exact bBin_ok (eBin_ok (eVar_ok rfl) eC_ok (oIx_tup.trans atI_1)) (eCall_ok (aCons_ok (eVar_ok rfl) (aCons_ok (eVar_ok rfl) (aCons_ok (eBin_ok (eVar_ok rfl) eC_ok (oIx_tup.trans atI_0)) aNil_ok))) rfl (group_specC S hcd hm hN hc (Nat.lt_trans hpo.1 hpo.2))) (by rw [oNotIn_nat seqOf_tup, mem_rep hpo.2])
  refine runF_rt (S1 := S) (d := .bl (joinsB N c ps)) ?_ (gc_same rfl)
  show b_law_joins [some (netD N), some (pairsD ps), some cd, none] S = _
  unfold b_law_joins
  refine sRet_ok (eBin_ok (x := .int ((ps.filter fun p => !joined N.n (edges N c) p).length : Nat)) (eCb_ok (aCons_ok (eLc_ok (k := ⟨ps.map pairD, none⟩) (iSeqD_tup (eVar_ok rfl)) (by exact lm) (sizeLine_ok ?_)) aNil_ok) ?_) eC_ok ?_)
  · rw [List.length_map]
    exact Nat.le_trans (List.length_filter_le _ _) hl
  · show (gLen _ _).map _ = _
    rw [gLen_seq seqOf_lst, List.length_map]
    rfl
  · rw [oEq_int, filter_zero]
/-! ### spare -/
theorem chOk_filter {N : Net} {c : List Nat} {f : Nat → Bool} (h : ChOk N c) : ChOk N (c.filter f) := ⟨Nat.le_trans (List.length_filter_le _ _) h.1, fun k hk => h.2 k (List.mem_filter.mp hk).1⟩
def spareOf (N : Net) (ps : List (Nat × Nat)) (c : List Nat) : Option Nat := c.find? fun k => joinsB N (c.filter fun j => decide (j ≠ k)) ps
noncomputable def spB (F : List D → Sto → R D) : SF := (sSeq (sFor (iSeqD (eVar 2)) (.nm 3) (sIf (bVal (eCall 3 F (aCons (eVar 0) (aCons (eVar 1) (aCons (eLc (iSeqD (eVar 2)) (.nm 4) (bBin oNe (eVar 4) (eVar 3)) (eVar 4) [4]) aNil))))) (sRet (eVar 3)) sNext))
    (sRet (eC .non)))
theorem spare_gen {N : Net} {c : List Nat} {cd : D} {ps : List (Nat × Nat)} {F : List D → Sto → R D} (S : Sto) (hcd : SeqC cd c) (hc : ChOk N c) (hw : N.ways.length ≤ 1000)
    (hF : ∀ c', ChOk N c' → F [netD N, pairsD ps, .lst (natD c')] S = .ok (.bl (joinsB N c' ps)) S) : runF 5 (spB F) [netD N, pairsD ps, cd] S = .ok (optD (spareOf N ps c)) S := by
  have key := forGo_rt (items := natD c) (tg := .nm 3) (b := (sIf (bVal (eCall 3 F (aCons (eVar 0) (aCons (eVar 1) (aCons (eLc (iSeqD (eVar 2)) (.nm 4) (bBin oNe (eVar 4) (eVar 3)) (eVar 4) [4]) aNil))))) (sRet (eVar 3)) sNext))
    (fun j ρ S' => (∃ x3, ρ = [some (netD N), some (pairsD ps), some cd, x3, none]) ∧ S' = S ∧ ∀ i k, i < j → c[i]? = some k → joinsB N (c.filter fun j => decide (j ≠ k)) ps = false)
    (fun v S' => S' = S ∧ ∃ k, v = .int (k : Nat) ∧ spareOf N ps c = some k)
    (ρ := [some (netD N), some (pairsD ps), some cd, none, none]) (S := S) ⟨⟨_, rfl⟩, rfl, fun i p h => absurd h (Nat.not_lt_zero _)⟩ (by
    rintro j d ρ S' hd ⟨⟨x3, rfl⟩, rfl, hno⟩
    obtain ⟨k, hk, rfl⟩ := natD_inv hd
    refine ⟨[some (netD N), some (pairsD ps), some cd, some (.int k), none], rfl, ?_⟩
    have lm : lcGo ⟨natD c, none⟩ (.nm 4) (bBin oNe (eVar 4) (eVar 3)) (eVar 4) [some (netD N), some (pairsD ps), some cd, some (.int k), none] (natD c) S' = .ok ((c.filter fun j => decide (j ≠ k)).map fun (x : Nat) => D.int (x : Int)) S' := lcGo_filterN c fun x hx => by
      refine ⟨[some (netD N), some (pairsD ps), some cd, some (.int k), some (.int x)], rfl, ?_, fun _ => eVar_ok rfl⟩
      rw [bBin_ok (eVar_ok rfl) (eVar_ok rfl) oNe_int]
      by_cases h : x = k
      · rw [decide_eq_true (by rw [h]), decide_eq_false (by simp [h])]; rfl
      · rw [decide_eq_false (by omega), decide_eq_true h]; rfl
    have t : (bVal (eCall 3 F (aCons (eVar 0) (aCons (eVar 1) (aCons (eLc (iSeqD (eVar 2)) (.nm 4) (bBin oNe (eVar 4) (eVar 3)) (eVar 4) [4]) aNil))))) [some (netD N), some (pairsD ps), some cd, some (.int k), none] S' = .ok (joinsB N (c.filter fun j => decide (j ≠ k)) ps) S' :=
      bVal_ok (eCall_ok (aCons_ok (eVar_ok rfl) (aCons_ok (eVar_ok rfl) (aCons_ok (eLc_ok (k := ⟨natD c, none⟩) (iSeqD_c hcd (eVar_ok rfl)) (by exact lm) (sizeLine_ok (by rw [natD_len]; exact Nat.le_trans (List.length_filter_le _ _) (Nat.le_trans hc.1 hw)))) aNil_ok))) rfl (hF _ (chOk_filter hc)))
    cases h : joinsB N (c.filter fun j => decide (j ≠ k)) ps with
    | false =>
      rw [h] at t
      refine .inl ⟨_, _, .inl (sIf_fn t), ⟨_, rfl⟩, rfl, fun i q hi hq => ?_⟩
      rcases Nat.lt_or_ge i j with z | z
      · exact hno i q z hq
      · have : i = j := by omega
        subst this
        rw [hk] at hq
        cases hq
        exact h
    | true =>
      rw [h] at t
      refine .inr ⟨_, _, (sIf_t t).trans (sRet_ok (eVar_ok rfl)), rfl, k, rfl, ?_⟩
      unfold spareOf
      rw [List.find?_eq_some_iff_getElem]
      obtain ⟨hj, e⟩ := List.getElem?_eq_some_iff.mp hk
      refine ⟨h, j, hj, e, fun i hi => ?_⟩
      rw [hno i c[i] hi (List.getElem?_eq_getElem (by omega))]
      rfl)
  rcases key with ⟨ρ', S', h1, ⟨x3, rfl⟩, rfl, hno⟩ | ⟨v, S', h1, rfl, k, rfl, hk⟩
  · have hnone : spareOf N ps c = none := by
      unfold spareOf
      rw [List.find?_eq_none]
      intro k hk
      obtain ⟨i, hi, e⟩ := List.getElem_of_mem hk
      rw [hno i k (by rw [natD_len]; exact hi) (by rw [List.getElem?_eq_getElem hi, e])]
      decide
    rw [hnone]
    refine runF_rt (S1 := S') (d := .non) ?_ (gc_same rfl)
    show spB F [some (netD N), some (pairsD ps), some cd, none, none] S' = _
    exact sSeq_nxo (sFor_ok (iSeqD_c hcd (eVar_ok rfl)) h1) (sRet_ok eC_ok)
  · rw [hk]
    refine runF_rt (S1 := S') (d := .int (k : Nat)) ?_ (gc_same rfl)
    show spB F [some (netD N), some (pairsD ps), some cd, none, none] S' = _
    exact sSeq_rt (sFor_ok (iSeqD_c hcd (eVar_ok rfl)) h1)
/-- same, of None -/
theorem same_non (k : Nat) (S : Sto) : f_law_sameN (k + 1) [.non, .non] S = .ok (.bl true) S := by
  refine runF_rt (S1 := S) (d := .bl true) ?_ (gc_same rfl)
  show b_law_same (f_law_sameN k) [some .non, some .non, none] S = _
  unfold b_law_same
  have t0 : bVal (eIsi "tuple" (eVar 1)) [some .non, some .non, none] S = .ok false S := bVal_ok (by unfold eIsi; rw [eVar_ok rfl]; rfl)
  refine sSeq_nxo (sIf_fn t0) (sSeq_rt ((sIf_t (bBin_ok (c := true) (eVar_ok rfl) eC_ok rfl)).trans (sRet_ok (eBin_ok (eVar_ok rfl) eC_ok rfl))))
theorem same_opt (k : Nat) (x : Option Nat) (S : Sto) : f_law_sameN (k + 1) [optD x, optD x] S = .ok (.bl true) S := by
  cases x with
  | none => exact same_non k S
  | some i => exact same_int k _ S
end Ev

namespace Ev
open PySem PySem.Spec PyProof.Rows L2
theorem nats_of {b : Nat} : ∀ (ys : List D), (∀ y ∈ ys, ∃ k : Nat, k < b ∧ y = .int k) → ∃ c : List Nat, ys = natD c ∧ ∀ k ∈ c, k < b
  | [], _ => ⟨[], rfl, fun _ h => by simp at h⟩
  | y :: ys, h => by
    obtain ⟨k, hk, rfl⟩ := h y List.mem_cons_self
    obtain ⟨c, rfl, hc⟩ := nats_of ys fun z hz => h z (List.mem_cons_of_mem _ hz)
    refine ⟨k :: c, rfl, fun j hj => ?_⟩
    rcases List.mem_cons.mp hj with e | e
    · rw [e]; exact hk
    · exact hc j e
theorem choice_spec {N : Net} {P : Pool} {T : Sto} (h0 : 0 ≤ P.pos) (hW : N.ways.length ≤ 1000) :
    ∃ (c : List Nat) (P' : Pool), ChOk N c ∧ 0 ≤ P'.pos ∧ f_law_choice [.loc 0, netD N] (poolC P :: T) = .ok (.tup (natD c)) (poolC P' :: T) := by
  obtain ⟨r, P1, r0, r1, p1, e1⟩ := draw1 (T := T) (n := 4) h0 (by omega) (by omega)
  have s1 : (sSet 2 (eBin oAdd (eC (.int 1)) (eCall 2 f_law_draw (aCons (eVar 0) (aCons (eC (.int 4)) aNil))))) [some (.loc 0), some (netD N), none, none] (poolC P :: T) = .nx [some (.loc 0), some (netD N), some (.int (1 + r)), none] (poolC P1 :: T) :=
    sSet_ok (eBin_ok eC_ok (eCall_ok (aCons_ok (eVar_ok rfl) (aCons_ok eC_ok aNil_ok)) rfl e1) oAdd_int)
  have key := lcGo_inv (k := ⟨rngD 0 N.ways.length, none⟩) (tg := .nm 3) (tt := (bBin oLt (eCall 2 f_law_draw (aCons (eVar 0) (aCons (eC (.int 4)) aNil))) (eVar 2))) (te := eVar 3) (ρ0 := [some (.loc 0), some (netD N), some (.int (1 + r)), none])
    (fun S => ∃ P : Pool, 0 ≤ P.pos ∧ S = poolC P :: T) (fun y => ∃ k : Nat, k < N.ways.length ∧ y = .int k) (fun S _ => True.intro) (natD (List.range N.ways.length)) (poolC P1 :: T) ⟨P1, p1, rfl⟩ (by
    rintro d hd S ⟨P, p0, rfl⟩
    obtain ⟨x, hx, rfl⟩ := natD_mem hd
    rw [List.mem_range] at hx
    obtain ⟨q, P2, q0, q1, p2, e2⟩ := draw1 (T := T) (n := 4) p0 (by omega) (by omega)
    exact ⟨[some (.loc 0), some (netD N), some (.int (1 + r)), some (.int x)], decide (q < 1 + r), poolC P2 :: T, rfl, bBin_ok (eCall_ok (aCons_ok (eVar_ok rfl) (aCons_ok eC_ok aNil_ok)) rfl e2) (eVar_ok rfl) oLt_int, ⟨P2, p2, rfl⟩,
      fun _ => ⟨.int x, poolC P2 :: T, eVar_ok rfl, ⟨P2, p2, rfl⟩, x, hx, rfl⟩⟩)
  obtain ⟨ys, S', h1, ⟨P', p', rfl⟩, h3, h4⟩ := key
  obtain ⟨c, rfl, hc⟩ := nats_of ys h3
  rw [natD_len, natD_len, List.length_range] at h4
  refine ⟨c, P', ⟨h4, hc⟩, p', ?_⟩
  refine runF_rt (S1 := poolC P' :: T) (d := .tup (natD c)) ?_ (gc_put (S := poolC P :: T) (p := 0) (c := poolC P') (okDs_nat _ _) (okC_pool _ P'))
  show b_law_choice [some (.loc 0), some (netD N), none, none] (poolC P :: T) = _
  unfold b_law_choice
  rw [sSeq_nx s1]
  rw [← rngD_nat] at h1
  refine sRet_ok (eCb_ok (aCons_ok (eLc_ok (k := ⟨rngD 0 N.ways.length, none⟩) (iRng1D_ok (aCons_ok (eCb_ok (aCons_ok (eBin_ok (eVar_ok rfl) eC_ok (oIx_tup.trans atI_1)) aNil_ok) ?_) aNil_ok) (by omega)) (by exact h1) ?_) aNil_ok) rfl)
  · show (gLen [.tup (N.ways.map wayD)] _).map _ = _
    rw [gLen_seq seqOf_tup, List.length_map]
    rfl
  · rw [natD_len]; exact sizeLine_ok (Nat.le_trans h4 hW)
end Ev

namespace Ev
open PySem PySem.Spec PyProof.Rows L2
/-! ### the law -/
theorem pool_spec (ns : List Int) : f_law_pool [.frz (ns.map D.int)] [] = .ok (.loc 0) [poolC ⟨ns, 0, 0, 0, 0⟩] := by
  refine runF_rt (S1 := [poolC ⟨ns, 0, 0, 0, 0⟩]) (d := .loc 0) ?_ ?_
  · show b_law_pool [some (.frz (ns.map D.int))] [] = _
    unfold b_law_pool
    refine sRet_ok ?_
    unfold eLstA
    rw [aCons_ok (eCb_ok (op := oList false) (d := .lst (ns.map D.int)) (S2 := []) (aCons_ok (eVar_ok rfl) aNil_ok) rfl) (aCons_ok eC_ok (aCons_ok eC_ok (aCons_ok eC_ok (aCons_ok eC_ok aNil_ok))))]
    have sl : (5 : Nat) ≤ sizeLine := sizeLine_ok (by omega)
    simp only [R.bind, List.length_cons, List.length_nil, Nat.reduceAdd, sl, if_true, List.nil_append]
    rfl
  · unfold gc
    rw [if_neg]
    rintro ⟨_, h, _⟩
    cases h
theorem pick2 {P : Pool} (a b : Nat) (h0 : 0 ≤ P.pos) : ∃ (v : Nat) (P' : Pool), (v = a ∨ v = b) ∧ 0 ≤ P'.pos ∧ f_law_pick [.loc 0, .lst [.int a, .int b]] [poolC P] = .ok (.int v) [poolC P'] := by
  obtain ⟨v, P', hv, p', e⟩ := pick1 (T := []) (ds := [.int a, .int b]) h0 (by simp) (by simp) rfl
  simp only [List.mem_cons, List.not_mem_nil, or_false] at hv
  rcases hv with rfl | rfl
  · exact ⟨a, P', .inl rfl, p', e⟩
  · exact ⟨b, P', .inr rfl, p', e⟩
theorem all_choice (N : Net) : ChOk N (List.range N.ways.length) := ⟨by rw [List.length_range]; exact Nat.le_refl _, fun k hk => List.mem_range.mp hk⟩
theorem no_choice (N : Net) : ChOk N [] := ⟨Nat.zero_le _, fun k hk => by simp at hk⟩
noncomputable def ltest (x y : EF) : SF := sIf (bNot (bVal (eCall 2 f_law_same (aCons x (aCons y aNil))))) (sRet (eC (.bl false))) sNext
theorem ltest_ok {x y : EF} {ρ : En} {S : Sto} {d : D} (hx : x ρ S = .ok d S) (hy : y ρ S = .ok d S) (h : f_law_same [d, d] S = .ok (.bl true) S) : ltest x y ρ S = .nx ρ S :=
  sIf_fn (bNot_ok (b := true) (bVal_ok (eCall_ok (aCons_ok hx (aCons_ok hy aNil_ok)) rfl h)))
end Ev

namespace Ev
open PySem PySem.Spec PyProof.Rows L2
def lEnv (ns : List Int) (N : Net) (x3 x4 x5 x6 : Option D) : En := [some (.frz (ns.map D.int)), some (.loc 0), some (netD N), x3, x4, x5, x6]
noncomputable def lBody : SF := (sSeq (sSet 4 (eCall 3 f_law_pairs (aCons (eVar 1) (aCons (eBin oIx (eVar 2) (eC (.int 0))) (aCons (eC (.int 6)) aNil)))))
    (sSeq (sSet 5 (eCall 2 f_law_choice (aCons (eVar 1) (aCons (eVar 2) aNil))))
    (sSeq (sSet 6 (eCall 3 f_joins (aCons (eVar 2) (aCons (eVar 4) (aCons (eVar 5) aNil)))))
    (sSeq (sIf (bOr (bNot (bVal (eIsi "bool" (eVar 6)))) (bBin oNe (eVar 6) (eCall 3 f_law_joins (aCons (eVar 2) (aCons (eVar 4) (aCons (eVar 5) aNil)))))) (sRet (eC (.bl false))) sNext)
    (sIf (bAnd (bVal (eVar 6)) (bNot (bVal (eCall 2 f_law_same (aCons (eCall 3 f_spare (aCons (eVar 2) (aCons (eVar 4) (aCons (eVar 5) aNil)))) (aCons (eCall 3 f_law_spare (aCons (eVar 2) (aCons (eVar 4) (aCons (eVar 5) aNil)))) aNil)))))) (sRet (eC (.bl false))) sNext)))))
theorem oNe_bl {a : Bool} {S : Sto} : oNe (.bl a) (.bl a) S = some (.bl false) := by
  unfold oNe
  rw [oEq_bl, decide_eq_true rfl]
  rfl
theorem lBody_ok {ns : List Int} {N : Net} {m W : Nat} {P : Pool} {x3 x4 x5 x6 : Option D} (hm : m ≤ 1000) (hw : N.ways.length ≤ 1000) (hN : N.Ok m W) (h0 : 0 ≤ P.pos) :
    ∃ (P' : Pool) (y4 y5 y6 : Option D), 0 ≤ P'.pos ∧ lBody (lEnv ns N x3 x4 x5 x6) [poolC P] = .nx (lEnv ns N x3 y4 y5 y6) [poolC P'] := by
  have hn1 : N.n ≤ 1000 := Nat.le_trans hN.n2 hm
  obtain ⟨ps, P1, hp, hl, p1, e1⟩ := pairs_spec (n := N.n) (most := 6) hn1 (by omega) h0
  obtain ⟨c, P2, hc, p2, e2⟩ := choice_spec (N := N) (T := []) p1 hw
  have hl2 : ps.length ≤ 1000 := by omega
  have e3 := joins_spec (c := c) (ps := ps) [poolC P2] (.inl rfl) hm hN hc hp
  have e4 := law_joins_spec (c := c) (ps := ps) [poolC P2] (.inl rfl) hm hN hc hp hl2
  have e5 : f_spare [netD N, pairsD ps, .tup (natD c)] [poolC P2] = .ok (optD (spareOf N ps c)) [poolC P2] := spare_gen (F := f_joins) _ (.inl rfl) hc hw fun c' hc' => joins_spec _ (.inr rfl) hm hN hc' hp
  have e6 : f_law_spare [netD N, pairsD ps, .tup (natD c)] [poolC P2] = .ok (optD (spareOf N ps c)) [poolC P2] := spare_gen (F := f_law_joins) _ (.inl rfl) hc hw fun c' hc' => law_joins_spec _ (.inr rfl) hm hN hc' hp hl2
  have s1 : (sSet 4 (eCall 3 f_law_pairs (aCons (eVar 1) (aCons (eBin oIx (eVar 2) (eC (.int 0))) (aCons (eC (.int 6)) aNil))))) (lEnv ns N x3 x4 x5 x6) [poolC P] = .nx (lEnv ns N x3 (some (pairsD ps)) x5 x6) [poolC P1] :=
    sSet_ok (eCall_ok (aCons_ok (eVar_ok rfl) (aCons_ok (eBin_ok (eVar_ok rfl) eC_ok (oIx_tup.trans atI_0)) (aCons_ok eC_ok aNil_ok))) rfl e1)
  have s2 : (sSet 5 (eCall 2 f_law_choice (aCons (eVar 1) (aCons (eVar 2) aNil)))) (lEnv ns N x3 (some (pairsD ps)) x5 x6) [poolC P1] = .nx (lEnv ns N x3 (some (pairsD ps)) (some (.tup (natD c))) x6) [poolC P2] :=
    sSet_ok (eCall_ok (aCons_ok (eVar_ok rfl) (aCons_ok (eVar_ok rfl) aNil_ok)) rfl e2)
  have s3 : (sSet 6 (eCall 3 f_joins (aCons (eVar 2) (aCons (eVar 4) (aCons (eVar 5) aNil))))) (lEnv ns N x3 (some (pairsD ps)) (some (.tup (natD c))) x6) [poolC P2] = .nx (lEnv ns N x3 (some (pairsD ps)) (some (.tup (natD c))) (some (.bl (joinsB N c ps)))) [poolC P2] :=
    sSet_ok (eCall_ok (aCons_ok (eVar_ok rfl) (aCons_ok (eVar_ok rfl) (aCons_ok (eVar_ok rfl) aNil_ok))) rfl e3)
  have tb : (bVal (eIsi "bool" (eVar 6))) (lEnv ns N x3 (some (pairsD ps)) (some (.tup (natD c))) (some (.bl (joinsB N c ps)))) [poolC P2] = .ok true [poolC P2] := bVal_ok (by unfold eIsi; rw [eVar_ok rfl]; rfl)
  have t4 : (bOr (bNot (bVal (eIsi "bool" (eVar 6)))) (bBin oNe (eVar 6) (eCall 3 f_law_joins (aCons (eVar 2) (aCons (eVar 4) (aCons (eVar 5) aNil)))))) (lEnv ns N x3 (some (pairsD ps)) (some (.tup (natD c))) (some (.bl (joinsB N c ps)))) [poolC P2] = .ok false [poolC P2] := by
    unfold bOr
    rw [bNot_ok tb]
    simp only [R.bind, Bool.not_true, Bool.false_eq_true, if_false]
    exact bBin_ok (eVar_ok rfl) (eCall_ok (aCons_ok (eVar_ok rfl) (aCons_ok (eVar_ok rfl) (aCons_ok (eVar_ok rfl) aNil_ok))) rfl e4) oNe_bl
  have t5 : (bAnd (bVal (eVar 6)) (bNot (bVal (eCall 2 f_law_same (aCons (eCall 3 f_spare (aCons (eVar 2) (aCons (eVar 4) (aCons (eVar 5) aNil)))) (aCons (eCall 3 f_law_spare (aCons (eVar 2) (aCons (eVar 4) (aCons (eVar 5) aNil)))) aNil)))))) (lEnv ns N x3 (some (pairsD ps)) (some (.tup (natD c))) (some (.bl (joinsB N c ps)))) [poolC P2] = .ok false [poolC P2] := by
    have ha : (aCons (eVar 2) (aCons (eVar 4) (aCons (eVar 5) aNil))) (lEnv ns N x3 (some (pairsD ps)) (some (.tup (natD c))) (some (.bl (joinsB N c ps)))) [poolC P2] = .ok [netD N, pairsD ps, .tup (natD c)] [poolC P2] := aCons_ok (eVar_ok rfl) (aCons_ok (eVar_ok rfl) (aCons_ok (eVar_ok rfl) aNil_ok))
    have h1 : (eCall 3 f_spare (aCons (eVar 2) (aCons (eVar 4) (aCons (eVar 5) aNil)))) (lEnv ns N x3 (some (pairsD ps)) (some (.tup (natD c))) (some (.bl (joinsB N c ps)))) [poolC P2] = .ok (optD (spareOf N ps c)) [poolC P2] := eCall_ok ha rfl e5
    have h2 : (eCall 3 f_law_spare (aCons (eVar 2) (aCons (eVar 4) (aCons (eVar 5) aNil)))) (lEnv ns N x3 (some (pairsD ps)) (some (.tup (natD c))) (some (.bl (joinsB N c ps)))) [poolC P2] = .ok (optD (spareOf N ps c)) [poolC P2] := eCall_ok ha rfl e6
    have h3 : (eCall 2 f_law_same (aCons (eCall 3 f_spare (aCons (eVar 2) (aCons (eVar 4) (aCons (eVar 5) aNil)))) (aCons (eCall 3 f_law_spare (aCons (eVar 2) (aCons (eVar 4) (aCons (eVar 5) aNil)))) aNil))) (lEnv ns N x3 (some (pairsD ps)) (some (.tup (natD c))) (some (.bl (joinsB N c ps)))) [poolC P2] = .ok (.bl true) [poolC P2] := eCall_ok (aCons_ok h1 (aCons_ok h2 aNil_ok)) rfl (same_opt 6 _ _)
    have tn := bNot_ok (bVal_ok h3)
    unfold bAnd
    rw [bVal_ok (b := joinsB N c ps) (eVar_ok rfl)]
    cases h : joinsB N c ps with
    | false => rfl
    | true =>
      rw [h] at tn
      simp only [R.bind, if_true]
      exact tn
  exact ⟨P2, _, _, _, p2, sSeq_nxo s1 (sSeq_nxo s2 (sSeq_nxo s3 (sSeq_nxo (sIf_fn t4) (sIf_fn t5))))⟩
theorem law_true (ns : List Int) (hl : ns.length ≤ 63) : ∃ S, f_law [.frz (ns.map D.int)] [] = .ok (.bl true) S := by
  obtain ⟨m, P1, hm, p1, e1⟩ := pick2 (P := ⟨ns, 0, 0, 0, 0⟩) 10 12 (Int.le_refl 0)
  obtain ⟨W, P2, hW, p2, e2⟩ := pick2 18 24 p1
  obtain ⟨N, P3, hN, p3, e3⟩ := net_spec (most := m) (W := W) (by omega) (by omega) (by omega) p2
  have hw : N.ways.length ≤ 24 := Nat.le_trans hN.len (by omega)
  have s1 : (sSet 1 (eCall 1 f_law_pool (aCons (eVar 0) aNil))) [some (.frz (ns.map D.int)), none, none, none, none, none, none] [] = .nx [some (.frz (ns.map D.int)), some (.loc 0), none, none, none, none, none] [poolC ⟨ns, 0, 0, 0, 0⟩] :=
    sSet_ok (eCall_ok (aCons_ok (eVar_ok rfl) aNil_ok) rfl (pool_spec ns))
  have elst : ∀ (a b : Int) (ρ : En) (S : Sto), (eLst (aCons (eC (.int a)) (aCons (eC (.int b)) aNil))) ρ S = .ok (.lst [.int a, .int b]) S := fun a b ρ S => eLst_ok (aCons_ok eC_ok (aCons_ok eC_ok aNil_ok)) (by simp)
  have s2 : (sSet 2 (eCall 3 f_law_net (aCons (eVar 1) (aCons (eCall 2 f_law_pick (aCons (eVar 1) (aCons (eLst (aCons (eC (.int 10)) (aCons (eC (.int 12)) aNil))) aNil))) (aCons (eCall 2 f_law_pick (aCons (eVar 1) (aCons (eLst (aCons (eC (.int 18)) (aCons (eC (.int 24)) aNil))) aNil))) aNil))))) [some (.frz (ns.map D.int)), some (.loc 0), none, none, none, none, none] [poolC ⟨ns, 0, 0, 0, 0⟩] =
      .nx (lEnv ns N none none none none) [poolC P3] :=
    sSet_ok (eCall_ok (aCons_ok (eVar_ok rfl) (aCons_ok (eCall_ok (aCons_ok (eVar_ok rfl) (aCons_ok (elst 10 12 _ _) aNil_ok)) rfl e1) (aCons_ok (eCall_ok (aCons_ok (eVar_ok rfl) (aCons_ok (elst 18 24 _ _) aNil_ok)) rfl e2) aNil_ok))) rfl e3)
  have key := forGo_v (items := rngD 0 4) (tg := .nm 3) (b := lBody)
    (fun j ρ S => (∃ x3 x4 x5 x6, ρ = lEnv ns N x3 x4 x5 x6) ∧ ∃ P : Pool, 0 ≤ P.pos ∧ S = [poolC P]) (ρ := lEnv ns N none none none none) (S := [poolC P3]) ⟨⟨_, _, _, _, rfl⟩, P3, p3, rfl⟩ (by
    rintro j d ρ S hd ⟨⟨x3, x4, x5, x6, rfl⟩, P, p0, rfl⟩
    obtain ⟨P', y4, y5, y6, p', e⟩ := lBody_ok (ns := ns) (x3 := some d) (x4 := x4) (x5 := x5) (x6 := x6) (by omega) (by omega) hN p0
    exact ⟨lEnv ns N (some d) x4 x5 x6, _, _, rfl, .inl e, ⟨_, _, _, _, rfl⟩, P', p', rfl⟩)
  obtain ⟨ρ', S', h5, ⟨x3, x4, x5, x6, rfl⟩, P4, p4, rfl⟩ := key
  have hb : b_law [some (.frz (ns.map D.int)), none, none, none, none, none, none] [] = .rt (.bl true) [poolC P4] := by
    unfold b_law
    exact sSeq_nxo s1 (sSeq_nxo s2 (sSeq_nxo (sFor_ok (k := ⟨rngD 0 4, none⟩) (iRng1D_ok (j := 4) (aCons_ok eC_ok aNil_ok) (by omega)) h5) (sRet_ok eC_ok)))
  exact ⟨[], runF_rt hb (gc_app (S := []) (T := [poolC P4]) rfl)⟩
end Ev

namespace Ev
open PySem PySem.Spec PyProof.Rows L2

theorem all_mk {l : PySem.W.OpenLaw} {w : World} {K : PySem.W.Frag} {h : Heap} {mg : Str → Option Value} {fa a1 a2 a3 a4 a5 a6 a7 a8 a9 a10 a11 a12 a13 a14 a15 a16 a17 a18 : Addr} (X : K.In h) (G : h.Ns mainGlobals mg) (hfa : mg "law" = some (.ref fa))
    {od1 an1 od2 an2 od3 an3 od4 an4 od5 an5 od6 an6 od7 an7 od8 an8 od9 an9 od10 an10 od11 an11 od12 an12 od13 an13 od14 an14 od15 an15 od16 an16 od17 an17 od18 an18 : Option Addr} {sl1 sl2 sl3 sl4 sl5 sl6 sl7 sl8 sl9 sl10 sl11 sl12 sl13 sl14 sl15 sl16 sl17 sl18 : Array (Option Value)} {oc1 kV1 dc1 pm1 cd1 ct1 oc2 kV2 dc2 pm2 cd2 ct2 oc3 kV3 dc3 pm3 cd3 ct3 oc4 kV4 dc4 pm4 cd4 ct4 oc5 kV5 dc5 pm5 cd5 ct5 oc6 kV6 dc6 pm6 cd6 ct6 oc7 kV7 dc7 pm7 cd7 ct7 oc8 kV8 dc8 pm8 cd8 ct8 oc9 kV9 dc9 pm9 cd9 ct9 oc10 kV10 dc10 pm10 cd10 ct10 oc11 kV11 dc11 pm11 cd11 ct11 oc12 kV12 dc12 pm12 cd12 ct12 oc13 kV13 dc13 pm13 cd13 ct13 oc14 kV14 dc14 pm14 cd14 ct14 oc15 kV15 dc15 pm15 cd15 ct15 oc16 kV16 dc16 pm16 cd16 ct16 oc17 kV17 dc17 pm17 cd17 ct17 oc18 kV18 dc18 pm18 cd18 ct18 : Value}
    (n1 : PySem.W.nsIn K mainGlobals "groups" = some (some (.ref a1))) (l1 : K.lookup a1 = some ⟨oc1, od1, .func (PySem.W.fnOf "groups" "groups" (defArgs s_groups) (defBody s_groups) (defScope s_groups) .none kV1 dc1 pm1 an1 cd1 ct1), sl1⟩) (e1 : PySem.W.codeIn K cd1 "groups" = true) (k1 : PySem.W.keepIn K (.ref a1) = true)
    (n2 : PySem.W.nsIn K mainGlobals "group_of" = some (some (.ref a2))) (l2 : K.lookup a2 = some ⟨oc2, od2, .func (PySem.W.fnOf "group_of" "group_of" (defArgs s_group_of) (defBody s_group_of) (defScope s_group_of) .none kV2 dc2 pm2 an2 cd2 ct2), sl2⟩) (e2 : PySem.W.codeIn K cd2 "group_of" = true) (k2 : PySem.W.keepIn K (.ref a2) = true)
    (n3 : PySem.W.nsIn K mainGlobals "first_apart" = some (some (.ref a3))) (l3 : K.lookup a3 = some ⟨oc3, od3, .func (PySem.W.fnOf "first_apart" "first_apart" (defArgs s_first_apart) (defBody s_first_apart) (defScope s_first_apart) .none kV3 dc3 pm3 an3 cd3 ct3), sl3⟩) (e3 : PySem.W.codeIn K cd3 "first_apart" = true) (k3 : PySem.W.keepIn K (.ref a3) = true)
    (n4 : PySem.W.nsIn K mainGlobals "joins" = some (some (.ref a4))) (l4 : K.lookup a4 = some ⟨oc4, od4, .func (PySem.W.fnOf "joins" "joins" (defArgs s_joins) (defBody s_joins) (defScope s_joins) .none kV4 dc4 pm4 an4 cd4 ct4), sl4⟩) (e4 : PySem.W.codeIn K cd4 "joins" = true) (k4 : PySem.W.keepIn K (.ref a4) = true)
    (n5 : PySem.W.nsIn K mainGlobals "spare" = some (some (.ref a5))) (l5 : K.lookup a5 = some ⟨oc5, od5, .func (PySem.W.fnOf "spare" "spare" (defArgs s_spare) (defBody s_spare) (defScope s_spare) .none kV5 dc5 pm5 an5 cd5 ct5), sl5⟩) (e5 : PySem.W.codeIn K cd5 "spare" = true) (k5 : PySem.W.keepIn K (.ref a5) = true)
    (n6 : PySem.W.nsIn K mainGlobals "_law_pool" = some (some (.ref a6))) (l6 : K.lookup a6 = some ⟨oc6, od6, .func (PySem.W.fnOf "_law_pool" "_law_pool" (defArgs s_law_pool) (defBody s_law_pool) (defScope s_law_pool) .none kV6 dc6 pm6 an6 cd6 ct6), sl6⟩) (e6 : PySem.W.codeIn K cd6 "_law_pool" = true) (k6 : PySem.W.keepIn K (.ref a6) = true)
    (n7 : PySem.W.nsIn K mainGlobals "_law_draw" = some (some (.ref a7))) (l7 : K.lookup a7 = some ⟨oc7, od7, .func (PySem.W.fnOf "_law_draw" "_law_draw" (defArgs s_law_draw) (defBody s_law_draw) (defScope s_law_draw) .none kV7 dc7 pm7 an7 cd7 ct7), sl7⟩) (e7 : PySem.W.codeIn K cd7 "_law_draw" = true) (k7 : PySem.W.keepIn K (.ref a7) = true)
    (n8 : PySem.W.nsIn K mainGlobals "_law_pick" = some (some (.ref a8))) (l8 : K.lookup a8 = some ⟨oc8, od8, .func (PySem.W.fnOf "_law_pick" "_law_pick" (defArgs s_law_pick) (defBody s_law_pick) (defScope s_law_pick) .none kV8 dc8 pm8 an8 cd8 ct8), sl8⟩) (e8 : PySem.W.codeIn K cd8 "_law_pick" = true) (k8 : PySem.W.keepIn K (.ref a8) = true)
    (n9 : PySem.W.nsIn K mainGlobals "_law_same" = some (some (.ref a9))) (l9 : K.lookup a9 = some ⟨oc9, od9, .func (PySem.W.fnOf "_law_same" "_law_same" (defArgs s_law_same) (defBody s_law_same) (defScope s_law_same) .none kV9 dc9 pm9 an9 cd9 ct9), sl9⟩) (e9 : PySem.W.codeIn K cd9 "_law_same" = true) (k9 : PySem.W.keepIn K (.ref a9) = true)
    (n10 : PySem.W.nsIn K mainGlobals "_law_cost" = some (some (.ref a10))) (l10 : K.lookup a10 = some ⟨oc10, od10, .func (PySem.W.fnOf "_law_cost" "_law_cost" (defArgs s_law_cost) (defBody s_law_cost) (defScope s_law_cost) .none kV10 dc10 pm10 an10 cd10 ct10), sl10⟩) (e10 : PySem.W.codeIn K cd10 "_law_cost" = true) (k10 : PySem.W.keepIn K (.ref a10) = true)
    (n11 : PySem.W.nsIn K mainGlobals "_law_way" = some (some (.ref a11))) (l11 : K.lookup a11 = some ⟨oc11, od11, .func (PySem.W.fnOf "_law_way" "_law_way" (defArgs s_law_way) (defBody s_law_way) (defScope s_law_way) .none kV11 dc11 pm11 an11 cd11 ct11), sl11⟩) (e11 : PySem.W.codeIn K cd11 "_law_way" = true) (k11 : PySem.W.keepIn K (.ref a11) = true)
    (n12 : PySem.W.nsIn K mainGlobals "_law_net" = some (some (.ref a12))) (l12 : K.lookup a12 = some ⟨oc12, od12, .func (PySem.W.fnOf "_law_net" "_law_net" (defArgs s_law_net) (defBody s_law_net) (defScope s_law_net) .none kV12 dc12 pm12 an12 cd12 ct12), sl12⟩) (e12 : PySem.W.codeIn K cd12 "_law_net" = true) (k12 : PySem.W.keepIn K (.ref a12) = true)
    (n13 : PySem.W.nsIn K mainGlobals "_law_pairs" = some (some (.ref a13))) (l13 : K.lookup a13 = some ⟨oc13, od13, .func (PySem.W.fnOf "_law_pairs" "_law_pairs" (defArgs s_law_pairs) (defBody s_law_pairs) (defScope s_law_pairs) .none kV13 dc13 pm13 an13 cd13 ct13), sl13⟩) (e13 : PySem.W.codeIn K cd13 "_law_pairs" = true) (k13 : PySem.W.keepIn K (.ref a13) = true)
    (n14 : PySem.W.nsIn K mainGlobals "_law_group" = some (some (.ref a14))) (l14 : K.lookup a14 = some ⟨oc14, od14, .func (PySem.W.fnOf "_law_group" "_law_group" (defArgs s_law_group) (defBody s_law_group) (defScope s_law_group) .none kV14 dc14 pm14 an14 cd14 ct14), sl14⟩) (e14 : PySem.W.codeIn K cd14 "_law_group" = true) (k14 : PySem.W.keepIn K (.ref a14) = true)
    (n15 : PySem.W.nsIn K mainGlobals "_law_joins" = some (some (.ref a15))) (l15 : K.lookup a15 = some ⟨oc15, od15, .func (PySem.W.fnOf "_law_joins" "_law_joins" (defArgs s_law_joins) (defBody s_law_joins) (defScope s_law_joins) .none kV15 dc15 pm15 an15 cd15 ct15), sl15⟩) (e15 : PySem.W.codeIn K cd15 "_law_joins" = true) (k15 : PySem.W.keepIn K (.ref a15) = true)
    (n16 : PySem.W.nsIn K mainGlobals "_law_choice" = some (some (.ref a16))) (l16 : K.lookup a16 = some ⟨oc16, od16, .func (PySem.W.fnOf "_law_choice" "_law_choice" (defArgs s_law_choice) (defBody s_law_choice) (defScope s_law_choice) .none kV16 dc16 pm16 an16 cd16 ct16), sl16⟩) (e16 : PySem.W.codeIn K cd16 "_law_choice" = true) (k16 : PySem.W.keepIn K (.ref a16) = true)
    (n17 : PySem.W.nsIn K mainGlobals "_law_spare" = some (some (.ref a17))) (l17 : K.lookup a17 = some ⟨oc17, od17, .func (PySem.W.fnOf "_law_spare" "_law_spare" (defArgs s_law_spare) (defBody s_law_spare) (defScope s_law_spare) .none kV17 dc17 pm17 an17 cd17 ct17), sl17⟩) (e17 : PySem.W.codeIn K cd17 "_law_spare" = true) (k17 : PySem.W.keepIn K (.ref a17) = true)
    (n18 : PySem.W.nsIn K mainGlobals "law" = some (some (.ref a18))) (l18 : K.lookup a18 = some ⟨oc18, od18, .func (PySem.W.fnOf "law" "law" (defArgs s_law) (defBody s_law) (defScope s_law) .none kV18 dc18 pm18 an18 cd18 ct18), sl18⟩) (e18 : PySem.W.codeIn K cd18 "law" = true) (k18 : PySem.W.keepIn K (.ref a18) = true)
    (z_abs : PySem.W.nsIn K mainGlobals "abs" = some none)
    (z_bool : PySem.W.nsIn K mainGlobals "bool" = some none)
    (z_enumerate : PySem.W.nsIn K mainGlobals "enumerate" = some none)
    (z_int : PySem.W.nsIn K mainGlobals "int" = some none)
    (z_isinstance : PySem.W.nsIn K mainGlobals "isinstance" = some none)
    (z_len : PySem.W.nsIn K mainGlobals "len" = some none)
    (z_list : PySem.W.nsIn K mainGlobals "list" = some none)
    (z_min : PySem.W.nsIn K mainGlobals "min" = some none)
    (z_range : PySem.W.nsIn K mainGlobals "range" = some none)
    (z_sorted : PySem.W.nsIn K mainGlobals "sorted" = some none)
    (z_str : PySem.W.nsIn K mainGlobals "str" = some none)
    (z_tuple : PySem.W.nsIn K mainGlobals "tuple" = some none) :
    ∃ fd : FuncData, (∀ (s : Shared) (v : Value), BindsTo s fd ⟨[v], []⟩ [("_law_script", v)]) ∧ ∀ base : Heap, K.In base → base.Ns mainGlobals mg → FnOk l.prog w K mg base CX0 9 fa fd ["_law_script"] (spOf K 1 f_law) := by
  have e := hfa.symm.trans (PySem.W.mg_of X G n18)
  cases e
  have T : Txt K mg := ⟨PySem.W.mg_none_of X G z_abs, PySem.W.mg_none_of X G z_bool, PySem.W.mg_none_of X G z_enumerate, PySem.W.mg_none_of X G z_int, PySem.W.mg_none_of X G z_isinstance, PySem.W.mg_none_of X G z_len, PySem.W.mg_none_of X G z_list, PySem.W.mg_none_of X G z_min, PySem.W.mg_none_of X G z_range, PySem.W.mg_none_of X G z_sorted, PySem.W.mg_none_of X G z_str, PySem.W.mg_none_of X G z_tuple⟩
  have F6 := fun_mk (st := s_law_pool) l6 e6 k6
  have b6 := F6.binds (ps := ["_law_script"]) fun _ _ _ _ _ _ us hl => match us, hl with | [_], _ => rfl
  have c_law_pool : ∀ base : Heap, Cal l.prog w K mg base CX0 1 "_law_pool" 1 f_law_pool := fun base => ⟨a6, _, _, ok_law_pool F6 T , PySem.W.mg_of X G n6, k6, b6⟩
  have F7 := fun_mk (st := s_law_draw) l7 e7 k7
  have b7 := F7.binds (ps := ["_law_pool_here", "_law_many"]) fun _ _ _ _ _ _ us hl => match us, hl with | [_, _], _ => rfl
  have c_law_draw : ∀ base : Heap, Cal l.prog w K mg base CX0 1 "_law_draw" 2 f_law_draw := fun base => ⟨a7, _, _, ok_law_draw F7 T , PySem.W.mg_of X G n7, k7, b7⟩
  have F10 := fun_mk (st := s_law_cost) l10 e10 k10
  have b10 := F10.binds (ps := ["_law_pool_here"]) fun _ _ _ _ _ _ us hl => match us, hl with | [_], _ => rfl
  have c_law_cost : ∀ base : Heap, Cal l.prog w K mg base CX0 2 "_law_cost" 1 f_law_cost := fun base => ⟨a10, _, _, ok_law_cost F10 T (c_law_draw base), PySem.W.mg_of X G n10, k10, b10⟩
  have F11 := fun_mk (st := s_law_way) l11 e11 k11
  have b11 := F11.binds (ps := ["_law_pool_here", "_law_places"]) fun _ _ _ _ _ _ us hl => match us, hl with | [_, _], _ => rfl
  have c_law_way : ∀ base : Heap, Cal l.prog w K mg base CX0 3 "_law_way" 2 f_law_way := fun base => ⟨a11, _, _, ok_law_way F11 T (c_law_draw base) (c_law_cost base), PySem.W.mg_of X G n11, k11, b11⟩
  have F12 := fun_mk (st := s_law_net) l12 e12 k12
  have b12 := F12.binds (ps := ["_law_pool_here", "_law_most", "_law_ways"]) fun _ _ _ _ _ _ us hl => match us, hl with | [_, _, _], _ => rfl
  have c_law_net : ∀ base : Heap, Cal l.prog w K mg base CX0 4 "_law_net" 3 f_law_net := fun base => ⟨a12, _, _, ok_law_net F12 T (c_law_draw base) (c_law_cost base) (c_law_way base), PySem.W.mg_of X G n12, k12, b12⟩
  have F8 := fun_mk (st := s_law_pick) l8 e8 k8
  have b8 := F8.binds (ps := ["_law_pool_here", "_law_rows"]) fun _ _ _ _ _ _ us hl => match us, hl with | [_, _], _ => rfl
  have c_law_pick : ∀ base : Heap, Cal l.prog w K mg base CX0 2 "_law_pick" 2 f_law_pick := fun base => ⟨a8, _, _, ok_law_pick F8 T (c_law_draw base), PySem.W.mg_of X G n8, k8, b8⟩
  have F13 := fun_mk (st := s_law_pairs) l13 e13 k13
  have b13 := F13.binds (ps := ["_law_pool_here", "_law_places", "_law_most"]) fun _ _ _ _ _ _ us hl => match us, hl with | [_, _, _], _ => rfl
  have c_law_pairs : ∀ base : Heap, Cal l.prog w K mg base CX0 2 "_law_pairs" 3 f_law_pairs := fun base => ⟨a13, _, _, ok_law_pairs F13 T (c_law_draw base), PySem.W.mg_of X G n13, k13, b13⟩
  have F16 := fun_mk (st := s_law_choice) l16 e16 k16
  have b16 := F16.binds (ps := ["_law_pool_here", "_law_net_here"]) fun _ _ _ _ _ _ us hl => match us, hl with | [_, _], _ => rfl
  have c_law_choice : ∀ base : Heap, Cal l.prog w K mg base CX0 2 "_law_choice" 2 f_law_choice := fun base => ⟨a16, _, _, ok_law_choice F16 T (c_law_draw base), PySem.W.mg_of X G n16, k16, b16⟩
  have F1 := fun_mk (st := s_groups) l1 e1 k1
  have b1 := F1.binds (ps := ["net", "choice"]) fun _ _ _ _ _ _ us hl => match us, hl with | [_, _], _ => rfl
  have c_groups : ∀ base : Heap, Cal l.prog w K mg base CX0 1 "groups" 2 f_groups := fun base => ⟨a1, _, _, ok_groups F1 T , PySem.W.mg_of X G n1, k1, b1⟩
  have F2 := fun_mk (st := s_group_of) l2 e2 k2
  have b2 := F2.binds (ps := ["parts", "place"]) fun _ _ _ _ _ _ us hl => match us, hl with | [_, _], _ => rfl
  have c_group_of : ∀ base : Heap, Cal l.prog w K mg base CX0 1 "group_of" 2 f_group_of := fun base => ⟨a2, _, _, ok_group_of F2 T , PySem.W.mg_of X G n2, k2, b2⟩
  have F3 := fun_mk (st := s_first_apart) l3 e3 k3
  have b3 := F3.binds (ps := ["net", "pairs", "choice"]) fun _ _ _ _ _ _ us hl => match us, hl with | [_, _, _], _ => rfl
  have c_first_apart : ∀ base : Heap, Cal l.prog w K mg base CX0 2 "first_apart" 3 f_first_apart := fun base => ⟨a3, _, _, ok_first_apart F3 T (c_groups base) (c_group_of base), PySem.W.mg_of X G n3, k3, b3⟩
  have F4 := fun_mk (st := s_joins) l4 e4 k4
  have b4 := F4.binds (ps := ["net", "pairs", "choice"]) fun _ _ _ _ _ _ us hl => match us, hl with | [_, _, _], _ => rfl
  have c_joins : ∀ base : Heap, Cal l.prog w K mg base CX0 3 "joins" 3 f_joins := fun base => ⟨a4, _, _, ok_joins F4 T (c_first_apart base), PySem.W.mg_of X G n4, k4, b4⟩
  have F14 := fun_mk (st := s_law_group) l14 e14 k14
  have b14 := F14.binds (ps := ["_law_net_here", "_law_choice_here", "_law_place"]) fun _ _ _ _ _ _ us hl => match us, hl with | [_, _, _], _ => rfl
  have c_law_group : ∀ base : Heap, Cal l.prog w K mg base CX0 1 "_law_group" 3 f_law_group := fun base => ⟨a14, _, _, ok_law_group F14 T , PySem.W.mg_of X G n14, k14, b14⟩
  have F15 := fun_mk (st := s_law_joins) l15 e15 k15
  have b15 := F15.binds (ps := ["_law_net_here", "_law_pairs_here", "_law_choice_here"]) fun _ _ _ _ _ _ us hl => match us, hl with | [_, _, _], _ => rfl
  have c_law_joins : ∀ base : Heap, Cal l.prog w K mg base CX0 2 "_law_joins" 3 f_law_joins := fun base => ⟨a15, _, _, ok_law_joins F15 T (c_law_group base), PySem.W.mg_of X G n15, k15, b15⟩
  have F9 := fun_mk (st := s_law_same) l9 e9 k9
  have b9 := F9.binds (ps := ["_law_actual", "_law_due"]) fun _ _ _ _ _ _ us hl => match us, hl with | [_, _], _ => rfl
  have c_law_same : ∀ base : Heap, Cal l.prog w K mg base CX0 8 "_law_same" 2 f_law_same := fun base => ⟨a9, _, _, ok_law_same F9 T (PySem.W.mg_of X G n9) b9 , PySem.W.mg_of X G n9, k9, b9⟩
  have F17 := fun_mk (st := s_law_spare) l17 e17 k17
  have b17 := F17.binds (ps := ["_law_net_here", "_law_pairs_here", "_law_choice_here"]) fun _ _ _ _ _ _ us hl => match us, hl with | [_, _, _], _ => rfl
  have c_law_spare : ∀ base : Heap, Cal l.prog w K mg base CX0 3 "_law_spare" 3 f_law_spare := fun base => ⟨a17, _, _, ok_law_spare F17 T (c_law_joins base), PySem.W.mg_of X G n17, k17, b17⟩
  have F5 := fun_mk (st := s_spare) l5 e5 k5
  have b5 := F5.binds (ps := ["net", "pairs", "choice"]) fun _ _ _ _ _ _ us hl => match us, hl with | [_, _, _], _ => rfl
  have c_spare : ∀ base : Heap, Cal l.prog w K mg base CX0 4 "spare" 3 f_spare := fun base => ⟨a5, _, _, ok_spare F5 T (c_joins base), PySem.W.mg_of X G n5, k5, b5⟩
  have F18 := fun_mk (st := s_law) l18 e18 k18
  exact ⟨_, fun s v => .of_eq rfl, fun base _ _ => ok_law F18 T (c_law_pool base) (c_law_net base) (c_law_pick base) (c_law_pairs base) (c_law_choice base) (c_joins base) (c_law_joins base) (c_law_same base) (c_law_spare base) (c_spare base)⟩
end Ev

open PySem PySem.W PyProof.Rows
theorem PySem.Challenge.cw_moatways_k01_pairs_that_are_joined_holds : PySem.Challenge.rw_moatways_k01_pairs_that_are_joined.Holds := by
  w_on; o_law; k_head; (case hw => w_witness2)
  k_fill
  refine L2.walk_of (l := PySem.Challenge.rw_moatways_k01_pairs_that_are_joined) (n := 63) (k := 9) (x := "_law_script") (CX := fun _ => L2.CX0) (sp := fun w => Ev.spOf _ 1 Ev.f_law) rfl (by decide) rfl ⟨rfl, by decide, by decide⟩ (fun w h Y => PySem.W.kIn_of Y) ?F (fun w H a ns hl ho hS => Ev.law_sp ho hS (Ev.law_true ns hl)) (fun _ _ _ _ _ h => h)
  case F =>
    intro w mg fa h KX G hmg
    refine' Ev.all_mk KX G hmg ?n1 ?l1 ?e1 ?k1 ?n2 ?l2 ?e2 ?k2 ?n3 ?l3 ?e3 ?k3 ?n4 ?l4 ?e4 ?k4 ?n5 ?l5 ?e5 ?k5 ?n6 ?l6 ?e6 ?k6 ?n7 ?l7 ?e7 ?k7 ?n8 ?l8 ?e8 ?k8 ?n9 ?l9 ?e9 ?k9 ?n10 ?l10 ?e10 ?k10 ?n11 ?l11 ?e11 ?k11 ?n12 ?l12 ?e12 ?k12 ?n13 ?l13 ?e13 ?k13 ?n14 ?l14 ?e14 ?k14 ?n15 ?l15 ?e15 ?k15 ?n16 ?l16 ?e16 ?k16 ?n17 ?l17 ?e17 ?k17 ?n18 ?l18 ?e18 ?k18 ?z_abs ?z_bool ?z_enumerate ?z_int ?z_isinstance ?z_len ?z_list ?z_min ?z_range ?z_sorted ?z_str ?z_tuple
    (case n1 => k_is)
    (case l1 => k_is)
    (case e1 => k_is)
    (case k1 => k_is)
    (case n2 => k_is)
    (case l2 => k_is)
    (case e2 => k_is)
    (case k2 => k_is)
    (case n3 => k_is)
    (case l3 => k_is)
    (case e3 => k_is)
    (case k3 => k_is)
    (case n4 => k_is)
    (case l4 => k_is)
    (case e4 => k_is)
    (case k4 => k_is)
    (case n5 => k_is)
    (case l5 => k_is)
    (case e5 => k_is)
    (case k5 => k_is)
    (case n6 => k_is)
    (case l6 => k_is)
    (case e6 => k_is)
    (case k6 => k_is)
    (case n7 => k_is)
    (case l7 => k_is)
    (case e7 => k_is)
    (case k7 => k_is)
    (case n8 => k_is)
    (case l8 => k_is)
    (case e8 => k_is)
    (case k8 => k_is)
    (case n9 => k_is)
    (case l9 => k_is)
    (case e9 => k_is)
    (case k9 => k_is)
    (case n10 => k_is)
    (case l10 => k_is)
    (case e10 => k_is)
    (case k10 => k_is)
    (case n11 => k_is)
    (case l11 => k_is)
    (case e11 => k_is)
    (case k11 => k_is)
    (case n12 => k_is)
    (case l12 => k_is)
    (case e12 => k_is)
    (case k12 => k_is)
    (case n13 => k_is)
    (case l13 => k_is)
    (case e13 => k_is)
    (case k13 => k_is)
    (case n14 => k_is)
    (case l14 => k_is)
    (case e14 => k_is)
    (case k14 => k_is)
    (case n15 => k_is)
    (case l15 => k_is)
    (case e15 => k_is)
    (case k15 => k_is)
    (case n16 => k_is)
    (case l16 => k_is)
    (case e16 => k_is)
    (case k16 => k_is)
    (case n17 => k_is)
    (case l17 => k_is)
    (case e17 => k_is)
    (case k17 => k_is)
    (case n18 => k_is)
    (case l18 => k_is)
    (case e18 => k_is)
    (case k18 => k_is)
    (case z_abs => k_is)
    (case z_bool => k_is)
    (case z_enumerate => k_is)
    (case z_int => k_is)
    (case z_isinstance => k_is)
    (case z_len => k_is)
    (case z_list => k_is)
    (case z_min => k_is)
    (case z_range => k_is)
    (case z_sorted => k_is)
    (case z_str => k_is)
    (case z_tuple => k_is)
