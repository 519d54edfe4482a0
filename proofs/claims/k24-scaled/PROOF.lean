import PyProof.Rows.All
import HandS.ForMost
import HandS.Conv
import HandS.Gcd
import HandS.IsInst
import HandS.Deep
import HandS.Flow
import HandS.ForExc
import HandS.Wide
import PyProof.P3In
import HandS.TupAny
import HandS.Comp
import HandS.Iter
import HandS.ExcOwn
import HandS.SortInts
import HandS.More
import KE.GoesEnum
import KE.KSuper
import HandS.Nested
import HandS.ClsMeth
import HandS.Defaults
import HandS.CallSlots
import HandS.SortRule
import KE.KDictSum
import HandS.Style
import PySem.Challenge.RW_moatways_k24_scaled_and_turned_tasks
import Wide.All
import OpenK.AllK
import Wide.FinOn
set_option Elab.async false
set_option linter.all false
set_option maxRecDepth 100000
set_option maxHeartbeats 4000000
namespace Ev
open PySem PySem.Spec PyProof.Rows L2

abbrev St := L2.St
/-! ### data, cells, stores -/
inductive D where
  | non | bl (b : Bool) | int (i : Int) | str (x : Str)
  | tup (ds : List D) | con (ds : List D) | lst (ds : List D) | frz (ds : List D) | loc (n : Nat)
inductive Cel where
  | lst (ds : List D) | dK (kvs : List (Key × D)) | dT (kvs : List (List Key × D)) | fT (kvs : List (List Key × D)) | ins (c : Str) (fs : List (Str × D))
abbrev Sto := List Cel
abbrev En := List (Option D)
structure Exn where
  cls : Str
  f : Str
  val : D
inductive R (α : Type) where
  | ok (a : α) (S : Sto) | ex (e : Exn) (S : Sto) | no
def R.bind {α β : Type} (r : R α) (g : α → Sto → R β) : R β :=
  match r with
  | .ok a S => g a S
  | .ex e S => .ex e S
  | .no => .no
@[simp] theorem R.bind_ok {α β : Type} (a : α) (S : Sto) (g : α → Sto → R β) : (R.ok a S).bind g = g a S := rfl
@[simp] theorem R.bind_ex {α β : Type} (e : Exn) (S : Sto) (g : α → Sto → R β) : (R.ex e S : R α).bind g = .ex e S := rfl
@[simp] theorem R.bind_no {α β : Type} (g : α → Sto → R β) : (R.no : R α).bind g = .no := rfl
inductive O where
  | nx (ρ : En) (S : Sto) | rt (d : D) (S : Sto) | bk (ρ : En) (S : Sto) | ct (ρ : En) (S : Sto) | ex (e : Exn) (ρ : En) (S : Sto) | no
/-- a world: the store's addresses, private ones -/
structure Wo where
  m : List Addr
  q : List Addr

section
variable (K : PySem.W.Frag)
/-- a written constant tuple -/
def KT (a : Addr) (xs : List V) : Prop := ∃ (o : Obj) (its : Array Value) (n : Nat), K.lookup a = some o ∧ o.cls = .type "tuple" ∧ o.data = .seq its n ∧ its.size ≤ sizeLine ∧ Vals xs its.toList
/-- a written list -/
def KL (a : Addr) (xs : List V) : Prop := ∃ (o : Obj) (its : Array Value) (n : Nat), K.lookup a = some o ∧ o.cls = .type "list" ∧ o.dict = none ∧ o.data = .seq its n ∧ its.size ≤ sizeLine ∧ Vals xs its.toList
/-- a list that is locked, or written -/
def Frz (w : Wo) (H : Hp) (a : Addr) (xs : List V) : Prop := (∃ o, H a = some (.frz o (.lst xs)) ∧ a ∉ w.m ∧ a ∉ w.q) ∨ KL K a xs
/-- the class of a name of the top -/
def ClsN (c : Str) (C : Addr) : Prop := PySem.W.nsIn K mainGlobals c = some (some (.ref C))
mutual
def RV (w : Wo) (H : Hp) : D → V → Prop
  | .non, v => v = .non
  | .bl b, v => v = .bl b
  | .int i, v => v = .int i
  | .str x, v => v = .str x
  | .tup ds, v => ∃ a xs, v = .ref a ∧ H a = some (.tup xs) ∧ RVs w H ds xs
  | .con ds, v => ∃ a xs, v = .ref a ∧ KT K a xs ∧ RVs w H ds xs
  | .lst ds, v => ∃ a xs, v = .ref a ∧ H a = some (.lst xs) ∧ (a ∉ w.m ∧ a ∉ w.q) ∧ RVs w H ds xs
  | .frz ds, v => ∃ a xs, v = .ref a ∧ Frz K w H a xs ∧ RVs w H ds xs
  | .loc n, v => ∃ a, v = .ref a ∧ w.m[n]? = some a
def RVs (w : Wo) (H : Hp) : List D → List V → Prop
  | [], vs => vs = []
  | d :: ds, vs => ∃ v r, vs = v :: r ∧ RV w H d v ∧ RVs w H ds r
end
def RP {κ : Type} (w : Wo) (H : Hp) (ps : List (κ × D)) (vs : List (κ × V)) : Prop := ps.map (·.1) = vs.map (·.1) ∧ RVs K w H (ps.map (·.2)) (vs.map (·.2))
def RC (w : Wo) (H : Hp) (a : Addr) : Cel → Prop
  | .lst ds => ∃ xs, H a = some (.lst xs) ∧ RVs K w H ds xs
  | .dK kvs => ∃ vs, H a = some (.dK vs) ∧ RP K w H kvs vs
  | .dT kvs => ∃ vs, H a = some (.dT vs) ∧ RP K w H kvs vs
  | .fT kvs => ∃ od vs, H a = some (.frz od (.dT vs)) ∧ RP K w H kvs vs
  | .ins c fs => ∃ C dx vs, ClsN K c C ∧ H a = some (.ins C dx vs) ∧ RP K w H fs vs
structure Sim (w : Wo) (S : Sto) (H : Hp) : Prop where
  len : w.m.length = S.length
  nd : w.m.Nodup
  at_ : ∀ (i : Nat) (c : Cel), S[i]? = some c → ∃ a, w.m[i]? = some a ∧ RC K w H a c
  priv : ∀ a ∈ w.q, a ∉ w.m ∧ ∃ o, H a = some o
def REnv (w : Wo) (H : Hp) (ρ : En) (σ : St) : Prop := ρ.length = σ.length ∧ ∀ (i : Nat) (d : D), ρ[i]? = some (some d) → ∃ v, σ[i]? = some (some v) ∧ RV K w H d v
end
structure Ext (w : Wo) (H : Hp) (w' : Wo) (H' : Hp) : Prop where
  pre : w.m <+: w'.m
  q : ∀ a ∈ w.q, a ∈ w'.q
  newq : ∀ a ∈ w'.q, a ∈ w.q ∨ H a = none
  new : ∀ a ∈ w'.m, a ∈ w.m ∨ H a = none
  tup : ∀ a xs, H a = some (.tup xs) → H' a = some (.tup xs)
  keep : ∀ a o, H a = some o → a ∉ w.m → H' a = some o
  live : ∀ a o, H a = some o → ∃ o', H' a = some o'
  frz : ∀ a od u, H a = some (.frz od u) → H' a = some (.frz od u)
/-- not locked -/
def Free (H : Hp) (a : Addr) : Prop := ∀ od u, H a ≠ some (.frz od u)
theorem free_of {H : Hp} {a : Addr} {o : HO} (h : H a = some o) (n : ∀ od u, o ≠ .frz od u) : Free H a := fun od u e => n od u (Option.some.inj (h.symm.trans e))

section
variable {K : PySem.W.Frag} {w w' w'' : Wo} {H H' H'' : Hp} {S S' : Sto} {ρ : En} {σ : St}
theorem Ext.refl : Ext w H w H := ⟨List.prefix_refl _, fun _ h => h, fun _ h => .inl h, fun _ h => .inl h, fun _ _ h => h, fun _ _ h _ => h, fun _ o h => ⟨o, h⟩, fun _ _ _ h => h⟩
theorem Ext.trans (a : Ext w H w' H') (b : Ext w' H' w'' H'') : Ext w H w'' H'' where
  pre := a.pre.trans b.pre
  q := fun x hx => b.q x (a.q x hx)
  newq := fun x hx => by
    rcases b.newq x hx with h | h
    · exact a.newq x h
    · by_cases hm : x ∈ w.m
      · cases e : H x with
        | none => exact .inr rfl
        | some o =>
          obtain ⟨o', e'⟩ := a.live x o e
          rw [h] at e'; cases e'
      · refine .inr ?_
        cases e : H x with
        | none => rfl
        | some o =>
          have := a.keep x o e hm
          rw [h] at this; cases this
  new := fun x hx => by
    rcases b.new x hx with h | h
    · exact a.new x h
    · by_cases hm : x ∈ w.m
      · exact .inl hm
      · refine .inr ?_
        cases e : H x with
        | none => rfl
        | some o =>
          have := a.keep x o e hm
          rw [h] at this; cases this
  tup := fun x xs h => b.tup x xs (a.tup x xs h)
  keep := fun x o h hm => by
    refine b.keep x o (a.keep x o h hm) fun hx => ?_
    rcases a.new x hx with z | z
    · exact hm z
    · rw [h] at z; cases z
  live := fun x o h => let ⟨o', h'⟩ := a.live x o h; b.live x o' h'
  frz := fun x od u h => b.frz x od u (a.frz x od u h)
theorem Ext.notin (e : Ext w H w' H') {a : Addr} {o : HO} (h : H a = some o) (hm : a ∉ w.m) : a ∉ w'.m := fun hx => by
  rcases e.new a hx with z | z
  · exact hm z
  · rw [h] at z; cases z
theorem Ext.notq (e : Ext w H w' H') {a : Addr} {o : HO} (h : H a = some o) (hm : a ∉ w.q) : a ∉ w'.q := fun hx => by
  rcases e.newq a hx with z | z
  · exact hm z
  · rw [h] at z; cases z
theorem rd_has {a : Addr} {u : HO} (r : Rd H a u) : ∃ o, H a = some o := by
  rcases r with r | ⟨o, r⟩
  · exact ⟨_, r⟩
  · exact ⟨_, r⟩
theorem Ext.rd (e : Ext w H w' H') {a : Addr} {u : HO} (r : Rd H a u) (hm : a ∉ w.m) : Rd H' a u := by
  rcases r with r | ⟨o, r⟩
  · exact .inl (e.keep _ _ r hm)
  · exact .inr ⟨o, e.keep _ _ r hm⟩
theorem Frz.mono {a : Addr} {xs : List V} (e : Ext w H w' H') (h : Frz K w H a xs) : Frz K w' H' a xs := by
  rcases h with ⟨o, h1, h2, h3⟩ | h
  · exact .inl ⟨o, e.keep _ _ h1 h2, e.notin h1 h2, e.notq h1 h3⟩
  · exact .inr h
theorem Frz.sq {a : Addr} {xs : List V} (h : Frz K w H a xs) : SqL K H a xs := by
  rcases h with ⟨o, h1, h2, h3⟩ | h
  · exact .inl (.inr ⟨o, h1⟩)
  · exact .inr h
mutual
theorem RV.mono (e : Ext w H w' H') : ∀ {d : D} {v : V}, RV K w H d v → RV K w' H' d v
  | .non, v, h => by simpa only [RV] using h
  | .bl b, v, h => by simpa only [RV] using h
  | .int i, v, h => by simpa only [RV] using h
  | .str x, v, h => by simpa only [RV] using h
  | .tup ds, v, h => by
    simp only [RV] at h ⊢
    obtain ⟨a, xs, h1, h2, h3⟩ := h
    exact ⟨a, xs, h1, e.tup a xs h2, RVs.mono e h3⟩
  | .con ds, v, h => by
    simp only [RV] at h ⊢
    obtain ⟨a, xs, h1, h2, h3⟩ := h
    exact ⟨a, xs, h1, h2, RVs.mono e h3⟩
  | .lst ds, v, h => by
    simp only [RV] at h ⊢
    obtain ⟨a, xs, h1, h2, ⟨h3, h4⟩, h5⟩ := h
    exact ⟨a, xs, h1, e.keep _ _ h2 h3, ⟨e.notin h2 h3, e.notq h2 h4⟩, RVs.mono e h5⟩
  | .frz ds, v, h => by
    simp only [RV] at h ⊢
    obtain ⟨a, xs, h1, h2, h5⟩ := h
    exact ⟨a, xs, h1, h2.mono e, RVs.mono e h5⟩
  | .loc n, v, h => by
    simp only [RV] at h ⊢
    obtain ⟨a, h1, h2⟩ := h
    refine ⟨a, h1, ?_⟩
    obtain ⟨t, ht⟩ := e.pre
    rw [← ht, List.getElem?_append_left (List.getElem?_eq_some_iff.mp h2).1]
    exact h2
theorem RVs.mono (e : Ext w H w' H') : ∀ {ds : List D} {vs : List V}, RVs K w H ds vs → RVs K w' H' ds vs
  | [], vs, h => by simpa only [RVs] using h
  | d :: ds, vs, h => by
    simp only [RVs] at h ⊢
    obtain ⟨v, r, h1, h2, h3⟩ := h
    exact ⟨v, r, h1, RV.mono e h2, RVs.mono e h3⟩
end
theorem REnv.mono (e : Ext w H w' H') (h : REnv K w H ρ σ) : REnv K w' H' ρ σ := ⟨h.1, fun i d q => let ⟨v, a, b⟩ := h.2 i d q; ⟨v, a, b.mono e⟩⟩
theorem RP.mono {κ : Type} {ps : List (κ × D)} {vs : List (κ × V)} (e : Ext w H w' H') (h : RP K w H ps vs) : RP K w' H' ps vs := ⟨h.1, h.2.mono e⟩
theorem RC.mono {a : Addr} {c : Cel} (e : Ext w H w' H') (ha : ∀ o, H a = some o → H' a = some o) (h : RC K w H a c) : RC K w' H' a c := by
  cases c with
  | lst ds => obtain ⟨xs, h1, h2⟩ := h; exact ⟨xs, ha _ h1, h2.mono e⟩
  | dK kvs => obtain ⟨vs, h1, h2⟩ := h; exact ⟨vs, ha _ h1, h2.mono e⟩
  | dT kvs => obtain ⟨vs, h1, h2⟩ := h; exact ⟨vs, ha _ h1, h2.mono e⟩
  | fT kvs => obtain ⟨od, vs, h1, h2⟩ := h; exact ⟨od, vs, ha _ h1, h2.mono e⟩
  | ins c fs => obtain ⟨C, dx, vs, h0, h1, h2⟩ := h; exact ⟨C, dx, vs, h0, ha _ h1, h2.mono e⟩
theorem RC.has {a : Addr} {c : Cel} (h : RC K w H a c) : ∃ o, H a = some o ∧ ∀ xs, o ≠ .tup xs := by
  cases c with
  | lst ds => obtain ⟨xs, h1, h2⟩ := h; exact ⟨_, h1, fun _ z => nomatch z⟩
  | dK kvs => obtain ⟨vs, h1, h2⟩ := h; exact ⟨_, h1, fun _ z => nomatch z⟩
  | dT kvs => obtain ⟨vs, h1, h2⟩ := h; exact ⟨_, h1, fun _ z => nomatch z⟩
  | fT kvs => obtain ⟨od, vs, h1, h2⟩ := h; exact ⟨_, h1, fun _ z => nomatch z⟩
  | ins c fs => obtain ⟨C, dx, vs, h0, h1, h2⟩ := h; exact ⟨_, h1, fun _ z => nomatch z⟩
theorem Sim.has (h : Sim K w S H) {a : Addr} (ha : a ∈ w.m) : ∃ o, H a = some o ∧ ∀ xs, o ≠ .tup xs := by
  obtain ⟨i, hi, e⟩ := List.getElem_of_mem ha
  have hi' : i < S.length := by rw [← h.len]; exact hi
  obtain ⟨b, hb, hc⟩ := h.at_ i S[i] (List.getElem?_eq_getElem hi')
  rw [List.getElem?_eq_getElem hi, e] at hb
  cases hb
  exact hc.has
theorem nd_inj {l : List Addr} (h : l.Nodup) {i j : Nat} {a : Addr} (h1 : l[i]? = some a) (h2 : l[j]? = some a) : i = j := by
  obtain ⟨p1, e1⟩ := List.getElem?_eq_some_iff.mp h1
  obtain ⟨p2, e2⟩ := List.getElem?_eq_some_iff.mp h2
  exact (List.getElem_inj h).mp (e1.trans e2.symm)
/-- a new object that isn't in the store -/
theorem Ext.fresh {p : Addr} {o : HO} (hp : H p = none) : Ext w H w (upd H p o) :=
  ⟨List.prefix_refl _, fun _ h => h, fun _ h => .inl h, fun _ h => .inl h, fun a xs h => by rw [upd_ne (ne_of_none h hp)]; exact h, fun a o h _ => by rw [upd_ne (ne_of_none h hp)]; exact h, fun a o h => ⟨o, by rw [upd_ne (ne_of_none h hp)]; exact h⟩, fun a od u h => by rw [upd_ne (ne_of_none h hp)]; exact h⟩
theorem Sim.fresh {p : Addr} {o : HO} (h : Sim K w S H) (hp : H p = none) : Sim K w S (upd H p o) :=
  ⟨h.len, h.nd, fun i c e => let ⟨a, h1, h2⟩ := h.at_ i c e; ⟨a, h1, h2.mono (Ext.fresh hp) fun o q => by rw [upd_ne (ne_of_none q hp)]; exact q⟩,
    fun a ha => let ⟨h1, o, h2⟩ := h.priv a ha; ⟨h1, o, by rw [upd_ne (ne_of_none h2 hp)]; exact h2⟩⟩
/-- .. that is -/
def Wo.add (w : Wo) (p : Addr) : Wo := ⟨w.m ++ [p], w.q⟩
theorem Ext.alloc {p : Addr} {o : HO} (hp : H p = none) : Ext w H (w.add p) (upd H p o) :=
  ⟨List.prefix_append _ _, fun _ h => h, fun _ h => .inl h, fun a h => by
    rcases List.mem_append.mp h with z | z
    · exact .inl z
    · have : a = p := by simpa using z
      exact .inr (this ▸ hp), fun a xs h => by rw [upd_ne (ne_of_none h hp)]; exact h, fun a o h _ => by rw [upd_ne (ne_of_none h hp)]; exact h, fun a o h => ⟨o, by rw [upd_ne (ne_of_none h hp)]; exact h⟩, fun a od u h => by rw [upd_ne (ne_of_none h hp)]; exact h⟩
theorem Sim.alloc {p : Addr} {o : HO} {c : Cel} (h : Sim K w S H) (hp : H p = none) (hc : RC K (w.add p) (upd H p o) p c) : Sim K (w.add p) (S ++ [c]) (upd H p o) := by
  have np : p ∉ w.m := fun z => by
    obtain ⟨o', e, _⟩ := h.has z
    rw [hp] at e; cases e
  refine ⟨by simp [Wo.add, h.len], ?_, fun i c' e => ?_, fun a ha => ?_⟩
  · show (w.m ++ [p]).Nodup
    rw [List.nodup_append]
    refine ⟨h.nd, by simp, fun a ha b hb => ?_⟩
    have : b = p := by simpa using hb
    subst this
    exact fun z => np (z ▸ ha)
  · by_cases hi : i < S.length
    · rw [List.getElem?_append_left hi] at e
      obtain ⟨a, h1, h2⟩ := h.at_ i c' e
      refine ⟨a, ?_, h2.mono (Ext.alloc hp) fun o q => by rw [upd_ne (ne_of_none q hp)]; exact q⟩
      show (w.m ++ [p])[i]? = _
      rw [List.getElem?_append_left (by rw [h.len]; exact hi)]
      exact h1
    · rw [List.getElem?_append_right (Nat.le_of_not_lt hi)] at e
      have hi0 : i - S.length = 0 := by
        rcases Nat.eq_zero_or_pos (i - S.length) with z | z
        · exact z
        · rw [List.getElem?_eq_none (by simp; omega)] at e; cases e
      rw [hi0] at e
      have e' : c = c' := by simpa using e
      subst e'
      refine ⟨p, ?_, hc⟩
      show (w.m ++ [p])[i]? = _
      rw [List.getElem?_append_right (by rw [h.len]; exact Nat.le_of_not_lt hi), h.len, hi0]
      rfl
  · obtain ⟨h1, o', h2⟩ := h.priv a ha
    refine ⟨fun z => ?_, o', by rw [upd_ne (ne_of_none h2 hp)]; exact h2⟩
    rcases List.mem_append.mp z with z | z
    · exact h1 z
    · have : a = p := by simpa using z
      rw [this, hp] at h2; cases h2
/-- a cell is written -/
theorem Ext.write {a : Addr} {o : HO} (h : Sim K w S H) (ha : a ∈ w.m) (hf : Free H a) : Ext w H w (upd H a o) :=
  ⟨List.prefix_refl _, fun _ h => h, fun _ h => .inl h, fun _ h => .inl h, fun b xs e => by
    have : b ≠ a := fun z => by
      obtain ⟨o', e', n⟩ := h.has ha
      rw [z, e'] at e
      exact n xs (Option.some.inj e)
    rw [upd_ne this]; exact e, fun b o' e hb => by
    have : b ≠ a := fun z => hb (by rw [z]; exact ha)
    rw [upd_ne this]; exact e, fun b o' e => by
    by_cases hb : b = a
    · exact ⟨o, by rw [hb, upd_same]⟩
    · exact ⟨o', by rw [upd_ne hb]; exact e⟩, fun b od u e => by
    have : b ≠ a := fun z => hf od u (by rw [← z]; exact e)
    rw [upd_ne this]; exact e⟩
theorem Sim.write {i : Nat} {a : Addr} {o : HO} {c : Cel} (h : Sim K w S H) (hi : w.m[i]? = some a) (hf : Free H a) (hc : RC K w (upd H a o) a c) : Sim K w (S.set i c) (upd H a o) := by
  have ha : a ∈ w.m := List.mem_of_getElem? hi
  refine ⟨by rw [List.length_set]; exact h.len, h.nd, fun j c' e => ?_, fun b hb => ?_⟩
  · by_cases hj : j = i
    · subst hj
      have hl : j < S.length := by rw [← h.len]; exact (List.getElem?_eq_some_iff.mp hi).1
      rw [List.getElem?_set_self hl] at e
      cases e
      exact ⟨a, hi, hc⟩
    · rw [List.getElem?_set_ne (Ne.symm hj)] at e
      obtain ⟨b, h1, h2⟩ := h.at_ j c' e
      have nb : b ≠ a := fun z => hj (nd_inj h.nd h1 (z ▸ hi))
      exact ⟨b, h1, h2.mono (Ext.write h ha hf) fun o' q => by rw [upd_ne nb]; exact q⟩
  · obtain ⟨h1, o', h2⟩ := h.priv b hb
    have nb : b ≠ a := fun z => h1 (z ▸ ha)
    exact ⟨h1, o', by rw [upd_ne nb]; exact h2⟩
theorem Sim.get (h : Sim K w S H) {n : Nat} {c : Cel} {v : V} (hc : S[n]? = some c) (hv : RV K w H (.loc n) v) : ∃ a, v = .ref a ∧ w.m[n]? = some a ∧ RC K w H a c := by
  simp only [RV] at hv
  obtain ⟨a, h1, h2⟩ := hv
  obtain ⟨b, h3, h4⟩ := h.at_ n c hc
  rw [h2] at h3; cases h3
  exact ⟨a, h1, h2, h4⟩

/-! ### lists of values -/
theorem RVs.length : ∀ {ds : List D} {vs : List V}, RVs K w H ds vs → ds.length = vs.length
  | [], vs, h => by simp only [RVs] at h; subst h; rfl
  | d :: ds, vs, h => by
    simp only [RVs] at h
    obtain ⟨v, r, h1, h2, h3⟩ := h
    subst h1
    simp [RVs.length h3]
theorem RVs.nil : RVs K w H [] [] := by simp only [RVs]
theorem RVs.cons {d : D} {ds : List D} {v : V} {vs : List V} (h : RV K w H d v) (t : RVs K w H ds vs) : RVs K w H (d :: ds) (v :: vs) := by
  simp only [RVs]; exact ⟨v, vs, rfl, h, t⟩
theorem RVs.get : ∀ {ds : List D} {vs : List V} {i : Nat} {d : D}, RVs K w H ds vs → ds[i]? = some d → ∃ v, vs[i]? = some v ∧ RV K w H d v
  | [], _, _, _, _, e => by simp at e
  | d :: ds, vs, 0, d', h, e => by
    simp only [RVs] at h
    obtain ⟨v, r, h1, h2, h3⟩ := h
    subst h1
    simp at e; subst e
    exact ⟨v, rfl, h2⟩
  | d :: ds, vs, i + 1, d', h, e => by
    simp only [RVs] at h
    obtain ⟨v, r, h1, h2, h3⟩ := h
    subst h1
    obtain ⟨v', a, b⟩ := RVs.get (i := i) h3 (by simpa using e)
    exact ⟨v', by simpa using a, b⟩
theorem RVs.getV : ∀ {ds : List D} {vs : List V} {i : Nat} {v : V}, RVs K w H ds vs → vs[i]? = some v → ∃ d, ds[i]? = some d ∧ RV K w H d v := fun {ds vs i v} h e => by
  have hl : i < ds.length := by rw [h.length]; exact (List.getElem?_eq_some_iff.mp e).1
  obtain ⟨v', a, b⟩ := h.get (List.getElem?_eq_getElem hl)
  rw [e] at a; cases a
  exact ⟨_, List.getElem?_eq_getElem hl, b⟩
theorem RVs.append : ∀ {ds es : List D} {vs us : List V}, RVs K w H ds vs → RVs K w H es us → RVs K w H (ds ++ es) (vs ++ us)
  | [], es, vs, us, h, h' => by simp only [RVs] at h; subst h; exact h'
  | d :: ds, es, vs, us, h, h' => by
    simp only [RVs] at h
    obtain ⟨v, r, h1, h2, h3⟩ := h
    subst h1
    exact .cons h2 (RVs.append h3 h')
theorem RVs.snoc {ds : List D} {vs : List V} {d : D} {v : V} (h : RVs K w H ds vs) (h' : RV K w H d v) : RVs K w H (ds ++ [d]) (vs ++ [v]) := h.append (.cons h' .nil)
theorem RVs.take : ∀ {ds : List D} {vs : List V} (n : Nat), RVs K w H ds vs → RVs K w H (ds.take n) (vs.take n)
  | _, _, 0, _ => by simp [RVs]
  | [], vs, n + 1, h => by simp only [RVs] at h; subst h; simp [RVs]
  | d :: ds, vs, n + 1, h => by
    simp only [RVs] at h
    obtain ⟨v, r, h1, h2, h3⟩ := h
    subst h1
    exact .cons h2 (RVs.take n h3)
theorem RVs.drop : ∀ {ds : List D} {vs : List V} (n : Nat), RVs K w H ds vs → RVs K w H (ds.drop n) (vs.drop n)
  | _, _, 0, h => h
  | [], vs, n + 1, h => by simp only [RVs] at h; subst h; simp [RVs]
  | d :: ds, vs, n + 1, h => by
    simp only [RVs] at h
    obtain ⟨v, r, h1, h2, h3⟩ := h
    subst h1
    exact RVs.drop n h3
theorem RVs.set : ∀ {ds : List D} {vs : List V} {d : D} {v : V} (i : Nat), RVs K w H ds vs → RV K w H d v → RVs K w H (ds.set i d) (vs.set i v)
  | [], vs, d, v, i, h, h' => by simp only [RVs] at h; subst h; simp [RVs]
  | e :: ds, vs, d, v, 0, h, h' => by
    simp only [RVs] at h
    obtain ⟨u, r, h1, h2, h3⟩ := h
    subst h1
    exact .cons h' h3
  | e :: ds, vs, d, v, i + 1, h, h' => by
    simp only [RVs] at h
    obtain ⟨u, r, h1, h2, h3⟩ := h
    subst h1
    exact .cons h2 (RVs.set i h3 h')
theorem RVs.ints {is : List Int} : ∀ {vs : List V}, RVs K w H (is.map D.int) vs → vs = is.map V.int := by
  induction is with
  | nil => intro vs h; simpa only [List.map_nil, RVs] using h
  | cons i is ih =>
    intro vs h
    simp only [List.map_cons, RVs] at h
    obtain ⟨v, r, h1, h2, h3⟩ := h
    simp only [RV] at h2
    subst h1 h2
    rw [ih h3, List.map_cons]
theorem RVs.of_ints (is : List Int) : RVs K w H (is.map D.int) (is.map V.int) := by
  induction is with
  | nil => exact .nil
  | cons i is ih => exact .cons (by simp only [RV]) ih
theorem RVs.bls {bs : List Bool} : ∀ {vs : List V}, RVs K w H (bs.map D.bl) vs → vs = bs.map V.bl := by
  induction bs with
  | nil => intro vs h; simpa only [List.map_nil, RVs] using h
  | cons i is ih =>
    intro vs h
    simp only [List.map_cons, RVs] at h
    obtain ⟨v, r, h1, h2, h3⟩ := h
    simp only [RV] at h2
    subst h1 h2
    rw [ih h3, List.map_cons]
theorem RVs.strs {bs : List Str} : ∀ {vs : List V}, RVs K w H (bs.map D.str) vs → vs = bs.map V.str := by
  induction bs with
  | nil => intro vs h; simpa only [List.map_nil, RVs] using h
  | cons i is ih =>
    intro vs h
    simp only [List.map_cons, RVs] at h
    obtain ⟨v, r, h1, h2, h3⟩ := h
    simp only [RV] at h2
    subst h1 h2
    rw [ih h3, List.map_cons]
theorem RVs.of_strs (is : List Str) : RVs K w H (is.map D.str) (is.map V.str) := by
  induction is with
  | nil => exact .nil
  | cons i is ih => exact .cons (by simp only [RV]) ih
theorem REnv.set {i : Nat} {d : D} {v : V} (h : REnv K w H ρ σ) (r : RV K w H d v) : REnv K w H (ρ.set i (some d)) (σ.set i (some v)) := by
  refine ⟨by simp [h.1], fun j e q => ?_⟩
  by_cases hj : j = i
  · subst hj
    by_cases hl : j < ρ.length
    · rw [List.getElem?_set_self hl] at q
      cases q
      exact ⟨v, List.getElem?_set_self (by rw [← h.1]; exact hl), r⟩
    · rw [List.getElem?_eq_none (by simpa using hl)] at q; cases q
  · rw [List.getElem?_set_ne (Ne.symm hj)] at q
    obtain ⟨u, a, b⟩ := h.2 j e q
    exact ⟨u, by rw [List.getElem?_set_ne (Ne.symm hj)]; exact a, b⟩
def wipeD (ρ : En) : List Nat → En
  | [] => ρ
  | v :: vs => (wipeD ρ vs).set v none
theorem REnv.wipe (h : REnv K w H ρ σ) : ∀ vs : List Nat, REnv K w H (wipeD ρ vs) (wipe σ vs)
  | [] => h
  | v :: vs => by
    have ih := REnv.wipe h vs
    refine ⟨by simp only [wipeD, L2.wipe, List.length_set]; exact ih.1, fun j e q => ?_⟩
    simp only [wipeD, L2.wipe] at q ⊢
    by_cases hj : j = v
    · subst hj
      by_cases hl : j < (wipeD ρ vs).length
      · rw [List.getElem?_set_self hl] at q; cases q
      · rw [List.getElem?_eq_none (by simpa using hl)] at q; cases q
    · rw [List.getElem?_set_ne (Ne.symm hj)] at q ⊢
      exact ih.2 j e q
end

/-! ### what is wanted behind -/
section
variable (K : PySem.W.Frag)
def PostG {α β : Type} (rel : Wo → Hp → α → β → Prop) (W : WX) (w : Wo) (H : Hp) (σ : St) (r : R α) (Q : β → Hp → Prop) : Prop :=
  match r with
  | .ok a S => ∀ w' H' b, Ext w H w' H' → Sim K w' S H' → rel w' H' a b → Q b H'
  | .ex e S => ∀ w' H' dx v C, Ext w H w' H' → Sim K w' S H' → ClsN K e.cls C → H' dx = some (.xd [(e.f, v)]) → RV K w' H' e.val v → W (.ref C) (some dx) σ H'
  | .no => False
def PostS (W : WX) (w : Wo) (H : Hp) (r : O) (D : Ends) : Prop :=
  match r with
  | .nx ρ S => ∀ w' H' σ', Ext w H w' H' → Sim K w' S H' → REnv K w' H' ρ σ' → D.nx σ' H'
  | .bk ρ S => ∀ w' H' σ', Ext w H w' H' → Sim K w' S H' → REnv K w' H' ρ σ' → D.bk σ' H'
  | .ct ρ S => ∀ w' H' σ', Ext w H w' H' → Sim K w' S H' → REnv K w' H' ρ σ' → D.ct σ' H'
  | .rt d S => ∀ w' H' v, Ext w H w' H' → Sim K w' S H' → RV K w' H' d v → D.rt v H'
  | .ex e ρ S => ∀ w' H' σ' dx v C, Ext w H w' H' → Sim K w' S H' → REnv K w' H' ρ σ' → ClsN K e.cls C → H' dx = some (.xd [(e.f, v)]) → RV K w' H' e.val v → W (.ref C) (some dx) σ' H'
  | .no => False
def relB : Wo → Hp → Bool → Bool → Prop := fun _ _ a b => b = a
def tG {α β : Type} (rel : Wo → Hp → α → β → Prop) (W : WX) (f : En → Sto → R α) (σ : St) (H : Hp) (Q : β → Hp → Prop) : Prop :=
  ∃ w S ρ, Sim K w S H ∧ REnv K w H ρ σ ∧ PostG K rel W w H σ (f ρ S) Q
abbrev EF := En → Sto → R D
abbrev BF := En → Sto → R Bool
abbrev AF := En → Sto → R (List D)
abbrev SF := En → Sto → O
def tE (W : WX) (f : EF) : TE := tG K (RV K) W f
def tT (W : WX) (f : BF) : TT := tG K relB W f
def tA (W : WX) (f : AF) : TA := tG K (RVs K) W f
def tS (W : WX) (f : SF) : TS := fun D σ H => ∃ w S ρ, Sim K w S H ∧ REnv K w H ρ σ ∧ PostS K W w H (f ρ S) D
end
section
variable {K : PySem.W.Frag} {w w' w'' : Wo} {H H' H'' : Hp} {S S' : Sto} {ρ : En} {σ : St} {W : WX}
theorem PostG.shift {α β : Type} {rel : Wo → Hp → α → β → Prop} {r : R α} {Q : β → Hp → Prop} (e : Ext w H w' H') (h : PostG K rel W w H σ r Q) : PostG K rel W w' H' σ r Q := by
  cases r with
  | ok a S => exact fun w2 H2 b e2 => h w2 H2 b (e.trans e2)
  | ex x S => exact fun w2 H2 dx v C e2 => h w2 H2 dx v C (e.trans e2)
  | no => exact h
theorem PostS.shift {r : O} {D : Ends} (e : Ext w H w' H') (h : PostS K W w H r D) : PostS K W w' H' r D := by
  cases r with
  | nx ρ S => exact fun w2 H2 b e2 => h w2 H2 b (e.trans e2)
  | bk ρ S => exact fun w2 H2 b e2 => h w2 H2 b (e.trans e2)
  | ct ρ S => exact fun w2 H2 b e2 => h w2 H2 b (e.trans e2)
  | rt d S => exact fun w2 H2 b e2 => h w2 H2 b (e.trans e2)
  | ex x ρ S => exact fun w2 H2 b dx v C e2 => h w2 H2 b dx v C (e.trans e2)
  | no => exact h
theorem PostG.bind {α β γ δ : Type} {rel : Wo → Hp → α → β → Prop} {rel2 : Wo → Hp → γ → δ → Prop} {r : R α} {g : α → Sto → R γ} {Q : δ → Hp → Prop} {Q1 : β → Hp → Prop} (h : PostG K rel2 W w H σ (r.bind g) Q)
    (k : ∀ w' H' b a S', Ext w H w' H' → Sim K w' S' H' → rel w' H' a b → PostG K rel2 W w' H' σ (g a S') Q → Q1 b H') : PostG K rel W w H σ r Q1 := by
  cases r with
  | ok a S => exact fun w' H' b e s q => k w' H' b a S e s q (h.shift e)
  | ex x S => exact h
  | no => exact h
theorem PostG.imp {α β : Type} {rel : Wo → Hp → α → β → Prop} {r : R α} {Q Q' : β → Hp → Prop} (h : PostG K rel W w H σ r Q) (k : ∀ b H', Q b H' → Q' b H') : PostG K rel W w H σ r Q' := by
  cases r with
  | ok a S => exact fun w' H' b e s q => k b H' (h w' H' b e s q)
  | ex x S => exact h
  | no => exact h
theorem PostG.ret {α β : Type} {rel : Wo → Hp → α → β → Prop} {a : α} {b : β} {Q : β → Hp → Prop} (h : PostG K rel W w H σ (.ok a S) Q) (s : Sim K w S H) (q : rel w H a b) : Q b H := h w H b .refl s q
end
/-- a statement that begins by an expression -/
def sB (r : R α) (ρ : En) (g : α → Sto → O) : O :=
  match r with
  | .ok a S => g a S
  | .ex e S => .ex e ρ S
  | .no => .no
@[simp] theorem sB_ok {α : Type} (a : α) (S : Sto) (ρ : En) (g : α → Sto → O) : sB (.ok a S) ρ g = g a S := rfl
@[simp] theorem sB_ex {α : Type} (e : Exn) (S : Sto) (ρ : En) (g : α → Sto → O) : sB (.ex e S : R α) ρ g = .ex e ρ S := rfl
@[simp] theorem sB_no {α : Type} (ρ : En) (g : α → Sto → O) : sB (.no : R α) ρ g = .no := rfl
section
variable {K : PySem.W.Frag} {w w' w'' : Wo} {H H' H'' : Hp} {S S' : Sto} {ρ : En} {σ : St} {W : WX}
theorem PostS.bind {α β : Type} {rel : Wo → Hp → α → β → Prop} {r : R α} {g : α → Sto → O} {D : Ends} {Q1 : β → Hp → Prop} (h : PostS K W w H (sB r ρ g) D) (re : REnv K w H ρ σ)
    (k : ∀ w' H' b a S', Ext w H w' H' → Sim K w' S' H' → rel w' H' a b → PostS K W w' H' (g a S') D → Q1 b H') : PostG K rel W w H σ r Q1 := by
  cases r with
  | ok a S => exact fun w' H' b e s q => k w' H' b a S e s q (PostS.shift e h)
  | ex x S => exact fun w' H' dx v C e s q0 q q2 => h w' H' σ dx v C e s (re.mono e) q0 q q2
  | no => exact h
end
end Ev

namespace Ev
open PySem PySem.Spec PyProof.Rows L2

structure Ctx (X : Cx) (k : Nat) : Prop where
  calm : X.calm = true
  room : Room k X.A
  nd : X.N.Nodup
theorem Ctx.hu {X : Cx} {k : Nat} (c : Ctx X k) : X.A.units + 64 < cLine := c.room.units
theorem Ctx.hu65 {X : Cx} {k : Nat} (c : Ctx X k) : X.A.units + 65 < cLine := by have := c.room.un; omega

section
variable {X : Cx} {e : Expr} {W : WX}
theorem PE.weak {t t' : TE} (h : PE X e t) (k : ∀ σ H Q, t' σ H Q → t σ H Q) : PE X e t' := ⟨fun pins s σ H Q I q => h.run pins s σ H Q I (k σ H Q q)⟩
theorem PT.weak {t t' : TT} (h : PT X e t) (k : ∀ σ H Q, t' σ H Q → t σ H Q) : PT X e t' := ⟨fun pins s σ H Q I q => h.run pins s σ H Q I (k σ H Q q)⟩
theorem PW.weak {t t' : TT} (h : PW X e t) (k : ∀ σ H Q, t' σ H Q → t σ H Q) : PW X e t' := ⟨fun wh pins s σ H Q I q => h.run wh pins s σ H Q I (k σ H Q q)⟩
theorem PA.weak {es : List Expr} {t t' : TA} (h : PA X es t) (k : ∀ σ H Q, t' σ H Q → t σ H Q) : PA X es t' := ⟨fun pos pins s σ H Q I q => h.run pos pins s σ H Q I (k σ H Q q)⟩
theorem PS.weak {st : Stmt} {t t' : TS} (h : PS X st t) (k : ∀ D σ H, t' D σ H → t D σ H) : PS X st t' := ⟨fun pins s σ H D I q => h.run pins s σ H D I (k D σ H q)⟩
theorem PSs.weak {st : List Stmt} {t t' : TS} (h : PSs X st t) (k : ∀ D σ H, t' D σ H → t D σ H) : PSs X st t' := ⟨fun pins s σ H D I q => h.run pins s σ H D I (k D σ H q)⟩
end

/-! ### names, constants -/
def eVar (i : Nat) : EF := fun ρ S => match ρ[i]? with
  | some (some d) => .ok d S
  | _ => .no
def eC (d : D) : EF := fun _ S => .ok d S
section
variable {X : Cx} {W : WX} {pos : Pos}
theorem E_var (i : Nat) {x : Str} (hN : X.N[i]? = some x := by rfl) (hv : Vis X.env.scope x := by first | exact Or.inl rfl | exact Or.inr (Or.inl rfl) | exact Or.inr (Or.inr rfl)) (hd : (x == ("__debug__" : Str)) = false := by decide)
    (hcd : (x == ("__classdict__" : Str)) = false := by decide) : PE X (.Name x pos) (tE X.K W (eVar i)) := by
  refine PE.weak (pe_var (i := i) hN hv hd hcd) fun σ H Q h => ?_
  obtain ⟨w, S, ρ, s, re, p⟩ := h
  unfold eVar at p
  split at p
  · rename_i d hd
    obtain ⟨v, h1, h2⟩ := re.2 i d hd
    exact ⟨v, h1, p.ret s h2⟩
  · exact p.elim
theorem E_int {i j} : PE X (.Constant (.int i) j pos) (tE X.K W (eC (.int i))) :=
  PE.weak pe_int fun σ H Q h => let ⟨w, S, ρ, s, re, p⟩ := h; p.ret s (by simp only [RV])
theorem E_bl {b j} : PE X (.Constant (.bool b) j pos) (tE X.K W (eC (.bl b))) :=
  PE.weak pe_bl fun σ H Q h => let ⟨w, S, ρ, s, re, p⟩ := h; p.ret s (by simp only [RV])
theorem E_non {j} : PE X (.Constant .none j pos) (tE X.K W (eC .non)) :=
  PE.weak pe_non fun σ H Q h => let ⟨w, S, ρ, s, re, p⟩ := h; p.ret s (by simp only [RV])
theorem E_str {x j} : PE X (.Constant (.str x) j pos) (tE X.K W (eC (.str x))) :=
  PE.weak pe_str fun σ H Q h => let ⟨w, S, ρ, s, re, p⟩ := h; p.ret s (by simp only [RV])
/-- a module's constant tuple of ints -/
structure GTup (K : PySem.W.Frag) (mg : Str → Option Value) (x : Str) (is : List Int) : Prop where
  ex : ∃ a, mg x = some (.ref a) ∧ KT K a (is.map V.int)
theorem E_glob {x : Str} {is : List Int} (g : GTup X.K X.mg x is) (hg : Gl X x := by rfl) (hd : (x == ("__debug__" : Str)) = false := by decide) : PE X (.Name x pos) (tE X.K W (eC (.con (is.map D.int)))) := by
  obtain ⟨a, h1, h2⟩ := g.ex
  refine PE.weak (pe_glob (v := .ref a) hg h1 rfl hd) fun σ H Q h => ?_
  obtain ⟨w, S, ρ, s, re, p⟩ := h
  refine p.ret s ?_
  simp only [RV]
  exact ⟨a, _, rfl, h2, .of_ints is⟩
theorem E_globI {x : Str} {i : Int} {t : Tok} (g : X.mg x = some (.int i t)) (hg : Gl X x := by rfl) (hd : (x == ("__debug__" : Str)) = false := by decide) : PE X (.Name x pos) (tE X.K W (eC (.int i))) :=
  PE.weak (pe_glob (v := .int i) hg g ⟨t, rfl⟩ hd) fun σ H Q h => let ⟨w, S, ρ, s, re, p⟩ := h; p.ret s (by simp only [RV])
end

/-! ### operations by values -/
abbrev Op2 := D → D → Sto → Option D
def OpS (K : PySem.W.Frag) (r : R2) (o : Op2) : Prop := ∀ (w : Wo) (S : Sto) (H : Hp) (x y d : D) (v u : V) (Q : VK), Sim K w S H → RV K w H x v → RV K w H y u → o x y S = some d →
  (∀ w' H' z, Ext w H w' H' → Sim K w' S H' → RV K w' H' d z → Q z H') → r v u H Q
theorem OpS.orL {K : PySem.W.Frag} {r r' : R2} {o : Op2} (h : OpS K r o) : OpS K (fun x y H Q => r x y H Q ∨ r' x y H Q) o := fun w S H x y d v u Q s rx ry e k => .inl (h w S H x y d v u Q s rx ry e k)
def liftO (d : Option D) (S : Sto) : R D := match d with
  | some d => .ok d S
  | none => .no
@[simp] theorem liftO_some (d : D) (S : Sto) : liftO (some d) S = .ok d S := rfl
@[simp] theorem liftO_none (S : Sto) : liftO none S = .no := rfl
def liftB (d : Option D) (S : Sto) : R Bool := match d with
  | some (.bl b) => .ok b S
  | _ => .no
@[simp] theorem liftB_bl (b : Bool) (S : Sto) : liftB (some (.bl b)) S = .ok b S := rfl
def eBin (o : Op2) (fa fb : EF) : EF := fun ρ S => (fa ρ S).bind fun x S1 => (fb ρ S1).bind fun y S2 => liftO (o x y S2) S2
def bBin (o : Op2) (fa fb : EF) : BF := fun ρ S => (fa ρ S).bind fun x S1 => (fb ρ S1).bind fun y S2 => liftB (o x y S2) S2
section
variable {X : Cx} {W : WX} {pos : Pos} {a b : Expr} {fa fb : EF} {r : R2} {o : Op2}
theorem tOp_of {σ : St} {H : Hp} {Q : VK} (hs : OpS X.K r o) (h : tE X.K W (eBin o fa fb) σ H Q) : tOp r (tE X.K W fa) (tE X.K W fb) σ H Q := by
  obtain ⟨w, S, ρ, s, re, p⟩ := h
  refine ⟨w, S, ρ, s, re, p.bind fun w1 H1 v x S1 e1 s1 rx p1 => ?_⟩
  refine ⟨w1, S1, ρ, s1, re.mono e1, p1.bind fun w2 H2 u y S2 e2 s2 ry p2 => ?_⟩
  cases hd : o x y S2 with
  | none => rw [hd] at p2; exact p2.elim
  | some d =>
    rw [hd] at p2
    exact hs w2 S2 H2 x y d v u Q s2 (rx.mono e2) ry hd fun w3 H3 z e3 s3 rz => p2 w3 H3 z e3 s3 rz
theorem tOpB_of {σ : St} {H : Hp} {Q : Bool → Hp → Prop} (hs : OpS X.K r o) (h : tT X.K W (bBin o fa fb) σ H Q) : tTest (tOp r (tE X.K W fa) (tE X.K W fb)) σ H Q := by
  obtain ⟨w, S, ρ, s, re, p⟩ := h
  refine ⟨w, S, ρ, s, re, p.bind fun w1 H1 v x S1 e1 s1 rx p1 => ?_⟩
  refine ⟨w1, S1, ρ, s1, re.mono e1, p1.bind fun w2 H2 u y S2 e2 s2 ry p2 => ?_⟩
  cases hd : o x y S2 with
  | none => rw [hd] at p2; exact p2.elim
  | some d =>
    rw [hd] at p2
    refine hs w2 S2 H2 x y d v u _ s2 (rx.mono e2) ry hd fun w3 H3 z e3 s3 rz => ?_
    cases d with
    | bl k =>
      simp only [RV] at rz
      exact ⟨k, rz, p2 w3 H3 k e3 s3 rfl⟩
    | _ => exact p2.elim
theorem E_bin {op : Operator} (ho : OpR X (binaryOp op) r) (hs : OpS X.K r o) (ha : PE X a (tE X.K W fa)) (hb : PE X b (tE X.K W fb)) : PE X (.BinOp a op b pos) (tE X.K W (eBin o fa fb)) :=
  PE.weak (pe_op ho ha hb) fun _ _ _ h => tOp_of hs h
theorem E_cmp {op : CmpOp} (ho : OpR X (compareOp op) r) (hs : OpS X.K r o) (ha : PE X a (tE X.K W fa)) (hb : PE X b (tE X.K W fb)) (hm : behindInMarks op b = false) : PE X (.Compare a [op] [b] pos) (tE X.K W (eBin o fa fb)) :=
  PE.weak (pe_cmpR ho ha hb hm) fun _ _ _ h => tOp_of hs h
theorem T_cmp {op : CmpOp} (ho : OpR X (compareOp op) r) (hs : OpS X.K r o) (ha : PE X a (tE X.K W fa)) (hb : PE X b (tE X.K W fb)) (hm : behindInMarks op b = false) : PT X (.Compare a [op] [b] pos) (tT X.K W (bBin o fa fb)) :=
  PT.weak (pt_cmpR ho ha hb hm) fun _ _ _ h => tOpB_of hs h
end

/-! ### the operations -/
def tupOf : D → Option (List D)
  | .tup ds => some ds
  | .con ds => some ds
  | _ => none
/-- a list's items; exact: one that no lock holds -/
def lstX (S : Sto) : D → Option (List D)
  | .lst ds => some ds
  | .loc n => match S[n]? with
    | some (.lst ds) => some ds
    | _ => none
  | _ => none
def lstOf (S : Sto) : D → Option (List D)
  | .frz ds => some ds
  | d => lstX S d
def seqOf (S : Sto) (d : D) : Option (List D) := match tupOf d with
  | some ds => some ds
  | none => lstOf S d
section
variable {K : PySem.W.Frag} {w : Wo} {S : Sto} {H : Hp} {x : D} {v : V} {ds : List D}
theorem KT.sq {a : Addr} {xs : List V} (h : KT K a xs) : SqT K H a xs := .inr h
theorem tupOf_sq (rx : RV K w H x v) (h : tupOf x = some ds) : ∃ a xs, v = .ref a ∧ SqT K H a xs ∧ RVs K w H ds xs := by
  cases x with
  | tup es =>
    cases h
    simp only [RV] at rx
    obtain ⟨a, xs, h1, h2, h3⟩ := rx
    exact ⟨a, xs, h1, SqT.of h2, h3⟩
  | con es =>
    cases h
    simp only [RV] at rx
    obtain ⟨a, xs, h1, h2, h3⟩ := rx
    exact ⟨a, xs, h1, h2.sq, h3⟩
  | _ => cases h
theorem lstX_sq (s : Sim K w S H) (rx : RV K w H x v) (h : lstX S x = some ds) : ∃ a xs, v = .ref a ∧ H a = some (.lst xs) ∧ RVs K w H ds xs := by
  cases x with
  | lst es =>
    cases h
    simp only [RV] at rx
    obtain ⟨a, xs, h1, h2, _, h3⟩ := rx
    exact ⟨a, xs, h1, h2, h3⟩
  | loc n =>
    simp only [lstX] at h
    split at h
    · rename_i es he
      cases h
      obtain ⟨a, h1, h2, xs, h3, h4⟩ := s.get he rx
      exact ⟨a, xs, h1, h3, h4⟩
    · cases h
  | _ => cases h
theorem lstOf_sq (s : Sim K w S H) (rx : RV K w H x v) (h : lstOf S x = some ds) : ∃ a xs, v = .ref a ∧ SqL K H a xs ∧ RVs K w H ds xs := by
  cases x with
  | frz es =>
    cases h
    simp only [RV] at rx
    obtain ⟨a, xs, h1, h2, h3⟩ := rx
    exact ⟨a, xs, h1, h2.sq, h3⟩
  | lst es =>
    obtain ⟨a, xs, h1, h2, h3⟩ := lstX_sq s rx (show lstX S _ = some ds from h)
    exact ⟨a, xs, h1, SqL.of h2, h3⟩
  | loc n =>
    obtain ⟨a, xs, h1, h2, h3⟩ := lstX_sq s rx (show lstX S _ = some ds from h)
    exact ⟨a, xs, h1, SqL.of h2, h3⟩
  | _ => cases h
theorem seqOf_sq (s : Sim K w S H) (rx : RV K w H x v) (h : seqOf S x = some ds) : ∃ a xs, v = .ref a ∧ (SqL K H a xs ∨ SqT K H a xs) ∧ RVs K w H ds xs := by
  unfold seqOf at h
  cases ht : tupOf x with
  | some es =>
    rw [ht] at h
    cases h
    obtain ⟨a, xs, h1, h2, h3⟩ := tupOf_sq rx ht
    exact ⟨a, xs, h1, .inr h2, h3⟩
  | none =>
    rw [ht] at h
    obtain ⟨a, xs, h1, h2, h3⟩ := lstOf_sq s rx h
    exact ⟨a, xs, h1, .inl h2, h3⟩
end
def oI (g : Int → Int → Option D) : Op2 := fun x y _ => match x, y with
  | .int i, .int j => g i j
  | _, _ => none
theorem opS_int {K : PySem.W.Frag} {C : Int → Int → Prop} [∀ i j, Decidable (C i j)] {f : Int → Int → Int} : OpS K (rI C fun i j => .int (f i j)) (oI fun i j => if C i j then some (.int (f i j)) else none) := by
  intro w S H x y d v u Q s rx ry e k
  cases x with
  | int i =>
    cases y with
    | int j =>
      simp only [RV] at rx ry
      simp only [oI] at e
      split at e
      · rename_i hc
        cases e
        exact ⟨i, j, rx, ry, hc, k w H _ .refl s (by simp only [RV])⟩
      · cases e
    | _ => cases e
  | _ => cases e
theorem opS_int0 {K : PySem.W.Frag} {f : Int → Int → Int} : OpS K (rI0 fun i j => .int (f i j)) (oI fun i j => some (.int (f i j))) := by
  intro w S H x y d v u Q s rx ry e k
  cases x with
  | int i =>
    cases y with
    | int j =>
      simp only [RV] at rx ry
      simp only [oI] at e
      cases e
      exact ⟨i, j, rx, ry, k w H _ .refl s (by simp only [RV])⟩
    | _ => cases e
  | _ => cases e
theorem opS_intB {K : PySem.W.Frag} {f : Int → Int → Bool} : OpS K (rI0 fun i j => .bl (f i j)) (oI fun i j => some (.bl (f i j))) := by
  intro w S H x y d v u Q s rx ry e k
  cases x with
  | int i =>
    cases y with
    | int j =>
      simp only [RV] at rx ry
      simp only [oI] at e
      cases e
      exact ⟨i, j, rx, ry, k w H _ .refl s (by simp only [RV])⟩
    | _ => cases e
  | _ => cases e
/-- what is asked of a divisor -/
def CDv (_ j : Int) : Prop := 0 < j ∧ j < 18446744073709551616
instance (i j : Int) : Decidable (CDv i j) := by unfold CDv; infer_instance
theorem CDv.w {i j : Int} (h : CDv i j) : CDivW i j := by
  unfold CDv at h
  obtain ⟨h1, h2⟩ := h
  refine ⟨h1, ?_⟩
  have h3 : j.natAbs < 2 ^ 64 := by omega
  have h4 : j.natAbs ≠ 0 := by omega
  have := (Nat.log2_lt h4).mpr h3
  omega
theorem op_divV {X : Cx} : OpR X (binaryOp .FloorDiv) (rI CDv fun i j => .int (i / j)) := fun pins s σ H x y v u Q I rx ry h =>
  op_fdivW pins s σ H x y v u Q I rx ry (let ⟨i, j, e1, e2, hc, q⟩ := h; ⟨i, j, e1, e2, hc.w, q⟩)
instance (i j : Int) : Decidable (CMul i j) := by unfold CMul; infer_instance
instance (i j : Int) : Decidable (CPow i j) := by unfold CPow; infer_instance
def oSub : Op2 := oI fun i j => some (.int (i - j))
def oMul : Op2 := oI fun i j => if CMul i j then some (.int (i * j)) else none
def oDiv : Op2 := oI fun i j => if CDv i j then some (.int (i / j)) else none
def oMod : Op2 := oI fun i j => if 0 < j then some (.int (i % j)) else none
def oPow : Op2 := oI fun i j => if CPow i j then some (.int (i ^ j.toNat)) else none
def oShl : Op2 := oI fun i j => if CPow i j then some (.int (i * 2 ^ j.toNat)) else none
def oAnd : Op2 := oI fun i j => some (.int (Builtin.bitAnd i j))
def oLt : Op2 := oI fun i j => some (.bl (decide (i < j)))
def oLe : Op2 := oI fun i j => some (.bl (decide (i ≤ j)))
def oGt : Op2 := oI fun i j => some (.bl (decide (j < i)))
def oGe : Op2 := oI fun i j => some (.bl (decide (j ≤ i)))
/-- + : ints, texts, tuples, lists -/
def oAdd : Op2 := fun x y S => match x, y with
  | .int i, .int j => some (.int (i + j))
  | .str a, .str b => if a.length + b.length ≤ sizeLine then some (.str (a ++ b)) else none
  | x, y => match tupOf x, tupOf y with
    | some a, some b => if a.length + b.length ≤ sizeLine then (if a = [] then some y else if b = [] then some x else some (.tup (a ++ b))) else none
    | _, _ => match lstX S x, lstX S y with
      | some a, some b => if a.length + b.length ≤ sizeLine then some (.lst (a ++ b)) else none
      | _, _ => none
def rAddA (K : PySem.W.Frag) : R2 := fun x y H Q => (fun x y H Q => rI0 (fun i j => .int (i + j)) x y H Q ∨ (fun x y H Q => ∃ i j, x = .str i ∧ y = .str j ∧ i.length + j.length ≤ sizeLine ∧ Q (.str (i ++ j)) H) x y H Q) x y H Q ∨
  (fun x y H Q => rCatA K x y H Q ∨ rCat x y H Q) x y H Q
theorem op_addA {X : Cx} : OpR X (binaryOp .Add) (rAddA X.K) := (op_add.or op_add_str).or (op_catA.or op_cat)
theorem wo_fresh_lst {K : PySem.W.Frag} {w : Wo} {S : Sto} {H : Hp} {p : Addr} {o : HO} (s : Sim K w S H) (hp : H p = none) : p ∉ w.m ∧ p ∉ w.q := by
  refine ⟨fun z => ?_, fun z => ?_⟩
  · obtain ⟨o, e, _⟩ := s.has z
    rw [hp] at e; cases e
  · obtain ⟨_, o, e⟩ := s.priv p z
    rw [hp] at e; cases e
theorem RV.newLst {K : PySem.W.Frag} {w : Wo} {S : Sto} {H : Hp} {p : Addr} {ds : List D} {xs : List V} (s : Sim K w S H) (hp : H p = none) (r : RVs K w H ds xs) : RV K w (upd H p (.lst xs)) (.lst ds) (.ref p) := by
  simp only [RV]
  exact ⟨p, xs, rfl, upd_same, wo_fresh_lst (o := .lst xs) s hp, r.mono (Ext.fresh hp)⟩
theorem RV.newTup {K : PySem.W.Frag} {w : Wo} {H : Hp} {p : Addr} {ds : List D} {xs : List V} (hp : H p = none) (r : RVs K w H ds xs) : RV K w (upd H p (.tup xs)) (.tup ds) (.ref p) := by
  simp only [RV]
  exact ⟨p, xs, rfl, upd_same, r.mono (Ext.fresh hp)⟩
theorem RVs.nil_iff {K : PySem.W.Frag} {w : Wo} {H : Hp} {ds : List D} {xs : List V} (r : RVs K w H ds xs) : ds = [] ↔ xs = [] := by
  have h := r.length
  constructor
  · intro e
    subst e
    exact List.eq_nil_of_length_eq_zero h.symm
  · intro e
    subst e
    exact List.eq_nil_of_length_eq_zero h
theorem opS_add {K : PySem.W.Frag} : OpS K (rAddA K) oAdd := by
  intro w S H x y d v u Q s rx ry e k
  unfold oAdd at e
  split at e
  · cases e
    simp only [RV] at rx ry
    exact .inl (.inl ⟨_, _, rx, ry, k w H _ .refl s (by simp only [RV])⟩)
  · split at e
    · rename_i hz
      cases e
      simp only [RV] at rx ry
      exact .inl (.inr ⟨_, _, rx, ry, hz, k w H _ .refl s (by simp only [RV])⟩)
    · cases e
  · split at e
    · rename_i a b ha hb
      obtain ⟨p, xs, h1, h2, h3⟩ := tupOf_sq rx ha
      obtain ⟨q, ys, g1, g2, g3⟩ := tupOf_sq ry hb
      subst h1 g1
      split at e
      · rename_i hz
        rw [h3.length, g3.length] at hz
        refine .inr (.inl ⟨p, q, xs, ys, rfl, rfl, h2, g2, hz, fun e1 => ?_, fun e1 e2 => ?_, fun e1 e2 l hl => ?_⟩)
        · rw [if_pos (h3.nil_iff.mpr e1)] at e
          cases e
          exact k w H _ .refl s ry
        · rw [if_neg (fun z => e1 (h3.nil_iff.mp z)), if_pos (g3.nil_iff.mpr e2)] at e
          cases e
          exact k w H _ .refl s rx
        · rw [if_neg (fun z => e1 (h3.nil_iff.mp z)), if_neg (fun z => e2 (g3.nil_iff.mp z))] at e
          cases e
          exact k w _ _ (Ext.fresh hl) (s.fresh hl) (RV.newTup hl (h3.append g3))
      · cases e
    · split at e
      · rename_i a b ha hb
        obtain ⟨p, xs, h1, h2, h3⟩ := lstX_sq s rx ha
        obtain ⟨q, ys, g1, g2, g3⟩ := lstX_sq s ry hb
        subst h1 g1
        split at e
        · rename_i hz
          cases e
          rw [h3.length, g3.length] at hz
          refine .inr (.inr ⟨p, q, xs, ys, rfl, rfl, h2, g2, hz, fun l hl => ?_⟩)
          exact k w _ _ (Ext.fresh hl) (s.fresh hl) (RV.newLst s hl (h3.append g3))
        · cases e
      · cases e

/-! ### equality, membership -/
mutual
def pyOk : D → Bool
  | .non => true
  | .bl _ => true
  | .int _ => true
  | .str _ => true
  | .tup ds => pyOks ds
  | .con ds => pyOks ds
  | .lst ds => pyOks ds
  | .frz ds => pyOks ds
  | .loc _ => false
def pyOks : List D → Bool
  | [] => true
  | d :: ds => pyOk d && pyOks ds
end
mutual
def py : D → PyData
  | .non => .none
  | .bl b => .bool b
  | .int i => .int i
  | .str x => .str x
  | .tup ds => .tuple (pys ds)
  | .con ds => .tuple (pys ds)
  | .lst ds => .list (pys ds)
  | .frz ds => .list (pys ds)
  | .loc _ => .none
def pys : List D → List PyData
  | [] => []
  | d :: ds => py d :: pys ds
end
section
variable {K : PySem.W.Frag} {w : Wo} {H : Hp}
mutual
theorem dp_of : ∀ {d : D} {v : V}, pyOk d = true → RV K w H d v → Dp K H v (py d)
  | .non, v, _, r => by simp only [RV] at r; subst r; simp only [py]; exact .non
  | .bl b, v, _, r => by simp only [RV] at r; subst r; simp only [py]; exact .bl b
  | .int i, v, _, r => by simp only [RV] at r; subst r; simp only [py]; exact .int i
  | .str x, v, _, r => by simp only [RV] at r; subst r; simp only [py]; exact .str x
  | .tup ds, v, o, r => by
    simp only [RV] at r
    obtain ⟨a, xs, h1, h2, h3⟩ := r
    subst h1
    simp only [py]
    exact .tup (SqT.of h2) (dps_of (by simpa only [pyOk] using o) h3)
  | .con ds, v, o, r => by
    simp only [RV] at r
    obtain ⟨a, xs, h1, h2, h3⟩ := r
    subst h1
    simp only [py]
    exact .tup h2.sq (dps_of (by simpa only [pyOk] using o) h3)
  | .lst ds, v, o, r => by
    simp only [RV] at r
    obtain ⟨a, xs, h1, h2, _, h3⟩ := r
    subst h1
    simp only [py]
    exact .lst (SqL.of h2) (dps_of (by simpa only [pyOk] using o) h3)
  | .frz ds, v, o, r => by
    simp only [RV] at r
    obtain ⟨a, xs, h1, h2, h3⟩ := r
    subst h1
    simp only [py]
    exact .lst h2.sq (dps_of (by simpa only [pyOk] using o) h3)
  | .loc n, v, o, _ => by simp only [pyOk] at o; cases o
theorem dps_of : ∀ {ds : List D} {vs : List V}, pyOks ds = true → RVs K w H ds vs → DpAll K H vs (pys ds)
  | [], vs, _, r => by simp only [RVs] at r; subst r; simp only [pys]; exact .nil
  | d :: ds, vs, o, r => by
    simp only [RVs] at r
    obtain ⟨v, t, h1, h2, h3⟩ := r
    subst h1
    simp only [pyOks, Bool.and_eq_true] at o
    simp only [pys]
    exact .cons (dp_of o.1 h2) (dps_of o.2 h3)
end
end
/-- a list of the store as a value, for a look -/
def deref (S : Sto) (d : D) : D := match d with
  | .loc n => match S[n]? with
    | some (.lst ds) => .lst ds
    | _ => d
  | _ => d
theorem dp_deref {K : PySem.W.Frag} {w : Wo} {S : Sto} {H : Hp} {d : D} {v : V} (s : Sim K w S H) (o : pyOk (deref S d) = true) (r : RV K w H d v) : Dp K H v (py (deref S d)) := by
  cases d with
  | loc n =>
    unfold deref at o ⊢
    dsimp only at o ⊢
    split at o
    · rename_i ds hd
      obtain ⟨a, h1, h2, xs, h3, h4⟩ := s.get hd r
      subst h1
      simp only [py]
      exact .lst (SqL.of h3) (dps_of (by simpa only [pyOk] using o) h4)
    · simp only [pyOk] at o; cases o
  | _ => exact dp_of o r
def eqOk (d : D) : Bool := pyOk d && SeqAt.shaped (py d)
/-- == -/
def deq (x y : D) : Bool := PyData.eqv (py x) (py y)
def oEq : Op2 := fun x y S => match x, y with
  | .int i, .int j => some (.bl (decide (i = j)))
  | .str i, .str j => some (.bl (decide (i = j)))
  | .bl i, .bl j => some (.bl (decide (i = j)))
  | x, y => if eqOk (deref S x) && eqOk (deref S y) then some (.bl (deq (deref S x) (deref S y))) else none
def oNe : Op2 := fun x y S => match oEq x y S with
  | some (.bl b) => some (.bl (!b))
  | _ => none
def rEqA (K : PySem.W.Frag) : R2 := fun x y H Q => rEq x y H Q ∨ rEqD K x y H Q
def rNeA (K : PySem.W.Frag) : R2 := fun x y H Q => rNe x y H Q ∨ rNeD K x y H Q
theorem op_eqA {X : Cx} {k : Nat} (c : Ctx X k) : OpR X (compareOp .Eq) (rEqA X.K) := op_eq.or (op_eqD c.hu)
theorem op_neA {X : Cx} {k : Nat} (c : Ctx X k) : OpR X (compareOp .NotEq) (rNeA X.K) := op_ne.or (op_neD c.hu)
theorem eq_cases {K : PySem.W.Frag} {w : Wo} {S : Sto} {H : Hp} {x y d : D} {v u : V} (s : Sim K w S H) (rx : RV K w H x v) (ry : RV K w H y u) (e : oEq x y S = some d) :
    (∃ b, d = .bl b ∧ scal v u = true ∧ b = decide (v = u)) ∨ ∃ p q, Dp K H v p ∧ Dp K H u q ∧ SeqAt.shaped p = true ∧ SeqAt.shaped q = true ∧ d = .bl (PyData.eqv p q) := by
  unfold oEq at e
  split at e
  · cases e; simp only [RV] at rx ry; subst rx ry; exact .inl ⟨_, rfl, rfl, by simp⟩
  · cases e; simp only [RV] at rx ry; subst rx ry; exact .inl ⟨_, rfl, rfl, by simp⟩
  · cases e; simp only [RV] at rx ry; subst rx ry; exact .inl ⟨_, rfl, rfl, by simp⟩
  · split at e
    · rename_i hc
      simp only [Bool.and_eq_true, eqOk] at hc
      obtain ⟨⟨h1, h2⟩, h3, h4⟩ := hc
      cases e
      exact .inr ⟨_, _, dp_deref s h1 rx, dp_deref s h3 ry, h2, h4, rfl⟩
    · cases e
theorem opS_eq {K : PySem.W.Frag} : OpS K (rEqA K) oEq := by
  intro w S H x y d v u Q s rx ry e k
  rcases eq_cases s rx ry e with ⟨b, rfl, h1, rfl⟩ | ⟨p, q, h1, h2, h3, h4, rfl⟩
  · exact .inl ⟨h1, k w H _ .refl s (by simp only [RV])⟩
  · exact .inr ⟨p, q, h1, h2, h3, h4, k w H _ .refl s (by simp only [RV])⟩
theorem opS_ne {K : PySem.W.Frag} : OpS K (rNeA K) oNe := by
  intro w S H x y d v u Q s rx ry e k
  unfold oNe at e
  split at e
  · rename_i b hb
    cases e
    rcases eq_cases s rx ry hb with ⟨b', e', h1, rfl⟩ | ⟨p, q, h1, h2, h3, h4, e'⟩
    · cases e'; exact .inl ⟨h1, k w H _ .refl s (by simp only [RV])⟩
    · cases e'; exact .inr ⟨p, q, h1, h2, h3, h4, k w H _ .refl s (by simp only [RV])⟩
  · cases e
def intsOf : List D → Option (List Int)
  | [] => some []
  | .int i :: ds => (intsOf ds).map (i :: ·)
  | _ :: _ => none
theorem intsOf_eq : ∀ {ds : List D} {is : List Int}, intsOf ds = some is → ds = is.map D.int
  | [], is, h => by cases h; rfl
  | d :: ds, is, h => by
    cases d with
    | int i =>
      simp only [intsOf] at h
      cases e : intsOf ds with
      | none => rw [e] at h; cases h
      | some js => rw [e] at h; cases h; rw [intsOf_eq e]; rfl
    | _ => cases h
@[simp] theorem intsOf_map (is : List Int) : intsOf (is.map D.int) = some is := by
  induction is with
  | nil => rfl
  | cons i is ih => simp only [List.map_cons, intsOf, ih, Option.map_some]
/-- x in a list or a tuple -/
def inB (x y : D) (S : Sto) : Option Bool := match x, (seqOf S y).bind intsOf with
  | .int i, some is => some (decide (i ∈ is))
  | x, _ => match seqOf S y with
    | some ds => if eqOk x && eqOk (.lst ds) then some (ds.any fun z => deq z x) else none
    | none => none
def oIn : Op2 := fun x y S => (inB x y S).map D.bl
def oNotIn : Op2 := fun x y S => (inB x y S).map fun b => D.bl (!b)
def rInT (K : PySem.W.Frag) (neg : Bool) : R2 := fun x y H Q => ∃ d ds, Dp K H x d ∧ Dp K H y (.tuple ds) ∧ SeqAt.shaped d = true ∧ SeqAt.shaped (.list ds) = true ∧ Q (.bl (if neg then !(ds.any fun z => PyData.eqv z d) else ds.any fun z => PyData.eqv z d)) H
theorem op_inT {X : Cx} (hu : X.A.units + 65 < cLine) : OpR X (compareOp .In) (rInT X.K false) := by
  intro pins s σ H x y v u Q I rx ry h
  obtain ⟨d, ds, hd, he, sd, se, q⟩ := h
  obtain ⟨as, r1⟩ := Dp.reads I d x v hd rx
  obtain ⟨bs, r2⟩ := Dp.reads I (.tuple ds) y u he ry
  exact SeqAt.in_tuple_reads r2 r1 (SeqAt.canLay_of_shaped se) (SeqAt.canLay_of_shaped sd) (room_in_shaped sd hu) ⟨.bl _, H, I, rfl, q⟩
theorem op_notInT {X : Cx} (hu : X.A.units + 65 < cLine) : OpR X (compareOp .NotIn) (rInT X.K true) := by
  intro pins s σ H x y v u Q I rx ry h
  obtain ⟨d, ds, hd, he, sd, se, q⟩ := h
  obtain ⟨as, r1⟩ := Dp.reads I d x v hd rx
  obtain ⟨bs, r2⟩ := Dp.reads I (.tuple ds) y u he ry
  exact SeqAt.notIn_tuple_reads r2 r1 (SeqAt.canLay_of_shaped se) (SeqAt.canLay_of_shaped sd) (room_in_shaped sd hu) ⟨.bl _, H, I, rfl, q⟩
def rInA (K : PySem.W.Frag) : R2 := fun x y H Q => rIn K false x y H Q ∨ (fun x y H Q => rInD K x y H Q ∨ rInT K false x y H Q) x y H Q
def rNotInA (K : PySem.W.Frag) : R2 := fun x y H Q => rIn K true x y H Q ∨ (fun x y H Q => rNotInD K x y H Q ∨ rInT K true x y H Q) x y H Q
theorem op_inA {X : Cx} {k : Nat} (c : Ctx X k) : OpR X (compareOp .In) (rInA X.K) := op_in_seq.or ((op_inD c.hu65).or (op_inT c.hu65))
theorem op_notInA {X : Cx} {k : Nat} (c : Ctx X k) : OpR X (compareOp .NotIn) (rNotInA X.K) := op_notIn_seq.or ((op_notInD c.hu65).or (op_notInT c.hu65))
theorem inV_ints (i : Int) (is : List Int) : inV (.int i) (is.map V.int) = decide (i ∈ is) := by
  unfold inV
  rw [List.any_map, Bool.eq_iff_iff]
  simp only [List.any_eq_true, Function.comp, eqV, beq_iff_eq, decide_eq_true_eq]
  exact ⟨fun ⟨x, h1, h2⟩ => h2 ▸ h1, fun h => ⟨i, h, rfl⟩⟩
theorem flat_ints (is : List Int) : (is.map V.int).all flatV = true := by
  rw [List.all_eq_true]
  intro v hv
  obtain ⟨i, _, rfl⟩ := List.mem_map.mp hv
  rfl
theorem any_pys (x : D) : ∀ ds : List D, (pys ds).any (fun z => PyData.eqv z (py x)) = ds.any fun z => deq z x
  | [] => rfl
  | d :: ds => by simp only [pys, List.any_cons, any_pys x ds, deq]
theorem in_cases {K : PySem.W.Frag} {w : Wo} {S : Sto} {H : Hp} {x y : D} {v u : V} {b : Bool} (s : Sim K w S H) (rx : RV K w H x v) (ry : RV K w H y u) (e : inB x y S = some b) :
    (∃ p xs, u = .ref p ∧ (SqL K H p xs ∨ SqT K H p xs) ∧ flatV v = true ∧ xs.all flatV = true ∧ b = inV v xs) ∨
    ∃ d ds, Dp K H v d ∧ (Dp K H u (.list ds) ∨ Dp K H u (.tuple ds)) ∧ SeqAt.shaped d = true ∧ SeqAt.shaped (.list ds) = true ∧ b = ds.any fun z => PyData.eqv z d := by
  unfold inB at e
  split at e
  · rename_i i is hs
    cases e
    cases hq : seqOf S y with
    | none => rw [hq] at hs; cases hs
    | some ds =>
      rw [hq] at hs
      obtain ⟨a, xs, h1, h2, h3⟩ := seqOf_sq s ry hq
      have e' := intsOf_eq (show intsOf ds = some is from hs)
      subst e'
      rw [h3.ints] at h2
      simp only [RV] at rx
      subst rx
      exact .inl ⟨a, _, h1, h2, rfl, flat_ints _, (inV_ints _ _).symm⟩
  · split at e
    · rename_i ds hq
      split at e
      · rename_i hc
        cases e
        simp only [Bool.and_eq_true, eqOk] at hc
        obtain ⟨⟨h1, h2⟩, h3, h4⟩ := hc
        obtain ⟨a, xs, g1, g2, g3⟩ := seqOf_sq s ry hq
        subst g1
        refine .inr ⟨_, pys ds, dp_of h1 rx, ?_, h2, by simpa only [py] using h4, (any_pys _ _).symm⟩
        have ha := dps_of (by simpa only [pyOk] using h3) g3
        rcases g2 with g2 | g2
        · exact .inl (.lst g2 ha)
        · exact .inr (.tup g2 ha)
      · cases e
    · cases e
theorem opS_in {K : PySem.W.Frag} : OpS K (rInA K) oIn := by
  intro w S H x y d v u Q s rx ry e k
  unfold oIn at e
  cases hb : inB x y S with
  | none => rw [hb] at e; cases e
  | some b =>
    rw [hb] at e
    cases e
    have fin : Q (.bl b) H := k w H _ .refl s (by simp only [RV])
    rcases in_cases s rx ry hb with ⟨p, xs, h1, h2, h3, h4, h5⟩ | ⟨d, ds, h1, h2, h3, h4, h5⟩
    · exact .inl ⟨p, xs, h1, h2, h3, h4, by rw [if_neg Bool.false_ne_true, ← h5]; exact fin⟩
    · rcases h2 with h2 | h2
      · exact .inr (.inl ⟨d, ds, h1, h2, h3, h4, by rw [← h5]; exact fin⟩)
      · exact .inr (.inr ⟨d, ds, h1, h2, h3, h4, by rw [if_neg Bool.false_ne_true, ← h5]; exact fin⟩)
theorem opS_notIn {K : PySem.W.Frag} : OpS K (rNotInA K) oNotIn := by
  intro w S H x y d v u Q s rx ry e k
  unfold oNotIn at e
  cases hb : inB x y S with
  | none => rw [hb] at e; cases e
  | some b =>
    rw [hb] at e
    cases e
    have fin : Q (.bl (!b)) H := k w H _ .refl s (by simp only [RV])
    rcases in_cases s rx ry hb with ⟨p, xs, h1, h2, h3, h4, h5⟩ | ⟨d, ds, h1, h2, h3, h4, h5⟩
    · exact .inl ⟨p, xs, h1, h2, h3, h4, by rw [if_pos rfl, ← h5]; exact fin⟩
    · rcases h2 with h2 | h2
      · exact .inr (.inl ⟨d, ds, h1, h2, h3, h4, by rw [← h5]; exact fin⟩)
      · exact .inr (.inr ⟨d, ds, h1, h2, h3, h4, by rw [if_pos rfl, ← h5]; exact fin⟩)
/-- is None -/
def isNonD : D → Bool
  | .non => true
  | _ => false
def oIsN : Op2 := fun x y _ => match y with
  | .non => some (.bl (isNonD x))
  | _ => none
def oNotN : Op2 := fun x y _ => match y with
  | .non => some (.bl (!isNonD x))
  | _ => none
theorem isN_eq {K : PySem.W.Frag} {w : Wo} {H : Hp} {x : D} {v : V} (rx : RV K w H x v) : decide (v = .non) = isNonD x := by
  cases x with
  | non => simp only [RV] at rx; subst rx; simp [isNonD]
  | bl b => simp only [RV] at rx; subst rx; simp [isNonD]
  | int b => simp only [RV] at rx; subst rx; simp [isNonD]
  | str b => simp only [RV] at rx; subst rx; simp [isNonD]
  | tup ds => simp only [RV] at rx; obtain ⟨a, xs, rfl, _⟩ := rx; simp [isNonD]
  | con ds => simp only [RV] at rx; obtain ⟨a, xs, rfl, _⟩ := rx; simp [isNonD]
  | lst ds => simp only [RV] at rx; obtain ⟨a, xs, rfl, _⟩ := rx; simp [isNonD]
  | frz ds => simp only [RV] at rx; obtain ⟨a, xs, rfl, _⟩ := rx; simp [isNonD]
  | loc n => simp only [RV] at rx; obtain ⟨a, rfl, _⟩ := rx; simp [isNonD]
theorem opS_isN {K : PySem.W.Frag} : OpS K (fun x y H Q => y = .non ∧ Q (.bl (decide (x = .non))) H) oIsN := by
  intro w S H x y d v u Q s rx ry e k
  cases y with
  | non =>
    simp only [RV] at ry
    refine ⟨ry, ?_⟩
    cases e
    rw [isN_eq rx]
    exact k w H _ .refl s (by simp only [RV])
  | _ => cases e
theorem opS_notN {K : PySem.W.Frag} : OpS K (fun x y H Q => y = .non ∧ Q (.bl (!decide (x = .non))) H) oNotN := by
  intro w S H x y d v u Q s rx ry e k
  cases y with
  | non =>
    simp only [RV] at ry
    refine ⟨ry, ?_⟩
    cases e
    rw [isN_eq rx]
    exact k w H _ .refl s (by simp only [RV])
  | _ => cases e
/-- subscripts -/
def oIx : Op2 := fun x y S => match y with
  | .int i => match tupOf x with
    | some ds => atI ds i
    | none => match lstOf S x with
      | some ds => atI ds i
      | none => match x with
        | .str z => if z.length ≤ sizeLine then (atI z.cps.toList i).map fun c => D.str ⟨#[c]⟩ else none
        | _ => none
  | _ => none
theorem atI_rel {K : PySem.W.Frag} {w : Wo} {H : Hp} {ds : List D} {xs : List V} {i : Int} {d : D} (r : RVs K w H ds xs) (h : atI ds i = some d) : ∃ v, atI xs i = some v ∧ RV K w H d v := by
  unfold atI at h ⊢
  rw [← r.length]
  cases e : ixN ds.length i with
  | none => rw [e] at h; cases h
  | some j => rw [e] at h; exact r.get h
theorem opS_ix {K : PySem.W.Frag} : OpS K (rIx K) oIx := by
  intro w S H x y d v u Q s rx ry e k
  unfold oIx at e
  split at e
  · rename_i i
    simp only [RV] at ry
    split at e
    · rename_i ds hd
      obtain ⟨a, xs, h1, h2, h3⟩ := tupOf_sq rx hd
      obtain ⟨z, g1, g2⟩ := atI_rel h3 e
      exact .inr (.inl ⟨a, xs, i, z, h1, ry, h2, g1, k w H _ .refl s g2⟩)
    · split at e
      · rename_i ds hd
        obtain ⟨a, xs, h1, h2, h3⟩ := lstOf_sq s rx hd
        obtain ⟨z, g1, g2⟩ := atI_rel h3 e
        exact .inl ⟨a, xs, i, z, h1, ry, h2, g1, k w H _ .refl s g2⟩
      · split at e
        · split at e
          · rename_i z _ _ hz
            simp only [RV] at rx
            cases hc : atI z.cps.toList i with
            | none => rw [hc] at e; cases e
            | some c =>
              rw [hc] at e
              cases e
              exact .inr (.inr ⟨z, i, c, rx, ry, hz, hc, k w H _ .refl s (by simp only [RV])⟩)
          · cases e
        · cases e
  · cases e
section
variable {X : Cx} {W : WX} {pos : Pos} {a b : Expr} {fa fb : EF}
theorem E_add (ha : PE X a (tE X.K W fa)) (hb : PE X b (tE X.K W fb)) : PE X (.BinOp a .Add b pos) (tE X.K W (eBin oAdd fa fb)) := E_bin op_addA opS_add ha hb
theorem E_sub (ha : PE X a (tE X.K W fa)) (hb : PE X b (tE X.K W fb)) : PE X (.BinOp a .Sub b pos) (tE X.K W (eBin oSub fa fb)) := E_bin op_sub opS_int0 ha hb
theorem E_mul (ha : PE X a (tE X.K W fa)) (hb : PE X b (tE X.K W fb)) : PE X (.BinOp a .Mult b pos) (tE X.K W (eBin oMul fa fb)) := E_bin op_mul opS_int ha hb
theorem E_div (ha : PE X a (tE X.K W fa)) (hb : PE X b (tE X.K W fb)) : PE X (.BinOp a .FloorDiv b pos) (tE X.K W (eBin oDiv fa fb)) := E_bin op_divV opS_int ha hb
theorem E_mod (ha : PE X a (tE X.K W fa)) (hb : PE X b (tE X.K W fb)) : PE X (.BinOp a .Mod b pos) (tE X.K W (eBin oMod fa fb)) := E_bin op_mod opS_int ha hb
theorem E_pow (ha : PE X a (tE X.K W fa)) (hb : PE X b (tE X.K W fb)) : PE X (.BinOp a .Pow b pos) (tE X.K W (eBin oPow fa fb)) := E_bin op_pow opS_int ha hb
theorem E_shl (ha : PE X a (tE X.K W fa)) (hb : PE X b (tE X.K W fb)) : PE X (.BinOp a .LShift b pos) (tE X.K W (eBin oShl fa fb)) := E_bin op_shl opS_int ha hb
theorem E_and_ (ha : PE X a (tE X.K W fa)) (hb : PE X b (tE X.K W fb)) : PE X (.BinOp a .BitAnd b pos) (tE X.K W (eBin oAnd fa fb)) := E_bin op_and opS_int0 ha hb
theorem E_ix (ha : PE X a (tE X.K W fa)) (hb : PE X b (tE X.K W fb)) (hs : PlainIx b := by exact fun _ _ => rfl) : PE X (.Subscript a b pos) (tE X.K W (eBin oIx fa fb)) :=
  PE.weak (pe_ix ix_seq ha hb hs) fun _ _ _ h => tOp_of opS_ix h
end
end Ev

namespace Ev
open PySem PySem.Spec PyProof.Rows L2

/-! ### tests -/
def truD (d : D) (S : Sto) : Option Bool := match d with
  | .non => some false
  | .bl b => some b
  | .int i => some (i != 0)
  | .str x => if x.length ≤ sizeLine then some ((x.length : Int) != 0) else none
  | .tup ds => some (!ds.isEmpty)
  | .con ds => some (!ds.isEmpty)
  | .lst ds => some (!ds.isEmpty)
  | .frz ds => some (!ds.isEmpty)
  | .loc n => match S[n]? with
    | some (.lst ds) => some (!ds.isEmpty)
    | some (.dK kvs) => some (!kvs.isEmpty)
    | _ => none
def liftG {α : Type} (d : Option α) (S : Sto) : R α := match d with
  | some d => .ok d S
  | none => .no
@[simp] theorem liftG_some {α : Type} (d : α) (S : Sto) : liftG (some d) S = .ok d S := rfl
@[simp] theorem liftG_none {α : Type} (S : Sto) : liftG (none : Option α) S = .no := rfl
def bVal (fa : EF) : BF := fun ρ S => (fa ρ S).bind fun x S1 => liftG (truD x S1) S1
theorem RVs.empty {K : PySem.W.Frag} {w : Wo} {H : Hp} {ds : List D} {xs : List V} (r : RVs K w H ds xs) : ds.isEmpty = xs.isEmpty := by
  have h := r.length
  cases ds with
  | nil => cases xs with
    | nil => rfl
    | cons x xs => cases h
  | cons d ds => cases xs with
    | nil => cases h
    | cons x xs => rfl
theorem truD_ok {K : PySem.W.Frag} {w : Wo} {S : Sto} {H : Hp} {x : D} {v : V} {b : Bool} (s : Sim K w S H) (rx : RV K w H x v) (h : truD x S = some b) : TruV K v H b := by
  cases x with
  | non => simp only [RV] at rx; subst rx; cases h; exact rfl
  | bl b => simp only [RV] at rx; subst rx; cases h; exact rfl
  | int b => simp only [RV] at rx; subst rx; cases h; exact rfl
  | str b =>
    simp only [RV] at rx; subst rx
    simp only [truD] at h
    split at h
    · rename_i hz; cases h; exact ⟨hz, rfl⟩
    · cases h
  | tup ds => simp only [RV] at rx; obtain ⟨a, xs, rfl, h2, h3⟩ := rx; cases h; exact .inr (.inl ⟨xs, SqT.of h2, by rw [h3.empty]⟩)
  | con ds => simp only [RV] at rx; obtain ⟨a, xs, rfl, h2, h3⟩ := rx; cases h; exact .inr (.inl ⟨xs, h2.sq, by rw [h3.empty]⟩)
  | lst ds => simp only [RV] at rx; obtain ⟨a, xs, rfl, h2, _, h3⟩ := rx; cases h; exact .inl ⟨xs, SqL.of h2, by rw [h3.empty]⟩
  | frz ds => simp only [RV] at rx; obtain ⟨a, xs, rfl, h2, h3⟩ := rx; cases h; exact .inl ⟨xs, h2.sq, by rw [h3.empty]⟩
  | loc n =>
    simp only [truD] at h
    split at h
    · rename_i ds hd
      cases h
      obtain ⟨a, rfl, h2, xs, h3, h4⟩ := s.get hd rx
      exact .inl ⟨xs, SqL.of h3, by rw [h4.empty]⟩
    · rename_i kvs hd
      cases h
      obtain ⟨a, rfl, h2, vs, h3, h4, h5⟩ := s.get hd rx
      refine .inr (.inr ⟨vs, h3, ?_⟩)
      have := h5.empty
      cases kvs <;> cases vs <;> simp_all
    · cases h
def bAnd (fa fb : BF) : BF := fun ρ S => (fa ρ S).bind fun x S1 => if x = true then fb ρ S1 else .ok false S1
def bOr (fa fb : BF) : BF := fun ρ S => (fa ρ S).bind fun x S1 => if x = true then .ok true S1 else fb ρ S1
def bNot (fa : BF) : BF := fun ρ S => (fa ρ S).bind fun x S1 => .ok (!x) S1
def eAnd (fa fb : EF) : EF := fun ρ S => (fa ρ S).bind fun x S1 => match x with
  | .bl true => fb ρ S1
  | .bl false => .ok (.bl false) S1
  | _ => .no
def eOr (fa fb : EF) : EF := fun ρ S => (fa ρ S).bind fun x S1 => match x with
  | .bl true => .ok (.bl true) S1
  | .bl false => fb ρ S1
  | _ => .no
def eNot (fa : EF) : EF := fun ρ S => (fa ρ S).bind fun x S1 => match x with
  | .bl b => .ok (.bl (!b)) S1
  | _ => .no
/-- x or y by truth -/
def eOrT (fa fb : EF) : EF := fun ρ S => (fa ρ S).bind fun x S1 => (liftG (truD x S1) S1).bind fun k S2 => if k = true then .ok x S2 else fb ρ S2
def eIf (t : BF) (fa fb : EF) : EF := fun ρ S => (t ρ S).bind fun c S1 => if c = true then fa ρ S1 else fb ρ S1
section
variable {X : Cx} {W : WX} {pos : Pos} {a b c : Expr} {fa fb : EF} {ta tb : BF} {rest : List Expr}
theorem T_val (ha : PE X a (tE X.K W fa)) (he : ∀ whole, isTrue a X.env whole = (do let v ← whole; standAt a.pos; holding [v] (truthy v)) := by exact fun _ => rfl) : PT X a (tT X.K W (bVal fa)) :=
  PT.weak (pt_truth ha he) fun σ H Q h => by
    obtain ⟨w, S, ρ, s, re, p⟩ := h
    refine ⟨w, S, ρ, s, re, p.bind fun w1 H1 v x S1 e1 s1 rx p1 => ?_⟩
    cases hb : truD x S1 with
    | none => rw [hb] at p1; exact p1.elim
    | some k => rw [hb] at p1; exact ⟨k, truD_ok s1 rx hb, p1 w1 H1 k .refl s1 rfl⟩
theorem T_and1 (ha : PT X a (tT X.K W ta)) : PW X (.BoolOp .And [a] pos) (tT X.K W ta) := pw_and1 ha
theorem T_or1 (ha : PT X a (tT X.K W ta)) : PW X (.BoolOp .Or [a] pos) (tT X.K W ta) := pw_or1 ha
theorem T_and (ha : PT X a (tT X.K W ta)) (hb : PW X (.BoolOp .And (b :: rest) pos) (tT X.K W tb)) : PW X (.BoolOp .And (a :: b :: rest) pos) (tT X.K W (bAnd ta tb)) :=
  PW.weak (pw_and ha hb) fun σ H Q h => by
    obtain ⟨w, S, ρ, s, re, p⟩ := h
    refine ⟨w, S, ρ, s, re, p.bind fun w1 H1 v x S1 e1 s1 rx p1 => ?_⟩
    cases rx
    split
    · rename_i hx; rw [if_pos hx] at p1; exact ⟨w1, S1, ρ, s1, re.mono e1, p1⟩
    · rename_i hx; rw [if_neg hx] at p1; exact p1 w1 H1 false .refl s1 rfl
theorem T_or (ha : PT X a (tT X.K W ta)) (hb : PW X (.BoolOp .Or (b :: rest) pos) (tT X.K W tb)) : PW X (.BoolOp .Or (a :: b :: rest) pos) (tT X.K W (bOr ta tb)) :=
  PW.weak (pw_or ha hb) fun σ H Q h => by
    obtain ⟨w, S, ρ, s, re, p⟩ := h
    refine ⟨w, S, ρ, s, re, p.bind fun w1 H1 v x S1 e1 s1 rx p1 => ?_⟩
    cases rx
    split
    · rename_i hx; rw [if_pos hx] at p1; exact p1 w1 H1 true .refl s1 rfl
    · rename_i hx; rw [if_neg hx] at p1; exact ⟨w1, S1, ρ, s1, re.mono e1, p1⟩
theorem T_not (ha : PT X a (tT X.K W ta)) : PT X (.UnaryOp .Not a pos) (tT X.K W (bNot ta)) :=
  PT.weak (pt_not ha) fun σ H Q h => by
    obtain ⟨w, S, ρ, s, re, p⟩ := h
    refine ⟨w, S, ρ, s, re, p.bind fun w1 H1 v x S1 e1 s1 rx p1 => ?_⟩
    cases rx
    exact p1 w1 H1 _ .refl s1 rfl
theorem E_one {op} (h : PE X a (tE X.K W fa)) : PE X (.BoolOp op [a] pos) (tE X.K W fa) := pe_one h
theorem E_andV (ha : PE X a (tE X.K W fa)) (hb : PE X (.BoolOp .And (b :: rest) pos) (tE X.K W fb)) : PE X (.BoolOp .And (a :: b :: rest) pos) (tE X.K W (eAnd fa fb)) :=
  PE.weak (pe_and ha hb) fun σ H Q h => by
    obtain ⟨w, S, ρ, s, re, p⟩ := h
    refine ⟨w, S, ρ, s, re, p.bind fun w1 H1 v x S1 e1 s1 rx p1 => ?_⟩
    cases x with
    | bl k =>
      simp only [RV] at rx
      refine ⟨k, rx, ?_⟩
      cases k with
      | true => exact ⟨w1, S1, ρ, s1, re.mono e1, p1⟩
      | false => exact p1 w1 H1 _ .refl s1 (by simp only [RV])
    | _ => exact p1.elim
theorem E_orV (ha : PE X a (tE X.K W fa)) (hb : PE X (.BoolOp .Or (b :: rest) pos) (tE X.K W fb)) : PE X (.BoolOp .Or (a :: b :: rest) pos) (tE X.K W (eOr fa fb)) :=
  PE.weak (pe_or ha hb) fun σ H Q h => by
    obtain ⟨w, S, ρ, s, re, p⟩ := h
    refine ⟨w, S, ρ, s, re, p.bind fun w1 H1 v x S1 e1 s1 rx p1 => ?_⟩
    cases x with
    | bl k =>
      simp only [RV] at rx
      refine ⟨k, rx, ?_⟩
      cases k with
      | false => exact ⟨w1, S1, ρ, s1, re.mono e1, p1⟩
      | true => exact p1 w1 H1 _ .refl s1 (by simp only [RV])
    | _ => exact p1.elim
theorem E_orT (ha : PE X a (tE X.K W fa)) (hb : PE X (.BoolOp .Or (b :: rest) pos) (tE X.K W fb)) : PE X (.BoolOp .Or (a :: b :: rest) pos) (tE X.K W (eOrT fa fb)) :=
  PE.weak (pe_orT ha hb) fun σ H Q h => by
    obtain ⟨w, S, ρ, s, re, p⟩ := h
    refine ⟨w, S, ρ, s, re, p.bind fun w1 H1 v x S1 e1 s1 rx p1 => ?_⟩
    cases hk : truD x S1 with
    | none => rw [hk] at p1; exact p1.elim
    | some k =>
      rw [hk] at p1
      refine ⟨k, truD_ok s1 rx hk, ?_⟩
      cases k with
      | true => exact p1 w1 H1 v .refl s1 rx
      | false => exact ⟨w1, S1, ρ, s1, re.mono e1, p1⟩
theorem E_notV (ha : PE X a (tE X.K W fa)) : PE X (.UnaryOp .Not a pos) (tE X.K W (eNot fa)) :=
  PE.weak (pe_not ha) fun σ H Q h => by
    obtain ⟨w, S, ρ, s, re, p⟩ := h
    refine ⟨w, S, ρ, s, re, p.bind fun w1 H1 v x S1 e1 s1 rx p1 => ?_⟩
    cases x with
    | bl k =>
      simp only [RV] at rx
      exact ⟨k, rx, p1 w1 H1 _ .refl s1 (by simp only [RV])⟩
    | _ => exact p1.elim
theorem E_ifx (hc : PT X c (tT X.K W ta)) (ha : PE X a (tE X.K W fa)) (hb : PE X b (tE X.K W fb)) : PE X (.IfExp c a b pos) (tE X.K W (eIf ta fa fb)) :=
  PE.weak (pe_ifExp hc ha hb) fun σ H Q h => by
    obtain ⟨w, S, ρ, s, re, p⟩ := h
    refine ⟨w, S, ρ, s, re, p.bind fun w1 H1 v x S1 e1 s1 rx p1 => ?_⟩
    cases rx
    split
    · rename_i hx; rw [if_pos hx] at p1; exact ⟨w1, S1, ρ, s1, re.mono e1, p1⟩
    · rename_i hx; rw [if_neg hx] at p1; exact ⟨w1, S1, ρ, s1, re.mono e1, p1⟩
/-- - i -/
def eNeg (fa : EF) : EF := fun ρ S => (fa ρ S).bind fun x S1 => match x with
  | .int i => .ok (.int (-i)) S1
  | _ => .no
theorem E_neg (ha : PE X a (tE X.K W fa)) : PE X (.UnaryOp .USub a pos) (tE X.K W (eNeg fa)) :=
  PE.weak (pe_un un_neg ha) fun σ H Q h => by
    obtain ⟨w, S, ρ, s, re, p⟩ := h
    refine ⟨w, S, ρ, s, re, p.bind fun w1 H1 v x S1 e1 s1 rx p1 => ?_⟩
    cases x with
    | int i =>
      simp only [RV] at rx
      exact ⟨i, rx, p1 w1 H1 _ .refl s1 (by simp only [RV])⟩
    | _ => exact p1.elim
end

/-! ### arguments, displays -/
def aNil : AF := fun _ S => .ok [] S
def aCons (fa : EF) (fr : AF) : AF := fun ρ S => (fa ρ S).bind fun x S1 => (fr ρ S1).bind fun xs S2 => .ok (x :: xs) S2
def eTup (fa : AF) : EF := fun ρ S => (fa ρ S).bind fun ds S1 => if ds.length ≤ sizeLine then .ok (.tup ds) S1 else .no
def eLst (fa : AF) : EF := fun ρ S => (fa ρ S).bind fun ds S1 => if ds.length ≤ sizeLine then .ok (.lst ds) S1 else .no
/-- a list that will be changed: it goes to the store -/
def eLstA (fa : AF) : EF := fun ρ S => (fa ρ S).bind fun ds S1 => if ds.length ≤ sizeLine then .ok (.loc S1.length) (S1 ++ [.lst ds]) else .no
theorem RV.newLoc {K : PySem.W.Frag} {w : Wo} {S : Sto} {H : Hp} {p : Addr} (s : w.m.length = S.length) : RV K (w.add p) H (.loc S.length) (.ref p) := by
  simp only [RV]
  refine ⟨p, rfl, ?_⟩
  show (w.m ++ [p])[S.length]? = some p
  rw [← s, List.getElem?_append_right (Nat.le_refl _), Nat.sub_self]
  rfl
theorem RVs.up {K : PySem.W.Frag} {w w' : Wo} {H H' : Hp} {ds : List D} {vs : List V} (e : Ext w H w' H') (r : RVs K w H ds vs) : RVs K w' H' ds vs := r.mono e
theorem RC.newLst {K : PySem.W.Frag} {w : Wo} {H : Hp} {p : Addr} {ds : List D} {xs : List V} (hp : H p = none) (r : RVs K w H ds xs) : RC K (w.add p) (upd H p (.lst xs)) p (.lst ds) := ⟨xs, upd_same, r.mono (Ext.alloc hp)⟩
section
variable {X : Cx} {W : WX} {pos : Pos} {e : Expr} {es : List Expr} {fa : EF} {fr : AF}
theorem A_nil : PA X [] (tA X.K W aNil) := PA.weak pa_nil fun σ H Q h => let ⟨w, S, ρ, s, re, p⟩ := h; p.ret s .nil
theorem A_cons (ha : PE X e (tE X.K W fa)) (hr : PA X es (tA X.K W fr)) (hs : starEach (e :: es) X.env = (false, eval e X.env) :: starEach es X.env := by rfl) : PA X (e :: es) (tA X.K W (aCons fa fr)) :=
  PA.weak (pa_cons ha hr hs) fun σ H Q h => by
    obtain ⟨w, S, ρ, s, re, p⟩ := h
    refine ⟨w, S, ρ, s, re, p.bind fun w1 H1 v x S1 e1 s1 rx p1 => ?_⟩
    exact ⟨w1, S1, ρ, s1, re.mono e1, p1.bind fun w2 H2 vs xs S2 e2 s2 rxs p2 => p2 w2 H2 _ .refl s2 (.cons (rx.mono e2) rxs)⟩
theorem E_tup {x1} (h : PA X es (tA X.K W fr)) : PE X (.Tuple es x1 pos) (tE X.K W (eTup fr)) :=
  PE.weak (pe_tup h) fun σ H Q h => by
    obtain ⟨w, S, ρ, s, re, p⟩ := h
    refine ⟨w, S, ρ, s, re, p.bind fun w1 H1 vs xs S1 e1 s1 rx p1 => ?_⟩
    split at p1
    · rename_i hz
      exact ⟨by rw [← rx.length]; exact hz, fun q hq => p1 w1 _ _ (Ext.fresh hq) (s1.fresh hq) (RV.newTup hq rx)⟩
    · exact p1.elim
theorem E_lst (h : PA X es (tA X.K W fr)) : PE X (.List es pos) (tE X.K W (eLst fr)) :=
  PE.weak (pe_lst h) fun σ H Q h => by
    obtain ⟨w, S, ρ, s, re, p⟩ := h
    refine ⟨w, S, ρ, s, re, p.bind fun w1 H1 vs xs S1 e1 s1 rx p1 => ?_⟩
    split at p1
    · rename_i hz
      exact ⟨by rw [← rx.length]; exact hz, fun q hq => p1 w1 _ _ (Ext.fresh hq) (s1.fresh hq) (RV.newLst s1 hq rx)⟩
    · exact p1.elim
theorem E_lstA (h : PA X es (tA X.K W fr)) : PE X (.List es pos) (tE X.K W (eLstA fr)) :=
  PE.weak (pe_lst h) fun σ H Q h => by
    obtain ⟨w, S, ρ, s, re, p⟩ := h
    refine ⟨w, S, ρ, s, re, p.bind fun w1 H1 vs xs S1 e1 s1 rx p1 => ?_⟩
    split at p1
    · rename_i hz
      refine ⟨by rw [← rx.length]; exact hz, fun q hq => p1 (w1.add q) _ _ (Ext.alloc hq) (s1.alloc hq (RC.newLst hq rx)) (RV.newLoc s1.len)⟩
    · exact p1.elim
end

/-! ### targets -/
inductive Tg where
  | nm (i : Nat) | tp (ts : List Tg) | ls (ts : List Tg)
mutual
def Tg.asg : Tg → D → En → Sto → Option En
  | .nm i, d, ρ, _ => some (ρ.set i (some d))
  | .tp ts, d, ρ, S => match tupOf d with
    | some ds => if ds.length = ts.length then asgs ts ds ρ S else none
    | none => none
  | .ls ts, d, ρ, S => match lstOf S d with
    | some ds => if ds.length = ts.length then asgs ts ds ρ S else none
    | none => none
def asgs : List Tg → List D → En → Sto → Option En
  | [], _, ρ, _ => some ρ
  | t :: ts, d :: ds, ρ, S => match t.asg d ρ S with
    | some ρ1 => asgs ts ds ρ1 S
    | none => none
  | _ :: _, [], _, _ => none
end
mutual
def Tg.slots : Tg → List Nat
  | .nm i => [i]
  | .tp ts => slotss ts
  | .ls ts => slotss ts
def slotss : List Tg → List Nat
  | [] => []
  | t :: ts => t.slots ++ slotss ts
end
/-- what a target does with the slots -/
def Wpd (is : List Nat) (σ σ' : St) : Prop := ∀ vs : List Nat, (∀ i ∈ is, i ∈ vs) → wipe σ' vs = wipe σ vs
def gT (K : PySem.W.Frag) (t : Tg) : TG := fun v σ H Q => ∃ w S ρ d ρ', Sim K w S H ∧ REnv K w H ρ σ ∧ RV K w H d v ∧ t.asg d ρ S = some ρ' ∧ ∀ σ', REnv K w H ρ' σ' → Wpd t.slots σ σ' → Q σ' H
def gTs (K : PySem.W.Frag) (ts : List Tg) : TGs := fun vs σ H Q => ∃ w S ρ ds ρ', Sim K w S H ∧ REnv K w H ρ σ ∧ RVs K w H ds vs ∧ ds.length = ts.length ∧ asgs ts ds ρ S = some ρ' ∧ ∀ σ', REnv K w H ρ' σ' → Wpd (slotss ts) σ σ' → Q σ' H
theorem wipe_set (σ : St) (i : Nat) (v : Option V) : ∀ vs : List Nat, i ∈ vs → wipe (σ.set i v) vs = wipe σ vs
  | [], h => by simp at h
  | j :: vs, h => by
    unfold wipe
    by_cases hm : i ∈ vs
    · rw [wipe_set σ i v vs hm]
    · have hj : j = i := by
        rcases List.mem_cons.mp h with z | z
        · exact z.symm
        · exact absurd z hm
      subst hj
      have key : ∀ vs : List Nat, j ∉ vs → wipe (σ.set j v) vs = (wipe σ vs).set j v := by
        intro vs
        induction vs with
        | nil => intro _; rfl
        | cons k vs ih =>
          intro hk
          simp only [List.mem_cons, not_or] at hk
          unfold wipe
          rw [ih hk.2, List.set_comm _ _ hk.1]
      rw [key vs hm, List.set_set]
theorem Wpd.trans {is js : List Nat} {σ σ1 σ2 : St} (a : Wpd is σ σ1) (b : Wpd js σ1 σ2) : Wpd (is ++ js) σ σ2 := fun vs h =>
  (b vs fun i hi => h i (List.mem_append_right _ hi)).trans (a vs fun i hi => h i (List.mem_append_left _ hi))
section
variable {X : Cx} {pos : Pos}
theorem PG.weak {tg : Expr} {t t' : TG} (h : PG X tg t) (k : ∀ v σ H Q, t' v σ H Q → t v σ H Q) : PG X tg t' := ⟨fun pins s σ H v u Q I r q => h.run pins s σ H v u Q I r (k v σ H Q q)⟩
theorem PGs.weak {ts : List Expr} {t t' : TGs} (h : PGs X ts t) (k : ∀ v σ H Q, t' v σ H Q → t v σ H Q) : PGs X ts t' := ⟨fun pins s σ H v u Q I r q => h.run pins s σ H v u Q I r (k v σ H Q q)⟩
theorem G_nm (i : Nat) {x : Str} (hN : X.N.Nodup) (hi : X.N[i]? = some x := by rfl) (hx : Loc X.env.scope x := by first | exact Or.inl rfl | exact Or.inr rfl) (hf : X.fn x = true ∨ X.env.scope.names.lookup x = some .local := by first | exact .inl rfl | exact .inr rfl | assumption) :
    PG X (.Name x pos) (gT X.K (.nm i)) :=
  PG.weak (pg_name (i := i) hN hi hx hf) fun v σ H Q h => by
    obtain ⟨w, S, ρ, d, ρ', s, re, rd, e, k⟩ := h
    cases e
    refine k _ (re.set rd) fun vs hv => wipe_set σ i _ vs (hv i (by simp [Tg.slots]))
theorem Gs_nil : PGs X [] (gTs X.K []) :=
  PGs.weak pgs_nil fun v σ H Q h => by
    obtain ⟨w, S, ρ, ds, ρ', s, re, rd, l, e, k⟩ := h
    have l' : ds = [] := List.eq_nil_of_length_eq_zero l
    subst l'
    simp only [RVs] at rd
    simp only [asgs] at e
    cases e
    exact ⟨rd, k σ re fun _ _ => rfl⟩
theorem Gs_cons {e : Expr} {es : List Expr} {t : Tg} {ts : List Tg} (h1 : PG X e (gT X.K t)) (h2 : PGs X es (gTs X.K ts)) (hs : (assignEach (e :: es) X.env).map (·.2) = assign e X.env :: (assignEach es X.env).map (·.2) := by rfl) :
    PGs X (e :: es) (gTs X.K (t :: ts)) :=
  PGs.weak (pgs_cons h1 h2 hs) fun v σ H Q h => by
    obtain ⟨w, S, ρ, ds, ρ', s, re, rd, l, e, k⟩ := h
    cases ds with
    | nil => cases l
    | cons d ds =>
      simp only [RVs] at rd
      obtain ⟨u, r, h1, h2, h3⟩ := rd
      simp only [asgs] at e
      cases ha : t.asg d ρ S with
      | none => rw [ha] at e; cases e
      | some ρ1 =>
        rw [ha] at e
        refine ⟨u, r, h1, w, S, ρ, d, ρ1, s, re, h2, ha, fun σ1 re1 wp1 => ?_⟩
        exact ⟨w, S, ρ1, ds, ρ', s, re1, h3, by simpa using l, e, fun σ2 re2 wp2 => k σ2 re2 (by simpa only [slotss] using wp1.trans wp2)⟩
theorem G_tp {es : List Expr} {k : Nat} {ts : List Tg} (hc : X.calm = true) (h : PGs X es (gTs X.K ts)) (hn : (assignEach es X.env).length = ts.length := by rfl) (hst : (assignEach es X.env).findIdx? (·.1) = none := by rfl) :
    PG X (.Tuple es k pos) (gT X.K (.tp ts)) :=
  PG.weak (pg_tup hc h hn hst) fun v σ H Q h => by
    obtain ⟨w, S, ρ, d, ρ', s, re, rd, e, k⟩ := h
    simp only [Tg.asg] at e
    split at e
    · rename_i ds hd
      split at e
      · rename_i hl
        obtain ⟨a, xs, h1, h2, h3⟩ := tupOf_sq rd hd
        exact ⟨a, xs, h1, h2, by rw [← h3.length]; exact hl, w, S, ρ, ds, ρ', s, re, h3, hl, e, fun σ' r' wp => k σ' r' (by simpa only [Tg.slots] using wp)⟩
      · cases e
    · cases e
theorem G_ls {es : List Expr} {k : Nat} {ts : List Tg} (hc : X.calm = true) (h : PGs X es (gTs X.K ts)) (hn : (assignEach es X.env).length = ts.length := by rfl) (hst : (assignEach es X.env).findIdx? (·.1) = none := by rfl) :
    PG X (.Tuple es k pos) (gT X.K (.ls ts)) :=
  PG.weak (pg_lst hc h hn hst) fun v σ H Q h => by
    obtain ⟨w, S, ρ, d, ρ', s, re, rd, e, k⟩ := h
    simp only [Tg.asg] at e
    split at e
    · rename_i ds hd
      split at e
      · rename_i hl
        obtain ⟨a, xs, h1, h2, h3⟩ := lstOf_sq s rd hd
        exact ⟨a, xs, h1, h2, by rw [← h3.length]; exact hl, w, S, ρ, ds, ρ', s, re, h3, hl, e, fun σ' r' wp => k σ' r' (by simpa only [Tg.slots] using wp)⟩
      · cases e
    · cases e
end

/-! ### statements -/
def sSeq (f g : SF) : SF := fun ρ S => match f ρ S with
  | .nx ρ1 S1 => g ρ1 S1
  | o => o
def sNext : SF := fun ρ S => .nx ρ S
def sSet (i : Nat) (fe : EF) : SF := fun ρ S => sB (fe ρ S) ρ fun d S1 => .nx (ρ.set i (some d)) S1
def sAsg (t : Tg) (fe : EF) : SF := fun ρ S => sB (fe ρ S) ρ fun d S1 => match t.asg d ρ S1 with
  | some ρ1 => .nx ρ1 S1
  | none => .no
def sExpr (fe : EF) : SF := fun ρ S => sB (fe ρ S) ρ fun _ S1 => .nx ρ S1
def sRet (fe : EF) : SF := fun ρ S => sB (fe ρ S) ρ fun d S1 => .rt d S1
def sRetN : SF := fun _ S => .rt .non S
def sIf (t : BF) (f g : SF) : SF := fun ρ S => sB (t ρ S) ρ fun c S1 => if c = true then f ρ S1 else g ρ S1
def sBrk : SF := fun ρ S => .bk ρ S
def sCnt : SF := fun ρ S => .ct ρ S
def sNo : SF := fun _ _ => .no
section
variable {X : Cx} {W : WX} {pos pos' : Pos} {st : Stmt} {rest : List Stmt} {e : Expr} {f g : SF} {fe : EF} {t : BF}
theorem S_nil : PSs X [] (tS X.K W sNext) := PSs.weak pss_nil fun D σ H h => let ⟨w, S, ρ, s, re, p⟩ := h; p w H σ .refl s re
theorem S_cons (h1 : PS X st (tS X.K W f)) (h2 : PSs X rest (tS X.K W g)) : PSs X (st :: rest) (tS X.K W (sSeq f g)) :=
  PSs.weak (pss_cons h1 h2) fun D σ H h => by
    obtain ⟨w, S, ρ, s, re, p⟩ := h
    refine ⟨w, S, ρ, s, re, ?_⟩
    unfold sSeq at p
    cases hf : f ρ S with
    | nx ρ1 S1 =>
      rw [hf] at p
      exact fun w1 H1 σ1 e1 s1 r1 => ⟨w1, S1, ρ1, s1, r1, PostS.shift e1 p⟩
    | _ => rw [hf] at p; exact p
theorem S_one (h1 : PS X st (tS X.K W f)) : PSs X [st] (tS X.K W f) := pss_one h1
theorem S_never : PS X st (tS X.K W sNo) := PS.weak ps_never fun D σ H h => let ⟨w, S, ρ, s, re, p⟩ := h; p.elim
theorem S_pass : PS X (.Pass pos) (tS X.K W sNext) := PS.weak ps_pass fun D σ H h => let ⟨w, S, ρ, s, re, p⟩ := h; p w H σ .refl s re
theorem S_brk : PS X (.Break pos) (tS X.K W sBrk) := PS.weak ps_break fun D σ H h => let ⟨w, S, ρ, s, re, p⟩ := h; p w H σ .refl s re
theorem S_cnt : PS X (.Continue pos) (tS X.K W sCnt) := PS.weak ps_continue fun D σ H h => let ⟨w, S, ρ, s, re, p⟩ := h; p w H σ .refl s re
theorem S_doc {x j} : PS X (.Expr (.Constant (.str x) j pos) pos') (tS X.K W sNext) := PS.weak ps_doc fun D σ H h => let ⟨w, S, ρ, s, re, p⟩ := h; p w H σ .refl s re
theorem S_expr (he : PE X e (tE X.K W fe)) (hs : swapsWith e none pos.line X.env = pure false := by rfl) : PS X (.Expr e pos) (tS X.K W (sExpr fe)) :=
  PS.weak (ps_expr he hs) fun D σ H h => by
    obtain ⟨w, S, ρ, s, re, p⟩ := h
    exact ⟨w, S, ρ, s, re, PostS.bind p re fun w1 H1 v d S1 e1 s1 rd p1 => p1 w1 H1 σ .refl s1 (re.mono e1)⟩
theorem S_ret (he : PE X e (tE X.K W fe)) : PS X (.Return (some e) pos) (tS X.K W (sRet fe)) :=
  PS.weak (ps_ret he) fun D σ H h => by
    obtain ⟨w, S, ρ, s, re, p⟩ := h
    exact ⟨w, S, ρ, s, re, PostS.bind p re fun w1 H1 v d S1 e1 s1 rd p1 => p1 w1 H1 v .refl s1 rd⟩
theorem S_retN : PS X (.Return none pos) (tS X.K W sRetN) := PS.weak ps_retN fun D σ H h => let ⟨w, S, ρ, s, re, p⟩ := h; p w H _ .refl s (by simp only [RV])
theorem S_set (i : Nat) {x : Str} (hN : X.N.Nodup) (he : PE X e (tE X.K W fe)) (hi : X.N[i]? = some x := by rfl) (hx : Loc X.env.scope x := by first | exact Or.inl rfl | exact Or.inr rfl) (hs : swapsWith e (some (.Name x pos')) pos.line X.env = pure false := by rfl)
    (hf : X.fn x = true ∨ X.env.scope.names.lookup x = some .local := by first | exact .inl rfl | exact .inr rfl | assumption) : PS X (.Assign [.Name x pos'] e pos) (tS X.K W (sSet i fe)) :=
  PS.weak (ps_set hN hi hx he hs hf) fun D σ H h => by
    obtain ⟨w, S, ρ, s, re, p⟩ := h
    exact ⟨w, S, ρ, s, re, PostS.bind p re fun w1 H1 v d S1 e1 s1 rd p1 => p1 w1 H1 _ .refl s1 ((re.mono e1).set rd)⟩
theorem S_asg {tg : Expr} {tt : Tg} (he : PE X e (tE X.K W fe)) (hg : PG X tg (gT X.K tt)) (hs : swapsWithSole [tg] e pos.line X.env = pure false := by rfl) (hw : swappedStores [tg] e X.env = pure none := by rfl)
    (h1 : (assignEach [tg] X.env).map (·.2) = [assign tg X.env] := by rfl) : PS X (.Assign [tg] e pos) (tS X.K W (sAsg tt fe)) :=
  PS.weak (ps_asg he hg hs hw h1) fun D σ H h => by
    obtain ⟨w, S, ρ, s, re, p⟩ := h
    refine ⟨w, S, ρ, s, re, PostS.bind p re fun w1 H1 v d S1 e1 s1 rd p1 => ?_⟩
    cases ha : tt.asg d ρ S1 with
    | none => rw [ha] at p1; exact p1.elim
    | some ρ1 =>
      rw [ha] at p1
      exact ⟨w1, S1, ρ, d, ρ1, s1, re.mono e1, rd, ha, fun σ' r' _ => p1 w1 H1 σ' .refl s1 r'⟩
theorem S_if {c : Expr} {a b : List Stmt} (hc : PT X c (tT X.K W t)) (ha : PSs X a (tS X.K W f)) (hb : PSs X b (tS X.K W g)) : PS X (.If c a b pos) (tS X.K W (sIf t f g)) :=
  PS.weak (ps_if hc ha hb) fun D σ H h => by
    obtain ⟨w, S, ρ, s, re, p⟩ := h
    refine ⟨w, S, ρ, s, re, PostS.bind p re fun w1 H1 v d S1 e1 s1 rd p1 => ?_⟩
    cases rd
    split
    · rename_i hx; rw [if_pos hx] at p1; exact ⟨w1, S1, ρ, s1, re.mono e1, p1⟩
    · rename_i hx; rw [if_neg hx] at p1; exact ⟨w1, S1, ρ, s1, re.mono e1, p1⟩
end
end Ev

namespace Ev
open PySem PySem.Spec PyProof.Rows L2

/-! ### what is walked -/
structure Wk where
  ds : List D
  at_ : Option (Nat × Cel)
def Wk.ok (k : Wk) (S : Sto) : Prop := match k.at_ with
  | none => True
  | some p => S[p.1]? = some p.2
def Walks (K : PySem.W.Frag) (w0 : Wo) (H0 : Hp) (k : Wk) (J : It) : Prop :=
  ∀ w H S, Ext w0 H0 w H → Sim K w S H → k.ok S →
    (∀ (i : Nat) (d : D), k.ds[i]? = some d → J.go i H ∧ ∀ x H', J.yld i H x H' → Ext w H w H' ∧ Sim K w S H' ∧ RV K w H' d x) ∧ J.stop k.ds.length H
abbrev IF := En → Sto → R Wk
def tI (K : PySem.W.Frag) (W : WX) (f : IF) : TI := tG K (Walks K) W f
section
variable {X : Cx} {W : WX} {tg iter : Expr}
theorem PI.weak {t t' : TI} (h : PI X tg iter t) (k : ∀ σ H R, t' σ H R → t σ H R) : PI X tg iter t' := ⟨fun pins s σ H R I q => h.run pins s σ H R I (k σ H R q)⟩
end
def iTupD (fe : EF) : IF := fun ρ S => (fe ρ S).bind fun d S1 => match tupOf d with
  | some ds => .ok ⟨ds, none⟩ S1
  | none => .no
def iLstD (fe : EF) : IF := fun ρ S => (fe ρ S).bind fun d S1 => match d with
  | .lst ds => .ok ⟨ds, none⟩ S1
  | .frz ds => .ok ⟨ds, none⟩ S1
  | .loc n => match S1[n]? with
    | some (.lst ds) => .ok ⟨ds, some (n, .lst ds)⟩ S1
    | _ => .no
  | _ => .no
def rngD (lo : Int) (n : Nat) : List D := (List.range n).map fun (i : Nat) => D.int (lo + i)
def big62 (i : Int) : Bool := decide (-(2 ^ 62) ≤ i ∧ i < 2 ^ 62)
def iRng1D (fa : AF) : IF := fun ρ S => (fa ρ S).bind fun ds S1 => match ds with
  | [.int j] => if big62 j then .ok ⟨rngD 0 j.toNat, none⟩ S1 else .no
  | _ => .no
def iRng2D (fa : AF) : IF := fun ρ S => (fa ρ S).bind fun ds S1 => match ds with
  | [.int i, .int j] => if big62 i && big62 j then .ok ⟨rngD i (j - i).toNat, none⟩ S1 else .no
  | _ => .no
theorem rngD_get {lo : Int} {n i : Nat} {d : D} (h : (rngD lo n)[i]? = some d) : i < n ∧ d = .int (lo + i) := by
  unfold rngD at h
  rw [List.getElem?_map] at h
  by_cases hi : i < n
  · rw [List.getElem?_range hi] at h
    exact ⟨hi, (Option.some.inj h).symm⟩
  · rw [List.getElem?_eq_none (by simpa using hi)] at h; cases h
@[simp] theorem rngD_length (lo : Int) (n : Nat) : (rngD lo n).length = n := by simp [rngD]
section
variable {K : PySem.W.Frag} {w : Wo} {H : Hp} {a : Addr} {ds : List D} {xs : List V}
theorem SqT.ext {w' : Wo} {H' : Hp} {S : Sto} (s : Sim K w S H) (e : Ext w H w' H') (h : SqT K H a xs) : SqT K H' a xs := by
  have hm : ∀ o, H a = some (.frz o (.tup xs)) → a ∉ w.m := fun o ho z => by
    obtain ⟨o', e', _⟩ := s.has z
    obtain ⟨i, hi, ei⟩ := List.getElem_of_mem z
    have hi' : i < S.length := by rw [← s.len]; exact hi
    obtain ⟨b, hb, hc⟩ := s.at_ i S[i] (List.getElem?_eq_getElem hi')
    rw [List.getElem?_eq_getElem hi, ei] at hb
    cases hb
    generalize S[i] = c at hc
    cases c with
    | lst _ => obtain ⟨_, q, _⟩ := hc; rw [ho] at q; cases q
    | dK _ => obtain ⟨_, q, _⟩ := hc; rw [ho] at q; cases q
    | dT _ => obtain ⟨_, q, _⟩ := hc; rw [ho] at q; cases q
    | fT _ => obtain ⟨_, _, q, _⟩ := hc; rw [ho] at q; cases q
    | ins _ _ => obtain ⟨_, _, _, _, q, _⟩ := hc; rw [ho] at q; cases q
  rcases h with (h | ⟨o, h⟩) | h
  · exact .inl (.inl (e.tup _ _ h))
  · exact .inl (.inr ⟨o, e.keep _ _ h (hm o h)⟩)
  · exact .inr h
theorem walks_tup {S0 : Sto} (s0 : Sim K w S0 H) (h : SqT K H a xs) (r : RVs K w H ds xs) : Walks K w H ⟨ds, none⟩ (Itt K a) := fun w1 H1 S e s _ => by
  have h1 := SqT.ext s0 e h
  have r1 := r.mono e
  refine ⟨fun i d hd => ?_, ⟨xs, h1, by rw [r.length]; exact Nat.le_refl _⟩⟩
  obtain ⟨v, hv, rv⟩ := r1.get hd
  refine ⟨⟨xs, v, h1, hv⟩, fun x H' hy => ?_⟩
  obtain ⟨rfl, hy⟩ := hy
  have : x = v := Option.some.inj ((hy xs h1).symm.trans hv)
  subst this
  exact ⟨.refl, s, rv⟩
theorem walks_lst (hm : (∃ o, H a = some o) ∧ a ∉ w.m) (h : Rd H a (.lst xs)) (r : RVs K w H ds xs) : Walks K w H ⟨ds, none⟩ (Itl K a) := fun w1 H1 S e s _ => by
  have h1 : SqL K H1 a xs := .inl (e.rd h hm.2)
  have r1 := r.mono e
  refine ⟨fun i d hd => ?_, ⟨xs, h1, by rw [r.length]; exact Nat.le_refl _⟩⟩
  obtain ⟨v, hv, rv⟩ := r1.get hd
  refine ⟨⟨xs, v, h1, hv⟩, fun x H' hy => ?_⟩
  obtain ⟨rfl, hy⟩ := hy
  have : x = v := Option.some.inj ((hy xs h1).symm.trans hv)
  subst this
  exact ⟨.refl, s, rv⟩
theorem walks_frz (h : Frz K w H a xs) (r : RVs K w H ds xs) : Walks K w H ⟨ds, none⟩ (Itl K a) := fun w1 H1 S e s _ => by
  have h1 : SqL K H1 a xs := (h.mono e).sq
  have r1 := r.mono e
  refine ⟨fun i d hd => ?_, ⟨xs, h1, by rw [r.length]; exact Nat.le_refl _⟩⟩
  obtain ⟨v, hv, rv⟩ := r1.get hd
  refine ⟨⟨xs, v, h1, hv⟩, fun x H' hy => ?_⟩
  obtain ⟨rfl, hy⟩ := hy
  have : x = v := Option.some.inj ((hy xs h1).symm.trans hv)
  subst this
  exact ⟨.refl, s, rv⟩
theorem walks_loc {n : Nat} (hn : w.m[n]? = some a) : Walks K w H ⟨ds, some (n, .lst ds)⟩ (Itl K a) := fun w1 H1 S e s ok => by
  have ok : S[n]? = some (.lst ds) := ok
  obtain ⟨b, hb, xs, hx, r1⟩ := s.at_ n _ ok
  obtain ⟨t, ht⟩ := e.pre
  rw [← ht, List.getElem?_append_left (List.getElem?_eq_some_iff.mp hn).1, hn] at hb
  cases hb
  have h1 : SqL K H1 a xs := SqL.of hx
  refine ⟨fun i d hd => ?_, ⟨xs, h1, by rw [r1.length]; exact Nat.le_refl _⟩⟩
  obtain ⟨v, hv, rv⟩ := r1.get hd
  refine ⟨⟨xs, v, h1, hv⟩, fun x H' hy => ?_⟩
  obtain ⟨rfl, hy⟩ := hy
  have : x = v := Option.some.inj ((hy xs h1).symm.trans hv)
  subst this
  exact ⟨.refl, s, rv⟩
theorem walks_rng {lo : Int} {n : Nat} : Walks K w H ⟨rngD lo n, none⟩ (Itr lo n) := fun w1 H1 S e s _ => by
  refine ⟨fun i d hd => ?_, by rw [rngD_length]; exact Nat.le_refl _⟩
  obtain ⟨h1, h2⟩ := rngD_get hd
  refine ⟨h1, fun x H' hy => ?_⟩
  obtain ⟨rfl, rfl⟩ := hy
  subst h2
  exact ⟨.refl, s, by simp only [RV]⟩
end
section
variable {X : Cx} {W : WX} {tg e : Expr} {fe : EF} {fa : AF} {p pos : Pos}
theorem I_tup (he : PE X e (tE X.K W fe)) : PI X tg e (tI X.K W (iTupD fe)) :=
  PI.weak (pi_tup he) fun σ H R h => by
    obtain ⟨w, S, ρ, s, re, p⟩ := h
    refine ⟨w, S, ρ, s, re, p.bind fun w1 H1 v d S1 e1 s1 rd p1 => ?_⟩
    cases hd : tupOf d with
    | none => rw [hd] at p1; exact p1.elim
    | some ds =>
      rw [hd] at p1
      obtain ⟨a, xs, h1, h2, h3⟩ := tupOf_sq rd hd
      exact ⟨a, h1, ⟨xs, h2⟩, p1 w1 H1 _ .refl s1 (walks_tup s1 h2 h3)⟩
theorem I_lst (he : PE X e (tE X.K W fe)) : PI X tg e (tI X.K W (iLstD fe)) :=
  PI.weak (pi_list he) fun σ H R h => by
    obtain ⟨w, S, ρ, s, re, p⟩ := h
    refine ⟨w, S, ρ, s, re, p.bind fun w1 H1 v d S1 e1 s1 rd p1 => ?_⟩
    cases d with
    | lst ds =>
      simp only [RV] at rd
      obtain ⟨a, xs, h1, h2, h4, h3⟩ := rd
      exact ⟨a, h1, ⟨xs, SqL.of h2⟩, p1 w1 H1 _ .refl s1 (walks_lst ⟨⟨_, h2⟩, h4.1⟩ (.inl h2) h3)⟩
    | frz ds =>
      simp only [RV] at rd
      obtain ⟨a, xs, h1, h2, h3⟩ := rd
      exact ⟨a, h1, ⟨xs, h2.sq⟩, p1 w1 H1 _ .refl s1 (walks_frz h2 h3)⟩
    | loc n =>
      dsimp only at p1
      split at p1
      · rename_i ds hd
        obtain ⟨a, h1, h2, xs, h3, h4⟩ := s1.get hd rd
        exact ⟨a, h1, ⟨xs, SqL.of h3⟩, p1 w1 H1 _ .refl s1 (walks_loc h2)⟩
      · exact p1.elim
    | _ => exact p1.elim
theorem big62_iff {i : Int} (h : big62 i = true) : -(2 ^ 62) ≤ i ∧ i < 2 ^ 62 := of_decide_eq_true h
theorem RVs.one {K : PySem.W.Frag} {w : Wo} {H : Hp} {d : D} {vs : List V} (r : RVs K w H [d] vs) : ∃ v, vs = [v] ∧ RV K w H d v := by
  simp only [RVs] at r
  obtain ⟨v, t, h1, h2, h3⟩ := r
  subst h3 h1
  exact ⟨v, rfl, h2⟩
theorem RVs.two {K : PySem.W.Frag} {w : Wo} {H : Hp} {d e : D} {vs : List V} (r : RVs K w H [d, e] vs) : ∃ v u, vs = [v, u] ∧ RV K w H d v ∧ RV K w H e u := by
  simp only [RVs] at r
  obtain ⟨v, t, h1, h2, u, t2, h3, h4, h5⟩ := r
  subst h5 h3 h1
  exact ⟨v, u, rfl, h2, h4⟩
theorem I_rng1 {a : Expr} (hm : X.mg "range" = none) (ha : PA X [a] (tA X.K W fa)) (hg : Gl X "range" := by rfl) (hs : starEach [a] X.env = [(false, eval a X.env)] := by rfl) :
    PI X tg (.Call (.Name "range" p) [a] [] pos) (tI X.K W (iRng1D fa)) :=
  PI.weak (pi_range1 hg hm ha hs) fun σ H R h => by
    obtain ⟨w, S, ρ, s, re, p⟩ := h
    refine ⟨w, S, ρ, s, re, p.bind fun w1 H1 vs ds S1 e1 s1 rd p1 => ?_⟩
    split at p1
    · rename_i j
      split at p1
      · rename_i hb
        obtain ⟨v, rfl, rv⟩ := rd.one
        simp only [RV] at rv
        subst rv
        have hb := big62_iff hb
        exact ⟨j, rfl, hb.1, hb.2, p1 w1 H1 _ .refl s1 walks_rng⟩
      · exact p1.elim
    · exact p1.elim
theorem I_rng2 {a b : Expr} (hm : X.mg "range" = none) (ha : PA X [a, b] (tA X.K W fa)) (hg : Gl X "range" := by rfl) (hs : starEach [a, b] X.env = [(false, eval a X.env), (false, eval b X.env)] := by rfl) (hs2 : starEach [b] X.env = [(false, eval b X.env)] := by rfl) :
    PI X tg (.Call (.Name "range" p) [a, b] [] pos) (tI X.K W (iRng2D fa)) :=
  PI.weak (pi_range2 hg hm ha hs hs2) fun σ H R h => by
    obtain ⟨w, S, ρ, s, re, p⟩ := h
    refine ⟨w, S, ρ, s, re, p.bind fun w1 H1 vs ds S1 e1 s1 rd p1 => ?_⟩
    split at p1
    · rename_i i j
      split at p1
      · rename_i hb
        obtain ⟨v, u, rfl, rv, ru⟩ := rd.two
        simp only [RV] at rv ru
        subst rv ru
        simp only [Bool.and_eq_true] at hb
        have hb1 := big62_iff hb.1
        have hb2 := big62_iff hb.2
        exact ⟨i, j, rfl, ⟨hb1.1, hb1.2, hb2.1, hb2.2⟩, p1 w1 H1 _ .refl s1 walks_rng⟩
      · exact p1.elim
    · exact p1.elim
end

/-! ### for -/
open Classical in
noncomputable def Wk.guard {α : Type} (k : Wk) (S : Sto) (no : α) (o : α) : α := if k.ok S then o else no
theorem Wk.guard_none {α : Type} (ds : List D) (S : Sto) (no o : α) : (Wk.mk ds none).guard S no o = o := by
  unfold Wk.guard
  exact if_pos True.intro
theorem Wk.guard_some {α : Type} {ds : List D} {n : Nat} {S : Sto} (no o : α) (h : S[n]? = some (.lst ds)) : (Wk.mk ds (some (n, .lst ds))).guard S no o = o := by
  unfold Wk.guard
  exact if_pos h
noncomputable def forGo (k : Wk) (tg : Tg) (b : SF) : List D → En → Sto → O
  | [], ρ, S => k.guard S .no (.nx ρ S)
  | d :: ds, ρ, S => k.guard S .no (match tg.asg d ρ S with
    | some ρ1 => match b ρ1 S with
      | .nx ρ2 S2 => forGo k tg b ds ρ2 S2
      | .ct ρ2 S2 => forGo k tg b ds ρ2 S2
      | .bk ρ2 S2 => .nx ρ2 S2
      | .rt d S2 => .rt d S2
      | .ex e ρ2 S2 => .ex e ρ2 S2
      | .no => .no
    | none => .no)
noncomputable def sFor (fi : IF) (tg : Tg) (b : SF) : SF := fun ρ S => sB (fi ρ S) ρ fun k S1 => forGo k tg b k.ds ρ S1
section
variable {X : Cx} {W : WX} {pos : Pos} {tg iter : Expr} {body : List Stmt} {fi : IF} {t : Tg} {b : SF}
theorem guardS {K : PySem.W.Frag} {w : Wo} {H : Hp} {k : Wk} {S : Sto} {o : O} {D : Ends} (h : PostS K W w H (k.guard S .no o) D) : k.ok S ∧ PostS K W w H o D := by
  unfold Wk.guard at h
  split at h
  · rename_i hk; exact ⟨hk, h⟩
  · exact h.elim
theorem S_for (hp : PassesOwn (model X.prog X.w) X.A X.env X.xe) (hc : X.calm = true) (hi : PI X tg iter (tI X.K W fi)) (hg : PG X tg (gT X.K t)) (hb : PSs X body (tS X.K W b))
    (hs : ∀ x, foldedSetIterable iter X.env x = pure x := by intro _; rfl) : PS X (.For tg iter body [] pos) (tS X.K W (sFor fi t b)) :=
  PS.weak (ps_for hp hc hi hg hb hs) fun D σ H h => by
    obtain ⟨w, S, ρ, s, re, p⟩ := h
    refine ⟨w, S, ρ, s, re, PostS.bind p re fun w0 H0 J k S0 e0 s0 wk p0 => ?_⟩
    refine ⟨fun i m σ H => ∃ w S ρ, m = k.ds.length - i ∧ i ≤ k.ds.length ∧ Ext w0 H0 w H ∧ Sim X.K w S H ∧ REnv X.K w H ρ σ ∧ PostS X.K W w H (forGo k t b (k.ds.drop i) ρ S) D, ⟨_, w0, S0, ρ, rfl, Nat.zero_le _, .refl, s0, re.mono e0, by simpa using p0⟩, ?_⟩
    rintro i m σ1 H1 ⟨w1, S1, ρ1, rfl, hi, e1, s1, r1, p1⟩
    rcases Nat.lt_or_ge i k.ds.length with hlt | hge
    · rw [List.drop_eq_getElem_cons hlt] at p1
      unfold forGo at p1
      obtain ⟨ok, p1⟩ := guardS p1
      obtain ⟨g1, _⟩ := wk w1 H1 S1 e1 s1 ok
      obtain ⟨g1, g2⟩ := g1 i _ (List.getElem?_eq_getElem hlt)
      refine .inr ⟨g1, fun σ2 H2 => ∃ w2 S2 ρ2, Ext w0 H0 w2 H2 ∧ Sim X.K w2 S2 H2 ∧ REnv X.K w2 H2 ρ2 σ2 ∧ PostS X.K W w2 H2 (forGo k t b (k.ds.drop (i + 1)) ρ2 S2) D, ?_, fun x H2 hy => ?_⟩
      · rintro σ2 H2 ⟨w2, S2, ρ2, e2, s2, r2, p2⟩
        exact ⟨k.ds.length - (i + 1), by omega, w2, S2, ρ2, rfl, hlt, e2, s2, r2, p2⟩
      · obtain ⟨e2, s2, rx⟩ := g2 x H2 hy
        cases ha : t.asg k.ds[i] ρ1 S1 with
        | none => rw [ha] at p1; exact p1.elim
        | some ρ2 =>
          rw [ha] at p1
          dsimp only at p1
          refine ⟨w1, S1, ρ1, k.ds[i], ρ2, s2, r1.mono e2, rx, ha, fun σ2 r2 _ => ⟨w1, S1, ρ2, s2, r2, ?_⟩⟩
          have p1 := PostS.shift e2 p1
          cases hb : b ρ2 S1 with
          | nx ρ3 S3 => rw [hb] at p1; exact fun w3 H3 σ3 e3 s3 r3 => ⟨w3, S3, ρ3, e1.trans (e2.trans e3), s3, r3, PostS.shift e3 p1⟩
          | ct ρ3 S3 => rw [hb] at p1; exact fun w3 H3 σ3 e3 s3 r3 => ⟨w3, S3, ρ3, e1.trans (e2.trans e3), s3, r3, PostS.shift e3 p1⟩
          | bk ρ3 S3 => rw [hb] at p1; exact p1
          | rt d S3 => rw [hb] at p1; exact p1
          | ex x ρ3 S3 => rw [hb] at p1; exact p1
          | no => rw [hb] at p1; exact p1
    · have hi' : i = k.ds.length := Nat.le_antisymm hi hge
      subst hi'
      rw [List.drop_length] at p1
      unfold forGo at p1
      obtain ⟨ok, p1⟩ := guardS p1
      obtain ⟨_, g2⟩ := wk w1 H1 S1 e1 s1 ok
      exact .inl ⟨g2, p1 w1 H1 σ1 .refl s1 r1⟩
end

/-! ### while -/
def whGo (t : BF) (b : SF) : Nat → En → Sto → O
  | 0, _, _ => .no
  | n + 1, ρ, S => sB (t ρ S) ρ fun c S1 => if c = true then (match b ρ S1 with
      | .nx ρ2 S2 => whGo t b n ρ2 S2
      | .ct ρ2 S2 => whGo t b n ρ2 S2
      | .bk ρ2 S2 => .nx ρ2 S2
      | .rt d S2 => .rt d S2
      | .ex e ρ2 S2 => .ex e ρ2 S2
      | .no => .no) else .nx ρ S1
def sWhile (n : Nat) (t : BF) (b : SF) : SF := fun ρ S => whGo t b n ρ S
section
variable {X : Cx} {W : WX} {pos : Pos} {c : Expr} {body : List Stmt} {t : BF} {b : SF}
theorem S_while (n : Nat) (hp : PassesOwn (model X.prog X.w) X.A X.env X.xe) (hc : PT X c (tT X.K W t)) (hb : PSs X body (tS X.K W b)) : PS X (.While c body [] pos) (tS X.K W (sWhile n t b)) :=
  PS.weak (ps_while hp hc hb) fun D σ H h => by
    obtain ⟨w, S, ρ, s, re, p⟩ := h
    refine ⟨fun m σ H => ∃ w S ρ, Sim X.K w S H ∧ REnv X.K w H ρ σ ∧ PostS X.K W w H (whGo t b m ρ S) D, ⟨n, w, S, ρ, s, re, p⟩, ?_⟩
    rintro m σ1 H1 ⟨w1, S1, ρ1, s1, r1, p1⟩
    cases m with
    | zero => exact p1.elim
    | succ m =>
      unfold whGo at p1
      refine ⟨w1, S1, ρ1, s1, r1, PostS.bind p1 r1 fun w2 H2 v c S2 e2 s2 rc p2 => ?_⟩
      cases rc
      split
      · rename_i hx
        rw [if_pos hx] at p2
        refine ⟨fun σ3 H3 => ∃ w S ρ, Sim X.K w S H3 ∧ REnv X.K w H3 ρ σ3 ∧ PostS X.K W w H3 (whGo t b m ρ S) D, fun σ3 H3 q => ⟨m, Nat.lt_succ_self _, q⟩, w2, S2, ρ1, s2, r1.mono e2, ?_⟩
        cases hb : b ρ1 S2 with
        | nx ρ3 S3 => rw [hb] at p2; exact fun w3 H3 σ3 e3 s3 r3 => ⟨w3, S3, ρ3, s3, r3, PostS.shift e3 p2⟩
        | ct ρ3 S3 => rw [hb] at p2; exact fun w3 H3 σ3 e3 s3 r3 => ⟨w3, S3, ρ3, s3, r3, PostS.shift e3 p2⟩
        | bk ρ3 S3 => rw [hb] at p2; exact p2
        | rt d S3 => rw [hb] at p2; exact p2
        | ex x ρ3 S3 => rw [hb] at p2; exact p2
        | no => rw [hb] at p2; exact p2
      · rename_i hx
        rw [if_neg hx] at p2
        exact p2 w2 H2 σ1 .refl s2 (r1.mono e2)
end
end Ev

namespace Ev
open PySem PySem.Spec PyProof.Rows L2

def R.nox {α : Type} (r : R α) : R α := match r with
  | .ok a S => .ok a S
  | _ => .no
@[simp] theorem R.nox_ok {α : Type} (a : α) (S : Sto) : (R.ok a S).nox = .ok a S := rfl
@[simp] theorem R.nox_no {α : Type} : (R.no : R α).nox = .no := rfl
abbrev WF : WX := fun _ _ _ _ => False
def bYes : BF := fun _ S => .ok true S
noncomputable def lcGo (k : Wk) (tg : Tg) (tt : BF) (te : EF) (ρ0 : En) : List D → Sto → R (List D)
  | [], S => k.guard S .no (.ok [] S)
  | d :: ds, S => k.guard S .no (match tg.asg d ρ0 S with
    | some ρ1 => (tt ρ1 S).nox.bind fun b S1 => if b = true then (te ρ1 S1).nox.bind fun y S2 => (lcGo k tg tt te ρ0 ds S2).bind fun r S3 => .ok (y :: r) S3 else lcGo k tg tt te ρ0 ds S1
    | none => .no)
noncomputable def eLc (fi : IF) (tg : Tg) (tt : BF) (te : EF) (vs : List Nat) : EF := fun ρ S => (fi ρ S).bind fun k S1 => (lcGo k tg tt te (wipeD ρ vs) k.ds S1).bind fun ys S2 => if ys.length ≤ sizeLine then .ok (.lst ys) S2 else .no
noncomputable def eLcA (fi : IF) (tg : Tg) (tt : BF) (te : EF) (vs : List Nat) : EF := fun ρ S => (fi ρ S).bind fun k S1 => (lcGo k tg tt te (wipeD ρ vs) k.ds S1).bind fun ys S2 => if ys.length ≤ sizeLine then .ok (.loc S2.length) (S2 ++ [.lst ys]) else .no

section
variable {K : PySem.W.Frag} {w w' : Wo} {S : Sto} {H H' : Hp} {ρ : En} {σ : St} {p : Addr}
/-- a private place -/
def Wo.pr (w : Wo) (p : Addr) : Wo := ⟨w.m, p :: w.q⟩
theorem Ext.pr {o : HO} (hp : H p = none) : Ext w H (w.pr p) (upd H p o) :=
  ⟨List.prefix_refl _, fun _ h => List.mem_cons_of_mem _ h, fun a h => by
    rcases List.mem_cons.mp h with z | z
    · exact .inr (z ▸ hp)
    · exact .inl z, fun _ h => .inl h, fun a xs h => by rw [upd_ne (ne_of_none h hp)]; exact h, fun a o h _ => by rw [upd_ne (ne_of_none h hp)]; exact h, fun a o h => ⟨o, by rw [upd_ne (ne_of_none h hp)]; exact h⟩, fun a od u h => by rw [upd_ne (ne_of_none h hp)]; exact h⟩
theorem Sim.pr {o : HO} (s : Sim K w S H) (hp : H p = none) : Sim K (w.pr p) S (upd H p o) := by
  refine ⟨s.len, s.nd, fun i c e => ?_, fun a ha => ?_⟩
  · obtain ⟨a, h1, h2⟩ := s.at_ i c e
    exact ⟨a, h1, h2.mono (Ext.pr hp) fun o q => by rw [upd_ne (ne_of_none q hp)]; exact q⟩
  · rcases List.mem_cons.mp ha with z | z
    · subst z
      refine ⟨fun hm => ?_, o, upd_same⟩
      obtain ⟨o', e, _⟩ := s.has hm
      rw [hp] at e; cases e
    · obtain ⟨h1, o', h2⟩ := s.priv a z
      exact ⟨h1, o', by rw [upd_ne (ne_of_none h2 hp)]; exact h2⟩
mutual
theorem RV.upq {xs ys : List V} (hq : p ∈ w.q) (hp : H p = some (.lst xs)) : ∀ {d : D} {v : V}, RV K w H d v → RV K w (upd H p (.lst ys)) d v
  | .non, v, h => by simpa only [RV] using h
  | .bl b, v, h => by simpa only [RV] using h
  | .int i, v, h => by simpa only [RV] using h
  | .str x, v, h => by simpa only [RV] using h
  | .tup ds, v, h => by
    simp only [RV] at h ⊢
    obtain ⟨a, zs, h1, h2, h3⟩ := h
    exact ⟨a, zs, h1, by rw [upd_ne (ne_of h2 hp (fun z => nomatch z))]; exact h2, RVs.upq hq hp h3⟩
  | .con ds, v, h => by
    simp only [RV] at h ⊢
    obtain ⟨a, zs, h1, h2, h3⟩ := h
    exact ⟨a, zs, h1, h2, RVs.upq hq hp h3⟩
  | .lst ds, v, h => by
    simp only [RV] at h ⊢
    obtain ⟨a, zs, h1, h2, h3, h5⟩ := h
    have na : a ≠ p := fun z => h3.2 (by rw [z]; exact hq)
    exact ⟨a, zs, h1, by rw [upd_ne na]; exact h2, h3, RVs.upq hq hp h5⟩
  | .frz ds, v, h => by
    simp only [RV] at h ⊢
    obtain ⟨a, zs, h1, h2, h5⟩ := h
    refine ⟨a, zs, h1, ?_, RVs.upq hq hp h5⟩
    rcases h2 with ⟨o, h2, h3⟩ | h2
    · have na : a ≠ p := fun z => h3.2 (by rw [z]; exact hq)
      exact .inl ⟨o, by rw [upd_ne na]; exact h2, h3⟩
    · exact .inr h2
  | .loc n, v, h => by simpa only [RV] using h
theorem RVs.upq {xs ys : List V} (hq : p ∈ w.q) (hp : H p = some (.lst xs)) : ∀ {ds : List D} {vs : List V}, RVs K w H ds vs → RVs K w (upd H p (.lst ys)) ds vs
  | [], vs, h => by simpa only [RVs] using h
  | d :: ds, vs, h => by
    simp only [RVs] at h ⊢
    obtain ⟨v, r, h1, h2, h3⟩ := h
    exact ⟨v, r, h1, RV.upq hq hp h2, RVs.upq hq hp h3⟩
end
theorem RC.upq {xs ys : List V} {a : Addr} {c : Cel} (hq : p ∈ w.q) (hp : H p = some (.lst xs)) (ha : a ≠ p) (h : RC K w H a c) : RC K w (upd H p (.lst ys)) a c := by
  cases c with
  | lst ds => obtain ⟨xs, h1, h2⟩ := h; exact ⟨xs, by rw [upd_ne ha]; exact h1, h2.upq hq hp⟩
  | dK kvs => obtain ⟨vs, h1, h2, h3⟩ := h; exact ⟨vs, by rw [upd_ne ha]; exact h1, h2, h3.upq hq hp⟩
  | dT kvs => obtain ⟨vs, h1, h2, h3⟩ := h; exact ⟨vs, by rw [upd_ne ha]; exact h1, h2, h3.upq hq hp⟩
  | fT kvs => obtain ⟨od, vs, h1, h2, h3⟩ := h; exact ⟨od, vs, by rw [upd_ne ha]; exact h1, h2, h3.upq hq hp⟩
  | ins c fs => obtain ⟨C, dx, vs, h0, h1, h2, h3⟩ := h; exact ⟨C, dx, vs, h0, by rw [upd_ne ha]; exact h1, h2, h3.upq hq hp⟩
theorem Sim.upq {xs ys : List V} (s : Sim K w S H) (hq : p ∈ w.q) (hp : H p = some (.lst xs)) : Sim K w S (upd H p (.lst ys)) := by
  have np := (s.priv p hq).1
  refine ⟨s.len, s.nd, fun i c e => ?_, fun a ha => ?_⟩
  · obtain ⟨a, h1, h2⟩ := s.at_ i c e
    exact ⟨a, h1, h2.upq hq hp fun z => np (z ▸ List.mem_of_getElem? h1)⟩
  · obtain ⟨h1, o', h2⟩ := s.priv a ha
    by_cases z : a = p
    · exact ⟨h1, _, by rw [z, upd_same]⟩
    · exact ⟨h1, o', by rw [upd_ne z]; exact h2⟩
theorem REnv.upq {xs ys : List V} (hq : p ∈ w.q) (hp : H p = some (.lst xs)) (h : REnv K w H ρ σ) : REnv K w (upd H p (.lst ys)) ρ σ := ⟨h.1, fun i d q => let ⟨v, a, b⟩ := h.2 i d q; ⟨v, a, b.upq hq hp⟩⟩
theorem Ext.upq {xs ys : List V} {H0 : Hp} {w0 : Wo} (e : Ext w0 H0 w H) (h0 : H0 p = none) (hp : H p = some (.lst xs)) : Ext w0 H0 w (upd H p (.lst ys)) :=
  ⟨e.pre, e.q, e.newq, e.new, fun a zs h => by rw [upd_ne (ne_of_none h h0)]; exact e.tup a zs h, fun a o h hm => by rw [upd_ne (ne_of_none h h0)]; exact e.keep a o h hm, fun a o h => by rw [upd_ne (ne_of_none h h0)]; exact e.live a o h, fun a od u h => by rw [upd_ne (ne_of_none h h0)]; exact e.frz a od u h⟩
mutual
theorem RV.shrink {q : List Addr} (hq : ∀ a ∈ q, a ∈ w.q) : ∀ {d : D} {v : V}, RV K w H d v → RV K ⟨w.m, q⟩ H d v
  | .non, v, h => by simpa only [RV] using h
  | .bl b, v, h => by simpa only [RV] using h
  | .int i, v, h => by simpa only [RV] using h
  | .str x, v, h => by simpa only [RV] using h
  | .tup ds, v, h => by
    simp only [RV] at h ⊢
    obtain ⟨a, zs, h1, h2, h3⟩ := h
    exact ⟨a, zs, h1, h2, RVs.shrink hq h3⟩
  | .con ds, v, h => by
    simp only [RV] at h ⊢
    obtain ⟨a, zs, h1, h2, h3⟩ := h
    exact ⟨a, zs, h1, h2, RVs.shrink hq h3⟩
  | .lst ds, v, h => by
    simp only [RV] at h ⊢
    obtain ⟨a, zs, h1, h2, h3, h5⟩ := h
    exact ⟨a, zs, h1, h2, ⟨h3.1, fun z => h3.2 (hq a z)⟩, RVs.shrink hq h5⟩
  | .frz ds, v, h => by
    simp only [RV] at h ⊢
    obtain ⟨a, zs, h1, h2, h5⟩ := h
    refine ⟨a, zs, h1, ?_, RVs.shrink hq h5⟩
    rcases h2 with ⟨o, h2, h3⟩ | h2
    · exact .inl ⟨o, h2, h3.1, fun z => h3.2 (hq a z)⟩
    · exact .inr h2
  | .loc n, v, h => by simpa only [RV] using h
theorem RVs.shrink {q : List Addr} (hq : ∀ a ∈ q, a ∈ w.q) : ∀ {ds : List D} {vs : List V}, RVs K w H ds vs → RVs K ⟨w.m, q⟩ H ds vs
  | [], vs, h => by simpa only [RVs] using h
  | d :: ds, vs, h => by
    simp only [RVs] at h ⊢
    obtain ⟨v, r, h1, h2, h3⟩ := h
    exact ⟨v, r, h1, RV.shrink hq h2, RVs.shrink hq h3⟩
end
theorem Sim.shrink {q : List Addr} (s : Sim K w S H) (hq : ∀ a ∈ q, a ∈ w.q) : Sim K ⟨w.m, q⟩ S H := by
  refine ⟨s.len, s.nd, fun i c e => ?_, fun a ha => s.priv a (hq a ha)⟩
  obtain ⟨a, h1, h2⟩ := s.at_ i c e
  refine ⟨a, h1, ?_⟩
  cases c with
  | lst ds => obtain ⟨xs, h1, h2⟩ := h2; exact ⟨xs, h1, h2.shrink hq⟩
  | dK kvs => obtain ⟨vs, h1, h2, h3⟩ := h2; exact ⟨vs, h1, h2, h3.shrink hq⟩
  | dT kvs => obtain ⟨vs, h1, h2, h3⟩ := h2; exact ⟨vs, h1, h2, h3.shrink hq⟩
  | fT kvs => obtain ⟨od, vs, h1, h2, h3⟩ := h2; exact ⟨od, vs, h1, h2, h3.shrink hq⟩
  | ins c fs => obtain ⟨C, dx, vs, h0, h1, h2, h3⟩ := h2; exact ⟨C, dx, vs, h0, h1, h2, h3.shrink hq⟩
theorem Ext.shrink (e : Ext w H w' H') : Ext w H ⟨w'.m, w.q⟩ H' := ⟨e.pre, fun _ h => h, fun _ h => .inl h, e.new, e.tup, e.keep, e.live, e.frz⟩
theorem wipe_wipe (σ : St) (vs : List Nat) : wipe (wipe σ vs) vs = wipe σ vs := by
  have key : ∀ us : List Nat, (∀ i ∈ us, i ∈ vs) → wipe (wipe σ us) vs = wipe σ vs := by
    intro us
    induction us with
    | nil => intro _; rfl
    | cons u us ih =>
      intro h
      have e : wipe σ (u :: us) = (wipe σ us).set u none := rfl
      rw [e, wipe_set _ _ _ _ (h u List.mem_cons_self)]
      exact ih fun i hi => h i (List.mem_cons_of_mem _ hi)
  exact key vs fun _ h => h
end
theorem guardR {α β : Type} {K : PySem.W.Frag} {W : WX} {rel : Wo → Hp → β → α → Prop} {γ : Type} {w : Wo} {H : Hp} {σ : St} {k : Wk} {S : Sto} {r : R γ} {g : γ → Sto → R β} {Q : α → Hp → Prop}
    (h : PostG K rel W w H σ ((k.guard S .no r).bind g) Q) : k.ok S ∧ PostG K rel W w H σ (r.bind g) Q := by
  unfold Wk.guard at h
  split at h
  · rename_i hk; exact ⟨hk, h⟩
  · exact h.elim
theorem R.bind_assoc {α β γ : Type} (r : R α) (f : α → Sto → R β) (g : β → Sto → R γ) : (r.bind f).bind g = r.bind fun a S => (f a S).bind g := by cases r <;> rfl
/-- the reading of a comprehension, by the store's function; fin: what is made of the items -/
theorem lc_of {K : PySem.W.Frag} {W : WX} {fi : IF} {tg : Tg} {tt : BF} {te : EF} {vs : List Nat} {fin : List D → Sto → R D} {σ : St} {H : Hp} {Q : VK} (hv : ∀ i ∈ tg.slots, i ∈ vs)
    (hfin : ∀ (w0 : Wo) (H0 : Hp) (ys : List D) (S : Sto), PostG K (RV K) W w0 H0 σ (fin ys S) Q → ys.length ≤ sizeLine ∧
      ∀ w H xs p, Ext w0 H0 w H → H0 p = none → Sim K w S H → H p = some (.lst xs) → p ∈ w.q → p ∉ w0.q → RVs K w H ys xs → Q (.ref p) H)
    (h : ∃ w S ρ, Sim K w S H ∧ REnv K w H ρ σ ∧ PostG K (RV K) W w H σ ((fi ρ S).bind fun k S1 => (lcGo k tg tt te (wipeD ρ vs) k.ds S1).bind fin) Q) :
    tLc (tI K W fi) (gT K tg) (tT K WF tt) (tE K WF te) vs σ H Q := by
  obtain ⟨w, S, ρ, s, re, p⟩ := h
  refine ⟨w, S, ρ, s, re, p.bind fun w0 H0 J k S0 e0 s0 wk p0 => ?_⟩
  intro L hL
  have hlen : ∀ {ys r : List D} {S3 : Sto}, PostG K (RV K) W w0 H0 σ (fin (ys ++ r) S3) Q → ys.length ≤ sizeLine := fun {ys r S3} q => by
    have := (hfin w0 H0 _ _ q).1
    rw [List.length_append] at this
    omega
  have r0 := (re.mono e0).wipe vs
  refine ⟨fun i m H => ∃ w1 S1 acc xs, m = k.ds.length - i ∧ i ≤ k.ds.length ∧ Ext w0 H0 w1 H ∧ Sim K w1 S1 H ∧ REnv K w1 H (wipeD ρ vs) (wipe σ vs) ∧ H L = some (.lst xs) ∧ L ∈ w1.q ∧ RVs K w1 H acc xs ∧
      PostG K (RV K) W w0 H0 σ ((lcGo k tg tt te (wipeD ρ vs) (k.ds.drop i) S1).bind fun r S3 => fin (acc ++ r) S3) Q,
    ⟨_, w0.pr L, S0, [], [], rfl, Nat.zero_le _, Ext.pr hL, s0.pr hL, r0.mono (Ext.pr hL), upd_same, List.mem_cons_self, .nil, by simpa using p0⟩, ?_⟩
  rintro i m H1 ⟨w1, S1, acc, xs, rfl, hi, e1, s1, r1, hx, hq, ra, p1⟩
  rcases Nat.lt_or_ge i k.ds.length with hlt | hge
  · rw [List.drop_eq_getElem_cons hlt] at p1
    unfold lcGo at p1
    obtain ⟨ok, p1⟩ := guardR p1
    obtain ⟨g1, _⟩ := wk w1 H1 S1 e1 s1 ok
    obtain ⟨g1, g2⟩ := g1 i _ (List.getElem?_eq_getElem hlt)
    refine .inr ⟨g1, fun H => ∃ w1 S1 acc xs, Ext w0 H0 w1 H ∧ Sim K w1 S1 H ∧ REnv K w1 H (wipeD ρ vs) (wipe σ vs) ∧ H L = some (.lst xs) ∧ L ∈ w1.q ∧ RVs K w1 H acc xs ∧
      PostG K (RV K) W w0 H0 σ ((lcGo k tg tt te (wipeD ρ vs) (k.ds.drop (i + 1)) S1).bind fun r S3 => fin (acc ++ r) S3) Q, ?_, fun x H2 hy => ?_⟩
    · rintro H' ⟨w2, S2, acc2, xs2, q⟩
      exact ⟨k.ds.length - (i + 1), by omega, w2, S2, acc2, xs2, rfl, hlt, q⟩
    · obtain ⟨e2, s2, rx⟩ := g2 x H2 hy
      have hL1 : L ∉ w1.m := (s1.priv L hq).1
      cases ha : tg.asg k.ds[i] (wipeD ρ vs) S1 with
      | none => rw [ha] at p1; exact p1.elim
      | some ρ2 =>
        rw [ha] at p1
        dsimp only at p1
        refine ⟨w1, S1, wipeD ρ vs, k.ds[i], ρ2, s2, r1.mono e2, rx, ha, fun σ2 r2 wp => ⟨?_, ?_⟩⟩
        · rw [wp vs hv, wipe_wipe]
        · refine ⟨w1, S1, ρ2, s2, r2, ?_⟩
          cases hb : tt ρ2 S1 with
          | ex e S3 => rw [hb] at p1; exact p1.elim
          | no => rw [hb] at p1; exact p1.elim
          | ok b S3 =>
            rw [hb] at p1
            simp only [R.nox_ok, R.bind_ok] at p1
            intro w3 H3 b' e3 s3 rb
            cases rb
            have e23 := e2.trans e3
            have hx3 : H3 L = some (.lst xs) := e23.keep _ _ hx hL1
            have hq3 : L ∈ w3.q := e23.q L hq
            by_cases hbt : b = true
            · rw [if_pos hbt] at p1 ⊢
              refine ⟨w3, S3, ρ2, s3, r2.mono e3, ?_⟩
              cases hc : te ρ2 S3 with
              | ex e S3 => rw [hc] at p1; exact p1.elim
              | no => rw [hc] at p1; exact p1.elim
              | ok y S4 =>
                rw [hc] at p1
                simp only [R.nox_ok, R.bind_ok, R.bind_assoc] at p1
                intro w4 H4 v e4 s4 rv
                have hL3 : L ∉ w3.m := (s3.priv L hq3).1
                have hx4 : H4 L = some (.lst xs) := e4.keep _ _ hx3 hL3
                have hq4 : L ∈ w4.q := e4.q L hq3
                have ra4 := (ra.mono e23).mono e4
                have hz : (acc ++ [y]).length ≤ sizeLine := by
                  cases hr : lcGo k tg tt te (wipeD ρ vs) (k.ds.drop (i + 1)) S4 with
                  | ok r S5 =>
                    rw [hr] at p1
                    simp only [R.bind_ok] at p1
                    exact hlen (ys := acc ++ [y]) (r := r) (S3 := S5) (by simpa using p1)
                  | no => rw [hr] at p1; exact p1.elim
                  | ex e S5 =>
                    exfalso
                    have noex : ∀ (ds : List D) (S : Sto) (e : Exn) (S' : Sto), lcGo k tg tt te (wipeD ρ vs) ds S ≠ .ex e S' := by
                      intro ds
                      induction ds with
                      | nil => intro S e S' q; unfold lcGo Wk.guard at q; split at q <;> cases q
                      | cons d ds ih =>
                        intro S e S' q
                        unfold lcGo Wk.guard at q
                        split at q
                        · split at q
                          · rename_i ρ1 _
                            cases h1 : tt ρ1 S with
                            | ok b S1 =>
                              rw [h1] at q
                              simp only [R.nox_ok, R.bind_ok] at q
                              split at q
                              · cases h2 : te ρ1 S1 with
                                | ok y S2 =>
                                  rw [h2] at q
                                  simp only [R.nox_ok, R.bind_ok] at q
                                  cases h3 : lcGo k tg tt te (wipeD ρ vs) ds S2 with
                                  | ok r S3 => rw [h3] at q; cases q
                                  | ex e1 S3 => exact ih _ _ _ h3
                                  | no => rw [h3] at q; cases q
                                | ex e1 S3 => rw [h2] at q; cases q
                                | no => rw [h2] at q; cases q
                              · exact ih _ _ _ q
                            | ex e1 S3 => rw [h1] at q; cases q
                            | no => rw [h1] at q; cases q
                          · cases q
                        · cases q
                    exact noex _ _ _ _ hr
                refine ⟨xs, hx4, ?_, ?_⟩
                · rw [List.length_append, List.length_singleton, ra4.length] at hz
                  omega
                · refine ⟨w4, S4, acc ++ [y], xs ++ [v], ?_, s4.upq hq4 hx4, ((r1.mono e23).mono e4).upq hq4 hx4, upd_same, hq4, (ra4.snoc rv).upq hq4 hx4, ?_⟩
                  · exact (e1.trans (e23.trans e4)).upq hL hx4
                  · simpa using p1
            · rw [if_neg hbt] at p1 ⊢
              exact ⟨w3, S3, acc, xs, e1.trans e23, s3, r1.mono e23, hx3, hq3, ra.mono e23, p1⟩
  · have hi' : i = k.ds.length := Nat.le_antisymm hi hge
    subst hi'
    rw [List.drop_length] at p1
    unfold lcGo at p1
    obtain ⟨ok, p1⟩ := guardR p1
    obtain ⟨_, g2⟩ := wk w1 H1 S1 e1 s1 ok
    simp only [R.bind_ok, List.append_nil] at p1
    have hL0 : L ∉ w0.q := fun z => by
      obtain ⟨_, o, e⟩ := s0.priv L z
      rw [hL] at e; cases e
    exact .inl ⟨g2, (hfin w0 H0 acc S1 p1).2 w1 H1 xs L e1 hL s1 hx hq hL0 ra⟩
section
variable {X : Cx} {W : WX} {pos spos py : Pos} {elt tg iter : Expr} {ifs : List Expr} {scope : Scope} {own : List (Str × Nat)} {fi : IF} {t : Tg} {tt : BF} {te : EF} {vs : List Nat}
theorem C_nil {X : Cx} : PTs X [] (tT X.K WF bYes) := ⟨fun pins s σ H Q I h => pts_nil.run pins s σ H Q I (let ⟨w, S, ρ, s, re, p⟩ := h; p.ret s rfl)⟩
theorem C_one {X : Cx} {c : Expr} {tt : BF} (h : PT X c (tT X.K WF tt)) : PTs X [c] (tT X.K WF tt) := pts_one h
def finV : List D → Sto → R D := fun ys S => if ys.length ≤ sizeLine then .ok (.lst ys) S else .no
def finA : List D → Sto → R D := fun ys S => if ys.length ≤ sizeLine then .ok (.loc S.length) (S ++ [.lst ys]) else .no
theorem finV_ok {K : PySem.W.Frag} {σ : St} {Q : VK} (w0 : Wo) (H0 : Hp) (ys : List D) (S : Sto) (h : PostG K (RV K) W w0 H0 σ (finV ys S) Q) : ys.length ≤ sizeLine ∧
    ∀ w H xs p, Ext w0 H0 w H → H0 p = none → Sim K w S H → H p = some (.lst xs) → p ∈ w.q → p ∉ w0.q → RVs K w H ys xs → Q (.ref p) H := by
  unfold finV at h
  split at h
  · rename_i hz
    exact ⟨hz, fun w H xs p e _ s hp h1 h2 r => h ⟨w.m, w0.q⟩ H _ e.shrink (s.shrink e.q) (by simp only [RV]; exact ⟨p, xs, rfl, hp, ⟨(s.priv p h1).1, h2⟩, r.shrink e.q⟩)⟩
  · exact h.elim
section
variable {K : PySem.W.Frag} {w : Wo} {H : Hp} {p : Addr} {q : List Addr}
mutual
theorem RV.toSto (hp : p ∈ w.q) (hq : ∀ a ∈ q, a ∈ w.q) : ∀ {d : D} {v : V}, RV K w H d v → RV K ⟨w.m ++ [p], q⟩ H d v
  | .non, v, h => by simpa only [RV] using h
  | .bl b, v, h => by simpa only [RV] using h
  | .int i, v, h => by simpa only [RV] using h
  | .str x, v, h => by simpa only [RV] using h
  | .tup ds, v, h => by
    simp only [RV] at h ⊢
    obtain ⟨a, zs, h1, h2, h3⟩ := h
    exact ⟨a, zs, h1, h2, RVs.toSto hp hq h3⟩
  | .con ds, v, h => by
    simp only [RV] at h ⊢
    obtain ⟨a, zs, h1, h2, h3⟩ := h
    exact ⟨a, zs, h1, h2, RVs.toSto hp hq h3⟩
  | .lst ds, v, h => by
    simp only [RV] at h ⊢
    obtain ⟨a, zs, h1, h2, h3, h5⟩ := h
    have na : a ≠ p := fun z => h3.2 (by rw [z]; exact hp)
    exact ⟨a, zs, h1, h2, ⟨by simp [h3.1, na], fun z => h3.2 (hq a z)⟩, RVs.toSto hp hq h5⟩
  | .frz ds, v, h => by
    simp only [RV] at h ⊢
    obtain ⟨a, zs, h1, h2, h5⟩ := h
    refine ⟨a, zs, h1, ?_, RVs.toSto hp hq h5⟩
    rcases h2 with ⟨o, h2, h3⟩ | h2
    · have na : a ≠ p := fun z => h3.2 (by rw [z]; exact hp)
      exact .inl ⟨o, h2, by simp [h3.1, na], fun z => h3.2 (hq a z)⟩
    · exact .inr h2
  | .loc n, v, h => by
    simp only [RV] at h ⊢
    obtain ⟨a, h1, h2⟩ := h
    exact ⟨a, h1, by rw [List.getElem?_append_left (List.getElem?_eq_some_iff.mp h2).1]; exact h2⟩
theorem RVs.toSto (hp : p ∈ w.q) (hq : ∀ a ∈ q, a ∈ w.q) : ∀ {ds : List D} {vs : List V}, RVs K w H ds vs → RVs K ⟨w.m ++ [p], q⟩ H ds vs
  | [], vs, h => by simpa only [RVs] using h
  | d :: ds, vs, h => by
    simp only [RVs] at h ⊢
    obtain ⟨v, r, h1, h2, h3⟩ := h
    exact ⟨v, r, h1, RV.toSto hp hq h2, RVs.toSto hp hq h3⟩
end
theorem Sim.toSto {S : Sto} {ys : List D} {xs : List V} (s : Sim K w S H) (hp : p ∈ w.q) (hq : ∀ a ∈ q, a ∈ w.q) (hpq : p ∉ q) (hx : H p = some (.lst xs)) (r : RVs K w H ys xs) : Sim K ⟨w.m ++ [p], q⟩ (S ++ [.lst ys]) H := by
  have h1 := (s.priv p hp).1
  refine ⟨by simp [s.len], ?_, fun i c e => ?_, fun a ha => ?_⟩
  · show (w.m ++ [p]).Nodup
    rw [List.nodup_append]
    refine ⟨s.nd, by simp, fun a ha b hb => ?_⟩
    have : b = p := by simpa using hb
    subst this
    exact fun z => h1 (z ▸ ha)
  · by_cases hi : i < S.length
    · rw [List.getElem?_append_left hi] at e
      obtain ⟨a, g1, g2⟩ := s.at_ i c e
      refine ⟨a, by show (w.m ++ [p])[i]? = _; rw [List.getElem?_append_left (by rw [s.len]; exact hi)]; exact g1, ?_⟩
      cases c with
      | lst ds => obtain ⟨xs, g1, g2⟩ := g2; exact ⟨xs, g1, g2.toSto hp hq⟩
      | dK kvs => obtain ⟨vs, g1, g2, g3⟩ := g2; exact ⟨vs, g1, g2, g3.toSto hp hq⟩
      | dT kvs => obtain ⟨vs, g1, g2, g3⟩ := g2; exact ⟨vs, g1, g2, g3.toSto hp hq⟩
      | fT kvs => obtain ⟨od, vs, g1, g2, g3⟩ := g2; exact ⟨od, vs, g1, g2, g3.toSto hp hq⟩
      | ins c fs => obtain ⟨C, dx, vs, g0, g1, g2, g3⟩ := g2; exact ⟨C, dx, vs, g0, g1, g2, g3.toSto hp hq⟩
    · rw [List.getElem?_append_right (Nat.le_of_not_lt hi)] at e
      have hi0 : i - S.length = 0 := by
        rcases Nat.eq_zero_or_pos (i - S.length) with z | z
        · exact z
        · rw [List.getElem?_eq_none (by simp; omega)] at e; cases e
      rw [hi0] at e
      cases e
      refine ⟨p, ?_, xs, hx, r.toSto hp hq⟩
      show (w.m ++ [p])[i]? = _
      rw [List.getElem?_append_right (by rw [s.len]; exact Nat.le_of_not_lt hi), s.len, hi0]
      rfl
  · obtain ⟨g1, o, g2⟩ := s.priv a (hq a ha)
    refine ⟨fun z => ?_, o, g2⟩
    rcases List.mem_append.mp z with z | z
    · exact g1 z
    · have : a = p := by simpa using z
      exact hpq (this ▸ ha)
end
theorem finA_ok {K : PySem.W.Frag} {σ : St} {Q : VK} (w0 : Wo) (H0 : Hp) (ys : List D) (S : Sto) (h : PostG K (RV K) W w0 H0 σ (finA ys S) Q) : ys.length ≤ sizeLine ∧
    ∀ w H xs p, Ext w0 H0 w H → H0 p = none → Sim K w S H → H p = some (.lst xs) → p ∈ w.q → p ∉ w0.q → RVs K w H ys xs → Q (.ref p) H := by
  unfold finA at h
  split at h
  · rename_i hz
    refine ⟨hz, fun w H xs p e h0 s hp h1 h2 r => h ⟨w.m ++ [p], w0.q⟩ H _ ?_ (s.toSto h1 e.q h2 hp r) ?_⟩
    · refine ⟨e.pre.trans (List.prefix_append _ _), fun _ h => h, fun _ h => .inl h, fun a ha => ?_, e.tup, e.keep, e.live, e.frz⟩
      rcases List.mem_append.mp ha with z | z
      · exact e.new a z
      · have : a = p := by simpa using z
        exact .inr (this ▸ h0)
    · exact RV.newLoc (w := ⟨w.m, w0.q⟩) s.len
  · exact h.elim
theorem E_lc (hc : X.calm = true) (hN : X.N.Nodup) (hi : PI X tg iter (tI X.K W fi)) (ok : BlkOk X.N X.env.scope scope own)
    (hg : ∀ (s : Shared) (H : Hp) (C : Addr) (cl : List (Str × Addr)) (fp : List Addr), PG (X.blk s H scope (compEnvC scope cl C X.env) fp) tg (gT X.K t)) (ht : ∀ (s : Shared) (H : Hp) (C : Addr) (cl : List (Str × Addr)) (fp : List Addr), PTs (X.blk s H scope (compEnvC scope cl C X.env) fp) ifs (tT X.K WF tt))
    (he : ∀ (s : Shared) (H : Hp) (C : Addr) (cl : List (Str × Addr)) (fp : List Addr), PE (X.blk s H scope (compEnvC scope cl C X.env) fp) elt (tE X.K WF te)) (hvs : own.map (·.2) = vs := by rfl) (hv : ∀ i ∈ t.slots, i ∈ vs := by decide) (hs : ∀ x, foldedSetIterable iter X.env x = pure x := by intro _; rfl) :
    PE X (.ListComp elt [⟨tg, iter, ifs, 0⟩] scope pos) (tE X.K W (eLc fi t tt te vs)) :=
  PE.weak (pe_lc hc hN hi ok hg ht he hs) fun σ H Q h => by subst hvs; exact lc_of (fin := finV) hv (fun w0 H0 ys S => finV_ok w0 H0 ys S) h
theorem E_lcA (hc : X.calm = true) (hN : X.N.Nodup) (hi : PI X tg iter (tI X.K W fi)) (ok : BlkOk X.N X.env.scope scope own)
    (hg : ∀ (s : Shared) (H : Hp) (C : Addr) (cl : List (Str × Addr)) (fp : List Addr), PG (X.blk s H scope (compEnvC scope cl C X.env) fp) tg (gT X.K t)) (ht : ∀ (s : Shared) (H : Hp) (C : Addr) (cl : List (Str × Addr)) (fp : List Addr), PTs (X.blk s H scope (compEnvC scope cl C X.env) fp) ifs (tT X.K WF tt))
    (he : ∀ (s : Shared) (H : Hp) (C : Addr) (cl : List (Str × Addr)) (fp : List Addr), PE (X.blk s H scope (compEnvC scope cl C X.env) fp) elt (tE X.K WF te)) (hvs : own.map (·.2) = vs := by rfl) (hv : ∀ i ∈ t.slots, i ∈ vs := by decide) (hs : ∀ x, foldedSetIterable iter X.env x = pure x := by intro _; rfl) :
    PE X (.ListComp elt [⟨tg, iter, ifs, 0⟩] scope pos) (tE X.K W (eLcA fi t tt te vs)) :=
  PE.weak (pe_lc hc hN hi ok hg ht he hs) fun σ H Q h => by subst hvs; exact lc_of (fin := finA) hv (fun w0 H0 ys S => finA_ok w0 H0 ys S) h
theorem S_setLc (i : Nat) {y : Str} (hc : X.calm = true) (hN : X.N.Nodup) (hyl : X.env.scope.names.lookup y = some .local) (hsw : swapsWith (.ListComp elt [⟨tg, iter, ifs, 0⟩] scope pos) (some (.Name y py)) spos.line X.env = pure true)
    (hi : PI X tg iter (tI X.K W fi)) (ok : BlkOk X.N X.env.scope scope own)
    (hg : ∀ (s : Shared) (H : Hp) (C : Addr) (cl : List (Str × Addr)) (fp : List Addr), PG (X.blk s H scope (compEnvC scope cl C X.env) fp) tg (gT X.K t)) (ht : ∀ (s : Shared) (H : Hp) (C : Addr) (cl : List (Str × Addr)) (fp : List Addr), PTs (X.blk s H scope (compEnvC scope cl C X.env) fp) ifs (tT X.K WF tt))
    (he : ∀ (s : Shared) (H : Hp) (C : Addr) (cl : List (Str × Addr)) (fp : List Addr), PE (X.blk s H scope (compEnvC scope cl C X.env) fp) elt (tE X.K WF te)) (hvs : own.map (·.2) = vs := by rfl) (hv : ∀ i ∈ t.slots, i ∈ vs := by decide) (hy : X.N[i]? = some y := by rfl) (hs : ∀ x, foldedSetIterable iter X.env x = pure x := by intro _; rfl) :
    PS X (.Assign [.Name y py] (.ListComp elt [⟨tg, iter, ifs, 0⟩] scope pos) spos) (tS X.K W (sSet i (eLc fi t tt te vs))) :=
  PS.weak (ps_setLc hc hN hy hyl hsw hi ok hg ht he hs) fun D σ H h => by
    subst hvs
    obtain ⟨w, S, ρ, s, re, p⟩ := h
    refine lc_of (fin := finV) (Q := fun x H1 => gName i x σ H1 D.nx) hv (fun w0 H0 ys S => finV_ok w0 H0 ys S) ⟨w, S, ρ, s, re, ?_⟩
    exact PostS.bind (r := eLc fi t tt te _ ρ S) p re fun w1 H1 v d S1 e1 s1 rd p1 => p1 w1 H1 _ .refl s1 ((re.mono e1).set rd)
theorem S_setLcA (i : Nat) {y : Str} (hc : X.calm = true) (hN : X.N.Nodup) (hyl : X.env.scope.names.lookup y = some .local) (hsw : swapsWith (.ListComp elt [⟨tg, iter, ifs, 0⟩] scope pos) (some (.Name y py)) spos.line X.env = pure true)
    (hi : PI X tg iter (tI X.K W fi)) (ok : BlkOk X.N X.env.scope scope own)
    (hg : ∀ (s : Shared) (H : Hp) (C : Addr) (cl : List (Str × Addr)) (fp : List Addr), PG (X.blk s H scope (compEnvC scope cl C X.env) fp) tg (gT X.K t)) (ht : ∀ (s : Shared) (H : Hp) (C : Addr) (cl : List (Str × Addr)) (fp : List Addr), PTs (X.blk s H scope (compEnvC scope cl C X.env) fp) ifs (tT X.K WF tt))
    (he : ∀ (s : Shared) (H : Hp) (C : Addr) (cl : List (Str × Addr)) (fp : List Addr), PE (X.blk s H scope (compEnvC scope cl C X.env) fp) elt (tE X.K WF te)) (hvs : own.map (·.2) = vs := by rfl) (hv : ∀ i ∈ t.slots, i ∈ vs := by decide) (hy : X.N[i]? = some y := by rfl) (hs : ∀ x, foldedSetIterable iter X.env x = pure x := by intro _; rfl) :
    PS X (.Assign [.Name y py] (.ListComp elt [⟨tg, iter, ifs, 0⟩] scope pos) spos) (tS X.K W (sSet i (eLcA fi t tt te vs))) :=
  PS.weak (ps_setLc hc hN hy hyl hsw hi ok hg ht he hs) fun D σ H h => by
    subst hvs
    obtain ⟨w, S, ρ, s, re, p⟩ := h
    refine lc_of (fin := finA) (Q := fun x H1 => gName i x σ H1 D.nx) hv (fun w0 H0 ys S => finA_ok w0 H0 ys S) ⟨w, S, ρ, s, re, ?_⟩
    exact PostS.bind (r := eLcA fi t tt te _ ρ S) p re fun w1 H1 v d S1 e1 s1 rd p1 => p1 w1 H1 _ .refl s1 ((re.mono e1).set rd)
end
end Ev

namespace Ev
open PySem PySem.Spec PyProof.Rows L2

/-! ### what a def leaves: the store cut back -/
mutual
def okD (n : Nat) : D → Bool
  | .tup ds => okDs n ds
  | .con ds => okDs n ds
  | .lst ds => okDs n ds
  | .frz ds => okDs n ds
  | .loc k => decide (k < n)
  | _ => true
def okDs (n : Nat) : List D → Bool
  | [] => true
  | d :: ds => okD n d && okDs n ds
end
def okC (n : Nat) : Cel → Bool
  | .lst ds => okDs n ds
  | .dK kvs => okDs n (kvs.map (·.2))
  | .dT kvs => okDs n (kvs.map (·.2))
  | .fT kvs => okDs n (kvs.map (·.2))
  | .ins _ fs => okDs n (fs.map (·.2))
def GcOk (S S' : Sto) (d : D) : Prop := S.length ≤ S'.length ∧ okD S.length d = true ∧ ∀ i, i < S.length → S'[i]? = S[i]? ∨ ∃ c, S'[i]? = some c ∧ okC S.length c = true
open Classical in
noncomputable def gc (S : Sto) (d : D) (S' : Sto) : R D := if GcOk S S' d then .ok d (S'.take S.length) else .ok d S'
noncomputable def runF (n : Nat) (b : SF) (ds : List D) (S : Sto) : R D :=
  match b (ds.map some ++ List.replicate (n - ds.length) none) S with
  | .rt d S' => gc S d S'
  | .nx _ S' => gc S .non S'
  | .ex e _ S' => .ex e S'
  | _ => .no
open Classical in
/-- .. a list in the end a value, no longer to be changed -/
noncomputable def gcL (S : Sto) (d : D) (S' : Sto) : R D := match d with
  | .loc k => match S'[k]? with
    | some (.lst es) => if S.length ≤ k ∧ GcOk S S' (.lst es) then .ok (.lst es) (S'.take S.length) else .no
    | _ => .no
  | _ => .no
noncomputable def runL (n : Nat) (b : SF) (ds : List D) (S : Sto) : R D :=
  match b (ds.map some ++ List.replicate (n - ds.length) none) S with
  | .rt d S' => gcL S d S'
  | .ex e _ S' => .ex e S'
  | _ => .no
section
variable {K : PySem.W.Frag} {w w' : Wo} {S S' : Sto} {H H' : Hp}
theorem cut_eq (e : Ext w H w' H') (hl : w.m.length = S.length) : w'.m.take S.length = w.m := by
  obtain ⟨t, ht⟩ := e.pre
  rw [← ht, ← hl, List.take_left']
  rfl
mutual
theorem RV.cut (e : Ext w H w' H') (hl : w.m.length = S.length) : ∀ {d : D} {v : V}, okD S.length d = true → RV K w' H' d v → RV K w H' d v
  | .non, v, _, h => by simpa only [RV] using h
  | .bl b, v, _, h => by simpa only [RV] using h
  | .int i, v, _, h => by simpa only [RV] using h
  | .str x, v, _, h => by simpa only [RV] using h
  | .tup ds, v, o, h => by
    simp only [RV] at h ⊢
    obtain ⟨a, zs, h1, h2, h3⟩ := h
    exact ⟨a, zs, h1, h2, RVs.cut e hl (by simpa only [okD] using o) h3⟩
  | .con ds, v, o, h => by
    simp only [RV] at h ⊢
    obtain ⟨a, zs, h1, h2, h3⟩ := h
    exact ⟨a, zs, h1, h2, RVs.cut e hl (by simpa only [okD] using o) h3⟩
  | .lst ds, v, o, h => by
    simp only [RV] at h ⊢
    obtain ⟨a, zs, h1, h2, h3, h5⟩ := h
    obtain ⟨t, ht⟩ := e.pre
    exact ⟨a, zs, h1, h2, ⟨fun z => h3.1 (by rw [← ht]; exact List.mem_append_left _ z), fun z => h3.2 (e.q a z)⟩, RVs.cut e hl (by simpa only [okD] using o) h5⟩
  | .frz ds, v, o, h => by
    simp only [RV] at h ⊢
    obtain ⟨a, zs, h1, h2, h5⟩ := h
    obtain ⟨t, ht⟩ := e.pre
    refine ⟨a, zs, h1, ?_, RVs.cut e hl (by simpa only [okD] using o) h5⟩
    rcases h2 with ⟨ob, h2, h3⟩ | h2
    · exact .inl ⟨ob, h2, fun z => h3.1 (by rw [← ht]; exact List.mem_append_left _ z), fun z => h3.2 (e.q a z)⟩
    · exact .inr h2
  | .loc n, v, o, h => by
    simp only [RV] at h ⊢
    obtain ⟨a, h1, h2⟩ := h
    simp only [okD, decide_eq_true_eq] at o
    obtain ⟨t, ht⟩ := e.pre
    rw [← ht, List.getElem?_append_left (by rw [hl]; exact o)] at h2
    exact ⟨a, h1, h2⟩
theorem RVs.cut (e : Ext w H w' H') (hl : w.m.length = S.length) : ∀ {ds : List D} {vs : List V}, okDs S.length ds = true → RVs K w' H' ds vs → RVs K w H' ds vs
  | [], vs, _, h => by simpa only [RVs] using h
  | d :: ds, vs, o, h => by
    simp only [RVs] at h ⊢
    simp only [okDs, Bool.and_eq_true] at o
    obtain ⟨v, r, h1, h2, h3⟩ := h
    exact ⟨v, r, h1, RV.cut e hl o.1 h2, RVs.cut e hl o.2 h3⟩
end
mutual
theorem RV.okD {n : Nat} (hl : w.m.length = n) : ∀ {d : D} {v : V}, RV K w H d v → Ev.okD n d = true
  | .non, v, h => rfl
  | .bl b, v, h => rfl
  | .int i, v, h => rfl
  | .str x, v, h => rfl
  | .tup ds, v, h => by
    simp only [RV] at h
    obtain ⟨a, zs, h1, h2, h3⟩ := h
    simp only [Ev.okD]; exact RVs.okDs hl h3
  | .con ds, v, h => by
    simp only [RV] at h
    obtain ⟨a, zs, h1, h2, h3⟩ := h
    simp only [Ev.okD]; exact RVs.okDs hl h3
  | .lst ds, v, h => by
    simp only [RV] at h
    obtain ⟨a, zs, h1, h2, h3, h5⟩ := h
    simp only [Ev.okD]; exact RVs.okDs hl h5
  | .frz ds, v, h => by
    simp only [RV] at h
    obtain ⟨a, zs, h1, h2, h5⟩ := h
    simp only [Ev.okD]; exact RVs.okDs hl h5
  | .loc n, v, h => by
    simp only [RV] at h
    obtain ⟨a, h1, h2⟩ := h
    simp only [Ev.okD, decide_eq_true_eq]
    rw [← hl]; exact (List.getElem?_eq_some_iff.mp h2).1
theorem RVs.okDs {n : Nat} (hl : w.m.length = n) : ∀ {ds : List D} {vs : List V}, RVs K w H ds vs → Ev.okDs n ds = true
  | [], vs, h => rfl
  | d :: ds, vs, h => by
    simp only [RVs] at h
    obtain ⟨v, r, h1, h2, h3⟩ := h
    simp only [Ev.okDs, Bool.and_eq_true]
    exact ⟨RV.okD hl h2, RVs.okDs hl h3⟩
end
theorem RC.okC {n : Nat} {a : Addr} {c : Cel} (hl : w.m.length = n) (h : RC K w H a c) : Ev.okC n c = true := by
  cases c with
  | lst ds => obtain ⟨xs, _, h2⟩ := h; exact h2.okDs hl
  | dK kvs => obtain ⟨vs, _, _, h2⟩ := h; exact h2.okDs hl
  | dT kvs => obtain ⟨vs, _, _, h2⟩ := h; exact h2.okDs hl
  | fT kvs => obtain ⟨_, vs, _, _, h2⟩ := h; exact h2.okDs hl
  | ins c fs => obtain ⟨_, dx, vs, _, _, _, h2⟩ := h; exact h2.okDs hl
theorem RC.cut {a : Addr} {c : Cel} (e : Ext w H w' H') (hl : w.m.length = S.length) (o : Ev.okC S.length c = true) (h : RC K w' H' a c) : RC K w H' a c := by
  cases c with
  | lst ds => obtain ⟨xs, h1, h2⟩ := h; exact ⟨xs, h1, h2.cut e hl o⟩
  | dK kvs => obtain ⟨vs, h1, h2, h3⟩ := h; exact ⟨vs, h1, h2, h3.cut e hl o⟩
  | dT kvs => obtain ⟨vs, h1, h2, h3⟩ := h; exact ⟨vs, h1, h2, h3.cut e hl o⟩
  | fT kvs => obtain ⟨od, vs, h1, h2, h3⟩ := h; exact ⟨od, vs, h1, h2, h3.cut e hl o⟩
  | ins c fs => obtain ⟨C, dx, vs, h0, h1, h2, h3⟩ := h; exact ⟨C, dx, vs, h0, h1, h2, h3.cut e hl o⟩
theorem Ext.cut (e : Ext w H w' H') : Ext w H w H' := ⟨List.prefix_refl _, fun _ h => h, fun _ h => .inl h, fun _ h => .inl h, e.tup, e.keep, e.live, e.frz⟩
theorem Sim.cut (s : Sim K w S H) (s' : Sim K w' S' H') (e : Ext w H w' H') (hle : S.length ≤ S'.length) (hc : ∀ i, i < S.length → S'[i]? = S[i]? ∨ ∃ c, S'[i]? = some c ∧ Ev.okC S.length c = true) : Sim K w (S'.take S.length) H' := by
  refine ⟨by rw [List.length_take, Nat.min_eq_left hle]; exact s.len, s.nd, fun i c q => ?_, fun a ha => ?_⟩
  · have hi : i < S.length := by
      have := (List.getElem?_eq_some_iff.mp q).1
      rw [List.length_take] at this
      omega
    rw [List.getElem?_take_of_lt hi] at q
    obtain ⟨a, h1, h2⟩ := s'.at_ i c q
    obtain ⟨t, ht⟩ := e.pre
    rw [← ht, List.getElem?_append_left (by rw [s.len]; exact hi)] at h1
    refine ⟨a, h1, h2.cut e s.len ?_⟩
    rcases hc i hi with z | ⟨c', z, o⟩
    · rw [q] at z
      obtain ⟨b, g1, g2⟩ := s.at_ i c z.symm
      exact g2.okC s.len
    · rw [q] at z; cases z; exact o
  · obtain ⟨h1, o, h2⟩ := s.priv a ha
    exact ⟨h1, e.live a o h2⟩
/-- gc keeps what is wanted -/
theorem gc_post {W : WX} {σ : St} {d : D} {Q : VK} {v : V} (s : Sim K w S H) (e : Ext w H w' H') (s' : Sim K w' S' H') (r : RV K w' H' d v) (p : PostG K (RV K) W w H σ (gc S d S') Q) : Q v H' := by
  unfold gc at p
  split at p
  · rename_i hg
    exact p w H' v e.cut (s.cut s' e hg.1 hg.2.2) (r.cut e s.len hg.2.1)
  · exact p w' H' v e s' r
theorem gcL_post {W : WX} {σ : St} {d : D} {Q : VK} {v : V} (s : Sim K w S H) (e : Ext w H w' H') (s' : Sim K w' S' H') (r : RV K w' H' d v) (p : PostG K (RV K) W w H σ (gcL S d S') Q) : Q v H' := by
  unfold gcL at p
  split at p
  · rename_i k
    split at p
    · rename_i es he
      split at p
      · rename_i hg
        obtain ⟨hk, hg⟩ := hg
        refine p w H' v e.cut (s.cut s' e hg.1 hg.2.2) ?_
        obtain ⟨a, h1, h2, xs, h3, h4⟩ := s'.get he r
        subst h1
        simp only [RV]
        refine ⟨a, xs, rfl, h3, ⟨fun z => ?_, fun z => (s'.priv a (e.q a z)).1 (List.mem_of_getElem? h2)⟩, h4.cut e s.len hg.2.1⟩
        obtain ⟨i, hi, ei⟩ := List.getElem_of_mem z
        obtain ⟨t, ht⟩ := e.pre
        have : w'.m[i]? = some a := by rw [← ht, List.getElem?_append_left hi, List.getElem?_eq_getElem hi, ei]
        have := nd_inj s'.nd this h2
        rw [s.len] at hi
        omega
      · exact p.elim
    · exact p.elim
  · exact p.elim
end

/-! ### a def's promise -/
def spOf (K : PySem.W.Frag) (n : Nat) (F : List D → Sto → R D) : Sp := fun vs H Q E => ∃ w S ds, vs.length = n ∧ Sim K w S H ∧ RVs K w H ds vs ∧ PostG K (RV K) (fun c d _ H => E c d H) w H [] (F ds S) Q
theorem start_env {K : PySem.W.Frag} {w : Wo} {H : Hp} {ds : List D} {vs : List V} {N : List Str} (r : RVs K w H ds vs) : REnv K w H (ds.map some ++ List.replicate (N.length - ds.length) none) (L2.start N vs) := by
  have hl := r.length
  refine ⟨by simp [L2.start, hl], fun i d q => ?_⟩
  by_cases hi : i < ds.length
  · rw [List.getElem?_append_left (by simpa using hi), List.getElem?_map, List.getElem?_eq_getElem hi] at q
    have q' : ds[i] = d := Option.some.inj (Option.some.inj q)
    obtain ⟨v, h1, h2⟩ := r.get (List.getElem?_eq_getElem hi)
    refine ⟨v, ?_, q' ▸ h2⟩
    unfold L2.start
    rw [List.getElem?_append_left (by simpa [← hl] using hi), List.getElem?_map, h1]
    rfl
  · rw [List.getElem?_append_right (by simpa using hi), List.getElem?_replicate] at q
    split at q <;> cases q
section
variable {P : Program} {w : World} {K : PySem.W.Frag} {mg : Str → Option Value} {base : Heap}
/-- the rule for a def out of which no exception comes -/
theorem fun_ok0 {x qual : Str} {st : Stmt} {f : Addr} {fd : FuncData} {N ps : List Str} {k : Nat} {b : SF} (F : Fun K x qual st f fd) (Sc : FnScope N ps (defScope st))
    (hb : ∀ (X : Cx) (W : WX) (cdv : Value) (A : Around) (outer : List Env) (s : Shared) (H : Hp) (E : XK), Room k (A.deeper (envOfC qual (defScope st) s.heap.objs.size f cdv)) →
      X = (cxOf CX0 P w K mg base N qual (defScope st) f cdv A outer s H E).nox → PSs X (defBody st) (tS K W b)) :
    FnOk P w K mg base CX0 (k + 1) f fd ps (spOf K ps.length (runF N.length b)) := by
  refine F.ok Sc (fun vs H Q E h => let ⟨_, _, _, h, _⟩ := h; h) (fun cdv A outer s H vs Q E hr h => ?_)
  obtain ⟨w, S, ds, hl, sm, r, p⟩ := h
  refine ⟨_, hb _ (fun c d _ H => E c d H) cdv A outer s H E hr rfl, w, S, _, sm, start_env r, ?_⟩
  unfold runF at p
  cases hbb : b (ds.map some ++ List.replicate (N.length - ds.length) none) S with
  | nx ρ S' => rw [hbb] at p; exact fun w' H' σ' e s' r' => gc_post sm e s' (by simp only [RV]) p
  | rt d S' => rw [hbb] at p; exact fun w' H' v e s' r' => gc_post sm e s' r' p
  | ex x ρ S' => rw [hbb] at p; exact fun w' H' σ' dx v C e s' _ h0 h1 h2 => p w' H' dx v C e s' h0 h1 h2
  | bk ρ S' => rw [hbb] at p; exact p.elim
  | ct ρ S' => rw [hbb] at p; exact p.elim
  | no => rw [hbb] at p; exact p.elim
theorem fun_okL {x qual : Str} {st : Stmt} {f : Addr} {fd : FuncData} {N ps : List Str} {k : Nat} {b : SF} (F : Fun K x qual st f fd) (Sc : FnScope N ps (defScope st))
    (hb : ∀ (X : Cx) (W : WX) (cdv : Value) (A : Around) (outer : List Env) (s : Shared) (H : Hp) (E : XK), Room k (A.deeper (envOfC qual (defScope st) s.heap.objs.size f cdv)) →
      X = (cxOf CX0 P w K mg base N qual (defScope st) f cdv A outer s H E).nox → PSs X (defBody st) (tS K W b)) :
    FnOk P w K mg base CX0 (k + 1) f fd ps (spOf K ps.length (runL N.length b)) := by
  refine F.ok Sc (fun vs H Q E h => let ⟨_, _, _, h, _⟩ := h; h) (fun cdv A outer s H vs Q E hr h => ?_)
  obtain ⟨w, S, ds, hl, sm, r, p⟩ := h
  refine ⟨_, hb _ (fun c d _ H => E c d H) cdv A outer s H E hr rfl, w, S, _, sm, start_env r, ?_⟩
  unfold runL at p
  cases hbb : b (ds.map some ++ List.replicate (N.length - ds.length) none) S with
  | nx ρ S' => rw [hbb] at p; exact p.elim
  | rt d S' => rw [hbb] at p; exact fun w' H' v e s' r' => gcL_post sm e s' r' p
  | ex x ρ S' => rw [hbb] at p; exact fun w' H' σ' dx v C e s' _ h0 h1 h2 => p w' H' dx v C e s' h0 h1 h2
  | bk ρ S' => rw [hbb] at p; exact p.elim
  | ct ρ S' => rw [hbb] at p; exact p.elim
  | no => rw [hbb] at p; exact p.elim
/-- a def that can be called by its name -/
structure Cal (P : Program) (w : World) (K : PySem.W.Frag) (mg : Str → Option Value) (base : Heap) (CX : CXT) (k : Nat) (x : Str) (n : Nat) (F : List D → Sto → R D) : Prop where
  ex : ∃ f fd ps, FnOk P w K mg base CX k f fd ps (spOf K n F) ∧ mg x = some (.ref f) ∧ PySem.W.keepIn K (.ref f) = true ∧ Binds K fd ps []
theorem pass0S {X : Cx} (σ : St) {E : XK} : PassesAt CX0 X σ E := fun _ _ _ _ _ _ h => h.elim
end
def eCall (n : Nat) (F : List D → Sto → R D) (fa : AF) : EF := fun ρ S => (fa ρ S).bind fun ds S1 => if ds.length = n then F ds S1 else .no
theorem PostG.toE {K : PySem.W.Frag} {W : WX} {w : Wo} {H : Hp} {σ σ' : St} {r : R D} {Q : VK} (h : PostG K (RV K) W w H σ r Q) : PostG K (RV K) (fun c d _ H => W c d σ H) w H σ' r Q := by
  cases r with
  | ok a S => exact h
  | ex e S => exact h
  | no => exact h
section
variable {X : Cx} {W : WX} {CXc : CXT} {x : Str} {p pos : Pos} {e : Expr} {es : List Expr} {fa : AF} {k j n : Nat} {F : List D → Sto → R D}
theorem tCall_of {σ : St} {H : Hp} {Q : VK} (h : tE X.K W (eCall n F fa) σ H Q) : tCallS (spOf X.K n F) (WE W) (tA X.K W fa) σ H Q := by
  obtain ⟨w, S, ρ, s, re, p⟩ := h
  refine ⟨w, S, ρ, s, re, p.bind fun w1 H1 vs ds S1 e1 s1 rd p1 => ?_⟩
  split at p1
  · rename_i hl
    exact ⟨w1, S1, ds, by rw [← rd.length, hl], s1, rd, p1.toE⟩
  · exact p1.elim
theorem E_call (c : Cal X.prog X.w X.K X.mg X.base CXc k x n F) (hr : Room j X.A) (hx : ∀ σ, PassesAt CXc X σ (WE W σ)) (ha : PA X (e :: es) (tA X.K W fa)) (hk : k ≤ j := by first | decide | omega) (hg : Gl X x := by rfl)
    (hdb : (x == ("__debug__" : Str)) = false := by decide) (he : starEach (e :: es) X.env = (false, eval e X.env) :: starEach es X.env := by rfl) (hpl : (backTo pos (starEach es X.env)).any (·.1) = false := by rfl) :
    PE X (.Call (.Name x p) (e :: es) [] pos) (tE X.K W (eCall n F fa)) := by
  obtain ⟨f, fd, ps, G, hm, hkp, hb⟩ := c.ex
  exact PE.weak (pe_callS G (hr.mono hk) hg hm hkp hb hx ha hdb he hpl) fun σ H Q h => tCall_of h
end
end Ev

namespace Ev
open PySem PySem.Spec PyProof.Rows L2
/-! ### sorted, of a tuple of ints too -/
section
variable {prog : Program} {w : World} {A : Around} {E : Value → Shared → Prop} {s : Shared}
theorem collect_seq {l : Addr} {T : String} {vs : List Value} {Q : List Value → Shared → Prop} (hT : T = "list" ∨ T = "tuple") (hl : ∃ o, s.heap.get? l = some o ∧ o.cls = .type T ∧ ∃ n, o.data = .seq vs.toArray n)
    (h : Q vs { s with heap := (s.heap.push (seqObj "list" #[] 0)).update s.heap.objs.size (Obj.mapSeq (· ++ vs.toArray)) }) (hsz : vs.length ≤ sizeLine) :
    wpAny (model prog w) A (collect (.ref l)) Q E s := by
  obtain ⟨o, ho, hc, n, hd⟩ := id hl
  unfold collect
  refine wpAny_bind (wpAny_runValue (codeAny_builtin entry_proto_collect' ?_))
  show wpAny _ _ (do again (.builtin "list.__iadd__" ⟨[← newList [], .ref l], []⟩)) _ _ s
  refine wpAny_bind (wpAny_newList (wpAny_pure ⟨Code.quiet_builtin _ (by decide +kernel), codeAny_builtin entry_list_iadd' ?_⟩))
  show wpAny _ _ (Builtin.List.listExtendWith (.ref s.heap.objs.size) (.ref l) (.ref s.heap.objs.size)) _ _ { s with heap := s.heap.push (seqObj "list" #[] 0) }
  unfold Builtin.List.listExtendWith
  have ho' : (s.heap.push (seqObj "list" #[] 0)).get? l = some o := Heap.get?_push_of_some _ ho
  refine wpAny_bind (wpAny_typeOf (T := T) ⟨o, ho', hc⟩ ?_)
  rw [if_pos (by rcases hT with rfl | rfl <;> simp)]
  refine wpAny_bind (listItems_at ho' hd ?_)
  refine wpAny_bind (listItems_at (xs := #[]) (n := 0) (Heap.get?_push_size _ rfl) rfl ?_)
  rw [if_neg (by simp)]
  refine wpAny_bind (listUpdate_at (xs := #[]) (n := 0) (Heap.get?_push_size _ rfl) rfl ?_ (Nat.zero_le _) (by show (#[] ++ vs.toArray).size ≤ sizeLine + 1; simp only [Array.size_append, List.size_toArray, List.length_nil]; omega))
  refine wpAny_pure ?_
  show wpAny (model prog w) A (do
      let o ← load s.heap.objs.size
      match o.data with
      | .seq xs _ => pure xs.toList
      | _ => unsupported "internal:collect") Q E { s with heap := (s.heap.push (seqObj "list" #[] 0)).update s.heap.objs.size (Obj.mapSeq (· ++ vs.toArray)) }
  refine wpAny_bind (wpAny_load (get?_update_seq (Heap.get?_push_size _ rfl) _) ?_)
  show wpAny _ _ (pure ((#[] : Array Value) ++ vs.toArray).toList) Q E _
  rw [show ((#[] : Array Value) ++ vs.toArray).toList = vs by simp]
  exact wpAny_pure h
theorem sorted_seq {l : Addr} {T : String} {vs : List Value} {ltv : Value → Value → Bool} {Q : Value → Shared → Prop} (O : SrtO.Swo ltv) (hT : T = "list" ∨ T = "tuple") (hl : ∃ o, s.heap.get? l = some o ∧ o.cls = .type T ∧ ∃ n, o.data = .seq vs.toArray n) (hz : vs.length ≤ sizeLine)
    (hS : 2 ≤ vs.length → ∀ (h₁ : Heap) (a : Addr), h₁.get? a = some (seqObj "list" vs.toArray 0) → (∀ b o, s.heap.get? b = some o → b ≠ a ∧ h₁.get? b = some o) → SrtO.SortableO prog w A.in1.in1 { s with heap := h₁ } a vs ltv)
    (h : ∀ out : List Value, SrtO.Srtd ltv out → SrtO.Stb ltv out vs → Q (.ref (s.heap.objs.size + 1)) { s with heap := sortedAll s.heap vs out.toArray }) :
    wpAny (model prog w) A (call (.builtin "sorted") [.ref l]) Q E s := by
  refine Calls.call_function_entry kind_sorted plain_sorted entry_sorted (args_sorted1 _) ?_
  unfold Builtin.«sorted»
  refine wpAny_bind (m := checkCount "sorted" 1 1 _) (wpAny_pure ?_)
  refine wpAny_bind (collect_seq hT hl ?_ hz)
  refine wpAny_bind (wpAny_newList ?_ hz)
  have hsz : ((s.heap.push (seqObj "list" #[] 0)).update s.heap.objs.size (Obj.mapSeq (· ++ vs.toArray))).objs.size = s.heap.objs.size + 1 := by
    rw [Heap.size_update, size_push']
  have hoL : (((s.heap.push (seqObj "list" #[] 0)).update s.heap.objs.size (Obj.mapSeq (· ++ vs.toArray))).push (seqObj "list" vs.toArray 0)).get? (s.heap.objs.size + 1) = some (seqObj "list" vs.toArray 0) := by
    rw [← hsz]; exact Heap.get?_push_size _ rfl
  have keep : ∀ b o, s.heap.get? b = some o → b ≠ s.heap.objs.size + 1 ∧ (((s.heap.push (seqObj "list" #[] 0)).update s.heap.objs.size (Obj.mapSeq (· ++ vs.toArray))).push (seqObj "list" vs.toArray 0)).get? b = some o := fun b o q => by
    have hlt : b < s.heap.objs.size := Heap.lt_size q
    refine ⟨Nat.ne_of_lt (Nat.lt_succ_of_lt hlt), Heap.get?_push_of_some _ ?_⟩
    rw [Heap.get?_update_ne _ _ _ _ (Nat.ne_of_lt hlt)]
    exact Heap.get?_push_of_some _ q
  show wpAny _ _ _ _ _ { s with heap := ((s.heap.push (seqObj "list" #[] 0)).update s.heap.objs.size (Obj.mapSeq (· ++ vs.toArray))).push (seqObj "list" vs.toArray 0) }
  rw [hsz]
  refine wpAny_bind (wpAny_holding (wpAny_call_entry slot_list_sort ⟨_, hoL, rfl⟩ entry_list_sort (SrtO.list_sort_ord O hoL hz (fun h2 => hS h2 _ _ hoL keep) fun out hs hb => ⟨_, rfl, ?_⟩) (args_list_sort _)))
  exact wpAny_pure ⟨_, rfl, h out hs hb⟩
end
/-- sorted(xs), ints, of a list or a tuple -/
def rSortedIA (K : PySem.W.Frag) : List V → Hp → VK → Prop := fun vs H Q => ∃ (a : Addr) (ns : List Int), vs = [V.ref a] ∧ (SqL K H a (ns.map V.int) ∨ SqT K H a (ns.map V.int)) ∧
  ∀ (ns' : List Int) (p : Addr), ns'.Perm ns → ns'.Pairwise (· ≤ ·) → H p = none → Q (.ref p) (upd H p (.lst (ns'.map V.int)))
theorem cr_sortedIA {X : Cx} : CallR X (.builtin "sorted") (rSortedIA X.K) := by
  intro pins s σ H vs us Q I r h
  obtain ⟨a, ns, rfl, hs, q⟩ := h
  obtain ⟨its, rv, ⟨T, hT, hl⟩, hz⟩ : ∃ its, Vals (ns.map V.int) its ∧ (∃ T, (T = "list" ∨ T = "tuple") ∧ ∃ o, s.heap.get? a = some o ∧ o.cls = .type T ∧ ∃ n, o.data = .seq its.toArray n) ∧ (ns.map V.int).length ≤ sizeLine := by
    rcases hs with hs | hs
    · obtain ⟨its, rv, pl, hz⟩ := I.list hs
      obtain ⟨o, ho, hc, n, hd⟩ := pl.isList
      exact ⟨its, rv, ⟨"list", .inl rfl, o, ho, hc, n, hd⟩, hz⟩
    · obtain ⟨its, rv, pl, hz⟩ := I.tuple hs
      obtain ⟨o, ho, hc, n, hd⟩ := pl
      exact ⟨its, rv, ⟨"tuple", .inr rfl, o, ho, hc, n, hd⟩, hz⟩
  rw [Vals.ref1 r]
  have hi := rv.ints
  refine sorted_seq SrtO.swo_int hT hl (by rw [← rv.length]; exact hz) (fun h2 h₁ a' _ _ => SrtO.ints_sortable hi h2) fun out h1 h2 => ?_
  obtain ⟨k1, k2, k3⟩ := SrtO.ints_out hi h1 h2
  obtain ⟨ep, he'⟩ := PyProof.Rows.sortedAll_at s.heap its out.toArray
  have hlen : ((out.map SrtO.iv).map V.int).length ≤ sizeLine := by
    rw [List.length_map, k2.length_eq]
    rw [List.length_map] at hz
    exact hz
  exact ⟨.ref _, upd H (s.heap.objs.size + 1) (.lst ((out.map SrtO.iv).map V.int)), I.laid (t' := s.toks) (fun _ _ => PyProof.Rows.sortedAll_old) (Nat.le_succ _) ⟨hlen, out, ep, vals_of_ints k1, he'⟩, rfl, q _ _ k2 k3 (I.hok.fresh (Nat.le_succ _))⟩
end Ev

namespace Ev
open PySem PySem.Spec PyProof.Rows L2

/-! ### built-ins by values -/
abbrev OpN := List D → Sto → Option (D × Sto)
def CallS (K : PySem.W.Frag) (r : List V → Hp → VK → Prop) (o : OpN) : Prop := ∀ (w : Wo) (S : Sto) (H : Hp) (ds : List D) (vs : List V) (d : D) (S' : Sto) (Q : VK), Sim K w S H → RVs K w H ds vs → o ds S = some (d, S') →
  (∀ w' H' z, Ext w H w' H' → Sim K w' S' H' → RV K w' H' d z → Q z H') → r vs H Q
def liftP (x : Option (D × Sto)) : R D := match x with
  | some (d, S) => .ok d S
  | none => .no
@[simp] theorem liftP_some (d : D) (S : Sto) : liftP (some (d, S)) = .ok d S := rfl
@[simp] theorem liftP_none : liftP none = .no := rfl
def eCb (o : OpN) (fa : AF) : EF := fun ρ S => (fa ρ S).bind fun ds S1 => liftP (o ds S1)
/-- what does not touch the store -/
def pure1 (g : List D → Sto → Option D) : OpN := fun ds S => (g ds S).map fun d => (d, S)
section
variable {X : Cx} {W : WX} {x : Str} {p pos : Pos} {e : Expr} {es : List Expr} {fa : AF} {id T : String} {r : List V → Hp → VK → Prop} {o : OpN}
theorem tCB_of {σ : St} {H : Hp} {Q : VK} (hs : CallS X.K r o) (h : tE X.K W (eCb o fa) σ H Q) : tCB r (tA X.K W fa) σ H Q := by
  obtain ⟨w, S, ρ, s, re, p⟩ := h
  refine ⟨w, S, ρ, s, re, p.bind fun w1 H1 vs ds S1 e1 s1 rd p1 => ?_⟩
  cases ho : o ds S1 with
  | none => rw [ho] at p1; exact p1.elim
  | some q => obtain ⟨d, S2⟩ := q; rw [ho] at p1; exact hs w1 S1 H1 ds vs d S2 Q s1 rd ho fun w2 H2 z e2 s2 rz => p1 w2 H2 z e2 s2 rz
theorem E_cb (hc : CallR X (.builtin id) r) (hs : CallS X.K r o) (hm : X.mg x = none) (ha : PA X (e :: es) (tA X.K W fa)) (hg : Gl X x := by rfl) (hv : bootBuiltins x = some (.builtin id) := by decide +kernel) (hn : x ≠ "__name__" := by decide) (hdb : (x == ("__debug__" : Str)) = false := by decide)
    (he : starEach (e :: es) X.env = (false, eval e X.env) :: starEach es X.env := by rfl) (hpl : (backTo pos (starEach es X.env)).any (·.1) = false := by rfl) : PE X (.Call (.Name x p) (e :: es) [] pos) (tE X.K W (eCb o fa)) :=
  PE.weak (pe_callB hc hg hm hv ha hn hdb he hpl) fun σ H Q h => tCB_of hs h
theorem E_cty (hc : CallR X (.type T) r) (hs : CallS X.K r o) (hm : X.mg x = none) (ha : PA X (e :: es) (tA X.K W fa)) (hg : Gl X x := by rfl) (hv : bootBuiltins x = some (.type T) := by decide +kernel) (hn : x ≠ "__name__" := by decide) (hdb : (x == ("__debug__" : Str)) = false := by decide)
    (he : starEach (e :: es) X.env = (false, eval e X.env) :: starEach es X.env := by rfl) (hpl : (backTo pos (starEach es X.env)).any (·.1) = false := by rfl) : PE X (.Call (.Name x p) (e :: es) [] pos) (tE X.K W (eCb o fa)) :=
  PE.weak (pe_callTy hc hg hm hv ha hn hdb he hpl) fun σ H Q h => tCB_of hs h
theorem E_cbf (hc : CallR X (.builtin id) r) (hs : CallS X.K r o) (hm : X.mg x = some (.builtin id)) (ha : PA X (e :: es) (tA X.K W fa)) (hg : Gl X x := by rfl) (hdb : (x == ("__debug__" : Str)) = false := by decide)
    (he : starEach (e :: es) X.env = (false, eval e X.env) :: starEach es X.env := by rfl) (hpl : (backTo pos (starEach es X.env)).any (·.1) = false := by rfl) : PE X (.Call (.Name x p) (e :: es) [] pos) (tE X.K W (eCb o fa)) :=
  PE.weak (pe_callBfun hc hg hm ha hdb he hpl) fun σ H Q h => tCB_of hs h
end
theorem callS_pure {K : PySem.W.Frag} {r : List V → Hp → VK → Prop} {g : List D → Sto → Option D}
    (h : ∀ (w : Wo) (S : Sto) (H : Hp) (ds : List D) (vs : List V) (d : D) (Q : VK), Sim K w S H → RVs K w H ds vs → g ds S = some d → (∀ w' H' z, Ext w H w' H' → Sim K w' S H' → RV K w' H' d z → Q z H') → r vs H Q) : CallS K r (pure1 g) := by
  intro w S H ds vs d S' Q s rd e k
  unfold pure1 at e
  cases hg : g ds S with
  | none => rw [hg] at e; cases e
  | some d' => rw [hg] at e; cases e; exact h w S H ds vs d Q s rd hg k
/-- len -/
def gLen : List D → Sto → Option D := fun ds S => match ds with
  | [d] => match seqOf S d with
    | some es => some (.int es.length)
    | none => match d with
      | .str z => if z.length ≤ sizeLine then some (.int z.length) else none
      | _ => none
  | _ => none
theorem callS_len {K : PySem.W.Frag} : CallS K (fun xs H Q => ∃ x n, xs = [x] ∧ LenV K x H n ∧ Q (.int n) H) (pure1 gLen) := callS_pure fun w S H ds vs d Q s rd e k => by
  unfold gLen at e
  split at e
  · rename_i d0
    obtain ⟨v, rfl, rv⟩ := rd.one
    split at e
    · rename_i es he
      cases e
      obtain ⟨a, xs, rfl, h2, h3⟩ := seqOf_sq s rv he
      refine ⟨_, es.length, rfl, ?_, k w H _ .refl s (by simp only [RV])⟩
      rcases h2 with h2 | h2
      · exact .inl ⟨xs, h2, h3.length⟩
      · exact .inr ⟨xs, h2, h3.length⟩
    · split at e
      · split at e
        · rename_i z _ hz
          cases e
          simp only [RV] at rv
          subst rv
          exact ⟨_, z.length, rfl, ⟨hz, rfl⟩, k w H _ .refl s (by simp only [RV])⟩
        · cases e
      · cases e
  · cases e
/-- ints -/
def gAbs : List D → Sto → Option D := fun ds _ => match ds with
  | [.int i] => some (.int (if i < 0 then -i else i))
  | _ => none
theorem callS_abs {K : PySem.W.Frag} : CallS K (fun xs H Q => ∃ i, xs = [.int i] ∧ Q (.int (if i < 0 then -i else i)) H) (pure1 gAbs) := callS_pure fun w S H ds vs d Q s rd e k => by
  unfold gAbs at e
  split at e
  · obtain ⟨v, rfl, rv⟩ := rd.one
    simp only [RV] at rv
    subst rv
    cases e
    exact ⟨_, rfl, k w H _ .refl s (by simp only [RV])⟩
  · cases e
def gInt : List D → Sto → Option D := fun ds _ => match ds with
  | [.int i] => some (.int i)
  | _ => none
theorem callS_int {K : PySem.W.Frag} : CallS K (fun xs H Q => (∃ i, xs = [.int i] ∧ Q (.int i) H) ∨ ∃ k, xs = [.bl k] ∧ Q (.int (if k then 1 else 0)) H) (pure1 gInt) := callS_pure fun w S H ds vs d Q s rd e k => by
  unfold gInt at e
  split at e
  · obtain ⟨v, rfl, rv⟩ := rd.one
    simp only [RV] at rv
    subst rv
    cases e
    exact .inl ⟨_, rfl, k w H _ .refl s (by simp only [RV])⟩
  · cases e
def gMin : List D → Sto → Option D := fun ds _ => match ds with
  | [.int i, .int j] => some (.int (if j < i then j else i))
  | _ => none
def gMax : List D → Sto → Option D := fun ds _ => match ds with
  | [.int i, .int j] => some (.int (if j > i then j else i))
  | _ => none
theorem callS_min {K : PySem.W.Frag} : CallS K (fun xs H Q => ∃ i j, xs = [.int i, .int j] ∧ Q (.int (if j < i then j else i)) H) (pure1 gMin) := callS_pure fun w S H ds vs d Q s rd e k => by
  unfold gMin at e
  split at e
  · obtain ⟨v, u, rfl, rv, ru⟩ := rd.two
    simp only [RV] at rv ru
    subst rv ru
    cases e
    exact ⟨_, _, rfl, k w H _ .refl s (by simp only [RV])⟩
  · cases e
theorem callS_max {K : PySem.W.Frag} : CallS K (fun xs H Q => ∃ i j, xs = [.int i, .int j] ∧ Q (.int (if j > i then j else i)) H) (pure1 gMax) := callS_pure fun w S H ds vs d Q s rd e k => by
  unfold gMax at e
  split at e
  · obtain ⟨v, u, rfl, rv, ru⟩ := rd.two
    simp only [RV] at rv ru
    subst rv ru
    cases e
    exact ⟨_, _, rfl, k w H _ .refl s (by simp only [RV])⟩
  · cases e
def gGcd : List D → Sto → Option D := fun ds _ => match ds with
  | [.int i, .int j] => some (.int ((Nat.gcd i.natAbs j.natAbs : Nat) : Int))
  | _ => none
theorem callS_gcd {K : PySem.W.Frag} : CallS K rGcd (pure1 gGcd) := callS_pure fun w S H ds vs d Q s rd e k => by
  unfold gGcd at e
  split at e
  · obtain ⟨v, u, rfl, rv, ru⟩ := rd.two
    simp only [RV] at rv ru
    subst rv ru
    cases e
    exact ⟨_, _, rfl, k w H _ .refl s (by simp only [RV])⟩
  · cases e
/-- over a list of ints, of bools -/
def blsOf : List D → Option (List Bool)
  | [] => some []
  | .bl i :: ds => (blsOf ds).map (i :: ·)
  | _ :: _ => none
theorem blsOf_eq : ∀ {ds : List D} {is : List Bool}, blsOf ds = some is → ds = is.map D.bl
  | [], is, h => by cases h; rfl
  | d :: ds, is, h => by
    cases d with
    | bl i =>
      simp only [blsOf] at h
      cases e : blsOf ds with
      | none => rw [e] at h; cases h
      | some js => rw [e] at h; cases h; rw [blsOf_eq e]; rfl
    | _ => cases h
@[simp] theorem blsOf_map (is : List Bool) : blsOf (is.map D.bl) = some is := by
  induction is with
  | nil => rfl
  | cons i is ih => simp only [List.map_cons, blsOf, ih, Option.map_some]
def gSum : List D → Sto → Option D := fun ds S => match ds with
  | [d] => ((seqOf S d).bind intsOf).map fun is => .int is.sum
  | _ => none
def gAny : List D → Sto → Option D := fun ds S => match ds with
  | [d] => ((lstOf S d).bind blsOf).map fun bs => .bl (bs.any id)
  | _ => none
def gAll : List D → Sto → Option D := fun ds S => match ds with
  | [d] => ((lstOf S d).bind blsOf).map fun bs => .bl (bs.all id)
  | _ => none
theorem sum_tupG {prog : Program} {w : World} {A : Around} {E : Value → Shared → Prop} {s : Shared} {l : Addr} {xs : Array (Int × Tok)} {Q : Value → Shared → Prop} (hh : A.handled = none) (hl : s.heap.IsTuple l (intItems xs))
    (h : ∀ h' tk t', (∀ b o, s.heap.get? b = some o → h'.get? b = some o) → Q (.int (preSum (numAt xs) xs.size) t') { s with heap := h', toks := tk }) : wpAny (model prog w) A (call (.builtin "sum") [.ref l]) Q E s := by
  have hlt : l < s.heap.objs.size := let ⟨_, e, _⟩ := hl; Heap.lt_size e
  refine call_sum_walkG (wpAny_pyIter_tuple hl ?_)
  refine ⟨_, [_, l], [_], _, _, _, numAt xs, rfl, Walks.tuple (A := A.in1) hh _ l (Nat.ne_of_lt hlt) (intItems xs),
    ⟨⟨_, Heap.get?_push_size _ rfl, rfl, rfl⟩, hl.push _⟩, fun c hc => ?_, (fun _ _ => intItems_at), fun h' tk t' hk => ?_⟩
  · show c < (s.heap.push _).objs.size
    rw [Heap.size_push]
    rcases List.mem_cons.mp hc with rfl | hc
    · exact Nat.lt_succ_self _
    · rcases List.mem_cons.mp hc with rfl | hc
      · exact Nat.lt_succ_of_lt hlt
      · cases hc
  · have hold : ∀ c o, s.heap.get? c = some o → h'.get? c = some o := fun c o e => by
      refine hk c o (fun hm => ?_) (Heap.get?_push_of_some _ e)
      rcases List.mem_cons.mp hm with e1 | hm
      · have := Heap.lt_size e; rw [e1] at this; exact Nat.lt_irrefl _ this
      · cases hm
    have := h h' tk t' hold
    simpa [intItems] using this
theorem sum_rawT {prog : Program} {w : World} {A : Around} {E : Value → Shared → Prop} {s : Shared} {l : Addr} {its : List Value} {ns : List Int} {Q : Value → Shared → Prop} (hh : A.handled = none) (hl : s.heap.IsTuple l its.toArray) (hi : IntsAre its ns)
    (h : ∀ h' tk t', (∀ b o, s.heap.get? b = some o → h'.get? b = some o) → Q (.int ns.sum t') { s with heap := h', toks := tk }) : wpAny (model prog w) A (call (.builtin "sum") [.ref l]) Q E s := by
  obtain ⟨xs, e⟩ := hi.allInts.items
  have hn : numsOf (intItems xs).toList = ns := by rw [← e]; exact hi.numsOf
  rw [nums_intItems] at hn
  rw [e] at hl
  refine sum_tupG hh hl fun h' tk t' hk => ?_
  have := h h' tk t' hk
  rw [preSum_eq, List.take_of_length_le (by simp), hn]; exact this
def rSumA (K : PySem.W.Frag) : List V → Hp → VK → Prop := fun vs H Q => ∃ (a : Addr) (ns : List Int), vs = [V.ref a] ∧ (SqL K H a (ns.map V.int) ∨ SqT K H a (ns.map V.int)) ∧ Q (.int ns.sum) H
theorem cr_sumA {X : Cx} (hc : X.calm = true) : CallR X (.builtin "sum") (rSumA X.K) := by
  intro pins s σ H vs us Q I r h
  obtain ⟨a, ns, rfl, hs | hs, q⟩ := h
  · obtain ⟨its, rv, hl, _⟩ := I.list hs
    rw [Vals.ref1 r]
    exact sum_raw (I.ok.hd hc) hl.isList rv.ints fun h' tk t' hk => ⟨.int _, H, I.kept hk, ⟨_, rfl⟩, q⟩
  · obtain ⟨its, rv, hl, _⟩ := I.tuple hs
    rw [Vals.ref1 r]
    exact sum_rawT (I.ok.hd hc) hl rv.ints fun h' tk t' hk => ⟨.int _, H, I.kept hk, ⟨_, rfl⟩, q⟩
theorem callS_sum {K : PySem.W.Frag} : CallS K (rSumA K) (pure1 gSum) := callS_pure fun w S H ds vs d Q s rd e k => by
  unfold gSum at e
  split at e
  · rename_i d0
    obtain ⟨v, rfl, rv⟩ := rd.one
    cases hl : seqOf S d0 with
    | none => rw [hl] at e; cases e
    | some es =>
      rw [hl] at e
      cases hi : intsOf es with
      | none => simp only [Option.bind_some, hi] at e; cases e
      | some is =>
        simp only [Option.bind_some, hi, Option.map_some] at e
        cases e
        obtain ⟨a, xs, rfl, h2, h3⟩ := seqOf_sq s rv hl
        rw [intsOf_eq hi] at h3
        rw [h3.ints] at h2
        exact ⟨a, is, rfl, h2, k w H _ .refl s (by simp only [RV])⟩
  · cases e
theorem callS_any {K : PySem.W.Frag} : CallS K (rAny K) (pure1 gAny) := callS_pure fun w S H ds vs d Q s rd e k => by
  unfold gAny at e
  split at e
  · rename_i d0
    obtain ⟨v, rfl, rv⟩ := rd.one
    cases hl : lstOf S d0 with
    | none => rw [hl] at e; cases e
    | some es =>
      rw [hl] at e
      cases hi : blsOf es with
      | none => simp only [Option.bind_some, hi] at e; cases e
      | some is =>
        simp only [Option.bind_some, hi, Option.map_some] at e
        cases e
        obtain ⟨a, xs, rfl, h2, h3⟩ := lstOf_sq s rv hl
        rw [blsOf_eq hi] at h3
        rw [h3.bls] at h2
        exact ⟨a, is, rfl, h2, k w H _ .refl s (by simp only [RV])⟩
  · cases e
theorem callS_all {K : PySem.W.Frag} : CallS K (rAll K) (pure1 gAll) := callS_pure fun w S H ds vs d Q s rd e k => by
  unfold gAll at e
  split at e
  · rename_i d0
    obtain ⟨v, rfl, rv⟩ := rd.one
    cases hl : lstOf S d0 with
    | none => rw [hl] at e; cases e
    | some es =>
      rw [hl] at e
      cases hi : blsOf es with
      | none => simp only [Option.bind_some, hi] at e; cases e
      | some is =>
        simp only [Option.bind_some, hi, Option.map_some] at e
        cases e
        obtain ⟨a, xs, rfl, h2, h3⟩ := lstOf_sq s rv hl
        rw [blsOf_eq hi] at h3
        rw [h3.bls] at h2
        exact ⟨a, is, rfl, h2, k w H _ .refl s (by simp only [RV])⟩
  · cases e
/-- sorted, of ints -/
def insI (x : Int) : List Int → List Int
  | [] => [x]
  | y :: ys => if x ≤ y then x :: y :: ys else y :: insI x ys
def isort : List Int → List Int
  | [] => []
  | x :: xs => insI x (isort xs)
theorem insI_perm (x : Int) : ∀ ys : List Int, (insI x ys).Perm (x :: ys)
  | [] => .refl _
  | y :: ys => by
    unfold insI
    split
    · exact .refl _
    · exact ((insI_perm x ys).cons y).trans (.swap x y ys)
theorem isort_perm : ∀ xs : List Int, (isort xs).Perm xs
  | [] => .refl _
  | x :: xs => (insI_perm x _).trans ((isort_perm xs).cons x)
theorem insI_sorted (x : Int) : ∀ ys : List Int, ys.Pairwise (· ≤ ·) → (insI x ys).Pairwise (· ≤ ·)
  | [], _ => List.pairwise_singleton _ _
  | y :: ys, h => by
    have h' := List.pairwise_cons.mp h
    unfold insI
    split
    · rename_i hx
      refine List.pairwise_cons.mpr ⟨fun z hz => ?_, h⟩
      rcases List.mem_cons.mp hz with e | e
      · rw [e]; exact hx
      · exact Int.le_trans hx (h'.1 z e)
    · rename_i hx
      refine List.pairwise_cons.mpr ⟨fun z hz => ?_, insI_sorted x ys h'.2⟩
      rcases List.mem_cons.mp ((insI_perm x ys).mem_iff.mp hz) with e | e
      · rw [e]; omega
      · exact h'.1 z e
theorem isort_sorted : ∀ xs : List Int, (isort xs).Pairwise (· ≤ ·)
  | [] => List.Pairwise.nil
  | x :: xs => insI_sorted x _ (isort_sorted xs)
theorem isort_same {a b : List Int} (hp : a.Perm b) (ha : a.Pairwise (· ≤ ·)) : a = isort b :=
  PySem.W.ksm_same (hp.trans (isort_perm b).symm) ha (isort_sorted b)
def oSort (al : Bool) : OpN := fun ds S => match ds with
  | [d] => ((seqOf S d).bind intsOf).map fun is => if al then (.loc S.length, S ++ [.lst ((isort is).map D.int)]) else (.lst ((isort is).map D.int), S)
  | _ => none
/-- a new list: a value, or in the store -/
theorem newList {K : PySem.W.Frag} {w : Wo} {S : Sto} {H : Hp} {es : List D} {xs : List V} {Q : VK} {al : Bool} {d : D} {S' : Sto} {q : Addr} (s : Sim K w S H) (r : RVs K w H es xs) (hq : H q = none)
    (e : (if al then ((.loc S.length : D), S ++ [Cel.lst es]) else (.lst es, S)) = (d, S')) (k : ∀ w' H' z, Ext w H w' H' → Sim K w' S' H' → RV K w' H' d z → Q z H') : Q (.ref q) (upd H q (.lst xs)) := by
  cases al with
  | true => cases e; exact k (w.add q) _ _ (Ext.alloc hq) (s.alloc hq (RC.newLst hq r)) (RV.newLoc s.len)
  | false => cases e; exact k w _ _ (Ext.fresh hq) (s.fresh hq) (RV.newLst s hq r)
theorem callS_sort {K : PySem.W.Frag} (al : Bool) : CallS K (rSortedIA K) (oSort al) := by
  intro w S H ds vs d S' Q s rd e k
  unfold oSort at e
  split at e
  · rename_i d0
    obtain ⟨v, rfl, rv⟩ := rd.one
    cases hl : seqOf S d0 with
    | none => rw [hl] at e; cases e
    | some es =>
      rw [hl] at e
      cases hi : intsOf es with
      | none => simp only [Option.bind_some, hi] at e; cases e
      | some is =>
        simp only [Option.bind_some, hi, Option.map_some] at e
        obtain ⟨a, xs, rfl, h2, h3⟩ := seqOf_sq s rv hl
        rw [intsOf_eq hi] at h3
        rw [h3.ints] at h2
        refine ⟨a, is, rfl, h2, fun ns' p hp ho hn => ?_⟩
        rw [isort_same hp ho]
        exact newList s (.of_ints _) hn (Option.some.inj e) k
  · cases e
def oList (al : Bool) : OpN := fun ds S => match ds with
  | [d] => (seqOf S d).map fun es => if al then (.loc S.length, S ++ [.lst es]) else (.lst es, S)
  | _ => none
theorem callS_list {K : PySem.W.Frag} (al : Bool) : CallS K (fun xs H Q => ∃ p ys, xs = [.ref p] ∧ (SqL K H p ys ∨ SqT K H p ys) ∧ ∀ l, H l = none → Q (.ref l) (upd H l (.lst ys))) (oList al) := by
  intro w S H ds vs d S' Q s rd e k
  unfold oList at e
  split at e
  · rename_i d0
    obtain ⟨v, rfl, rv⟩ := rd.one
    cases hl : seqOf S d0 with
    | none => rw [hl] at e; cases e
    | some es =>
      rw [hl] at e
      obtain ⟨a, xs, rfl, h2, h3⟩ := seqOf_sq s rv hl
      exact ⟨a, xs, rfl, h2, fun l hn => newList s h3 hn (Option.some.inj e) k⟩
  · cases e
def gTuple : List D → Sto → Option D := fun ds S => match ds with
  | [d] => match tupOf d with
    | some _ => some d
    | none => (lstOf S d).map D.tup
  | _ => none
theorem callS_tuple {K : PySem.W.Frag} : CallS K (fun xs H Q => ∃ p ys, xs = [.ref p] ∧ ((SqL K H p ys ∧ ∀ l, H l = none → Q (.ref l) (upd H l (.tup ys))) ∨ (SqT K H p ys ∧ Q (.ref p) H))) (pure1 gTuple) := callS_pure fun w S H ds vs d Q s rd e k => by
  unfold gTuple at e
  split at e
  · rename_i d0
    obtain ⟨v, rfl, rv⟩ := rd.one
    split at e
    · rename_i es he
      cases e
      obtain ⟨a, xs, rfl, h2, h3⟩ := tupOf_sq rv he
      exact ⟨a, xs, rfl, .inr ⟨h2, k w H _ .refl s rv⟩⟩
    · cases hl : lstOf S d0 with
      | none => rw [hl] at e; cases e
      | some es =>
        rw [hl] at e
        cases e
        obtain ⟨a, xs, rfl, h2, h3⟩ := lstOf_sq s rv hl
        exact ⟨a, xs, rfl, .inl ⟨h2, fun l hn => k w _ _ (Ext.fresh hn) (s.fresh hn) (RV.newTup hn h3)⟩⟩
  · cases e
section
variable {X : Cx} {W : WX} {p pos : Pos} {e : Expr} {es : List Expr} {fa : AF}
theorem E_len (hm : X.mg "len" = none) (ha : PA X (e :: es) (tA X.K W fa)) (hg : Gl X "len" := by rfl)
    (he : starEach (e :: es) X.env = (false, eval e X.env) :: starEach es X.env := by rfl) (hpl : (backTo pos (starEach es X.env)).any (·.1) = false := by rfl) : PE X (.Call (.Name "len" p) (e :: es) [] pos) (tE X.K W (eCb (pure1 gLen) fa)) :=
  E_cb call_len callS_len hm ha hg boot_len (by decide) (by decide) he hpl
theorem E_abs (hm : X.mg "abs" = none) (ha : PA X (e :: es) (tA X.K W fa)) (hg : Gl X "abs" := by rfl)
    (he : starEach (e :: es) X.env = (false, eval e X.env) :: starEach es X.env := by rfl) (hpl : (backTo pos (starEach es X.env)).any (·.1) = false := by rfl) : PE X (.Call (.Name "abs" p) (e :: es) [] pos) (tE X.K W (eCb (pure1 gAbs) fa)) :=
  E_cb call_abs callS_abs hm ha hg (by decide +kernel) (by decide) (by decide) he hpl
theorem E_intc (hm : X.mg "int" = none) (ha : PA X (e :: es) (tA X.K W fa)) (hg : Gl X "int" := by rfl)
    (he : starEach (e :: es) X.env = (false, eval e X.env) :: starEach es X.env := by rfl) (hpl : (backTo pos (starEach es X.env)).any (·.1) = false := by rfl) : PE X (.Call (.Name "int" p) (e :: es) [] pos) (tE X.K W (eCb (pure1 gInt) fa)) :=
  E_cty call_int1 callS_int hm ha hg (by decide +kernel) (by decide) (by decide) he hpl
theorem E_min (hc : X.calm = true) (hm : X.mg "min" = none) (ha : PA X (e :: es) (tA X.K W fa)) (hg : Gl X "min" := by rfl)
    (he : starEach (e :: es) X.env = (false, eval e X.env) :: starEach es X.env := by rfl) (hpl : (backTo pos (starEach es X.env)).any (·.1) = false := by rfl) : PE X (.Call (.Name "min" p) (e :: es) [] pos) (tE X.K W (eCb (pure1 gMin) fa)) :=
  E_cb (call_min2 hc) callS_min hm ha hg (by decide +kernel) (by decide) (by decide) he hpl
theorem E_max (hc : X.calm = true) (hm : X.mg "max" = none) (ha : PA X (e :: es) (tA X.K W fa)) (hg : Gl X "max" := by rfl)
    (he : starEach (e :: es) X.env = (false, eval e X.env) :: starEach es X.env := by rfl) (hpl : (backTo pos (starEach es X.env)).any (·.1) = false := by rfl) : PE X (.Call (.Name "max" p) (e :: es) [] pos) (tE X.K W (eCb (pure1 gMax) fa)) :=
  E_cb (call_max2 hc) callS_max hm ha hg (by decide +kernel) (by decide) (by decide) he hpl
theorem E_sum (hc : X.calm = true) (hm : X.mg "sum" = none) (ha : PA X (e :: es) (tA X.K W fa)) (hg : Gl X "sum" := by rfl)
    (he : starEach (e :: es) X.env = (false, eval e X.env) :: starEach es X.env := by rfl) (hpl : (backTo pos (starEach es X.env)).any (·.1) = false := by rfl) : PE X (.Call (.Name "sum" p) (e :: es) [] pos) (tE X.K W (eCb (pure1 gSum) fa)) :=
  E_cb (cr_sumA hc) callS_sum hm ha hg (by decide +kernel) (by decide) (by decide) he hpl
theorem E_any (hc : X.calm = true) (hm : X.mg "any" = none) (ha : PA X (e :: es) (tA X.K W fa)) (hg : Gl X "any" := by rfl)
    (he : starEach (e :: es) X.env = (false, eval e X.env) :: starEach es X.env := by rfl) (hpl : (backTo pos (starEach es X.env)).any (·.1) = false := by rfl) : PE X (.Call (.Name "any" p) (e :: es) [] pos) (tE X.K W (eCb (pure1 gAny) fa)) :=
  E_cb (cr_any hc) callS_any hm ha hg (by decide +kernel) (by decide) (by decide) he hpl
theorem E_all (hc : X.calm = true) (hm : X.mg "all" = none) (ha : PA X (e :: es) (tA X.K W fa)) (hg : Gl X "all" := by rfl)
    (he : starEach (e :: es) X.env = (false, eval e X.env) :: starEach es X.env := by rfl) (hpl : (backTo pos (starEach es X.env)).any (·.1) = false := by rfl) : PE X (.Call (.Name "all" p) (e :: es) [] pos) (tE X.K W (eCb (pure1 gAll) fa)) :=
  E_cb (cr_all hc) callS_all hm ha hg (by decide +kernel) (by decide) (by decide) he hpl
theorem E_sorted (al : Bool) (hm : X.mg "sorted" = none) (ha : PA X (e :: es) (tA X.K W fa)) (hg : Gl X "sorted" := by rfl)
    (he : starEach (e :: es) X.env = (false, eval e X.env) :: starEach es X.env := by rfl) (hpl : (backTo pos (starEach es X.env)).any (·.1) = false := by rfl) : PE X (.Call (.Name "sorted" p) (e :: es) [] pos) (tE X.K W (eCb (oSort al) fa)) :=
  E_cb cr_sortedIA (callS_sort al) hm ha hg (by decide +kernel) (by decide) (by decide) he hpl
theorem E_list (al : Bool) (hm : X.mg "list" = none) (ha : PA X (e :: es) (tA X.K W fa)) (hg : Gl X "list" := by rfl)
    (he : starEach (e :: es) X.env = (false, eval e X.env) :: starEach es X.env := by rfl) (hpl : (backTo pos (starEach es X.env)).any (·.1) = false := by rfl) : PE X (.Call (.Name "list" p) (e :: es) [] pos) (tE X.K W (eCb (oList al) fa)) :=
  E_cty call_list_of (callS_list al) hm ha hg (by decide +kernel) (by decide) (by decide) he hpl
theorem E_tuple (hm : X.mg "tuple" = none) (ha : PA X (e :: es) (tA X.K W fa)) (hg : Gl X "tuple" := by rfl)
    (he : starEach (e :: es) X.env = (false, eval e X.env) :: starEach es X.env := by rfl) (hpl : (backTo pos (starEach es X.env)).any (·.1) = false := by rfl) : PE X (.Call (.Name "tuple" p) (e :: es) [] pos) (tE X.K W (eCb (pure1 gTuple) fa)) :=
  E_cty call_tuple_of callS_tuple hm ha hg (by decide +kernel) (by decide) (by decide) he hpl
theorem E_gcd (hm : X.mg "gcd" = some (.builtin "math.gcd")) (ha : PA X (e :: es) (tA X.K W fa)) (hg : Gl X "gcd" := by rfl)
    (he : starEach (e :: es) X.env = (false, eval e X.env) :: starEach es X.env := by rfl) (hpl : (backTo pos (starEach es X.env)).any (·.1) = false := by rfl) : PE X (.Call (.Name "gcd" p) (e :: es) [] pos) (tE X.K W (eCb (pure1 gGcd) fa)) :=
  E_cbf cr_gcd callS_gcd hm ha hg (by decide) he hpl
end

/-! ### list(range(..)) -/
def okRg (a b : Int) : Bool := decide (-(2 ^ 62) ≤ a ∧ a < 2 ^ 62 ∧ -(2 ^ 62) ≤ b ∧ b < 2 ^ 62 ∧ (b - a).toNat ≤ 2 ^ 24)
def mkRg (al : Bool) (a b : Int) (S : Sto) : R D := if okRg a b then (if al then .ok (.loc S.length) (S ++ [.lst (rngD a (b - a).toNat)]) else .ok (.lst (rngD a (b - a).toNat)) S) else .no
def eLr1 (al : Bool) (fa : EF) : EF := fun ρ S => (fa ρ S).bind fun x S1 => match x with
  | .int n => mkRg al 0 n S1
  | _ => .no
def eLr2 (al : Bool) (fa fb : EF) : EF := fun ρ S => (fa ρ S).bind fun x S1 => (fb ρ S1).bind fun y S2 => match x, y with
  | .int i, .int j => mkRg al i j S2
  | _, _ => .no
theorem rng_rel {K : PySem.W.Frag} {w : Wo} {H : Hp} (a b : Int) : RVs K w H (rngD a (b - a).toNat) (rgV a b) := by
  unfold rngD rgV
  generalize (b - a).toNat = n
  generalize List.range n = l
  induction l with
  | nil => exact .nil
  | cons i l ih => exact .cons (by simp only [RV]) ih
theorem mkRg_of {K : PySem.W.Frag} {W : WX} {w : Wo} {S : Sto} {H : Hp} {σ : St} {Q : VK} {al : Bool} {a b : Int} (s : Sim K w S H) (p : PostG K (RV K) W w H σ (mkRg al a b S) Q) : RgOk a b ∧ ∀ q, H q = none → Q (.ref q) (upd H q (.lst (rgV a b))) := by
  unfold mkRg at p
  split at p
  · rename_i hk
    refine ⟨by have h := hk; unfold okRg at h; have h2 := of_decide_eq_true h; exact h2, fun q hq => ?_⟩
    cases al with
    | true => exact newList (al := true) s (rng_rel a b) hq rfl p
    | false => exact newList (al := false) s (rng_rel a b) hq rfl p
  · exact p.elim
section
variable {X : Cx} {W : WX} {p pos p2 pos2 : Pos} {a b : Expr} {fa fb : EF}
theorem E_lr1 (al : Bool) (hc : X.calm = true) (hl : X.mg "list" = none) (hr : X.mg "range" = none) (ha : PE X a (tE X.K W fa)) (hg : Gl X "list" := by rfl) (hg2 : Gl X "range" := by rfl) (na : starEach [a] X.env = (false, eval a X.env) :: starEach [] X.env := by rfl)
    (na2 : starEach [Expr.Call (.Name "range" p2) [a] [] pos2] X.env = (false, eval (.Call (.Name "range" p2) [a] [] pos2) X.env) :: starEach [] X.env := by rfl) : PE X (.Call (.Name "list" p) [.Call (.Name "range" p2) [a] [] pos2] [] pos) (tE X.K W (eLr1 al fa)) :=
  PE.weak (pe_listRg hc hg hl (prg_1 hg2 hr ha na) na2) fun σ H Q h => by
    obtain ⟨w, S, ρ, s, re, p⟩ := h
    refine ⟨w, S, ρ, s, re, p.bind fun w1 H1 v x S1 e1 s1 rx p1 => ?_⟩
    cases x with
    | int n =>
      simp only [RV] at rx
      exact ⟨n, rx, mkRg_of s1 p1⟩
    | _ => exact p1.elim
theorem E_lr2 (al : Bool) (hc : X.calm = true) (hl : X.mg "list" = none) (hr : X.mg "range" = none) (ha : PE X a (tE X.K W fa)) (hb : PE X b (tE X.K W fb)) (hg : Gl X "list" := by rfl) (hg2 : Gl X "range" := by rfl)
    (na : starEach [a, b] X.env = (false, eval a X.env) :: starEach [b] X.env := by rfl) (nb : starEach [b] X.env = (false, eval b X.env) :: starEach [] X.env := by rfl) (hp : (backTo pos2 (starEach [b] X.env)).any (·.1) = false := by rfl)
    (na2 : starEach [Expr.Call (.Name "range" p2) [a, b] [] pos2] X.env = (false, eval (.Call (.Name "range" p2) [a, b] [] pos2) X.env) :: starEach [] X.env := by rfl) : PE X (.Call (.Name "list" p) [.Call (.Name "range" p2) [a, b] [] pos2] [] pos) (tE X.K W (eLr2 al fa fb)) :=
  PE.weak (pe_listRg hc hg hl (prg_2 hg2 hr ha hb na nb hp) na2) fun σ H Q h => by
    obtain ⟨w, S, ρ, s, re, p⟩ := h
    refine ⟨w, S, ρ, s, re, p.bind fun w1 H1 v x S1 e1 s1 rx p1 => ?_⟩
    refine ⟨w1, S1, ρ, s1, re.mono e1, p1.bind fun w2 H2 u y S2 e2 s2 ry p2 => ?_⟩
    cases x with
    | int i =>
      cases y with
      | int j =>
        simp only [RV] at rx ry
        exact ⟨i, j, rx, ry, mkRg_of s2 p2⟩
      | _ => exact p2.elim
    | _ => exact p2.elim
end

/-! ### isinstance(x, T) -/
def isiD (T : String) (S : Sto) : D → Option Bool
  | .non => L2.kitB "NoneType" T
  | .bl _ => kitB "bool" T
  | .int _ => kitB "int" T
  | .str _ => kitB "str" T
  | .tup _ => kitB "tuple" T
  | .con _ => kitB "tuple" T
  | .lst _ => kitB "list" T
  | .frz _ => kitB "list" T
  | .loc n => match S[n]? with
    | some (.lst _) => kitB "list" T
    | _ => none
def eIsi (T : String) (fa : EF) : EF := fun ρ S => (fa ρ S).bind fun x S1 => liftO ((isiD T S1 x).map D.bl) S1
section
variable {X : Cx} {W : WX} {p pos q : Pos} {a : Expr} {fa : EF} {T : String} {t : Str}
theorem tyx_of {K : PySem.W.Frag} {w : Wo} {S : Sto} {H : Hp} {x : D} {v : V} {b : Bool} (s : Sim K w S H) (rx : RV K w H x v) (h : isiD T S x = some b) : ∃ u, TyX K H v u ∧ PySem.W.kitOne K u (.type T) = some b := by
  cases x with
  | non => simp only [RV] at rx; subst rx; exact ⟨_, .base .non, kit_ty h⟩
  | bl k => simp only [RV] at rx; subst rx; exact ⟨_, .base (.bl k), kit_ty h⟩
  | int k => simp only [RV] at rx; subst rx; exact ⟨_, .base (.int k), kit_ty h⟩
  | str k => simp only [RV] at rx; subst rx; exact ⟨_, .base (.str k), kit_ty h⟩
  | tup ds => simp only [RV] at rx; obtain ⟨a, xs, rfl, h2, h3⟩ := rx; exact ⟨_, .base (.tup h2), kit_ty h⟩
  | con ds => simp only [RV] at rx; obtain ⟨a, xs, rfl, ⟨o, its, n, h2, h4, _⟩, h3⟩ := rx; exact ⟨_, .kTuple h2 h4, kit_ty h⟩
  | lst ds => simp only [RV] at rx; obtain ⟨a, xs, rfl, h2, _, h3⟩ := rx; exact ⟨_, .base (.lst h2), kit_ty h⟩
  | frz ds =>
    simp only [RV] at rx
    obtain ⟨a, xs, rfl, h2, h3⟩ := rx
    rcases h2 with ⟨o, h2, _⟩ | ⟨o, its, n, h2, h4, _⟩
    · exact ⟨_, .base (.frz h2), kit_ty h⟩
    · exact ⟨_, .kList h2 h4, kit_ty h⟩
  | loc n =>
    simp only [isiD] at h
    split at h
    · rename_i ds hd
      obtain ⟨a, rfl, h2, xs, h3, h4⟩ := s.get hd rx
      exact ⟨_, .base (.lst h3), kit_ty h⟩
    · cases h
theorem E_isi (hm : X.mg "isinstance" = none) (hm2 : X.mg t = none) (ha : PE X a (tE X.K W fa)) (hv : bootBuiltins t = some (.type T) := by decide +kernel) (hg : Gl X "isinstance" := by rfl) (hg2 : Gl X t := by rfl) (hn : t ≠ "__name__" := by decide) (hd : (t == ("__debug__" : Str)) = false := by decide)
    (na : starEach [a, .Name t q] X.env = (false, eval a X.env) :: starEach [.Name t q] X.env := by rfl) (nb : starEach [.Name t q] X.env = (false, eval (.Name t q) X.env) :: starEach [] X.env := by rfl) (hpl : (backTo pos (starEach [.Name t q] X.env)).any (·.1) = false := by rfl) :
    PE X (.Call (.Name "isinstance" p) [a, .Name t q] [] pos) (tE X.K W (eIsi T fa)) :=
  PE.weak (pe_callB call_isi hg hm (by decide +kernel) (pa_cons ha (pa_cons (pe_bltn (v := .ty T) hg2 hm2 hv rfl hn hd) pa_nil nb) na) (by decide) (by decide) na hpl) fun σ H Q h => by
    obtain ⟨w, S, ρ, s, re, p⟩ := h
    refine ⟨w, S, ρ, s, re, p.bind fun w1 H1 v x S1 e1 s1 rx p1 => ?_⟩
    cases hb : isiD T S1 x with
    | none => rw [hb] at p1; exact p1.elim
    | some b =>
      rw [hb] at p1
      obtain ⟨u, h1, h2⟩ := tyx_of s1 rx hb
      exact ⟨v, .ty T, u, .type T, b, rfl, .ty _, h1, h2, p1 w1 H1 _ .refl s1 (by simp only [RV])⟩
end
end Ev

namespace Ev
open PySem PySem.Spec PyProof.Rows L2

/-! ### slices -/
abbrev PF := En → Sto → R (Option Int)
def relP : Wo → Hp → Option Int → Option Int → Prop := fun _ _ a b => b = a
def tP (K : PySem.W.Frag) (W : WX) (f : PF) : TO := tG K relP W f
def pNone : PF := fun _ S => .ok none S
def pSome (fe : EF) : PF := fun ρ S => (fe ρ S).bind fun x S1 => match x with
  | .int i => .ok (some i) S1
  | _ => .no
def cutD {α : Type} (xs : List α) (lo hi : Option Int) : List α := (xs.drop (HT.sIx xs.length 0 lo)).take (HT.sIx xs.length xs.length hi - HT.sIx xs.length 0 lo)
/-- of a list (a new one), of a tuple -/
def oSl (al : Bool) (x : D) (lo hi : Option Int) (S : Sto) : R D := match tupOf x with
  | some ds => if HT.sIx ds.length 0 lo = 0 ∧ HT.sIx ds.length ds.length hi = ds.length then .ok x S else .ok (.tup (cutD ds lo hi)) S
  | none => match lstOf S x with
    | some ds => if al then .ok (.loc S.length) (S ++ [.lst (cutD ds lo hi)]) else .ok (.lst (cutD ds lo hi)) S
    | none => .no
def eSl (al : Bool) (fe : EF) (fl fh : PF) : EF := fun ρ S => (fe ρ S).bind fun x S1 => (fl ρ S1).bind fun l S2 => (fh ρ S2).bind fun h S3 => oSl al x l h S3
section
variable {X : Cx} {W : WX} {pos p2 : Pos} {e : Expr} {fe : EF} {fl fh : PF} {lo hi : Option Expr}
theorem PO.weak {t t' : TO} {lo : Option Expr} (h : PO X lo t) (k : ∀ σ H Q, t' σ H Q → t σ H Q) : PO X lo t' := ⟨fun pins s σ H Q I q => h.run pins s σ H Q I (k σ H Q q)⟩
theorem P_none : PO X none (tP X.K W pNone) := PO.weak po_none fun σ H Q h => let ⟨w, S, ρ, s, re, p⟩ := h; p.ret s rfl
theorem P_some (he : PE X e (tE X.K W fe)) : PO X (some e) (tP X.K W (pSome fe)) :=
  PO.weak (po_some he) fun σ H Q h => by
    obtain ⟨w, S, ρ, s, re, p⟩ := h
    refine ⟨w, S, ρ, s, re, p.bind fun w1 H1 v x S1 e1 s1 rx p1 => ?_⟩
    cases x with
    | int i => simp only [RV] at rx; exact ⟨i, rx, p1 w1 H1 _ .refl s1 rfl⟩
    | _ => exact p1.elim
theorem cut_rel {K : PySem.W.Frag} {w : Wo} {H : Hp} {ds : List D} {xs : List V} (r : RVs K w H ds xs) (lo hi : Option Int) : RVs K w H (cutD ds lo hi) (cutV xs lo hi) := by
  unfold cutD cutV
  rw [← r.length]
  exact (r.drop _).take _
theorem E_slice (al : Bool) (he : PE X e (tE X.K W fe)) (hl : PO X lo (tP X.K W fl)) (hh : PO X hi (tP X.K W fh)) : PE X (.Subscript e (.Slice lo hi none p2) pos) (tE X.K W (eSl al fe fl fh)) :=
  PE.weak (pe_slice (sl_list.or sl_tupA) he hl hh) fun σ H Q h => by
    obtain ⟨w, S, ρ, s, re, p⟩ := h
    refine ⟨w, S, ρ, s, re, p.bind fun w1 H1 v x S1 e1 s1 rx p1 => ?_⟩
    refine ⟨w1, S1, ρ, s1, re.mono e1, p1.bind fun w2 H2 l l' S2 e2 s2 rl p2 => ?_⟩
    cases rl
    refine ⟨w2, S2, ρ, s2, (re.mono e1).mono e2, p2.bind fun w3 H3 u u' S3 e3 s3 ru p3 => ?_⟩
    cases ru
    have rx := (rx.mono e2).mono e3
    unfold oSl at p3
    split at p3
    · rename_i ds hd
      obtain ⟨a, xs, rfl, h2, h3⟩ := tupOf_sq rx hd
      rw [h3.length] at p3
      refine .inr ⟨a, xs, rfl, h2, fun hc => ?_, fun hc q hq => ?_⟩
      · rw [if_pos hc] at p3; exact p3 w3 H3 _ .refl s3 rx
      · rw [if_neg hc] at p3; exact p3 w3 _ _ (Ext.fresh hq) (s3.fresh hq) (RV.newTup hq (cut_rel h3 _ _))
    · split at p3
      · rename_i ds hd
        obtain ⟨a, xs, rfl, h2, h3⟩ := lstOf_sq s3 rx hd
        refine .inl ⟨a, xs, rfl, h2, fun q hq => ?_⟩
        cases al with
        | true => exact newList (al := true) s3 (cut_rel h3 _ _) hq rfl p3
        | false => exact newList (al := false) s3 (cut_rel h3 _ _) hq rfl p3
      · exact p3.elim
end

/-! ### methods of lists -/
abbrev OpM := D → List D → Sto → Option (D × Sto)
def MethS (K : PySem.W.Frag) (r : V → List V → Hp → VK → Prop) (o : OpM) : Prop := ∀ (w : Wo) (S : Sto) (H : Hp) (x : D) (v : V) (ds : List D) (vs : List V) (d : D) (S' : Sto) (Q : VK), Sim K w S H → RV K w H x v → RVs K w H ds vs → o x ds S = some (d, S') →
  (∀ w' H' z, Ext w H w' H' → Sim K w' S' H' → RV K w' H' d z → Q z H') → r v vs H Q
def isLst (S : Sto) (x : D) : Bool := (lstOf S x).isSome
def eLm (o : OpM) (fx : EF) (fa : AF) : EF := fun ρ S => (fx ρ S).bind fun x S1 => if isLst S1 x = true then (fa ρ S1).bind fun ds S2 => liftP (o x ds S2) else .no
theorem isLst_ty {K : PySem.W.Frag} {w : Wo} {S : Sto} {H : Hp} {x : D} {v : V} (s : Sim K w S H) (rx : RV K w H x v) (h : isLst S x = true) : tyV K "list" v H := by
  unfold isLst at h
  cases hl : lstOf S x with
  | none => rw [hl] at h; cases h
  | some ds =>
    obtain ⟨a, xs, rfl, h2, h3⟩ := lstOf_sq s rx hl
    exact .inl ⟨rfl, xs, h2⟩
section
variable {X : Cx} {W : WX} {o e : Expr} {es : List Expr} {fx : EF} {fa : AF} {name : Str} {apos cpos : Pos} {id : String} {r : V → List V → Hp → VK → Prop} {op : OpM}
theorem E_lm (pa : PlainAttrs "list") (slot : Slot "list" name id) (hty : typeOf (.builtin id) = pure (.type "method_descriptor")) (hm : MtR X id r) (hs : MethS X.K r op) (ho : PE X o (tE X.K W fx)) (ha : PA X (e :: es) (tA X.K W fa))
    (hbase : attributeBase o name X.env (eval o X.env) = eval o X.env := by rfl)
    (hfew : ((backTo cpos (starEach (e :: es) X.env)).all (fun x => !x.1) && (backToKw cpos (keywordEach [] X.env)).all (fun x => x.1.isSome)
      && decide ((e :: es).length + ([] : List Keyword).length + (if ([] : List Keyword).isEmpty then 0 else 1) < 30)) = true := by rfl)
    (hline : (apos.endLine == cpos.line) = true := by rfl) (hst : starEach (e :: es) X.env = (false, eval e X.env) :: starEach es X.env := by rfl) (hplain : (backTo cpos (starEach es X.env)).any (·.1) = false := by rfl) :
    PE X (.Call (.Attribute o name apos) (e :: es) [] cpos) (tE X.K W (eLm op fx fa)) :=
  PE.weak (pe_bm pa slot hty hm ho ha hbase hfew hline hst hplain) fun σ H Q h => by
    obtain ⟨w, S, ρ, s, re, p⟩ := h
    refine ⟨w, S, ρ, s, re, p.bind fun w1 H1 v x S1 e1 s1 rx p1 => ?_⟩
    by_cases hl : isLst S1 x = true
    · rw [if_pos hl] at p1
      refine ⟨isLst_ty s1 rx hl, w1, S1, ρ, s1, re.mono e1, p1.bind fun w2 H2 vs ds S2 e2 s2 rd p2 => ?_⟩
      cases hop : op x ds S2 with
      | none => rw [hop] at p2; exact p2.elim
      | some q => obtain ⟨d, S3⟩ := q; rw [hop] at p2; exact hs w2 S2 H2 x v ds vs d S3 Q s2 (rx.mono e2) rd hop fun w3 H3 z e3 s3 rz => p2 w3 H3 z e3 s3 rz
    · rw [if_neg hl] at p1; exact p1.elim
end
def mAppend : OpM := fun x ds S => match x, ds with
  | .loc n, [d] => match S[n]? with
    | some (.lst es) => if es.length < sizeLine then some (.non, S.set n (.lst (es ++ [d]))) else none
    | _ => none
  | _, _ => none
def mInsert : OpM := fun x ds S => match x, ds with
  | .loc n, [.int i, d] => match S[n]? with
    | some (.lst es) => if es.length < sizeLine ∧ 0 ≤ i ∧ i < 2 ^ 63 then some (.non, S.set n (.lst (es.take i.toNat ++ [d] ++ es.drop i.toNat))) else none
    | _ => none
  | _, _ => none
def mExtend : OpM := fun x ds S => match x, ds with
  | .loc n, [d] => match S[n]? with
    | some (.lst es) => match lstX S d with
      | some fs => if es.length + fs.length ≤ sizeLine then some (.non, S.set n (.lst (es ++ fs))) else none
      | none => none
    | _ => none
  | _, _ => none
theorem setCell {K : PySem.W.Frag} {w : Wo} {S : Sto} {H : Hp} {n : Nat} {a : Addr} {c : Cel} {o : HO} {Q : Hp → Prop} (s : Sim K w S H) (hn : w.m[n]? = some a) (hf : Free H a) (hc : RC K w (upd H a o) a c)
    (k : ∀ w' H', Ext w H w' H' → Sim K w' (S.set n c) H' → Q H') : Q (upd H a o) := k w _ (Ext.write s (List.mem_of_getElem? hn) hf) (s.write hn hf hc)
theorem RVs.wr {K : PySem.W.Frag} {w : Wo} {S : Sto} {H : Hp} {n : Nat} {a : Addr} {o : HO} {ds : List D} {vs : List V} (s : Sim K w S H) (hn : w.m[n]? = some a) (hf : Free H a) (r : RVs K w H ds vs) : RVs K w (upd H a o) ds vs := r.mono (Ext.write s (List.mem_of_getElem? hn) hf)
theorem methS_append {K : PySem.W.Frag} : MethS K rAppend mAppend := by
  intro w S H x v ds vs d S' Q s rx rd e k
  unfold mAppend at e
  split at e
  · rename_i n d0
    split at e
    · rename_i es he
      split at e
      · rename_i hz
        cases e
        obtain ⟨a, rfl, h2, xs, h3, h4⟩ := s.get he rx
        obtain ⟨u, rfl, ru⟩ := rd.one
        refine ⟨a, xs, u, rfl, rfl, h3, by rw [← h4.length]; exact hz, ?_⟩
        exact k w _ _ (Ext.write s (List.mem_of_getElem? h2) (free_of h3 fun _ _ z => nomatch z)) (s.write h2 (free_of h3 fun _ _ z => nomatch z) ⟨_, upd_same, (h4.snoc ru).wr s h2 (free_of h3 fun _ _ z => nomatch z)⟩) (by simp only [RV])
      · cases e
    · cases e
  · cases e
theorem methS_insert {K : PySem.W.Frag} : MethS K (fun x vs H Q => ∃ (l : Addr) (xs : List V) (i : Int) (y : V), x = .ref l ∧ vs = [.int i, y] ∧ H l = some (.lst xs) ∧ xs.length < sizeLine ∧ 0 ≤ i ∧ i < 2 ^ 63 ∧
    Q .non (upd H l (.lst (xs.take i.toNat ++ [y] ++ xs.drop i.toNat)))) mInsert := by
  intro w S H x v ds vs d S' Q s rx rd e k
  unfold mInsert at e
  split at e
  · rename_i n i d0
    split at e
    · rename_i es he
      split at e
      · rename_i hz
        cases e
        obtain ⟨a, rfl, h2, xs, h3, h4⟩ := s.get he rx
        obtain ⟨u, u2, rfl, ru, ru2⟩ := rd.two
        simp only [RV] at ru
        subst ru
        refine ⟨a, xs, i, u2, rfl, rfl, h3, by rw [← h4.length]; exact hz.1, hz.2.1, hz.2.2, ?_⟩
        exact k w _ _ (Ext.write s (List.mem_of_getElem? h2) (free_of h3 fun _ _ z => nomatch z)) (s.write h2 (free_of h3 fun _ _ z => nomatch z) ⟨_, upd_same, (((h4.take _).snoc ru2).append (h4.drop _)).wr s h2 (free_of h3 fun _ _ z => nomatch z)⟩) (by simp only [RV])
      · cases e
    · cases e
  · cases e
theorem methS_extend {K : PySem.W.Frag} : MethS K rExtend mExtend := by
  intro w S H x v ds vs d S' Q s rx rd e k
  unfold mExtend at e
  split at e
  · rename_i n d0
    split at e
    · rename_i es he
      split at e
      · rename_i fs hf
        split at e
        · rename_i hz
          cases e
          obtain ⟨a, rfl, h2, xs, h3, h4⟩ := s.get he rx
          obtain ⟨u, rfl, ru⟩ := rd.one
          obtain ⟨b, zs, rfl, g2, g3⟩ := lstX_sq s ru hf
          refine ⟨a, b, xs, zs, rfl, rfl, h3, g2, by rw [← h4.length, ← g3.length]; exact hz, ?_⟩
          exact k w _ _ (Ext.write s (List.mem_of_getElem? h2) (free_of h3 fun _ _ z => nomatch z)) (s.write h2 (free_of h3 fun _ _ z => nomatch z) ⟨_, upd_same, (h4.append g3).wr s h2 (free_of h3 fun _ _ z => nomatch z)⟩) (by simp only [RV])
        · cases e
      · cases e
    · cases e
  · cases e
section
variable {X : Cx} {W : WX} {o e : Expr} {es : List Expr} {fx : EF} {fa : AF} {apos cpos : Pos}
theorem E_append (ho : PE X o (tE X.K W fx)) (ha : PA X (e :: es) (tA X.K W fa)) (hbase : attributeBase o "append" X.env (eval o X.env) = eval o X.env := by rfl)
    (hfew : ((backTo cpos (starEach (e :: es) X.env)).all (fun x => !x.1) && (backToKw cpos (keywordEach [] X.env)).all (fun x => x.1.isSome)
      && decide ((e :: es).length + ([] : List Keyword).length + (if ([] : List Keyword).isEmpty then 0 else 1) < 30)) = true := by rfl)
    (hline : (apos.endLine == cpos.line) = true := by rfl) (hst : starEach (e :: es) X.env = (false, eval e X.env) :: starEach es X.env := by rfl) (hplain : (backTo cpos (starEach es X.env)).any (·.1) = false := by rfl) :
    PE X (.Call (.Attribute o "append" apos) (e :: es) [] cpos) (tE X.K W (eLm mAppend fx fa)) :=
  E_lm PySem.F.plainAttrs_list PySem.F.slot_list_append PySem.F.type_list_append mt_append methS_append ho ha hbase hfew hline hst hplain
theorem E_insert (ho : PE X o (tE X.K W fx)) (ha : PA X (e :: es) (tA X.K W fa)) (hbase : attributeBase o "insert" X.env (eval o X.env) = eval o X.env := by rfl)
    (hfew : ((backTo cpos (starEach (e :: es) X.env)).all (fun x => !x.1) && (backToKw cpos (keywordEach [] X.env)).all (fun x => x.1.isSome)
      && decide ((e :: es).length + ([] : List Keyword).length + (if ([] : List Keyword).isEmpty then 0 else 1) < 30)) = true := by rfl)
    (hline : (apos.endLine == cpos.line) = true := by rfl) (hst : starEach (e :: es) X.env = (false, eval e X.env) :: starEach es X.env := by rfl) (hplain : (backTo cpos (starEach es X.env)).any (·.1) = false := by rfl) :
    PE X (.Call (.Attribute o "insert" apos) (e :: es) [] cpos) (tE X.K W (eLm mInsert fx fa)) :=
  E_lm PySem.F.plainAttrs_list PySem.F.slot_list_insert PySem.F.type_list_insert mt_insert methS_insert ho ha hbase hfew hline hst hplain
theorem E_extend (ho : PE X o (tE X.K W fx)) (ha : PA X (e :: es) (tA X.K W fa)) (hbase : attributeBase o "extend" X.env (eval o X.env) = eval o X.env := by rfl)
    (hfew : ((backTo cpos (starEach (e :: es) X.env)).all (fun x => !x.1) && (backToKw cpos (keywordEach [] X.env)).all (fun x => x.1.isSome)
      && decide ((e :: es).length + ([] : List Keyword).length + (if ([] : List Keyword).isEmpty then 0 else 1) < 30)) = true := by rfl)
    (hline : (apos.endLine == cpos.line) = true := by rfl) (hst : starEach (e :: es) X.env = (false, eval e X.env) :: starEach es X.env := by rfl) (hplain : (backTo cpos (starEach es X.env)).any (·.1) = false := by rfl) :
    PE X (.Call (.Attribute o "extend" apos) (e :: es) [] cpos) (tE X.K W (eLm mExtend fx fa)) :=
  E_lm PySem.F.plainAttrs_list PySem.F.slot_list_extend PySem.F.type_list_extend mt_extend methS_extend ho ha hbase hfew hline hst hplain
end

/-! ### xs[i] = v -/
def sSub (fo fi fe : EF) : SF := fun ρ S => sB (fe ρ S) ρ fun d S1 => sB (fo ρ S1) ρ fun x S2 => sB (fi ρ S2) ρ fun y S3 => match x, y with
  | .loc n, .int i => match S3[n]? with
    | some (.lst es) => match ixN es.length i with
      | some j => .nx ρ (S3.set n (.lst (es.set j d)))
      | none => .no
    | _ => .no
  | _, _ => .no
section
variable {X : Cx} {W : WX} {pos pos' : Pos} {o i e : Expr} {fo fi fe : EF}
theorem S_sub (he : PE X e (tE X.K W fe)) (ho : PE X o (tE X.K W fo)) (hi : PE X i (tE X.K W fi))
    (ha : ∀ v, assign (.Subscript o i pos') X.env v = (do
      let ov ← holding [v] (eval o X.env)
      let iv ← holding [v, ov] (eval i X.env)
      standAt pos'
      holding [v, ov, iv] (setItem ov iv v)
      release [v, ov, iv] []) := by intro _; rfl) (hs : swapsWithSole [.Subscript o i pos'] e pos.line X.env = pure false := by rfl) (hw : swappedStores [.Subscript o i pos'] e X.env = pure none := by rfl)
    (h1 : (assignEach [.Subscript o i pos'] X.env).map (·.2) = [assign (.Subscript o i pos') X.env] := by rfl) : PS X (.Assign [.Subscript o i pos'] e pos) (tS X.K W (sSub fo fi fe)) :=
  PS.weak (ps_asg he (pg_sub ho hi set_list ha) hs hw h1) fun D0 σ H h => by
    obtain ⟨w, S, ρ, s, re, p⟩ := h
    refine ⟨w, S, ρ, s, re, PostS.bind p re fun w1 H1 v d S1 e1 s1 rd p1 => ?_⟩
    refine ⟨w1, S1, ρ, s1, re.mono e1, PostS.bind p1 (re.mono e1) fun w2 H2 u x S2 e2 s2 rx p2 => ?_⟩
    refine ⟨w2, S2, ρ, s2, (re.mono e1).mono e2, PostS.bind p2 ((re.mono e1).mono e2) fun w3 H3 t y S3 e3 s3 ry p3 => ?_⟩
    split at p3
    · rename_i n i0
      split at p3
      · rename_i es hes
        split at p3
        · rename_i j hj
          simp only [RV] at ry
          subst ry
          obtain ⟨a, rfl, h2, xs, h3, h4⟩ := s3.get hes (rx.mono e3)
          refine ⟨a, xs, i0, j, rfl, rfl, h3, by rw [← h4.length]; exact hj, ?_⟩
          have ew := Ext.write (o := .lst (xs.set j v)) s3 (List.mem_of_getElem? h2) (free_of h3 fun _ _ z => nomatch z)
          exact p3 w3 _ σ ew (s3.write h2 (free_of h3 fun _ _ z => nomatch z) ⟨_, upd_same, (h4.set j ((rd.mono e2).mono e3)).wr s3 h2 (free_of h3 fun _ _ z => nomatch z)⟩) ((((re.mono e1).mono e2).mono e3).mono ew)
        · exact p3.elim
      · exact p3.elim
    · exact p3.elim
end
end Ev

namespace Ev
open PySem PySem.Spec PyProof.Rows L2

/-! ### a for over a list or a tuple -/
def seqW (d : D) (S : Sto) : R Wk := match tupOf d with
  | some ds => .ok ⟨ds, none⟩ S
  | none => match d with
    | .lst ds => .ok ⟨ds, none⟩ S
    | .frz ds => .ok ⟨ds, none⟩ S
    | .loc n => match S[n]? with
      | some (.lst ds) => .ok ⟨ds, some (n, .lst ds)⟩ S
      | _ => .no
    | _ => .no
def iSeqD (fe : EF) : IF := fun ρ S => (fe ρ S).bind seqW
section
variable {X : Cx} {W : WX} {tg e : Expr} {fe : EF}
theorem pi_seq {l : Expr} {tl : TE} (hl : PE X l tl) : PI X tg l (fun σ H R => tl σ H fun x H1 => ∃ a, x = .ref a ∧ (((∃ xs, SqL X.K H1 a xs) ∧ R (Itl X.K a) H1) ∨ ((∃ xs, SqT X.K H1 a xs) ∧ R (Itt X.K a) H1))) := by
  refine ⟨fun pins s σ H R I h => ?_⟩
  refine thn (hl.run pins s σ H _ I h) fun v s1 ⟨x, H1, I1, r1, q1⟩ => ?_
  obtain ⟨a, e, q⟩ := q1
  subst e
  cases r1
  rcases q with ⟨⟨xs, hq⟩, q⟩ | ⟨⟨xs, hq⟩, q⟩
  · obtain ⟨its, rv, p, hz⟩ := I1.list hq
    refine wpAny_pyIter_list p.isList ?_
    refine ⟨s1.heap.objs.size, [s1.heap.objs.size], _, _, H1, rfl, I1.kept (t' := s1.toks) fun b o e => Heap.get?_push_of_some _ e, turn_list a _, ⟨_, Heap.get?_push_size _ rfl, rfl, rfl⟩, fun b hb => ?_, q⟩
    have e : b = s1.heap.objs.size := by simpa using hb
    subst e
    exact I1.fpOk (Nat.le_refl _) (I1.hok.fresh (Nat.le_refl _))
  · obtain ⟨its, rv, p, hz⟩ := I1.tuple hq
    refine wpAny_pyIter_tuple (show s1.heap.IsTuple a its.toArray from p) ?_
    refine ⟨s1.heap.objs.size, [s1.heap.objs.size], _, _, H1, rfl, I1.kept (t' := s1.toks) fun b o e => Heap.get?_push_of_some _ e, turn_tuple a _, ⟨_, Heap.get?_push_size _ rfl, rfl, rfl⟩, fun b hb => ?_, q⟩
    have e : b = s1.heap.objs.size := by simpa using hb
    subst e
    exact I1.fpOk (Nat.le_refl _) (I1.hok.fresh (Nat.le_refl _))
theorem seqW_walks {K : PySem.W.Frag} {w : Wo} {S : Sto} {H : Hp} {σ : St} {d : D} {v : V} {R0 : It → Hp → Prop} (s : Sim K w S H) (rd : RV K w H d v) (p : PostG K (Walks K) W w H σ (seqW d S) R0) :
    ∃ a, v = .ref a ∧ (((∃ xs, SqL K H a xs) ∧ R0 (Itl K a) H) ∨ ((∃ xs, SqT K H a xs) ∧ R0 (Itt K a) H)) := by
  unfold seqW at p
  split at p
  · rename_i ds hd
    obtain ⟨a, xs, h1, h2, h3⟩ := tupOf_sq rd hd
    exact ⟨a, h1, .inr ⟨⟨xs, h2⟩, p w H _ .refl s (walks_tup s h2 h3)⟩⟩
  · cases d with
    | lst ds =>
      simp only [RV] at rd
      obtain ⟨a, xs, h1, h2, h4, h3⟩ := rd
      exact ⟨a, h1, .inl ⟨⟨xs, SqL.of h2⟩, p w H _ .refl s (walks_lst ⟨⟨_, h2⟩, h4.1⟩ (.inl h2) h3)⟩⟩
    | frz ds =>
      simp only [RV] at rd
      obtain ⟨a, xs, h1, h2, h3⟩ := rd
      exact ⟨a, h1, .inl ⟨⟨xs, h2.sq⟩, p w H _ .refl s (walks_frz h2 h3)⟩⟩
    | loc n =>
      dsimp only at p
      split at p
      · rename_i ds hd
        obtain ⟨a, h1, h2, xs, h3, h4⟩ := s.get hd rd
        exact ⟨a, h1, .inl ⟨⟨xs, SqL.of h3⟩, p w H _ .refl s (walks_loc h2)⟩⟩
      · exact p.elim
    | _ => exact p.elim
theorem I_seq (he : PE X e (tE X.K W fe)) : PI X tg e (tI X.K W (iSeqD fe)) :=
  PI.weak (pi_seq he) fun σ H R h => by
    obtain ⟨w, S, ρ, s, re, p⟩ := h
    exact ⟨w, S, ρ, s, re, p.bind fun w1 H1 v d S1 e1 s1 rd p1 => seqW_walks s1 rd p1⟩
end

/-! ### a op b op c -/
def eChain (o o' : Op2) (fa fb fc : EF) : EF := fun ρ S => (fa ρ S).bind fun x S1 => (fb ρ S1).bind fun y S2 => (liftB (o x y S2) S2).bind fun k S3 => if k = true then (fc ρ S3).bind fun z S4 => liftO (o' y z S4) S4 else .ok (.bl false) S3
def bChain (o o' : Op2) (fa fb fc : EF) : BF := fun ρ S => (fa ρ S).bind fun x S1 => (fb ρ S1).bind fun y S2 => (liftB (o x y S2) S2).bind fun k S3 => if k = true then (fc ρ S3).bind fun z S4 => liftB (o' y z S4) S4 else .ok false S3
section
variable {X : Cx} {W : WX} {pos : Pos} {a b c : Expr} {fa fb fc : EF} {r r' : R2} {o o' : Op2} {op op' : CmpOp}
theorem E_chain (ho : OpR X (compareOp op) r) (hs : OpS X.K r o) (ho' : OpR X (compareOp op') r') (hs' : OpS X.K r' o') (ha : PE X a (tE X.K W fa)) (hb : PE X b (tE X.K W fb)) (hc : PE X c (tE X.K W fc)) (hm : lastMarks [op, op'] [b, c] = false := by with_unfolding_all rfl) :
    PE X (.Compare a [op, op'] [b, c] pos) (tE X.K W (eChain o o' fa fb fc)) :=
  PE.weak (pe_chain ho ho' ha hb hc hm) fun σ H Q h => by
    obtain ⟨w, S, ρ, s, re, p⟩ := h
    refine ⟨w, S, ρ, s, re, p.bind fun w1 H1 v x S1 e1 s1 rx p1 => ?_⟩
    refine ⟨w1, S1, ρ, s1, re.mono e1, p1.bind fun w2 H2 u y S2 e2 s2 ry p2 => ?_⟩
    cases hd : o x y S2 with
    | none => rw [hd] at p2; exact p2.elim
    | some d =>
      rw [hd] at p2
      refine hs w2 S2 H2 x y d v u _ s2 (rx.mono e2) ry hd fun w3 H3 z e3 s3 rz => ?_
      cases d with
      | bl k =>
        simp only [RV] at rz
        refine ⟨k, rz, ?_⟩
        simp only [liftB_bl, R.bind_ok] at p2
        split
        · rename_i hk
          rw [if_pos hk] at p2
          have p2 := p2.shift e3
          refine ⟨w3, S2, ρ, s3, ((re.mono e1).mono e2).mono e3, p2.bind fun w4 H4 t zz S4 e4 s4 rt p4 => ?_⟩
          cases hd' : o' y zz S4 with
          | none => rw [hd'] at p4; exact p4.elim
          | some d' => rw [hd'] at p4; exact hs' w4 S4 H4 y zz d' u t Q s4 ((ry.mono e3).mono e4) rt hd' fun w5 H5 q e5 s5 rq => p4 w5 H5 q e5 s5 rq
        · rename_i hk
          rw [if_neg hk] at p2
          exact p2 w3 H3 _ e3 s3 (by simp only [RV])
      | _ => exact p2.elim
theorem T_chain (ho : OpR X (compareOp op) r) (hs : OpS X.K r o) (ho' : OpR X (compareOp op') r') (hs' : OpS X.K r' o') (ha : PE X a (tE X.K W fa)) (hb : PE X b (tE X.K W fb)) (hc : PE X c (tE X.K W fc)) (hm : lastMarks [op, op'] [b, c] = false := by with_unfolding_all rfl) :
    PT X (.Compare a [op, op'] [b, c] pos) (tT X.K W (bChain o o' fa fb fc)) :=
  PT.weak (pt_chain ho ho' ha hb hc hm) fun σ H Q h => by
    obtain ⟨w, S, ρ, s, re, p⟩ := h
    refine ⟨w, S, ρ, s, re, p.bind fun w1 H1 v x S1 e1 s1 rx p1 => ?_⟩
    refine ⟨w1, S1, ρ, s1, re.mono e1, p1.bind fun w2 H2 u y S2 e2 s2 ry p2 => ?_⟩
    cases hd : o x y S2 with
    | none => rw [hd] at p2; exact p2.elim
    | some d =>
      rw [hd] at p2
      refine hs w2 S2 H2 x y d v u _ s2 (rx.mono e2) ry hd fun w3 H3 z e3 s3 rz => ?_
      cases d with
      | bl k =>
        simp only [RV] at rz
        refine ⟨k, rz, ?_⟩
        simp only [liftB_bl, R.bind_ok] at p2
        split
        · rename_i hk
          rw [if_pos hk] at p2
          have p2 := p2.shift e3
          refine ⟨w3, S2, ρ, s3, ((re.mono e1).mono e2).mono e3, p2.bind fun w4 H4 t zz S4 e4 s4 rt p4 => ?_⟩
          cases hd' : o' y zz S4 with
          | none => rw [hd'] at p4; exact p4.elim
          | some d' =>
            rw [hd'] at p4
            refine hs' w4 S4 H4 y zz d' u t _ s4 ((ry.mono e3).mono e4) rt hd' fun w5 H5 q e5 s5 rq => ?_
            cases d' with
            | bl k' => simp only [RV] at rq; exact ⟨k', rq, p4 w5 H5 k' e5 s5 rfl⟩
            | _ => exact p4.elim
        · rename_i hk
          rw [if_neg hk] at p2
          exact ⟨false, rfl, p2 w3 H3 _ e3 s3 rfl⟩
      | _ => exact p2.elim
end
/-- the lid of a while -/
def bigW : Nat := 1000000000

/-! ### the end -/
theorem law_sp {K : PySem.W.Frag} {H : Hp} {a : Addr} {ns : List Int} {F : List D → Sto → R D} (ho : Only H) (hS : SqL K H a (ns.map V.int)) (h : ∃ S', F [.frz (ns.map D.int)] [] = .ok (.bl true) S') :
    spOf K 1 F [.ref a] H (fun v _ => v = .bl true) fun _ _ _ => False := by
  obtain ⟨S', e⟩ := h
  refine ⟨⟨[], []⟩, [], [.frz (ns.map D.int)], rfl, ⟨rfl, List.nodup_nil, fun i c q => by simp at q, fun a h => by simp at h⟩, .cons ?_ .nil, ?_⟩
  · simp only [RV]
    refine ⟨a, _, rfl, ?_, .of_ints ns⟩
    rcases hS with (h | ⟨o, h⟩) | h
    · rcases ho a with z | ⟨o, xs, z⟩
      · rw [h] at z; cases z
      · rw [h] at z; cases z
    · exact .inl ⟨o, h, by simp, by simp⟩
    · exact .inr h
  · rw [e]
    intro w' H' b _ _ r
    simpa only [RV] using r
end Ev

namespace Ev
open PySem PySem.Spec PyProof.Rows L2
/-! ### enumerate(x), x a tuple or a list -/
theorem enumMade {v : Value} {o : Obj} {H : Heap → Prop} (B : Begins v o H) :
    Meets (Builtin.«enumerate.__new__» ⟨[.type "enumerate", v], []⟩) (fun _ R s => H s.heap ∧
      R (.ok (.ret (.ref (s.heap.push o).objs.size))) { s with heap := (s.heap.push o).push { cls := .type "enumerate", data := .fields #[.none, .bool false, .ref s.heap.objs.size, rawInt 0, .none, .none] } }) :=
  .of_wp fun prog w A R s hyp => by
    obtain ⟨hp, gg, dd, tk, os⟩ := s
    obtain ⟨hh1, hh2⟩ := hyp
    have hsub := sub_enumerate
    have go1 : ∀ {A' : Around} {E : Value → Shared → Prop} {Q : Value → Shared → Prop}, Q (.ref hp.objs.size) ⟨hp.push o, gg, dd, tk, os⟩ → wpAny (model prog w) A' (pyIter v) Q E ⟨hp, gg, dd, tk, os⟩ :=
      fun hq => B.iter prog w _ _ ⟨hp, gg, dd, tk, os⟩ _ hh1 hq
    wp_walk using go1
    refine wpAny_stack_any fun _ => wpAny_pure ?_
    split
    · rename_i cc _ _ _ _ _
      cases (cc == Value.type "enumerate") <;> (wp_walk using go1; exact ⟨_, rfl, hh2⟩)
    · wp_walk using go1
      exact ⟨_, rfl, hh2⟩
theorem enumCall {prog : Program} {w : World} {A : Around} {E : Value → Shared → Prop} {s : Shared} {v : Value} {o : Obj} {H : Heap → Prop} {Q : Value → Shared → Prop} (B : Begins v o H) (h1 : H s.heap)
    (k : ∀ h', IsEnum h' (s.heap.objs.size + 1) s.heap.objs.size 0 .none → h'.get? s.heap.objs.size = some o → (∀ b ob, s.heap.get? b = some ob → h'.get? b = some ob) → Q (.ref (s.heap.objs.size + 1)) { s with heap := h' }) :
    wpAny (model prog w) A (call (.type "enumerate") [v]) Q E s := by
  refine callType_new F.called_enumerate (by decide) (F.typeCall_enumerate_1 _) (F.newCall_enumerate_1 _) (fun ob => F.args_object_init_2 ob _) F.entry_enumerate_new (enumMade B) ⟨h1, ?_⟩
  have z1 : (s.heap.push o).objs.size = s.heap.objs.size + 1 := Heap.size_push ..
  have at1 := Heap.get?_push_size (s.heap.push o) (o := { cls := .type "enumerate", data := .fields #[.none, .bool false, .ref s.heap.objs.size, rawInt 0, .none, .none] }) rfl
  rw [z1] at at1
  show _ ∧ _
  rw [z1]
  exact ⟨⟨_, at1, rfl⟩, k _ at1 (Heap.get?_push_of_some _ (Heap.get?_push_size _ B.free)) fun b ob e => Heap.get?_push_of_some _ (Heap.get?_push_of_some _ e)⟩
/-- what enumerate gives: the items of a tuple, each in a new pair -/
def Iet (K : PySem.W.Frag) (a : Addr) : It :=
  ⟨fun i H => ∃ (xs : List V) (x : V), SqT K H a xs ∧ xs[i]? = some x,
   fun i H v H' => ∃ T x, v = .ref T ∧ H T = none ∧ H' = upd H T (.tup [.int (i : Nat), x]) ∧ ∀ xs, SqT K H a xs → xs[i]? = some x,
   fun i H => ∃ xs : List V, SqT K H a xs ∧ xs.length ≤ i⟩
theorem tup_ne {h : Heap} {a b : Addr} {items vs : Array Value} {o : Obj} (ht : h.IsTuple a items) (hb : h.get? b = some o) (hd : o.data = .fields vs) : a ≠ b := by
  intro q
  subst q
  obtain ⟨o2, e2, _, n2, d2⟩ := ht
  rw [hb] at e2
  cases e2
  rw [hd] at d2
  cases d2
theorem turnEt {P : Program} {w : World} {K : PySem.W.Frag} {elts : List Expr} {kk : Nat} {tpos : Pos} (a e it : Addr) :
    Turn P w K (.Tuple elts kk tpos) (Iet K a) [e, it] e (fun i h => (∃ old, IsEnum h e it ((i : Nat) : Int) old) ∧ h.IsTupleIter it a i ∧ e ≠ it) where
  mem := List.mem_cons_self
  obj := by
    rintro i h ⟨⟨old, he⟩, ⟨o, ho, hc, hd⟩, -⟩ b hb
    simp only [List.mem_cons, List.not_mem_nil, or_false] at hb
    rcases hb with rfl | rfl
    · exact ⟨_, he, fun v q => nomatch q⟩
    · exact ⟨o, ho, fun v q => by rw [hd] at q; cases q⟩
  keep := by
    rintro i h h' ⟨⟨old, he⟩, hi, hne⟩ k
    exact ⟨⟨old, k e (by simp) _ he⟩, hi.at fun o q => k it (by simp) o q, hne⟩
  item := by
    intro X hP hw hK hc i pins s σ H E I hf st hg
    subst hP hw hK
    obtain ⟨⟨old, he⟩, hit, hne⟩ := st
    obtain ⟨xs, x, hq, hx⟩ := hg
    obtain ⟨its, rv, p, hz⟩ := I.tuple hq
    have p : s.heap.IsTuple a its.toArray := p
    obtain ⟨u, hu, ru⟩ := rv.get hx
    obtain ⟨oi, hoi, _, hdi⟩ := id hit
    have hai : a ≠ it := tup_ne p hoi hdi
    have hae : a ≠ e := tup_ne p he rfl
    have hel : e < s.heap.objs.size := Heap.lt_size he
    have hil : it < s.heap.objs.size := Heap.lt_size hoi
    have hlt : i < its.toArray.size := by
      have := (List.getElem?_eq_some_iff.mp hu).1
      simpa using this
    refine wpAny_pyNext_enum_itemD (Draws.tuple (A := X.A.in1) (I.ok.hd hc) it a hai its.toArray) he ⟨hit, p⟩ hlt hne (by simp [hne, Ne.symm hae]) fun x' h' tk hx' ho hst' hT hsz hk => ?_
    have ex : x' = u := by
      have hu' : its.toArray[i]? = some u := by simpa using hu
      exact Option.some.inj (hx'.symm.trans hu')
    subst ex
    refine ⟨_, rfl, wpAny_letOwnedTupleGo_enum (s := { s with heap := h', toks := tk + 1 }) ho fun h'' he' sb => ?_⟩
    have hT2 : h''.get? s.heap.objs.size = some { cls := .type "tuple", data := .seq #[.int i tk, x'] } := (sb.2 _ (Nat.ne_of_gt hel)).trans hT
    have ok2 : ObjOk X.prog X.w (upd H s.heap.objs.size (.tup [.int (i : Nat), x])) h'' s.heap.objs.size (.tup [.int (i : Nat), x]) :=
      ⟨by show 2 ≤ sizeLine; decide, [.int i tk, x'], .cons ⟨_, rfl⟩ (.cons ru .nil), ⟨_, hT2, rfl, _, rfl⟩⟩
    have I1 : Inv X pins σ (upd H s.heap.objs.size (.tup [.int (i : Nat), x])) { s with heap := h'', toks := tk + 1 } :=
      I.turnedNew (ch := [e, it]) (fun b ob hb q => (sb.2 b (fun z => hb (by simp [z]))).trans (hk b ob (fun z => hb (by simp [z])) (fun z => hb (by simp [z])) q)) hf (Nat.le_refl _) ok2
    have e1 : ((i + 1 : Nat) : Int) = (i : Int) + 1 := by omega
    refine ⟨.ref s.heap.objs.size, _, I1, rfl, ⟨_, x, rfl, I.hok.fresh (Nat.le_refl _), rfl, fun ys hy => by rw [I.tuple_inj hy hq]; exact hx⟩, ⟨⟨x', by rw [e1]; exact he'⟩, hst'.1.at fun o q => (sb.2 it (Ne.symm hne)).trans q, hne⟩, fun b hb => ?_⟩
    have hb' : b < s.heap.objs.size := by
      simp only [List.mem_cons, List.not_mem_nil, or_false] at hb
      rcases hb with rfl | rfl
      · exact hel
      · exact hil
    rw [upd_ne (Nat.ne_of_lt hb')]
    exact (hf b hb).1
  done := by
    intro X hP hw hK hc i pins s σ H E I hf st hg
    subst hP hw hK
    obtain ⟨⟨old, he⟩, hit, hne⟩ := st
    obtain ⟨xs, hq, hx⟩ := hg
    obtain ⟨its, rv, p, hz⟩ := I.tuple hq
    have p : s.heap.IsTuple a its.toArray := p
    obtain ⟨oi, hoi, _, hdi⟩ := id hit
    obtain ⟨f0, f1, f2, f3, f4, f5⟩ := hf it (by simp)
    have hl := rv.length
    unfold pyNext
    have hT : s.TypeIs (.ref e) "enumerate" := ⟨_, he, rfl⟩
    refine wpAny_bind (wpAny_attempt (wpAny_callSpecial?_slot (name := Str.ofString "__next__") hT F.slot_enumerate_next
      (wpAny_call_entry F.slot_enumerate_next hT F.entry_enumerate_next ?_ (F.args_enumerate_next_1 _))))
    show wpAny _ _ (field (.ref e) 2 >>= _) _ _ _
    refine wpAny_bind (wpAny_field he rfl (x := .ref it) rfl ?_)
    refine wpAny_bind (wpAny_nextOf_tuple_end (I.ok.hd hc) hit p (by simp; omega) fun h' x he' hx' => ?_)
    obtain ⟨ox, hox, hcx⟩ := hx'
    refine wpAny_bind (wpAny_isInstance (T := "StopIteration") (b := true) ⟨ox, hox, hcx⟩ isSubtype_stop ?_)
    exact wpAny_pure ⟨rfl, I.turned (t' := s.toks) (fun b o hb q => he' b o hb q) f0 f1 f3 f4 f5⟩
  self := fun A i s Q E st h => let ⟨⟨_, he⟩, _⟩ := st; wpAny_pyIter_enum he h
section
variable {X : Cx} {W : WX} {e : Expr} {fa : AF} {p pos tpos : Pos} {elts : List Expr} {kk : Nat}
/-- the two, as the call's argument says -/
theorem piEn {ta : TA} (hg : Gl X "enumerate") (hm : X.mg "enumerate" = none) (ha : PA X [e] ta) (hs : starEach [e] X.env = [(false, eval e X.env)]) :
    PI X (.Tuple elts kk tpos) (.Call (.Name "enumerate" p) [e] [] pos) (fun σ H R => ta σ H fun vs H1 => ∃ a, vs = [.ref a] ∧ (((∃ xs, SqL X.K H1 a xs) ∧ R (Ite X.K a) H1) ∨ ((∃ xs, SqT X.K H1 a xs) ∧ R (Iet X.K a) H1))) := by
  refine ⟨fun pins s σ H R I h => ?_⟩
  refine Call_ (ld_blt I hg hm boot_enumerate (PyProof.Rows.callWith_type1 (thn (ha.run pos pins s σ H _ I h) fun us s1 ⟨vs, H1, I1, r1, q1⟩ => ?_) hs rfl))
  obtain ⟨a, ex, q⟩ := q1
  subst ex
  cases r1 with
  | cons r rr =>
    cases rr
    cases r
    have fpo : ∀ b ∈ [s1.heap.objs.size + 1, s1.heap.objs.size], FpOk X pins H1 b := fun b hb => by
      have hle : s1.heap.objs.size ≤ b := by
        simp only [List.mem_cons, List.not_mem_nil, or_false] at hb
        rcases hb with rfl | rfl
        · exact Nat.le_succ _
        · exact Nat.le_refl _
      exact I1.fpOk hle (I1.hok.fresh hle)
    rcases q with ⟨⟨xs, hq⟩, q⟩ | ⟨⟨xs, hq⟩, q⟩
    · obtain ⟨its, rv, p', hz⟩ := I1.list hq
      refine enumCall (begins_list a its.toArray) p'.isList fun h' he hit hk => wpAny_pyIter_enum he ?_
      have I2 : Inv X pins σ H1 { s1 with heap := h' } := I1.kept (t' := s1.toks) hk
      exact ⟨s1.heap.objs.size + 1, [s1.heap.objs.size + 1, s1.heap.objs.size], _, _, H1, rfl, I2, turn_enum a (s1.heap.objs.size + 1) s1.heap.objs.size, ⟨⟨.none, he⟩, ⟨_, hit, rfl, rfl⟩, Nat.succ_ne_self _⟩, fpo, q⟩
    · obtain ⟨its, rv, p', hz⟩ := I1.tuple hq
      refine enumCall (begins_tuple a its.toArray) p' fun h' he hit hk => wpAny_pyIter_enum he ?_
      have I2 : Inv X pins σ H1 { s1 with heap := h' } := I1.kept (t' := s1.toks) hk
      exact ⟨s1.heap.objs.size + 1, [s1.heap.objs.size + 1, s1.heap.objs.size], _, _, H1, rfl, I2, turnEt a (s1.heap.objs.size + 1) s1.heap.objs.size, ⟨⟨.none, he⟩, ⟨_, hit, rfl, rfl⟩, Nat.succ_ne_self _⟩, fpo, q⟩
end
def enumDs : Nat → List D → List D
  | _, [] => []
  | i, d :: ds => .tup [.int i, d] :: enumDs (i + 1) ds
theorem enumDs_get : ∀ (ds : List D) (k i : Nat), (enumDs k ds)[i]? = (ds[i]?).map fun d => .tup [.int (k + i : Nat), d]
  | [], k, i => by simp [enumDs]
  | d :: ds, k, 0 => rfl
  | d :: ds, k, i + 1 => by
    show (enumDs (k + 1) ds)[i]? = (ds[i]?).map _
    rw [enumDs_get ds (k + 1) i, Nat.add_right_comm k 1 i]
    rfl
@[simp] theorem enumDs_len : ∀ (ds : List D) (k : Nat), (enumDs k ds).length = ds.length
  | [], _ => rfl
  | d :: ds, k => congrArg (· + 1) (enumDs_len ds (k + 1))
/-- enumerate of a tuple, or of a list that nobody changes -/
def enW (d : D) (S : Sto) : R Wk := match tupOf d with
  | some ds => .ok ⟨enumDs 0 ds, none⟩ S
  | none => match d with
    | .lst ds => .ok ⟨enumDs 0 ds, none⟩ S
    | .frz ds => .ok ⟨enumDs 0 ds, none⟩ S
    | _ => .no
def iEnumD (fa : AF) : IF := fun ρ S => (fa ρ S).bind fun ds S1 => match ds with
  | [d] => enW d S1
  | _ => .no
theorem walksEt {K : PySem.W.Frag} {w : Wo} {H : Hp} {a : Addr} {ds : List D} {xs : List V} {S0 : Sto} (s0 : Sim K w S0 H) (h : SqT K H a xs) (r : RVs K w H ds xs) : Walks K w H ⟨enumDs 0 ds, none⟩ (Iet K a) := fun w1 H1 S e s _ => by
  have h1 := SqT.ext s0 e h
  have r1 := r.mono e
  refine ⟨fun i d hd => ?_, ⟨xs, h1, by rw [enumDs_len, r.length]; exact Nat.le_refl _⟩⟩
  rw [enumDs_get] at hd
  obtain ⟨d0, hd0, rfl⟩ := Option.map_eq_some_iff.mp hd
  obtain ⟨v, hv, rv⟩ := r1.get hd0
  refine ⟨⟨xs, v, h1, hv⟩, fun x H' hy => ?_⟩
  obtain ⟨T, y, rfl, hT, rfl, hy⟩ := hy
  have : y = v := Option.some.inj ((hy xs h1).symm.trans hv)
  subst this
  refine ⟨Ext.fresh hT, s.fresh hT, RV.newTup hT ?_⟩
  simp only [RVs]
  exact ⟨_, _, rfl, by simp only [RV, Nat.zero_add], _, _, rfl, rv, rfl⟩
theorem walksEl {K : PySem.W.Frag} {w : Wo} {H : Hp} {a : Addr} {ds : List D} {xs : List V} (h1 : ∀ w1 H1, Ext w H w1 H1 → SqL K H1 a xs) (r : RVs K w H ds xs) : Walks K w H ⟨enumDs 0 ds, none⟩ (Ite K a) := fun w1 H1 S e s _ => by
  have h1 := h1 w1 H1 e
  have r1 := r.mono e
  refine ⟨fun i d hd => ?_, ⟨xs, h1, by rw [enumDs_len, r.length]; exact Nat.le_refl _⟩⟩
  rw [enumDs_get] at hd
  obtain ⟨d0, hd0, rfl⟩ := Option.map_eq_some_iff.mp hd
  obtain ⟨v, hv, rv⟩ := r1.get hd0
  refine ⟨⟨xs, v, h1, hv⟩, fun x H' hy => ?_⟩
  obtain ⟨T, y, rfl, hT, rfl, hy⟩ := hy
  have : y = v := Option.some.inj ((hy xs h1).symm.trans hv)
  subst this
  refine ⟨Ext.fresh hT, s.fresh hT, RV.newTup hT ?_⟩
  simp only [RVs]
  exact ⟨_, _, rfl, by simp only [RV, Nat.zero_add], _, _, rfl, rv, rfl⟩
theorem I_enum {X : Cx} {W : WX} {e : Expr} {fa : AF} {p pos tpos : Pos} {elts : List Expr} {kk : Nat} (hm : X.mg "enumerate" = none) (ha : PA X [e] (tA X.K W fa)) (hg : Gl X "enumerate" := by rfl) (hs : starEach [e] X.env = [(false, eval e X.env)] := by rfl) :
    PI X (.Tuple elts kk tpos) (.Call (.Name "enumerate" p) [e] [] pos) (tI X.K W (iEnumD fa)) :=
  PI.weak (piEn hg hm ha hs) fun σ H R h => by
    obtain ⟨w, S, ρ, s, re, p⟩ := h
    refine ⟨w, S, ρ, s, re, p.bind fun w1 H1 vs ds S1 e1 s1 rd p1 => ?_⟩
    split at p1
    · rename_i d
      obtain ⟨v, rfl, rv⟩ := rd.one
      unfold enW at p1
      split at p1
      · rename_i es hd
        obtain ⟨a, xs, h1, h2, h3⟩ := tupOf_sq rv hd
        exact ⟨a, by rw [h1], .inr ⟨⟨xs, h2⟩, p1 w1 H1 _ .refl s1 (walksEt s1 h2 h3)⟩⟩
      · split at p1
        · simp only [RV] at rv
          obtain ⟨a, xs, h1, h2, h4, h3⟩ := rv
          exact ⟨a, by rw [h1], .inl ⟨⟨xs, SqL.of h2⟩, p1 w1 H1 _ .refl s1 (walksEl (fun w2 H2 e2 => .inl (e2.rd (.inl h2) h4.1)) h3)⟩⟩
        · simp only [RV] at rv
          obtain ⟨a, xs, h1, h2, h3⟩ := rv
          exact ⟨a, by rw [h1], .inl ⟨⟨xs, h2.sq⟩, p1 w1 H1 _ .refl s1 (walksEl (fun w2 H2 e2 => (h2.mono e2).sq) h3)⟩⟩
        · exact p1.elim
    · exact p1.elim
end Ev

namespace Ev
open PySem PySem.Spec PyProof.Rows L2
/-! ### own classes: instances in cells, their attributes -/
theorem ClsN.uniq {K : PySem.W.Frag} {c : Str} {C C' : Addr} (h : ClsN K c C) (h' : ClsN K c C') : C = C' := by
  unfold ClsN at h h'
  rw [h] at h'
  injection h' with h'
  injection h' with h'
  injection h' with h'
def lookD (f : Str) : List (Str × D) → Option D
  | [] => none
  | p :: ps => if f = p.1 then some p.2 else lookD f ps
def putD (f : Str) (d : D) : List (Str × D) → List (Str × D)
  | [] => [(f, d)]
  | p :: ps => if f = p.1 then (f, d) :: ps else p :: putD f d ps
section
variable {K : PySem.W.Frag} {w : Wo} {H : Hp}
theorem RP.nil_iff {κ : Type} {ps : List (κ × D)} {vs : List (κ × V)} (h : RP K w H ps vs) : ps = [] ↔ vs = [] := by
  obtain ⟨h1, _⟩ := h
  have := congrArg List.length h1
  simp only [List.length_map] at this
  constructor <;> rintro rfl <;> (simp at this; first | exact this | exact List.length_eq_zero_iff.mp this | exact List.length_eq_zero_iff.mp this.symm)
theorem RP.cons {κ : Type} {k : κ} {d : D} {ps : List (κ × D)} {vs : List (κ × V)} (h : RP K w H ((k, d) :: ps) vs) : ∃ v us, vs = (k, v) :: us ∧ RV K w H d v ∧ RP K w H ps us := by
  obtain ⟨h1, h2⟩ := h
  cases vs with
  | nil => cases h1
  | cons u us =>
    obtain ⟨k', v⟩ := u
    simp only [List.map_cons, List.cons.injEq] at h1
    simp only [List.map_cons, RVs] at h2
    obtain ⟨v', r, e, h3, h4⟩ := h2
    cases e
    exact ⟨v, us, by rw [h1.1], h3, h1.2, h4⟩
theorem RP.mk {κ : Type} {k : κ} {d : D} {v : V} {ps : List (κ × D)} {vs : List (κ × V)} (h1 : RV K w H d v) (h2 : RP K w H ps vs) : RP K w H ((k, d) :: ps) ((k, v) :: vs) := by
  refine ⟨by simp only [List.map_cons, h2.1], ?_⟩
  simp only [List.map_cons, RVs]
  exact ⟨_, _, rfl, h1, h2.2⟩
theorem RP.emp {κ : Type} : RP K w H ([] : List (κ × D)) [] := ⟨rfl, by simp only [List.map_nil, RVs]⟩
theorem RP.look {f : Str} : ∀ {ps : List (Str × D)} {vs : List (Str × V)} {d : D}, RP K w H ps vs → lookD f ps = some d → ∃ v, vs.lookup f = some v ∧ RV K w H d v
  | [], vs, d, h, e => by cases e
  | (k, x) :: ps, vs, d, h, e => by
    obtain ⟨v, us, rfl, h1, h2⟩ := h.cons
    simp only [lookD] at e
    by_cases q : f = k
    · rw [if_pos q] at e
      cases e
      exact ⟨v, by simp [List.lookup, q], h1⟩
    · rw [if_neg q] at e
      obtain ⟨v', g1, g2⟩ := RP.look h2 e
      exact ⟨v', by simp [List.lookup, beq_eq_false_iff_ne.mpr q, g1], g2⟩
theorem RP.lookN {f : Str} : ∀ {ps : List (Str × D)} {vs : List (Str × V)}, RP K w H ps vs → lookD f ps = none → vs.lookup f = none
  | [], vs, h, e => by rw [h.nil_iff.1 rfl]; rfl
  | (k, x) :: ps, vs, h, e => by
    obtain ⟨v, us, rfl, h1, h2⟩ := h.cons
    simp only [lookD] at e
    by_cases q : f = k
    · rw [if_pos q] at e; cases e
    · rw [if_neg q] at e
      simp [List.lookup, beq_eq_false_iff_ne.mpr q, RP.lookN h2 e]
theorem RP.put {f : Str} {d : D} {v : V} (hv : RV K w H d v) : ∀ {ps : List (Str × D)} {vs : List (Str × V)}, RP K w H ps vs → RP K w H (putD f d ps) (L2.putF f v vs)
  | [], vs, h => by
    rw [h.nil_iff.1 rfl]
    exact .mk hv .emp
  | (k, x) :: ps, vs, h => by
    obtain ⟨u, us, rfl, h1, h2⟩ := h.cons
    simp only [putD, L2.putF]
    by_cases q : f = k
    · subst q
      simp only [if_true, beq_self_eq_true]
      exact .mk hv h2
    · have q1 : ¬ k = f := fun z => q z.symm
      simp only [q, q1, if_false, beq_eq_false_iff_ne.mpr q, beq_eq_false_iff_ne.mpr q1, Bool.false_eq_true]
      exact .mk h1 (RP.put hv h2)
theorem RP.len {κ : Type} {ps : List (κ × D)} {vs : List (κ × V)} (h : RP K w H ps vs) : ps.length = vs.length := by
  have := congrArg List.length h.1
  simpa using this
theorem RP.wr {κ : Type} {S : Sto} {n : Nat} {a : Addr} {o : HO} {ps : List (κ × D)} {vs : List (κ × V)} (s : Sim K w S H) (hn : w.m[n]? = some a) (hf : Free H a) (r : RP K w H ps vs) : RP K w (upd H a o) ps vs := ⟨r.1, r.2.wr s hn hf⟩
end
/-- e.f of an instance of the class c -/
def eFld (c : Str) (fe : EF) (f : Str) : EF := fun ρ S => (fe ρ S).bind fun x S1 => match x with
  | .loc n => match S1[n]? with
    | some (.ins c' fs) => if c' = c then liftO (lookD f fs) S1 else .no
    | _ => .no
  | _ => .no
/-- e.f = value -/
def sFld (c : Str) (fo : EF) (f : Str) (fe : EF) : SF := fun ρ S => sB (fe ρ S) ρ fun d S1 => sB (fo ρ S1) ρ fun x S2 => match x with
  | .loc n => match S2[n]? with
    | some (.ins c' fs) => if c' = c ∧ fs.length < 1000 then .nx ρ (S2.set n (.ins c (putD f d fs))) else .no
    | _ => .no
  | _ => .no
/-- what is known of a class -/
structure CI (K : PySem.W.Frag) (c : Str) (C : Addr) : Prop where
  nm : ClsN K c C
  cl : Cls K C
section
variable {X : Cx} {W : WX} {pos pos' : Pos} {o e value : Expr} {fo fe : EF} {c f : Str} {C : Addr}
theorem E_fld (hc : CI X.K c C) (hn : NoAttr X.K C f) (he : PE X e (tE X.K W fe)) (hb : attributeBase e f X.env (eval e X.env) = eval e X.env := by rfl) : PE X (.Attribute e f pos) (tE X.K W (eFld c fe f)) :=
  PE.weak (pe_fld he hb) fun σ H Q h => by
    obtain ⟨w, S, ρ, s, re, p⟩ := h
    refine ⟨w, S, ρ, s, re, p.bind fun w1 H1 v d S1 e1 s1 rd p1 => ?_⟩
    split at p1
    · rename_i n
      split at p1
      · rename_i c' fs hn'
        split at p1
        · rename_i hcc
          subst hcc
          obtain ⟨a, rfl, h2, C', dx, vs, h3, h4, h5⟩ := s1.get hn' rd
          cases hc.nm.uniq h3
          cases hl : lookD f fs with
          | none => rw [hl] at p1; exact p1.elim
          | some d0 =>
            rw [hl] at p1
            obtain ⟨v, g1, g2⟩ := h5.look hl
            exact ⟨a, C, dx, vs, v, rfl, h4, hc.cl, hn, g1, p1 w1 H1 v .refl s1 g2⟩
        · exact p1.elim
      · exact p1.elim
    · exact p1.elim
theorem S_fld (hc : CI X.K c C) (hn : NoAttr X.K C f) (hv : PE X value (tE X.K W fe)) (ho : PE X o (tE X.K W fo)) (hs : swapsWith value (some (.Attribute o f pos')) pos.line X.env = pure false := by rfl) :
    PS X (.Assign [.Attribute o f pos'] value pos) (tS X.K W (sFld c fo f fe)) :=
  PS.weak (ps_fld ho hv hs) fun D σ H h => by
    obtain ⟨w, S, ρ, s, re, p⟩ := h
    refine ⟨w, S, ρ, s, re, p.bind re fun w1 H1 v d S1 e1 s1 rd p1 => ?_⟩
    refine ⟨w1, S1, ρ, s1, re.mono e1, p1.bind (re.mono e1) fun w2 H2 xv x S2 e2 s2 rx p2 => ?_⟩
    split at p2
    · rename_i n
      split at p2
      · rename_i c' fs hn'
        split at p2
        · rename_i hcc
          obtain ⟨hcc, hlen⟩ := hcc
          subst hcc
          obtain ⟨a, rfl, h2, C', dx, vs, h3, h4, h5⟩ := s2.get hn' rx
          cases hc.nm.uniq h3
          refine ⟨a, C, dx, vs, rfl, h4, hc.cl, hn, by rw [← h5.len]; exact hlen, ?_⟩
          have rd2 := rd.mono e2
          have cell : RC X.K w2 (upd H2 a (.ins C dx (L2.putF f v vs))) a (.ins c' (putD f d fs)) :=
            ⟨C, dx, L2.putF f v vs, hc.nm, upd_same, RP.wr s2 h2 (free_of h4 fun _ _ z => nomatch z) (RP.put rd2 h5)⟩
          refine p2 w2 _ σ (Ext.write s2 (List.mem_of_getElem? h2) (free_of h4 fun _ _ z => nomatch z)) (s2.write h2 (free_of h4 fun _ _ z => nomatch z) cell) ?_
          exact ((re.mono e1).mono e2).mono (Ext.write s2 (List.mem_of_getElem? h2) (free_of h4 fun _ _ z => nomatch z))
        · exact p2.elim
      · exact p2.elim
    · exact p2.elim
end
end Ev

namespace Ev
open PySem PySem.Spec PyProof.Rows L2
/-! ### methods, new instances -/
abbrev MethTree (X : Cx) (o : Expr) (m : Str) (apos pos : Pos) (es : List Expr) (pl : Sem Bool) : Prop :=
  eval (.Call (.Attribute o m apos) es [] pos) X.env = (do let ov ← eval o X.env; standAt apos.atName; let (f, first) ← holding [ov] (getMethod ov m pl); callWith pos f first (backTo pos (starEach es X.env)) (backToKw pos (keywordEach [] X.env)))
def tMethA (C : Addr) (m : Str) (sp : Sp) (E : St → XK) (ta : TE) (t : TA) : TE := fun σ H Q =>
  ta σ H fun x H1 => ∃ a dx fs, x = .ref a ∧ H1 a = some (.ins C dx fs) ∧ fs.lookup m = none ∧ t σ H1 fun vs H2 => sp (x :: vs) H2 Q (E σ)
def tMakeA (C : Addr) (sp : Sp) (E : St → XK) (t : TA) : TE := fun σ H Q =>
  t σ H fun vs H1 => ∀ x dx, H1 x = none → H1 dx = none → dx ≠ x → sp (.ref x :: vs) (upd (upd H1 dx (.own x)) x (.ins C dx [])) (fun v H2 => v = .non ∧ Q (.ref x) H2) (E σ)
section
variable {X : Cx} {CX : CXT} {k : Nat} {f C : Addr} {fd : FuncData} {ps : List Str} {sp : Sp} {E : St → XK} {x m : Str} {p pos apos : Pos} {e o : Expr} {es : List Expr} {ta : TE} {t : TA}
theorem pe_methA {pl : Sem Bool} (G : FnOk X.prog X.w X.K X.mg X.base CX k f fd ps sp) (rm : Room k X.A) (bd : Binds X.K fd ps []) (thru : ∀ σ, PassesAt CX X σ (E σ)) (hc : Cls X.K C) (hm : Meth X.K C m f) (ho : PE X o ta) (ha : PA X (e :: es) t)
    (st : starEach (e :: es) X.env = (false, eval e X.env) :: starEach es X.env := by rfl) (nst : (backTo pos (starEach es X.env)).any (·.1) = false := by rfl) (tree : MethTree X o m apos pos (e :: es) pl := by rfl) :
    PE X (.Call (.Attribute o m apos) (e :: es) [] pos) (tMethA C m sp E ta t) := by
  constructor
  intro pins s σ H Q I h
  refine PySem.W.methodCall_KW (pl := pl) (thn (ho.run pins s σ H _ I h) ?_) tree
  rintro u s1 ⟨xv, H1, I1, rx, a, dx, fs, rfl, ea, l, q⟩
  cases (show u = Value.ref a from rx)
  refine getmeth_ok I1 ea hc hm l ?_
  refine PySem.W.callWith_K (first := [.ref a]) (h₀ := X.base) I.ok.mod.kin hm.kp (thn (ha.run pos pins s1 σ H1 _ I1 q) ?_) st nst
  rintro us s2 ⟨vs, H2, I2, r, q2⟩
  exact ⟨I2.kIn, run_fnS (us := .ref a :: us) (vs := .ref a :: vs) G rm bd (thru σ) I2 (.cons rfl r) q2⟩
theorem pe_methA0 {pl : Sem Bool} (G : FnOk X.prog X.w X.K X.mg X.base CX k f fd ps sp) (rm : Room k X.A) (bd : Binds X.K fd ps []) (thru : ∀ σ, PassesAt CX X σ (E σ)) (hc : Cls X.K C) (hm : Meth X.K C m f) (ho : PE X o ta)
    (tree : MethTree X o m apos pos [] pl := by rfl) : PE X (.Call (.Attribute o m apos) [] [] pos) (tMethA C m sp E ta tNil) := by
  constructor
  intro pins s σ H Q I h
  refine PySem.W.methodCall_KW (pl := pl) (thn (ho.run pins s σ H _ I h) ?_) tree
  rintro u s1 ⟨xv, H1, I1, rx, a, dx, fs, rfl, ea, l, q⟩
  cases (show u = Value.ref a from rx)
  refine getmeth_ok I1 ea hc hm l ?_
  exact PySem.W.callWith_K0 (first := [.ref a]) I1.kIn hm.kp (run_fnS (us := [.ref a]) (vs := [.ref a]) G rm bd (thru σ) I1 (.cons rfl .nil) q)
theorem run_makeA {pins : List (Addr × Obj)} {σ : St} {H : Hp} {s : Shared} {Q : VK} {us : List Value} {vs : List V} (M : Mk X.K C f) (G : FnOk X.prog X.w X.K X.mg X.base CX k f fd ps sp) (rm : Room (k + 1) X.A) (bd : Binds X.K fd ps [])
    (thru : PassesAt CX X σ (E σ)) (I : Inv X pins σ H s) (r : Vals vs us)
    (h : ∀ x dx, H x = none → H dx = none → dx ≠ x → sp (.ref x :: vs) (upd (upd H dx (.own x)) x (.ins C dx [])) (fun v H2 => v = .non ∧ Q (.ref x) H2) (E σ)) : wpAny (model X.prog X.w) X.A (call (.ref C) us) (EP X pins σ Q) X.xe s := by
  have n1 : s.heap.objs.size ≠ s.heap.objs.size + 1 := Nat.ne_of_lt (Nat.lt_succ_self _)
  have q0 := h (s.heap.objs.size + 1) s.heap.objs.size (I.hok.fresh (Nat.le_succ _)) (I.hok.fresh (Nat.le_refl _)) n1
  have J := Inv.made (C := C) I
  have r1 : Vals (V.ref (s.heap.objs.size + 1) :: vs) (Value.ref (s.heap.objs.size + 1) :: us) := .cons rfl r
  have len : (Value.ref (s.heap.objs.size + 1) :: us).length = ps.length := by rw [← r1.length]; exact G.len _ _ _ _ q0
  have bs := bd _ (Value.ref (s.heap.objs.size + 1) :: us) J.kIn (by rw [List.append_nil]; exact len)
  rw [List.append_nil] at bs
  have body := G.run _ X.stack _ _ ⟨Value.ref (s.heap.objs.size + 1) :: us, []⟩ _ _ _ (E σ) (rm.make C us []) (J.env0.make C us []) bs r1 q0
  refine wpAny_call (make_map (f := f) I.kIn M.makes M.init (beq_iff_eq.mp M.fn) (codeAny_mono body ?_))
  intro res s' hres
  cases res with
  | error e => exact thru pins _ _ e s' J hres
  | ok fl =>
    cases fl with
    | ret u =>
      obtain ⟨v, H', I3, rv, rfl, q3⟩ := J.after hres
      exact ⟨rv, V.ref (s.heap.objs.size + 1), H', I3, rfl, q3⟩
    | next => exact hres.elim
    | brk => exact hres.elim
    | cont => exact hres.elim
theorem pe_makeA (M : Mk X.K C f) (G : FnOk X.prog X.w X.K X.mg X.base CX k f fd ps sp) (rm : Room (k + 1) X.A) (hg : Gl X x) (hx : X.mg x = some (.ref C)) (bd : Binds X.K fd ps []) (thru : ∀ σ, PassesAt CX X σ (E σ)) (ha : PA X (e :: es) t)
    (db : (x == ("__debug__" : Str)) = false := by decide) (st : starEach (e :: es) X.env = (false, eval e X.env) :: starEach es X.env := by rfl) (nst : (backTo pos (starEach es X.env)).any (·.1) = false := by rfl) :
    PE X (.Call (.Name x p) (e :: es) [] pos) (tMakeA C sp E t) := by
  constructor
  intro pins s σ H Q I h
  refine wpAny_Call_Name_kw (ld_glob I hg hx ?_ db)
  refine PySem.W.callWith_K (h₀ := X.base) I.ok.mod.kin M.kp (thn (ha.run pos pins s σ H _ I h) ?_) st nst
  rintro us s1 ⟨vs, H1, I1, r, q⟩
  exact ⟨I1.kIn, run_makeA M G rm bd (thru σ) I1 r q⟩
theorem pe_makeA0 (M : Mk X.K C f) (G : FnOk X.prog X.w X.K X.mg X.base CX k f fd ps sp) (rm : Room (k + 1) X.A) (hg : Gl X x) (hx : X.mg x = some (.ref C)) (bd : Binds X.K fd ps []) (thru : ∀ σ, PassesAt CX X σ (E σ))
    (db : (x == ("__debug__" : Str)) = false := by decide) : PE X (.Call (.Name x p) [] [] pos) (tMakeA C sp E tNil) := by
  constructor
  intro pins s σ H Q I h
  refine wpAny_Call_Name_kw (ld_glob I hg hx ?_ db)
  exact PySem.W.callWith_K0 I.kIn M.kp (run_makeA (us := []) M G rm bd (thru σ) I .nil h)
end
/-- a method that can be called on an instance of the class c -/
structure CalM (P : Program) (w : World) (K : PySem.W.Frag) (mg : Str → Option Value) (base : Heap) (CX : CXT) (k : Nat) (c m : Str) (n : Nat) (F : List D → Sto → R D) : Prop where
  ex : ∃ C f fd ps, CI K c C ∧ Meth K C m f ∧ FnOk P w K mg base CX k f fd ps (spOf K n F) ∧ Binds K fd ps []
/-- a class that can be made -/
structure CalC (P : Program) (w : World) (K : PySem.W.Frag) (mg : Str → Option Value) (base : Heap) (CX : CXT) (k : Nat) (c : Str) (n : Nat) (F : List D → Sto → R D) : Prop where
  ex : ∃ C f fd ps, CI K c C ∧ Mk K C f ∧ mg c = some (.ref C) ∧ FnOk P w K mg base CX k f fd ps (spOf K n F) ∧ Binds K fd ps []
def eMeth (c m : Str) (n : Nat) (F : List D → Sto → R D) (fo : EF) (fa : AF) : EF := fun ρ S => (fo ρ S).bind fun x S1 => match x with
  | .loc i => match S1[i]? with
    | some (.ins c' fs) => if c' = c ∧ lookD m fs = none then (fa ρ S1).bind fun ds S2 => if ds.length + 1 = n then F (.loc i :: ds) S2 else .no else .no
    | _ => .no
  | _ => .no
def asNew (i : Nat) (x : D) (S : Sto) : R D := match x with
  | .non => .ok (.loc i) S
  | _ => .no
def eMake (c : Str) (n : Nat) (F : List D → Sto → R D) (fa : AF) : EF := fun ρ S => (fa ρ S).bind fun ds S1 => if ds.length + 1 = n then (F (.loc S1.length :: ds) (S1 ++ [.ins c []])).bind (asNew S1.length) else .no
section
variable {X : Cx} {W : WX} {CXc : CXT} {x c m : Str} {p pos apos : Pos} {e o : Expr} {es : List Expr} {fa : AF} {fo : EF} {k j n : Nat} {F : List D → Sto → R D}
theorem tMeth_of {C : Addr} {σ : St} {H : Hp} {Q : VK} (hc : CI X.K c C) (h : tE X.K W (eMeth c m n F fo fa) σ H Q) : tMethA C m (spOf X.K n F) (WE W) (tE X.K W fo) (tA X.K W fa) σ H Q := by
  obtain ⟨w, S, ρ, s, re, p⟩ := h
  refine ⟨w, S, ρ, s, re, p.bind fun w1 H1 xv x S1 e1 s1 rx p1 => ?_⟩
  split at p1
  · rename_i i
    split at p1
    · rename_i c' fs hi
      split at p1
      · rename_i hcc
        obtain ⟨hcc, hl⟩ := hcc
        subst hcc
        obtain ⟨a, rfl, h2, C', dx, vs, h3, h4, h5⟩ := s1.get hi rx
        cases hc.nm.uniq h3
        refine ⟨a, dx, vs, rfl, h4, h5.lookN hl, w1, S1, ρ, s1, re.mono e1, p1.bind fun w2 H2 us ds S2 e2 s2 rd p2 => ?_⟩
        split at p2
        · rename_i hn
          refine ⟨w2, S2, .loc i :: ds, by rw [List.length_cons, ← rd.length, hn], s2, ?_, p2.toE⟩
          simp only [RVs]
          exact ⟨_, _, rfl, rx.mono e2, rd⟩
        · exact p2.elim
      · exact p1.elim
    · exact p1.elim
  · exact p1.elim
theorem E_meth {pl : Sem Bool} (cm : CalM X.prog X.w X.K X.mg X.base CXc k c m n F) (rm : Room j X.A) (thru : ∀ σ, PassesAt CXc X σ (WE W σ)) (ho : PE X o (tE X.K W fo)) (ha : PA X (e :: es) (tA X.K W fa)) (hk : k ≤ j := by first | decide | omega)
    (st : starEach (e :: es) X.env = (false, eval e X.env) :: starEach es X.env := by rfl) (nst : (backTo pos (starEach es X.env)).any (·.1) = false := by rfl) (tree : MethTree X o m apos pos (e :: es) pl := by rfl) :
    PE X (.Call (.Attribute o m apos) (e :: es) [] pos) (tE X.K W (eMeth c m n F fo fa)) := by
  obtain ⟨C, f, fd, ps, hc, hm, G, bd⟩ := cm.ex
  exact PE.weak (pe_methA G (rm.mono hk) bd thru hc.cl hm ho ha st nst tree) fun σ H Q h => tMeth_of hc h
theorem E_meth0 {pl : Sem Bool} (cm : CalM X.prog X.w X.K X.mg X.base CXc k c m n F) (rm : Room j X.A) (thru : ∀ σ, PassesAt CXc X σ (WE W σ)) (ho : PE X o (tE X.K W fo)) (hk : k ≤ j := by first | decide | omega)
    (tree : MethTree X o m apos pos [] pl := by rfl) : PE X (.Call (.Attribute o m apos) [] [] pos) (tE X.K W (eMeth c m n F fo aNil)) := by
  obtain ⟨C, f, fd, ps, hc, hm, G, bd⟩ := cm.ex
  refine PE.weak (pe_methA0 G (rm.mono hk) bd thru hc.cl hm ho tree) fun σ H Q h => ?_
  obtain ⟨w, S, ρ, s, re, p⟩ := tMeth_of hc h
  refine ⟨w, S, ρ, s, re, p.imp fun b H1 hb => ?_⟩
  obtain ⟨a, dx, fs, h1, h2, h3, w1, S1, ρ1, s1, re1, p1⟩ := hb
  exact ⟨a, dx, fs, h1, h2, h3, p1 w1 H1 [] .refl s1 (by simp only [RVs])⟩
theorem tMake_of {C : Addr} {σ : St} {H : Hp} {Q : VK} (hc : CI X.K c C) (h : tE X.K W (eMake c n F fa) σ H Q) : tMakeA C (spOf X.K n F) (WE W) (tA X.K W fa) σ H Q := by
  obtain ⟨w, S, ρ, s, re, p⟩ := h
  refine ⟨w, S, ρ, s, re, p.bind fun w1 H1 vs ds S1 e1 s1 rd p1 => ?_⟩
  split at p1
  · rename_i hn
    intro x dx hx hdx hne
    have hx2 : upd H1 dx (.own x) x = none := by rw [upd_ne (Ne.symm hne)]; exact hx
    have ea : Ext w1 H1 w1 (upd H1 dx (.own x)) := Ext.fresh hdx
    have sa : Sim X.K w1 S1 (upd H1 dx (.own x)) := s1.fresh hdx
    have eb : Ext w1 (upd H1 dx (.own x)) (w1.add x) (upd (upd H1 dx (.own x)) x (.ins C dx [])) := Ext.alloc hx2
    have sb : Sim X.K (w1.add x) (S1 ++ [.ins c []]) (upd (upd H1 dx (.own x)) x (.ins C dx [])) := sa.alloc hx2 ⟨C, dx, [], hc.nm, upd_same, .emp⟩
    have e2 := ea.trans eb
    have rl : RV X.K (w1.add x) (upd (upd H1 dx (.own x)) x (.ins C dx [])) (.loc S1.length) (.ref x) := RV.newLoc s1.len
    refine ⟨w1.add x, S1 ++ [.ins c []], .loc S1.length :: ds, by rw [List.length_cons, ← rd.length, hn], sb, ?_, ?_⟩
    · simp only [RVs]
      exact ⟨_, _, rfl, rl, rd.mono e2⟩
    · have p2 := (p1.shift e2).toE (σ' := [])
      refine PostG.bind p2 fun w3 H3 b a S3 e3 s3 ra p3 => ?_
      cases a with
      | non =>
        simp only [RV] at ra
        exact ⟨ra, p3 w3 H3 _ .refl s3 (rl.mono e3)⟩
      | _ => exact p3.elim
  · exact p1.elim
theorem E_make (cc : CalC X.prog X.w X.K X.mg X.base CXc k c n F) (rm : Room j X.A) (thru : ∀ σ, PassesAt CXc X σ (WE W σ)) (ha : PA X (e :: es) (tA X.K W fa)) (hk : k + 1 ≤ j := by first | decide | omega) (hg : Gl X c := by rfl)
    (db : (c == ("__debug__" : Str)) = false := by decide) (st : starEach (e :: es) X.env = (false, eval e X.env) :: starEach es X.env := by rfl) (nst : (backTo pos (starEach es X.env)).any (·.1) = false := by rfl) :
    PE X (.Call (.Name c p) (e :: es) [] pos) (tE X.K W (eMake c n F fa)) := by
  obtain ⟨C, f, fd, ps, hc, M, hx, G, bd⟩ := cc.ex
  exact PE.weak (pe_makeA M G (rm.mono hk) hg hx bd thru ha db st nst) fun σ H Q h => tMake_of hc h
theorem E_make0 (cc : CalC X.prog X.w X.K X.mg X.base CXc k c n F) (rm : Room j X.A) (thru : ∀ σ, PassesAt CXc X σ (WE W σ)) (hk : k + 1 ≤ j := by first | decide | omega) (hg : Gl X c := by rfl)
    (db : (c == ("__debug__" : Str)) = false := by decide) : PE X (.Call (.Name c p) [] [] pos) (tE X.K W (eMake c n F aNil)) := by
  obtain ⟨C, f, fd, ps, hc, M, hx, G, bd⟩ := cc.ex
  refine PE.weak (pe_makeA0 M G (rm.mono hk) hg hx bd thru db) fun σ H Q h => ?_
  obtain ⟨w, S, ρ, s, re, p⟩ := tMake_of hc h
  exact p w H [] .refl s (by simp only [RVs])
end
end Ev

namespace Ev
open PySem PySem.Spec PyProof.Rows L2
/-! ### dicts: keys ints and texts, or tuples of them -/
section
variable {κ : Type} [DecidableEq κ]
def valD (k : κ) : List (κ × D) → Option D
  | [] => none
  | p :: ps => if p.1 = k then some p.2 else valD k ps
def hasD (k : κ) : List (κ × D) → Bool
  | [] => false
  | p :: ps => decide (p.1 = k) || hasD k ps
def setD (k : κ) (d : D) : List (κ × D) → List (κ × D)
  | [] => []
  | p :: ps => (if p.1 = k then (p.1, d) else p) :: setD k d ps
def insD (k : κ) (d : D) (ps : List (κ × D)) : List (κ × D) := if hasD k ps = true then setD k d ps else ps ++ [(k, d)]
variable {K : PySem.W.Frag} {w : Wo} {H : Hp}
theorem RP.val {k : κ} : ∀ {ps : List (κ × D)} {vs : List (κ × V)}, RP K w H ps vs → (∀ d, valD k ps = some d → ∃ v, valV vs k = some v ∧ RV K w H d v) ∧ (valD k ps = none → valV vs k = none)
  | [], vs, h => by
    rw [h.nil_iff.1 rfl]
    exact ⟨fun d z => (by cases z), fun _ => rfl⟩
  | (k0, x) :: ps, vs, h => by
    obtain ⟨v, us, rfl, h1, h2⟩ := h.cons
    obtain ⟨i1, i2⟩ := RP.val (k := k) h2
    by_cases q : k0 = k
    · refine ⟨fun d z => ?_, fun z => ?_⟩
      · simp only [valD, q, if_true] at z
        cases z
        exact ⟨v, valV_pos (p := (k0, v)) q, h1⟩
      · simp only [valD, q, if_true] at z
        cases z
    · refine ⟨fun d z => ?_, fun z => ?_⟩
      · simp only [valD, q, if_false] at z
        obtain ⟨v', g1, g2⟩ := i1 d z
        exact ⟨v', (valV_neg (p := (k0, v)) q).trans g1, g2⟩
      · simp only [valD, q, if_false] at z
        exact (valV_neg (p := (k0, v)) q).trans (i2 z)
theorem RP.has {k : κ} : ∀ {ps : List (κ × D)} {vs : List (κ × V)}, RP K w H ps vs → hasD k ps = vs.any fun kv => decide (kv.1 = k)
  | [], vs, h => by rw [h.nil_iff.1 rfl]; rfl
  | (k0, x) :: ps, vs, h => by
    obtain ⟨v, us, rfl, h1, h2⟩ := h.cons
    simp only [hasD, List.any_cons, RP.has h2]
theorem RP.set {k : κ} {d : D} {v : V} (hv : RV K w H d v) : ∀ {ps : List (κ × D)} {vs : List (κ × V)}, RP K w H ps vs → RP K w H (setD k d ps) (vs.map fun kv => if kv.1 = k then (kv.1, v) else kv)
  | [], vs, h => by rw [h.nil_iff.1 rfl]; exact .emp
  | (k0, x) :: ps, vs, h => by
    obtain ⟨u, us, rfl, h1, h2⟩ := h.cons
    simp only [setD, List.map_cons]
    by_cases q : k0 = k
    · simp only [q, if_true]
      exact .mk hv (RP.set hv h2)
    · simp only [q, if_false]
      exact .mk h1 (RP.set hv h2)
theorem RP.snoc {k : κ} {d : D} {v : V} (hv : RV K w H d v) : ∀ {ps : List (κ × D)} {vs : List (κ × V)}, RP K w H ps vs → RP K w H (ps ++ [(k, d)]) (vs ++ [(k, v)])
  | [], vs, h => by rw [h.nil_iff.1 rfl]; exact .mk hv .emp
  | (k0, x) :: ps, vs, h => by
    obtain ⟨u, us, rfl, h1, h2⟩ := h.cons
    exact .mk h1 (RP.snoc hv h2)
theorem RP.ins {k : κ} {d : D} {v : V} {ps : List (κ × D)} {vs : List (κ × V)} (hv : RV K w H d v) (h : RP K w H ps vs) : RP K w H (insD k d ps) (L2.putK vs k v) := by
  unfold insD L2.putK
  rw [h.has (k := k)]
  split
  · exact h.set hv
  · exact h.snoc hv
end
/-- a tuple of ints and texts, as a key -/
def key1 : D → Option Key
  | .int i => some (.inl i)
  | .str x => some (.inr x)
  | _ => none
def keysOf : List D → Option (List Key)
  | [] => some []
  | d :: ds => match key1 d, keysOf ds with
    | some k, some ks => some (k :: ks)
    | _, _ => none
def keyT : D → Option (List Key)
  | .tup ds => keysOf ds
  | _ => none
section
variable {K : PySem.W.Frag} {w : Wo} {H : Hp}
theorem key1_v {d : D} {k : Key} {v : V} (h : key1 d = some k) (r : RV K w H d v) : v = kV k := by
  cases d with
  | int i => simp only [RV] at r; cases h; exact r
  | str x => simp only [RV] at r; cases h; exact r
  | _ => cases h
theorem keysOf_v : ∀ {ds : List D} {ks : List Key} {vs : List V}, keysOf ds = some ks → RVs K w H ds vs → vs = ks.map kV
  | [], ks, vs, h, r => by
    cases h
    simp only [RVs] at r
    exact r
  | d :: ds, ks, vs, h, r => by
    simp only [RVs] at r
    obtain ⟨v, us, rfl, r1, r2⟩ := r
    simp only [keysOf] at h
    split at h
    · rename_i k0 ks0 e1 e2
      cases h
      rw [key1_v e1 r1, keysOf_v e2 r2]
      rfl
    · cases h
theorem keyT_v {d : D} {ks : List Key} {v : V} (h : keyT d = some ks) (r : RV K w H d v) : ∃ b, v = .ref b ∧ H b = some (.tup (ks.map kV)) := by
  cases d with
  | tup ds =>
    simp only [RV] at r
    obtain ⟨b, xs, rfl, h1, h2⟩ := r
    exact ⟨b, rfl, by rw [h1, keysOf_v (show keysOf ds = some ks from h) h2]⟩
  | _ => cases h
/-- the cell of a dict, what it holds at a key -/
def dGet (S : Sto) (x y : D) : Option (Option D) := match x with
  | .loc n => match S[n]? with
    | some (.dT kvs) => (keyT y).map fun k => valD k kvs
    | some (.fT kvs) => (keyT y).map fun k => valD k kvs
    | some (.dK kvs) => (key1 y).map fun k => valD k kvs
    | _ => none
  | _ => none
def dPut (S : Sto) (x y d : D) : Option Sto := match x with
  | .loc n => match S[n]? with
    | some (.dT kvs) => (keyT y).bind fun k => if kvs.length < sizeLine then some (S.set n (.dT (insD k d kvs))) else none
    | some (.dK kvs) => (key1 y).bind fun k => if kvs.length < sizeLine then some (S.set n (.dK (insD k d kvs))) else none
    | _ => none
  | _ => none
theorem dGet_of {S : Sto} {x y : D} {xv yv : V} {r : Option D} (s : Sim K w S H) (rx : RV K w H x xv) (ry : RV K w H y yv) (h : dGet S x y = some r) :
    ∃ a o, xv = .ref a ∧ DGet H a yv o ∧ IsD H a ∧ (∀ d, r = some d → ∃ v, o = some v ∧ RV K w H d v) ∧ (r = none → o = none) := by
  unfold dGet at h
  split at h
  · rename_i n
    split at h
    · rename_i kvs hn
      obtain ⟨k, hk, rfl⟩ := Option.map_eq_some_iff.mp h
      obtain ⟨a, rfl, h2, vs, h3, h4⟩ := s.get hn rx
      obtain ⟨b, rfl, hb⟩ := keyT_v hk ry
      obtain ⟨g1, g2⟩ := h4.val (k := k)
      exact ⟨a, valV vs k, rfl, DGet.t h3 hb, .inr ⟨vs, .inl h3⟩, g1, g2⟩
    · rename_i kvs hn
      obtain ⟨k, hk, rfl⟩ := Option.map_eq_some_iff.mp h
      obtain ⟨a, rfl, h2, od, vs, h3, h4⟩ := s.get hn rx
      obtain ⟨b, rfl, hb⟩ := keyT_v hk ry
      obtain ⟨g1, g2⟩ := h4.val (k := k)
      exact ⟨a, valV vs k, rfl, .inr ⟨vs, k, b, .inr ⟨od, h3⟩, rfl, hb, rfl⟩, .inr ⟨vs, .inr ⟨od, h3⟩⟩, g1, g2⟩
    · rename_i kvs hn
      obtain ⟨k, hk, rfl⟩ := Option.map_eq_some_iff.mp h
      obtain ⟨a, rfl, h2, vs, h3, h4⟩ := s.get hn rx
      cases key1_v hk ry
      obtain ⟨g1, g2⟩ := h4.val (k := k)
      exact ⟨a, valV vs k, rfl, DGet.k h3, .inl ⟨vs, .inl h3⟩, g1, g2⟩
    · cases h
  · cases h
theorem dPut_of {S S' : Sto} {x y d : D} {xv yv v : V} (s : Sim K w S H) (rx : RV K w H x xv) (ry : RV K w H y yv) (rd : RV K w H d v) (h : dPut S x y d = some S') :
    ∃ a H', xv = .ref a ∧ DPut H a yv v H' ∧ Ext w H w H' ∧ Sim K w S' H' := by
  unfold dPut at h
  split at h
  · rename_i n
    split at h
    · rename_i kvs hn
      obtain ⟨k, hk, h⟩ := Option.bind_eq_some_iff.mp h
      split at h
      · rename_i hl
        cases h
        obtain ⟨a, rfl, h2, vs, h3, h4⟩ := s.get hn rx
        obtain ⟨b, rfl, hb⟩ := keyT_v hk ry
        exact ⟨a, _, rfl, DPut.t h3 hb (by rw [← h4.len]; exact hl), Ext.write s (List.mem_of_getElem? h2) (free_of h3 fun _ _ z => nomatch z), s.write h2 (free_of h3 fun _ _ z => nomatch z) ⟨_, upd_same, (h4.ins rd).wr s h2 (free_of h3 fun _ _ z => nomatch z)⟩⟩
      · cases h
    · rename_i kvs hn
      obtain ⟨k, hk, h⟩ := Option.bind_eq_some_iff.mp h
      split at h
      · rename_i hl
        cases h
        obtain ⟨a, rfl, h2, vs, h3, h4⟩ := s.get hn rx
        cases key1_v hk ry
        exact ⟨a, _, rfl, DPut.k h3 (by rw [← h4.len]; exact hl), Ext.write s (List.mem_of_getElem? h2) (free_of h3 fun _ _ z => nomatch z), s.write h2 (free_of h3 fun _ _ z => nomatch z) ⟨_, upd_same, (h4.ins rd).wr s h2 (free_of h3 fun _ _ z => nomatch z)⟩⟩
      · cases h
    · cases h
  · cases h
end
def eDNew (t : Bool) : EF := fun _ S => .ok (.loc S.length) (S ++ [if t then .dT [] else .dK []])
def eDGet (fd fk : EF) : EF := fun ρ S => (fd ρ S).bind fun x S1 => (fk ρ S1).bind fun y S2 => match dGet S2 x y with
  | some (some d) => .ok d S2
  | _ => .no
def isDct (S : Sto) (x : D) : Bool := match x with
  | .loc n => match S[n]? with
    | some (.dT _) => true
    | some (.dK _) => true
    | _ => false
  | _ => false
/-- d.get(k, z) -/
def eDGet2 (fd fk fz : EF) : EF := fun ρ S => (fd ρ S).bind fun x S1 => if isDct S1 x = true then (fk ρ S1).bind fun y S2 => (fz ρ S2).bind fun z S3 => match dGet S3 x y with
  | some r => .ok (r.getD z) S3
  | none => .no
  else .no
def bDIn (neg : Bool) (fk fd : EF) : BF := fun ρ S => (fk ρ S).bind fun y S1 => (fd ρ S1).bind fun x S2 => match dGet S2 x y with
  | some r => .ok (if neg then !r.isSome else r.isSome) S2
  | none => .no
def sDPut (fd fk fe : EF) : SF := fun ρ S => sB (fe ρ S) ρ fun d S1 => sB (fd ρ S1) ρ fun x S2 => sB (fk ρ S2) ρ fun y S3 => match dPut S3 x y d with
  | some S4 => .nx ρ S4
  | none => .no
theorem isDct_of {K : PySem.W.Frag} {w : Wo} {H : Hp} {S : Sto} {x : D} {v : V} (s : Sim K w S H) (rx : RV K w H x v) (h : isDct S x = true) : ∃ a, v = .ref a ∧ IsD H a := by
  unfold isDct at h
  split at h
  · split at h
    · rename_i n kvs hn
      obtain ⟨a, rfl, h2, vs, h3, h4⟩ := s.get hn rx
      exact ⟨a, rfl, .inr ⟨vs, .inl h3⟩⟩
    · rename_i n kvs hn
      obtain ⟨a, rfl, h2, vs, h3, h4⟩ := s.get hn rx
      exact ⟨a, rfl, .inl ⟨vs, .inl h3⟩⟩
    · cases h
  · cases h
section
variable {X : Cx} {W : WX} {k : Nat} {pos pos' apos : Pos} {o i e z : Expr} {fd fk fe fz : EF}
theorem E_dnewT : PE X (.Dict [] [] pos) (tE X.K W (eDNew true)) :=
  PE.weak pe_dnewT fun σ H Q h => by
    obtain ⟨w, S, ρ, s, re, p⟩ := h
    intro q hq
    exact p (w.add q) _ _ (Ext.alloc hq) (s.alloc hq ⟨[], upd_same, .emp⟩) (RV.newLoc s.len)
theorem E_dnewK : PE X (.Dict [] [] pos) (tE X.K W (eDNew false)) :=
  PE.weak pe_dnewK fun σ H Q h => by
    obtain ⟨w, S, ρ, s, re, p⟩ := h
    intro q hq
    exact p (w.add q) _ _ (Ext.alloc hq) (s.alloc hq ⟨[], upd_same, .emp⟩) (RV.newLoc s.len)
theorem E_dget (c : Ctx X k) (ho : PE X o (tE X.K W fd)) (hi : PE X i (tE X.K W fk)) (hs : NoSl i := by exact fun _ _ => rfl) : PE X (.Subscript o i pos) (tE X.K W (eDGet fd fk)) :=
  PE.weak (pe_dget (by have := c.hu; omega) ho hi hs) fun σ H Q h => by
    obtain ⟨w, S, ρ, s, re, p⟩ := h
    refine ⟨w, S, ρ, s, re, p.bind fun w1 H1 xv x S1 e1 s1 rx p1 => ?_⟩
    refine ⟨w1, S1, ρ, s1, re.mono e1, p1.bind fun w2 H2 yv y S2 e2 s2 ry p2 => ?_⟩
    split at p2
    · rename_i d hd
      obtain ⟨a, ov, rfl, g, _, h1, _⟩ := dGet_of s2 (rx.mono e2) ry hd
      obtain ⟨v, rfl, rv⟩ := h1 d rfl
      exact ⟨a, v, rfl, g, p2 w2 H2 v .refl s2 rv⟩
    · exact p2.elim
theorem E_dget2 (c : Ctx X k) (ho : PE X o (tE X.K W fd)) (hi : PE X i (tE X.K W fk)) (hz : PE X z (tE X.K W fz)) (m : M2 X o "get" apos i z pos := by exact ⟨rfl, rfl, rfl, rfl⟩) : PE X (.Call (.Attribute o "get" apos) [i, z] [] pos) (tE X.K W (eDGet2 fd fk fz)) :=
  PE.weak (pe_dget2 (by have := c.hu; omega) ho hi hz m) fun σ H Q h => by
    obtain ⟨w, S, ρ, s, re, p⟩ := h
    refine ⟨w, S, ρ, s, re, p.bind fun w1 H1 xv x S1 e1 s1 rx p1 => ?_⟩
    split at p1
    · rename_i hx
      obtain ⟨a, rfl, hD⟩ := isDct_of s1 rx hx
      refine ⟨a, rfl, hD, w1, S1, ρ, s1, re.mono e1, p1.bind fun w2 H2 yv y S2 e2 s2 ry p2 => ?_⟩
      refine ⟨w2, S2, ρ, s2, (re.mono e1).mono e2, p2.bind fun w3 H3 zv zd S3 e3 s3 rz p3 => ?_⟩
      split at p3
      · rename_i r hr
        obtain ⟨a', ov, ea, g, _, h1, h2⟩ := dGet_of s3 ((rx.mono e2).mono e3) (ry.mono e3) hr
        cases ea
        refine ⟨ov, g, ?_⟩
        cases r with
        | none =>
          rw [h2 rfl]
          exact p3 w3 H3 _ .refl s3 rz
        | some d =>
          obtain ⟨v, rfl, rv⟩ := h1 d rfl
          exact p3 w3 H3 _ .refl s3 rv
      · exact p3.elim
    · exact p1.elim
theorem S_dput (c : Ctx X k) (hv : PE X e (tE X.K W fe)) (ho : PE X o (tE X.K W fd)) (hi : PE X i (tE X.K W fk)) (hs : swapsWith e (some (.Subscript o i pos')) pos.line X.env = pure false := by rfl) :
    PS X (.Assign [.Subscript o i pos'] e pos) (tS X.K W (sDPut fd fk fe)) :=
  PS.weak (ps_dput (by have := c.hu; omega) ho hi hv hs) fun D σ H h => by
    obtain ⟨w, S, ρ, s, re, p⟩ := h
    refine ⟨w, S, ρ, s, re, p.bind re fun w1 H1 v d S1 e1 s1 rd p1 => ?_⟩
    refine ⟨w1, S1, ρ, s1, re.mono e1, p1.bind (re.mono e1) fun w2 H2 xv x S2 e2 s2 rx p2 => ?_⟩
    refine ⟨w2, S2, ρ, s2, (re.mono e1).mono e2, p2.bind ((re.mono e1).mono e2) fun w3 H3 yv y S3 e3 s3 ry p3 => ?_⟩
    split at p3
    · rename_i S4 h4
      obtain ⟨a, H4, rfl, g, e4, s4⟩ := dPut_of s3 (rx.mono e3) ry ((rd.mono e2).mono e3) h4
      exact ⟨a, H4, rfl, g, p3 w3 H4 σ e4 s4 ((((re.mono e1).mono e2).mono e3).mono e4)⟩
    · exact p3.elim
end
end Ev

namespace Ev
open PySem PySem.Spec PyProof.Rows L2
/-! ### super().__init__(..) ahead of a def's other words -/
/-- what the top's text tells of such a def: f the def, cda its code, cc its cell, D its class, f2 the def above -/
structure SupF (P : Program) (K : PySem.W.Frag) (D : Addr) (f f2 cda cc : Addr) (qual file : Str) (params : Arguments) (sc : Scope) : Prop where
  code : ∃ ccl cdd vs ccs tf, K.lookup cda = some ⟨ccl, cdd, .fields vs, ccs⟩ ∧ vs[2]? = some (.str file tf)
  file : ((P.main.file : Str) == file) = true
  cell : ∃ cl cld csl, K.lookup cc = some ⟨cl, cld, .cell (some (.ref D)), csl⟩
  cls : ∃ cd, PySem.W.clsIn K D = some cd
  sub : PySem.W.mroIn K D (.ref D) = some true
  top : (P.main.scope.names.lookup ("super" : Str)).isSome = false
  tp : PySem.W.nsIn K cStatics "thirdparty.any" = some none
  up : PySem.W.ks_superIn K D D "__init__" = some (some (.ref f2))
  ty : PySem.W.typeIn K (.ref f2) = some (.type "function")
  fi : PySem.W.fnIn K f2 = true
  cl : Cls K D
section
variable {X : Cx} {CX : CXT} {E : XK} {k : Nat} {D f f2 cda cc a dx : Addr} {fd fd2 : FuncData} {ps2 : List Str} {sp2 : Sp} {qual file : Str} {params : Arguments} {sc : Scope} {ar : Arg} {e : Expr} {es : List Expr} {t : TA} {p0 p1 apos pos epos : Pos} {body : List Stmt} {fs : List (Str × V)}
theorem cls_obj {h : Heap} {cd : ClassData} (KX : X.K.In h) (hD : PySem.W.clsIn X.K D = some cd) : ∃ oD, h.get? D = some oD ∧ oD.data = .cls cd := by
  unfold PySem.W.clsIn at hD
  split at hD
  · rename_i c d cd' sl ho
    cases hD
    exact ⟨_, KX _ _ ho, rfl⟩
  · cases hD
theorem super_stmt {pins : List (Addr × Obj)} {s : Shared} {σ : L2.St} {H : Hp} {R : Hp → Prop} (T : SupF X.prog X.K D f f2 cda cc qual file params sc) (hs : X.env.kindOf "super" = some .globalImplicit) (hc : X.env.kindOf "__class__" = some .free) (ha1 : X.env.kindOf ar.arg = some .local)
    (hf : X.env.func = some f) (hco : X.env.code = .ref cda) (hcl : X.env.cells.lookup ("__class__" : Str) = some cc) (hfd : ∃ oc od osl, X.K.lookup f = some ⟨oc, od, .func fd, osl⟩) (hp : (fd.params.posonlyargs ++ fd.params.args).head? = some ar) (hN : X.N[0]? = some ar.arg)
    (hv : Vis X.env.scope ar.arg) (hms : X.mg "super" = none) (G : FnOk X.prog X.w X.K X.mg X.base CX k f2 fd2 ps2 sp2) (rm : Room k X.A) (bd : Binds X.K fd2 ps2 []) (thru : PassesAt CX X σ E) (ha : PA X (e :: es) t)
    (I : Inv X pins σ H s) (self : σ[0]? = some (some (.ref a))) (ea : H a = some (.ins D dx fs)) (h : t σ H fun vs H1 => sp2 (.ref a :: vs) H1 (fun _ H2 => R H2) E)
    (st : starEach (e :: es) X.env = (false, eval e X.env) :: starEach es X.env) (nst : (backTo pos (starEach es X.env)).any (·.1) = false) (hi : interactive X.env = false)
    (hsw : swapsWith (.Call (.Attribute (.Call (.Name "super" p0) [] [] p1) "__init__" apos) (e :: es) [] pos) none epos.line X.env = pure false) {pl : Sem Bool}
    (tree : eval (.Call (.Attribute (.Call (.Name "super" p0) [] [] p1) "__init__" apos) (e :: es) [] pos) X.env = (do let ov ← attributeBase (.Call (.Name "super" p0) [] [] p1) "__init__" X.env (eval (.Call (.Name "super" p0) [] [] p1) X.env); standAt apos.atName; let (f, first) ← holding [ov] (getMethod ov "__init__" pl); callWith pos f first (backTo pos (starEach (e :: es) X.env)) [])) :
    _root_.PySem.wpAt (model X.prog X.w) X.A (.func body X.env) (exec (.Expr (.Call (.Attribute (.Call (.Name "super" p0) [] [] p1) "__init__" apos) (e :: es) [] pos) epos) X.env) (fun fl s' => fl = .next ∧ ∃ H2, Inv X pins σ H2 s' ∧ R H2) X.xe s := by
  obtain ⟨ccl, cdd, vs, ccs, tf, hcode, hvs⟩ := T.code
  obtain ⟨cl, cld, csl, hcell⟩ := T.cell
  obtain ⟨cd, hD⟩ := T.cls
  obtain ⟨oc, od, osl, hfl⟩ := hfd
  have KX := I.kIn
  obtain ⟨oD, hD1, hD2⟩ := cls_obj KX hD
  obtain ⟨mb, hb1, hb2⟩ := I.mod.blt
  obtain ⟨m, ns, look⟩ := I.loc
  obtain ⟨u, ru, lk⟩ := look 0 ar.arg _ hN self hv
  cases (show u = Value.ref a from ru)
  have hm : m ar.arg = some (.ref a) := by
    rcases lk with ⟨_, z⟩ | ⟨z, _⟩
    · exact z
    · rw [ha1] at z
      rcases z with z | z <;> cases z
  obtain ⟨mA, O, _, _, _, _⟩ := ins_get I.hok ea
  obtain ⟨ox, J, _⟩ := O.look
  refine ks_wpAt_Expr_any (ks_wpAt_MethodCall (pl := pl) ?_ tree) hi hsw
  refine ks_wpAt_super_base hs hc (by decide) hf (KX _ _ hfl) rfl hp hco (KX _ _ hcode) rfl hvs T.file T.top ?_
  refine PySem.W.ks_loadName_global I.ok.kind hs (Calls.loadGlobal_builtin (by rw [I.ok.glob]; exact I.mod.glob.keeps I.bk) hms (by rw [I.ok.blt]; exact hb1.keeps I.bk) ((hb2 "super" (by decide)).trans (show bootBuiltins "super" = some (.type "super") by decide +kernel)) ⟨rfl, ?_⟩)
  refine wpAny_loadName_free I.ok.kind hc hcl ⟨_, KX _ _ hcell, rfl⟩ ?_
  refine wpAny_loadName_local I.ok.kind ha1 ns hm ?_
  obtain ⟨hh, g, d, tk, os⟩ := s
  refine ks_wpAny_isType_cls hD1 hD2 ⟨rfl, ?_⟩
  refine ks_wpAny_call_super hD1 hD2 J.at_ J.cls (fun c ec => ?_) (PySem.W.looks_mroIn KX T.sub) (fun h' es' kp => ?_)
  · have := J.no
    unfold PySem.W.notCls at this
    rw [ec] at this
    exact Bool.noConfusion this
  · have I1 : Inv X pins σ H ⟨h', g, d, tk, os⟩ := I.kept (t' := tk) kp
    obtain ⟨of, hof, hofc⟩ : ∃ of, h'.get? f2 = some of ∧ of.cls = .type "function" := by
      have ht' : (X.K.lookup f2).map (·.cls) = some (.type "function") := T.ty
      cases z : X.K.lookup f2 with
      | none => rw [z] at ht'; cases ht'
      | some of => rw [z] at ht'; exact ⟨of, I1.kIn _ _ z, Option.some.inj ht'⟩
    have up := T.up
    unfold PySem.W.ks_superIn at up
    rw [hD, Option.bind_some] at up
    refine ks_wpAny_getMethod_super es' (PySem.W.looks_opaque I1.kIn T.tp) (l₀ := cd.mro) ?_ rfl I1.kIn up hof hofc ?_ (by decide) ?_
    · exact fun A Q E s k q => wpAny_bind ((PySem.W.looks_clsIn I1.kIn hD) A _ E s k (wpAny_pure q))
    · exact PySem.W.ks_ne KX J hD
    · have I2 : Inv X ((h'.objs.size, PySem.W.methodObj (.ref f2) (.ref a)) :: pins) σ H ⟨h'.push (PySem.W.methodObj (.ref f2) (.ref a)), g, d, tk + 1, os⟩ :=
        ClX.pin_new I1 (fun _ _ z => Heap.get?_push_of_some _ z) (Nat.le_refl _) (Heap.get?_push_size h' rfl) (fun v z => nomatch z)
      have bn : X.base.get? h'.objs.size = none := ClX.base_none I1 (Nat.le_refl _)
      have hL : h'.objs.size ≠ X.env.locals := (I2.pin (h'.objs.size, PySem.W.methodObj (.ref f2) (.ref a)) (List.mem_append_right _ List.mem_cons_self)).2.2.1
      refine PySem.W.callWith_M (K := X.K) (h₀ := X.base) (first := []) I.ok.mod.kin (news_at hL bn (ClX.pin_at I2)) List.mem_cons_self T.fi ?_ st nst
      refine thn (ha.run pos _ _ σ H _ I2 h) ?_
      rintro us s3 ⟨vs, H1, I3, rv, q3⟩
      refine ⟨⟨ClX.pin_at I3, I3.kIn⟩, ?_⟩
      have r1 : Vals (V.ref a :: vs) (Value.ref a :: us) := .cons rfl rv
      have len : (Value.ref a :: us).length = ps2.length := by rw [← r1.length]; exact G.len _ _ _ _ q3
      have bs := bd s3 (Value.ref a :: us) I3.kIn (by rw [List.append_nil]; exact len)
      rw [List.append_nil] at bs
      have I4 := ClX.unpin I3
      have run := G.run X.A X.stack s3 H1 ⟨Value.ref a :: us, []⟩ _ _ _ E rm I4.env0 bs r1 q3
      refine wpAny_call (PySem.W.method_call (ClX.pin_at I3) (codeAny_mono run ?_))
      intro res s' hres
      cases res with
      | error er => exact thru pins _ _ er s' I4 hres
      | ok fl =>
        cases fl with
        | ret u =>
          obtain ⟨v, H', I5, rv5, q5⟩ := I4.after hres
          exact ⟨rfl, H', I5, q5⟩
        | next => exact hres.elim
        | brk => exact hres.elim
        | cont => exact hres.elim
end
/-- super().__init__(..), the class c's own def above it being F -/
def sSup (c : Str) (n : Nat) (F : List D → Sto → R D) (fa : AF) : SF := fun ρ S => match ρ[0]? with
  | some (some (D.loc i)) => match S[i]? with
    | some (.ins c' _) => if c' = c then sB (fa ρ S) ρ fun ds S1 => if ds.length + 1 = n then sB (F (D.loc i :: ds) S1) ρ fun _ S2 => .nx ρ S2 else .no else .no
    | _ => .no
  | _ => .no
section
variable {P : Program} {w : World} {K : PySem.W.Frag} {mg : Str → Option Value} {base : Heap}
abbrev supNF (x qual : Str) (st : Stmt) (cc cda : Addr) : NdefX.NF := ⟨x, qual, defArgs st, defBody st, defScope st, [(("__class__" : Str), cc)], cda⟩
/-- the rule for such a def -/
theorem fun_okS {x qual file c : Str} {st : Stmt} {f f2 cda cc Dc : Addr} {fd2 : FuncData} {N ps ps2 : List Str} {k n : Nat} {fa : AF} {b : SF} {F : List D → Sto → R D} {oc : Value} {od : Option Addr} {osl : Array (Option Value)} {doc pm ct : Value}
    {p0 p1 apos pos epos : Pos} {e : Expr} {es : List Expr} {rest : List Stmt} {ar : Arg} {pl : Sem Bool}
    (lk : K.lookup f = some ⟨oc, od, .func ((supNF x qual st cc cda).fd doc pm ct), osl⟩) (hcd : PySem.W.codeIn K (.ref cda) qual = true) (S : NdefX.NScope N ps [("__class__" : Str)] (defScope st)) (hc : CI K c Dc)
    (T : SupF P K Dc f f2 cda cc qual file (defArgs st) (defScope st)) (G : FnOk P w K mg base CX0 k f2 fd2 ps2 (spOf K n F)) (bd : Binds K fd2 ps2 []) (hms : mg "super" = none)
    (body : defBody st = .Expr (.Call (.Attribute (.Call (.Name "super" p0) [] [] p1) "__init__" apos) (e :: es) [] pos) epos :: rest)
    (hp : ((defArgs st).posonlyargs ++ (defArgs st).args).head? = some ar) (hps : ps[0]? = some ar.arg)
    (hs : (defScope st).names.lookup ("super" : Str) = some .globalImplicit) (hk : (defScope st).names.lookup ("__class__" : Str) = some .free)
    (hb : ∀ (X : Cx) (W : WX) (A : Around) (outer : List Env) (s : Shared) (H : Hp) (E : XK), Room k (A.deeper (NdefX.envF (supNF x qual st cc cda) f s.heap.objs.size)) → X = (NdefX.ncx CX0 P w K mg base N (supNF x qual st cc cda) f A outer s H E).nox →
      PA X (e :: es) (tA K W fa) ∧ PSs X rest (tS K W b) ∧ starEach (e :: es) X.env = (false, eval e X.env) :: starEach es X.env ∧ (backTo pos (starEach es X.env)).any (·.1) = false ∧ interactive X.env = false ∧
      swapsWith (.Call (.Attribute (.Call (.Name "super" p0) [] [] p1) "__init__" apos) (e :: es) [] pos) none epos.line X.env = pure false ∧
      eval (.Call (.Attribute (.Call (.Name "super" p0) [] [] p1) "__init__" apos) (e :: es) [] pos) X.env = (do let ov ← attributeBase (.Call (.Name "super" p0) [] [] p1) "__init__" X.env (eval (.Call (.Name "super" p0) [] [] p1) X.env); standAt apos.atName; let (f, first) ← holding [ov] (getMethod ov "__init__" pl); callWith pos f first (backTo pos (starEach (e :: es) X.env)) [])) :
    FnOk P w K mg base CX0 (k + 1) f ((supNF x qual st cc cda).fd doc pm ct) ps (spOf K ps.length (runF N.length (sSeq (sSup c n F fa) b))) := by
  refine ⟨fun vs H Q E h => let ⟨_, _, _, h, _⟩ := h; h, fun A outer s H args us vs Q E hr e0 hbd r hsp => ?_⟩
  obtain ⟨w0, S0, ds, hl, sm, rd, p⟩ := hsp
  have KX : K.In s.heap := e0.mod.kin.keeps fun b o e => (e0.bs b o e).1
  have lim : s.heap.NoLimit := e0.mod.nolimit.keeps fun b o e => (e0.bs b o e).1
  obtain ⟨cl, cld, csl, hcell⟩ := T.cell
  have cellb := e0.bs cc _ (e0.mod.kin _ _ hcell)
  have C : NdefX.CellsAt (supNF x qual st cc cda).cl [("__class__" : Str)] [none] s.heap H := by
    have one : ∀ (y : Str) (c' : Addr), List.lookup y [(("__class__" : Str), cc)] = some c' → y = "__class__" ∧ c' = cc := fun y c' h => by
      by_cases q : y = ("__class__" : Str)
      · subst q
        refine ⟨rfl, ?_⟩
        have h : some cc = some c' := by simpa [List.lookup] using h
        exact (Option.some.inj h).symm
      · have : (y == ("__class__" : Str)) = false := beq_eq_false_iff_ne.mpr q
        simp [List.lookup, this] at h
    refine ⟨rfl, fun y c' h => ?_, fun y z c' h1 h2 => ?_, fun i y h => ?_⟩
    · obtain ⟨rfl, rfl⟩ := one y c' h
      exact ⟨cellb.2, _, _, cellb.1, rfl⟩
    · rw [(one y c' h1).1, (one z c' h2).1]
    · cases i with
      | zero =>
        cases h
        exact ⟨cc, rfl, fun v z => by cases z⟩
      | succ i => cases h
  refine ks_codeAny_call_defAt (fd := (supNF x qual st cc cda).fd doc pm ct) (body := defBody st) (binds := ps.zip us) hr.depth (KX _ _ lk) rfl lim (PySem.W.codeRec_of KX hcd) rfl hbd S.nocell (fun y hy => S.par y.1 (List.of_mem_zip hy).1) (fun h₀ hns kp => ?_) S.co S.gen S.kind
  have I0 := NdefX.inv_startN (CX := CX0) (P := P) (w := w) (K := K) (mg := mg) (base := base) (E := E) (F := supNF x qual st cc cda) (f := f) (tk := s.toks + (ps.zip us).length) S hr.hd e0 hl r C hns kp
  have I1 := I0.wish (fun _ _ => False)
  obtain ⟨hPA, hPS, h1, h2, h3, h4, h5⟩ := hb _ (fun c d _ H => E c d H) A outer s H E (hr.deeper _) rfl
  have env0 : REnv K w0 H (ds.map some ++ List.replicate (N.length - ds.length) none) (NdefX.startF N vs [none]) := by
    have hpl : ps.length + 1 ≤ N.length := by
      have q := congrArg List.length S.pre
      rw [List.length_take, List.length_append] at q
      have : ([("__class__" : Str)] : List Str).length = 1 := rfl
      omega
    have e1 : NdefX.startF N vs [none] = L2.start N vs := by
      unfold NdefX.startF L2.start
      rw [show N.length - vs.length = (N.length - vs.length - 1) + 1 by omega, List.replicate_succ]
      rfl
    rw [e1]
    exact start_env rd
  have p0 : PostS K (fun c d _ H => E c d H) w0 H (sSeq (sSup c n F fa) b (ds.map some ++ List.replicate (N.length - ds.length) none) S0) { nx := fun _ H' => Q .non H', rt := Q } := by
    unfold runF at p
    cases hbb : sSeq (sSup c n F fa) b (ds.map some ++ List.replicate (N.length - ds.length) none) S0 with
    | nx ρ S' => rw [hbb] at p; exact fun w' H' σ' e s' r' => gc_post sm e s' (by simp only [RV]) p
    | rt d S' => rw [hbb] at p; exact fun w' H' v e s' r' => gc_post sm e s' r' p
    | ex x ρ S' => rw [hbb] at p; exact fun w' H' σ' dx v C e s' _ h0 h1 h2 => p w' H' dx v C e s' h0 h1 h2
    | bk ρ S' => rw [hbb] at p; exact p.elim
    | ct ρ S' => rw [hbb] at p; exact p.elim
    | no => rw [hbb] at p; exact p.elim
  clear p
  generalize ds.map some ++ List.replicate (N.length - ds.length) none = ρ at p0 env0
  have need : ∃ a dx fs, (NdefX.startF N vs [none])[0]? = some (some (.ref a)) ∧ H a = some (.ins Dc dx fs) ∧ tA K (fun c d _ H => E c d H) fa (NdefX.startF N vs [none]) H (fun us H1 => spOf K n F (.ref a :: us) H1 (fun _ H2 =>
      ∃ w2 S2, Ext w0 H w2 H2 ∧ Sim K w2 S2 H2 ∧ PostS K (fun c d _ H => E c d H) w2 H2 (b ρ S2) { nx := fun _ H' => Q .non H', rt := Q }) E) := by
    unfold sSeq sSup at p0
    split at p0
    · rename_i ρ1 S1 heq
      split at heq
      · rename_i i hi
        split at heq
        · rename_i c' fs0 hS
          split at heq
          · rename_i hcc
            subst hcc
            obtain ⟨v, hv, rv⟩ := env0.2 0 _ hi
            obtain ⟨a, rfl, h2, C', dx, us0, h3, h4, h5⟩ := sm.get hS rv
            cases hc.nm.uniq h3
            refine ⟨a, dx, us0, hv, h4, w0, S0, ρ, sm, env0, ?_⟩
            cases hfa : fa ρ S0 with
            | ok es1 S2 =>
              rw [hfa] at heq
              simp only [sB_ok] at heq
              split at heq
              · rename_i hn
                intro w1 H1 us e1 s1 r1
                refine ⟨w1, S2, .loc i :: es1, by rw [List.length_cons, ← r1.length, hn], s1, ?_, ?_⟩
                · simp only [RVs]
                  exact ⟨_, _, rfl, rv.mono e1, r1⟩
                · cases hF : F (.loc i :: es1) S2 with
                  | ok r S3 =>
                    rw [hF] at heq
                    simp only [sB_ok] at heq
                    cases heq
                    exact fun w2 H2 b' e2 s2 _ => ⟨w2, S1, e1.trans e2, s2, p0.shift (e1.trans e2)⟩
                  | ex x S3 => rw [hF] at heq; cases heq
                  | no => rw [hF] at heq; cases heq
              · cases heq
            | ex x S2 => rw [hfa] at heq; cases heq
            | no => rw [hfa] at heq; cases heq
          · cases heq
        · cases heq
      · cases heq
    · rename_i x hx
      split at p0
      · rename_i i hi
        split at p0
        · rename_i c' fs0 hS
          split at p0
          · rename_i hcc
            subst hcc
            obtain ⟨v, hv, rv⟩ := env0.2 0 _ hi
            obtain ⟨a, rfl, h2, C', dx, us0, h3, h4, h5⟩ := sm.get hS rv
            cases hc.nm.uniq h3
            refine ⟨a, dx, us0, hv, h4, w0, S0, ρ, sm, env0, ?_⟩
            simp only [hi, hS, if_true] at hx
            cases hfa : fa ρ S0 with
            | ok es1 S2 =>
              rw [hfa] at p0 hx
              simp only [sB_ok] at p0 hx
              split at p0
              · rename_i hn
                simp only [hn, if_true] at hx
                intro w1 H1 us e1 s1 r1
                refine ⟨w1, S2, .loc i :: es1, by rw [List.length_cons, ← r1.length, hn], s1, ?_, ?_⟩
                · simp only [RVs]
                  exact ⟨_, _, rfl, rv.mono e1, r1⟩
                · cases hF : F (.loc i :: es1) S2 with
                  | ok r S5 => rw [hF] at hx; exact absurd rfl (hx ρ S5)
                  | ex x S3 =>
                    rw [hF] at p0
                    exact fun w2 H2 dx v C e2 s2 q0 q1 q2 => p0 w2 H2 _ dx v C (e1.trans e2) s2 (env0.mono (e1.trans e2)) q0 q1 q2
                  | no => rw [hF] at p0; exact p0.elim
              · exact p0.elim
            | ex x S2 =>
              rw [hfa] at p0
              exact fun w2 H2 dx v C e2 s2 q0 q1 q2 => p0 w2 H2 _ dx v C e2 s2 (env0.mono e2) q0 q1 q2
            | no => rw [hfa] at p0; exact p0.elim
          · exact p0.elim
        · exact p0.elim
      · exact p0.elim
  obtain ⟨a, dx, fs, g1, g2, g3⟩ := need
  rw [body]
  refine ks_wpAt_execs_cons (ks_wpAt_mono (super_stmt (X := (NdefX.ncx CX0 P w K mg base N (supNF x qual st cc cda) f A outer s H E).nox) (E := E) (ar := ar) (pl := pl) T hs hk ?_ rfl rfl rfl ⟨_, _, _, lk⟩ hp ?_ ?_ hms G ?_ bd (fun _ _ _ _ _ _ h => h.elim) hPA I1 g1 g2 g3 h1 h2 h3 h4 h5) ?_ fun e s' z => z.elim)
  · exact S.par _ (List.mem_of_getElem? hps)
  · show N[0]? = some ar.arg
    have q : (N.take (ps.length + ([("__class__" : Str)] : List Str).length))[0]? = (ps ++ [("__class__" : Str)])[0]? := by rw [S.pre]
    rw [List.getElem?_take_of_lt (by simp), List.getElem?_append_left (List.getElem?_eq_some_iff.mp hps).1] at q
    rw [q, hps]
  · exact .inl (S.par _ (List.mem_of_getElem? hps))
  · exact hr.deeper _
  · rintro fl s' ⟨rfl, H2, I2, w2, S2, e2, s2, p2⟩
    refine wpAt_of_wpAny ?_
    have q2 : tS K (fun c d _ H => E c d H) b { nx := fun _ H' => Q .non H', rt := Q } (NdefX.startF N vs [none]) H2 := ⟨w2, S2, ρ, s2, env0.mono e2, p2⟩
    refine wpAny_mono (hPS.run [] s' _ H2 _ I2 q2) (fun fl s3 hs3 => ?_) fun e s' z => z.elim
    have fin : ∀ {σ' : L2.St} {H' : Hp} {v : V} {u : Value}, Inv (NdefX.ncx CX0 P w K mg base N (supNF x qual st cc cda) f A outer s H E).nox [] σ' H' s3 → L2.RelV v u → Q v H' → CE outer P w H s Q u s3 :=
      fun {σ' H' v u} J rv q => ⟨v, H', J.os, J.bare, J.base, J.hok, rv, q⟩
    cases fl with
    | ret u =>
      obtain ⟨v, σ', H', J, rv, q⟩ := hs3
      exact fin J rv q
    | next =>
      obtain ⟨σ', H', J, q⟩ := hs3
      exact fin (v := V.non) (u := Value.none) J rfl q
    | brk =>
      obtain ⟨_, _, _, q⟩ := hs3
      exact q.elim
    | cont =>
      obtain ⟨_, _, _, q⟩ := hs3
      exact q.elim
end
end Ev

namespace Ev
open PySem PySem.Spec PyProof.Rows L2
/-! ### defs with defaults (ints) -/
section
variable {P : Program} {w : World} {K : PySem.W.Frag} {mg : Str → Option Value} {base : Heap}
theorem fun_okD {x qual : Str} {st : Stmt} {dvs : List V} {f : Addr} {fd : FuncData} {N ps : List Str} {k : Nat} {b : SF} (F : FunD K x qual (defArgs st) (defBody st) (defScope st) dvs [] f fd) (Sc : FnScope N ps (defScope st))
    (hb : ∀ (X : Cx) (W : WX) (cdv : Value) (A : Around) (outer : List Env) (s : Shared) (H : Hp) (E : XK), Room k (A.deeper (envOfC qual (defScope st) s.heap.objs.size f cdv)) →
      X = (cxOf CX0 P w K mg base N qual (defScope st) f cdv A outer s H E).nox → PSs X (defBody st) (tS K W b)) :
    FnOk P w K mg base CX0 (k + 1) f fd ps (spOf K ps.length (runF N.length b)) := by
  refine F.ok (CX := CX0) Sc (fun vs H Q E h => let ⟨_, _, _, h, _⟩ := h; h) (fun cdv A outer s H vs Q E hr h => ?_)
  obtain ⟨w, S, ds, hl, sm, r, p⟩ := h
  refine ⟨_, (hb _ (fun c d _ H => E c d H) cdv A outer s H E hr rfl).nox, w, S, _, sm, start_env r, ?_⟩
  unfold runF at p
  cases hbb : b (ds.map some ++ List.replicate (N.length - ds.length) none) S with
  | nx ρ S' => rw [hbb] at p; exact fun w' H' σ' e s' r' => gc_post sm e s' (by simp only [RV]) p
  | rt d S' => rw [hbb] at p; exact fun w' H' v e s' r' => gc_post sm e s' r' p
  | ex x ρ S' => rw [hbb] at p; exact fun w' H' σ' dx v C e s' _ h0 h1 h2 => p w' H' dx v C e s' h0 h1 h2
  | bk ρ S' => rw [hbb] at p; exact p.elim
  | ct ρ S' => rw [hbb] at p; exact p.elim
  | no => rw [hbb] at p; exact p.elim
/-- a def called with its last parameters by default: is -/
structure CalD (P : Program) (w : World) (K : PySem.W.Frag) (mg : Str → Option Value) (base : Heap) (CX : CXT) (k : Nat) (x : Str) (n : Nat) (is : List Int) (F : List D → Sto → R D) : Prop where
  ex : ∃ f fd ps ds, FnOk P w K mg base CX k f fd ps (spOf K n F) ∧ mg x = some (.ref f) ∧ PySem.W.keepIn K (.ref f) = true ∧ Binds K fd ps ds ∧ Vals (is.map V.int) ds
end
def eCallD (n : Nat) (is : List Int) (F : List D → Sto → R D) (fa : AF) : EF := fun ρ S => (fa ρ S).bind fun ds S1 => if ds.length + is.length = n then F (ds ++ is.map D.int) S1 else .no
theorem RVs.app {K : PySem.W.Frag} {w : Wo} {H : Hp} : ∀ {ds es : List D} {vs us : List V}, RVs K w H ds vs → RVs K w H es us → RVs K w H (ds ++ es) (vs ++ us)
  | [], es, vs, us, h, h2 => by
    simp only [RVs] at h
    subst h
    exact h2
  | d :: ds, es, vs, us, h, h2 => by
    simp only [RVs] at h
    obtain ⟨v, r, rfl, h1, h3⟩ := h
    simp only [List.cons_append, RVs]
    exact ⟨v, r ++ us, rfl, h1, RVs.app h3 h2⟩
section
variable {X : Cx} {W : WX} {CXc : CXT} {x : Str} {p pos : Pos} {e : Expr} {es : List Expr} {fa : AF} {k j n : Nat} {F : List D → Sto → R D} {is : List Int}
theorem E_callD (c : CalD X.prog X.w X.K X.mg X.base CXc k x n is F) (hr : Room j X.A) (hx : ∀ σ, PassesAt CXc X σ (WE W σ)) (ha : PA X (e :: es) (tA X.K W fa)) (hk : k ≤ j := by first | decide | omega) (hg : Gl X x := by rfl)
    (hdb : (x == ("__debug__" : Str)) = false := by decide) (he : starEach (e :: es) X.env = (false, eval e X.env) :: starEach es X.env := by rfl) (hpl : (backTo pos (starEach es X.env)).any (·.1) = false := by rfl) :
    PE X (.Call (.Name x p) (e :: es) [] pos) (tE X.K W (eCallD n is F fa)) := by
  obtain ⟨f, fd, ps, ds, G, hm, hkp, hb, hd⟩ := c.ex
  refine PE.weak (pe_callSD G (hr.mono hk) hg hm hkp hb hd hx ha hdb he hpl) fun σ H Q h => ?_
  obtain ⟨w, S, ρ, s, re, p⟩ := h
  refine ⟨w, S, ρ, s, re, p.bind fun w1 H1 vs ds S1 e1 s1 rd p1 => ?_⟩
  split at p1
  · rename_i hl
    exact ⟨w1, S1, ds ++ is.map D.int, by rw [List.length_append, List.length_map, ← rd.length, hl], s1, rd.app (.of_ints is), p1.toE⟩
  · exact p1.elim
end
end Ev

namespace Ev
open PySem PySem.Spec PyProof.Rows L2
/-! ### sorted, of tuples of ints -/
def lexL : List Int → List Int → Bool
  | [], ys => !ys.isEmpty
  | _ :: _, [] => false
  | x :: xs, y :: ys => if x = y then lexL xs ys else decide (x < y)
theorem lexL_irr : ∀ xs : List Int, lexL xs xs = false
  | [] => rfl
  | x :: xs => by simp only [lexL, if_true]; exact lexL_irr xs
theorem lexL_asym : ∀ {xs ys : List Int}, lexL xs ys = true → lexL ys xs = false
  | [], [], h => by cases h
  | [], _ :: _, _ => rfl
  | _ :: _, [], h => by cases h
  | x :: xs, y :: ys, h => by
    simp only [lexL] at h ⊢
    by_cases e : x = y
    · subst e
      simp only [if_true] at h ⊢
      exact lexL_asym h
    · have e2 : ¬ y = x := fun q => e q.symm
      simp only [e, e2, if_false, decide_eq_true_eq] at h ⊢
      exact decide_eq_false (by omega)
theorem lexL_total : ∀ {xs ys : List Int}, lexL xs ys = false → lexL ys xs = false → xs = ys
  | [], [], _, _ => rfl
  | [], _ :: _, h, _ => by cases h
  | _ :: _, [], _, h => by cases h
  | x :: xs, y :: ys, h, h2 => by
    simp only [lexL] at h h2
    by_cases e : x = y
    · subst e
      simp only [if_true] at h h2
      rw [lexL_total h h2]
    · have e2 : ¬ y = x := fun q => e q.symm
      simp only [e, e2, if_false, decide_eq_false_iff_not] at h h2
      omega
theorem lexL_tr : ∀ {xs ys zs : List Int}, lexL xs ys = false → lexL ys zs = false → lexL xs zs = false
  | [], [], zs, _, h => h
  | [], _ :: _, _, h, _ => by cases h
  | _ :: _, _, [], _, _ => rfl
  | _ :: _, [], _ :: _, _, h => by cases h
  | x :: xs, y :: ys, z :: zs, h, h2 => by
    simp only [lexL] at h h2 ⊢
    by_cases e : x = y
    · subst e
      simp only [if_true] at h
      by_cases e2 : x = z
      · simp only [e2, if_true] at h2 ⊢
        exact lexL_tr h h2
      · simp only [e2, if_false] at h2 ⊢
        exact h2
    · simp only [e, if_false, decide_eq_false_iff_not] at h
      by_cases e2 : y = z
      · subst e2
        simp only [e, if_false]
        exact decide_eq_false h
      · simp only [e2, if_false, decide_eq_false_iff_not] at h2
        have : ¬ x = z := by omega
        simp only [this, if_false]
        exact decide_eq_false (by omega)
def lexZ (fin : Bool) : List (Int × Int) → Bool
  | [] => fin
  | p :: r => if p.1 = p.2 then lexZ fin r else decide (p.1 < p.2)
theorem lexZ_zip : ∀ (xs ys : List Int) (a b : Nat), lexZ (decide (a + xs.length < a + ys.length)) (xs.zip ys) = lexL xs ys
  | [], ys, a, b => by
    cases ys with
    | nil => simp [lexZ, lexL]
    | cons y ys => simp [lexZ, lexL]
  | x :: xs, [], a, b => by simp [lexZ, lexL]
  | x :: xs, y :: ys, a, b => by
    simp only [List.zip_cons_cons, lexZ, lexL]
    by_cases e : x = y
    · subst e
      simp only [if_true]
      rw [← lexZ_zip xs ys (a + 1) b]
      congr 1
      simp only [List.length_cons]
      refine decide_eq_decide.mpr ?_
      omega
    · simp only [e, if_false]
section
variable {prog : Program} {w : World} {A : Around} {s : Shared} {b fin : Bool} {Q : Bool → Shared → Prop}
theorem oneLt_b (c : Bool) {p q : Int} {t u : Tok} {E : Value → Shared → Prop} (h : Q (decide (p < q)) s) : wpAny (model prog w) A (oneLt' c (.int p t) (.int q u)) Q E s := by
  cases c with
  | true => exact oneLt_int h
  | false => exact PySem.W.kat_one _ _ (PyProof.Rows.lt_int (Q := PySem.W.BoolBack Q) h)
theorem kat_ints : ∀ {us vs : List Value} {xs ys : List Int} {i : Nat}, IntsAre us xs → IntsAre vs ys → Q (lexZ fin (xs.zip ys)) s → PySem.W.KatLex prog w A b fin Q (us.zip vs) i s
  | _, _, _, _, _, .nil, h2, q => PySem.W.kat_nil (by simpa [lexZ] using q)
  | _, _, _, _, _, .cons x t h1, .nil, q => PySem.W.kat_nil (by simpa [lexZ] using q)
  | _, _, _, _, i, .cons x t h1, .cons y t' h2, q => by
    simp only [List.zip_cons_cons, lexZ] at q ⊢
    refine PySem.W.kat_cons (SeqAt.EqAt.int_int x t y t' prog w _ _ ?_)
    refine PySem.W.kat_go (fun e1 => ?_) (fun e1 => ?_)
    · have ex : x = y := by simpa using e1
      rw [if_pos ex] at q
      exact PySem.W.kat_yes (kat_ints h1 h2 q)
    · have ex : ¬ x = y := by simpa using e1
      rw [if_neg ex] at q
      exact PySem.W.kat_no (oneLt_b _ q)
end
/-- a tuple of ints in the heap -/
def IsInts (h : Heap) (v : Value) (ns : List Int) : Prop := ∃ a o its n, v = .ref a ∧ h.get? a = some o ∧ o.cls = .type "tuple" ∧ o.data = .seq its n ∧ IntsAre its.toList ns
theorem IsInts.keeps {h h' : Heap} {v : Value} {ns : List Int} (p : IsInts h v ns) (k : ∀ b o, h.get? b = some o → o.cls = .type "tuple" → h'.get? b = some o) : IsInts h' v ns := by
  obtain ⟨a, o, its, n, e, ho, hc, hd, hi⟩ := p
  exact ⟨a, o, its, n, e, k _ _ ho hc, hc, hd, hi⟩
theorem swo_lexL {α : Type} (k : α → List Int) : SrtO.Swo fun v u => lexL (k v) (k u) := ⟨fun x y h => lexL_asym h, fun x y z h1 h2 => lexL_tr h2 h1⟩
theorem heads_of {h : Heap} {k : Value → List Int} : ∀ {vs : List Value}, (∀ v ∈ vs, IsInts h v (k v) ∧ k v ≠ []) → ∃ fs : List Value, PySem.W.KatTups h vs fs ∧ fs.length = vs.length ∧ ∀ f ∈ fs, ∃ x t, f = Value.int x t
  | [], _ => ⟨[], PySem.W.KatTups.nil, rfl, fun _ hm => by simp at hm⟩
  | v :: vs, hp => by
    obtain ⟨fs, h1, h2, h3⟩ := heads_of (vs := vs) fun v' hm => hp v' (List.mem_cons_of_mem _ hm)
    obtain ⟨⟨a, o, its, n, e, ho, hc, hd, hi⟩, hne⟩ := hp v List.mem_cons_self
    obtain ⟨its⟩ := its
    cases its with
    | nil =>
      generalize k v = ns at hi hne
      cases hi
      exact absurd rfl hne
    | cons u us =>
      have : ∃ x t, u = Value.int x t := by
        generalize k v = ns at hi
        cases hi
        exact ⟨_, _, rfl⟩
      obtain ⟨x, t, rfl⟩ := this
      subst e
      refine ⟨.int x t :: fs, PySem.W.KatTups.cons ho hc hd rfl h1, by rw [List.length_cons, List.length_cons, h2], fun f hm => ?_⟩
      rcases List.mem_cons.mp hm with rfl | hm
      · exact ⟨x, t, rfl⟩
      · exact h3 f hm
section
variable {prog : Program} {w : World} {A : Around} {s : Shared} {E : Value → Shared → Prop}
theorem ints_cmp {vs : List Value} {k : Value → List Int} (hp : ∀ v ∈ vs, IsInts s.heap v (k v)) : SrtO.Cmp prog w A s (tuples' true) (fun p => p.1 ∈ vs) (SrtO.lt2 fun v u => lexL (k v) (k u)) := by
  intro p q hm hm'
  show wpAny (model prog w) A (keyLt' (tuples' true) p.1 q.1) (fun r s' => s' = s ∧ r = lexL (k p.1) (k q.1)) (fun _ _ => False) s
  have h1 := hp _ hm
  have h2 := hp _ hm'
  obtain ⟨a, o, its, n, e, ho, hc, hd, hi⟩ := h1
  obtain ⟨a', o', its', n', e', ho', hc', hd', hi'⟩ := h2
  rw [← lexZ_zip (k p.1) (k q.1) 0 0]
  generalize k p.1 = ns at hi ⊢
  generalize k q.1 = ms at hi' ⊢
  rw [e, e']
  refine PySem.W.kat_lt ho hd ho' hd' (kat_ints hi hi' ⟨rfl, ?_⟩)
  have l1 : its.size = ns.length := by have := hi.length; simpa using this
  have l2 : its'.size = ms.length := by have := hi'.length; simpa using this
  rw [l1, l2, Nat.zero_add, Nat.zero_add]
theorem ints_sortable {a : Addr} {vs : List Value} {k : Value → List Int} (h0 : 0 < vs.length) (hp : ∀ v ∈ vs, IsInts s.heap v (k v) ∧ k v ≠ []) (ha : ∀ o, s.heap.get? a = some o → o.cls ≠ .type "tuple") : SrtO.SortableO prog w A s a vs fun v u => lexL (k v) (k u) := by
  intro h' keep
  have hp' : ∀ v ∈ vs, IsInts h' v (k v) ∧ k v ≠ [] := fun v hm => ⟨(hp v hm).1.keeps fun b o e c => keep b o (fun z => by subst z; exact ha o e c) e, (hp v hm).2⟩
  obtain ⟨fs, h1, h2, h3⟩ := heads_of hp'
  refine ⟨tuples' true, fun Q E hq => ?_, ints_cmp fun v hv => (hp' v hv).1⟩
  refine PySem.W.kat_kind (T := .type "int") h1 (by omega) (fun f hm => ?_) rfl ?_
  · obtain ⟨x, t, rfl⟩ := h3 f hm
    exact PySem.W.Looks.now
  · rw [show (Value.type "int" != Value.type "tuple") = true by decide +kernel]
    exact hq
theorem sorted_tups {l : Addr} {vs : List Value} {k : Value → List Int} {Q : Value → Shared → Prop} (hl : s.heap.IsList l vs.toArray) (hz : vs.length ≤ sizeLine) (hp : ∀ v ∈ vs, IsInts s.heap v (k v) ∧ k v ≠ [])
    (q : ∀ (h' : Heap) (d : Addr) (out : List Value), out.Perm vs → out.Pairwise (fun x y => lexL (k y) (k x) = false) → (∀ b o, s.heap.get? b = some o → h'.get? b = some o) → s.heap.objs.size ≤ d → (∃ n, h'.get? d = some (seqObj "list" out.toArray n)) → Q (.ref d) { s with heap := h' }) :
    wpAny (model prog w) A (call (.builtin "sorted") [.ref l]) Q E s := by
  refine SrtO.sorted_ord (swo_lexL k) hl hz (fun h2 h₁ a ha kk => ?_) fun out hs hb => ?_
  · refine ints_sortable (s := { s with heap := h₁ }) (by omega) (fun v hm => ⟨(hp v hm).1.keeps fun b o e _ => (kk b o e).2, (hp v hm).2⟩) fun o e c => ?_
    have e' : some o = some (seqObj "list" vs.toArray 0) := e.symm.trans ha
    cases e'
    exact absurd (Value.type.inj c) (by decide)
  · exact q _ _ out hb.perm hs (fun b o e => sortedAll_old e) (Nat.le_succ _) (sortedAll_at s.heap vs out.toArray)
end
def rSortedTu (K : PySem.W.Frag) : List V → Hp → VK → Prop := fun vs H Q => ∃ (a : Addr) (xs : List V) (k : V → List Int), vs = [V.ref a] ∧ SqL K H a xs ∧ (∀ x ∈ xs, ∃ t, x = V.ref t ∧ H t = some (.tup ((k x).map V.int)) ∧ k x ≠ []) ∧
  ∀ ys p, ys.Perm xs → ys.Pairwise (fun x y => lexL (k y) (k x) = false) → H p = none → Q (.ref p) (upd H p (.lst ys))
theorem cr_sortedTu {X : Cx} : CallR X (.builtin "sorted") (rSortedTu X.K) := by
  intro pins s σ H vs us Q I r h
  obtain ⟨a, xs, k, rfl, hs, hx, q⟩ := h
  obtain ⟨its, rv, hl, hz⟩ := I.list hs
  obtain ⟨u, rfl, ru⟩ := vals1 r
  cases (show u = Value.ref a from ru)
  obtain ⟨e1, e2⟩ := refs_back rv fun x m => let ⟨t, e, _⟩ := hx x m; ⟨t, e⟩
  refine sorted_tups (k := fun u => k (backV u)) hl.isList (by rw [← rv.length]; exact hz) (fun v hv => ?_) fun h' d out h1 h2 kp hd hn => ?_
  · obtain ⟨t, rfl⟩ := e2 v hv
    have hm : V.ref t ∈ xs := by rw [e1]; exact List.mem_map.mpr ⟨_, hv, rfl⟩
    obtain ⟨t', e, ht, hne⟩ := hx _ hm
    cases e
    obtain ⟨_, its2, r2, o, ho, hc, n, hd⟩ := I.hok _ _ ht
    exact ⟨⟨t, o, _, n, rfl, ho, hc, hd, r2.ints⟩, hne⟩
  · have h3 : ∀ u ∈ out, ∃ a, u = Value.ref a := fun u hu => e2 u (h1.mem_iff.mp hu)
    obtain ⟨n, hn⟩ := hn
    have hp : (out.map backV).Perm xs := by rw [e1]; exact h1.map _
    refine ⟨.ref d, upd H d (.lst (out.map backV)), I.laid (t' := s.toks) kp hd ⟨?_, out, n, vals_back h3, hn⟩, rfl, q _ d hp (List.pairwise_map.mpr h2) (I.hok.fresh hd)⟩
    rw [hp.length_eq]
    exact hz
/-! ### the same by data -/
def intss : List D → Option (List (List Int))
  | [] => some []
  | .tup ds :: r => match intsOf ds, intss r with
    | some is, some iss => some (is :: iss)
    | _, _ => none
  | _ :: _ => none
def insL (x : List Int) : List (List Int) → List (List Int)
  | [] => [x]
  | y :: ys => if lexL y x = true then y :: insL x ys else x :: y :: ys
def isortL : List (List Int) → List (List Int)
  | [] => []
  | x :: xs => insL x (isortL xs)
theorem insL_perm (x : List Int) : ∀ ys : List (List Int), (insL x ys).Perm (x :: ys)
  | [] => .refl _
  | y :: ys => by
    unfold insL
    split
    · exact ((insL_perm x ys).cons y).trans (.swap x y ys)
    · exact .refl _
theorem isortL_perm : ∀ xs : List (List Int), (isortL xs).Perm xs
  | [] => .refl _
  | x :: xs => (insL_perm x _).trans ((isortL_perm xs).cons x)
abbrev SrtL (xs : List (List Int)) : Prop := xs.Pairwise fun x y => lexL y x = false
theorem insL_srt (x : List Int) : ∀ ys : List (List Int), SrtL ys → SrtL (insL x ys)
  | [], _ => List.pairwise_singleton _ _
  | y :: ys, h => by
    obtain ⟨h1, h2⟩ := List.pairwise_cons.mp h
    unfold insL
    split
    · rename_i hlt
      refine List.pairwise_cons.mpr ⟨fun z hz => ?_, insL_srt x ys h2⟩
      rcases List.mem_cons.mp ((insL_perm x ys).mem_iff.mp hz) with e | e
      · rw [e]; exact lexL_asym hlt
      · exact h1 z e
    · rename_i hlt
      have hlt : lexL y x = false := by simpa using hlt
      refine List.pairwise_cons.mpr ⟨fun z hz => ?_, h⟩
      rcases List.mem_cons.mp hz with e | e
      · rw [e]; exact hlt
      · exact lexL_tr (h1 z e) hlt
theorem isortL_srt : ∀ xs : List (List Int), SrtL (isortL xs)
  | [] => List.Pairwise.nil
  | x :: xs => insL_srt x _ (isortL_srt xs)
theorem srtL_uniq : ∀ {xs ys : List (List Int)}, xs.Perm ys → SrtL xs → SrtL ys → xs = ys
  | [], ys, p, _, _ => (List.perm_nil.mp p.symm).symm
  | x :: xs, [], p, _, _ => absurd p.length_eq (by simp)
  | x :: xs, y :: ys, p, h1, h2 => by
    obtain ⟨a1, a2⟩ := List.pairwise_cons.mp h1
    obtain ⟨b1, b2⟩ := List.pairwise_cons.mp h2
    have e : x = y := by
      have m1 : y ∈ x :: xs := p.symm.mem_iff.mp List.mem_cons_self
      have m2 : x ∈ y :: ys := p.mem_iff.mp List.mem_cons_self
      rcases List.mem_cons.mp m1 with q | q
      · exact q.symm
      · rcases List.mem_cons.mp m2 with r | r
        · exact r
        · exact lexL_total (b1 x r) (a1 y q)
    subst e
    rw [srtL_uniq (p.cons_inv) a2 b2]
def tupsD (iss : List (List Int)) : List D := iss.map fun is => .tup (is.map D.int)
def oSortT : OpN := fun ds S => match ds with
  | [d] => ((lstOf S d).bind intss).bind fun iss => if iss.all (fun is => !is.isEmpty) then some (.lst (tupsD (isortL iss)), S) else none
  | _ => none
theorem intss_eq : ∀ {ds : List D} {iss : List (List Int)}, intss ds = some iss → ds = tupsD iss
  | [], iss, h => by cases h; rfl
  | d :: ds, iss, h => by
    cases d with
    | tup es =>
      simp only [intss] at h
      split at h
      · rename_i is iss0 e1 e2
        cases h
        rw [intsOf_eq e1, intss_eq e2]
        rfl
      · cases h
    | _ => cases h
theorem RVs.mem {K : PySem.W.Frag} {w : Wo} {H : Hp} : ∀ {ds : List D} {xs : List V} {x : V}, RVs K w H ds xs → x ∈ xs → ∃ d ∈ ds, RV K w H d x
  | [], xs, x, h, m => by
    simp only [RVs] at h
    rw [h] at m
    simp at m
  | d :: ds, xs, x, h, m => by
    simp only [RVs] at h
    obtain ⟨v, r, rfl, h1, h2⟩ := h
    rcases List.mem_cons.mp m with e | e
    · exact ⟨d, List.mem_cons_self, e ▸ h1⟩
    · obtain ⟨d', a, b⟩ := RVs.mem h2 e
      exact ⟨d', List.mem_cons_of_mem _ a, b⟩
open Classical in
/-- the ints of a tuple that stands in H -/
noncomputable def keyV (H : Hp) (v : V) : List Int := if h : ∃ (t : Addr) (is : List Int), v = .ref t ∧ H t = some (.tup (is.map V.int)) then h.choose_spec.choose else []
theorem map_int_inj {a b : List Int} (h : a.map V.int = b.map V.int) : a = b := (List.map_inj_right (f := V.int) fun x y q => by injection q).1 h
theorem keyV_of {H : Hp} {t : Addr} {is : List Int} (h : H t = some (.tup (is.map V.int))) : keyV H (.ref t) = is := by
  have ex : ∃ (t' : Addr) (is' : List Int), V.ref t = .ref t' ∧ H t' = some (.tup (is'.map V.int)) := ⟨t, is, rfl, h⟩
  have key : ∀ (t' : Addr) (is' : List Int), V.ref t = .ref t' → H t' = some (.tup (is'.map V.int)) → is' = is := by
    intro t' is' e h'
    cases e
    rw [h] at h'
    injection h' with h'
    injection h' with h'
    exact (map_int_inj h').symm
  unfold keyV
  rw [dif_pos ex]
  exact key _ _ ex.choose_spec.choose_spec.1 ex.choose_spec.choose_spec.2
theorem tups_keys {K : PySem.W.Frag} {w : Wo} {H : Hp} : ∀ {iss : List (List Int)} {xs : List V}, RVs K w H (tupsD iss) xs → xs.map (keyV H) = iss ∧ ∀ x ∈ xs, ∃ (t : Addr) (is : List Int), x = .ref t ∧ is ∈ iss ∧ H t = some (.tup (is.map V.int))
  | [], xs, h => by
    simp only [tupsD, List.map_nil, RVs] at h
    rw [h]
    exact ⟨rfl, fun x m => by simp at m⟩
  | is :: iss, xs, h => by
    simp only [tupsD, List.map_cons, RVs] at h
    obtain ⟨v, r, rfl, h1, h2⟩ := h
    simp only [RV] at h1
    obtain ⟨t, zs, rfl, h3, h4⟩ := h1
    rw [h4.ints] at h3
    obtain ⟨i1, i2⟩ := tups_keys (iss := iss) h2
    refine ⟨by rw [List.map_cons, keyV_of h3, i1], fun x m => ?_⟩
    rcases List.mem_cons.mp m with e | e
    · exact ⟨t, is, e, List.mem_cons_self, h3⟩
    · obtain ⟨t', is', a, b, c⟩ := i2 x e
      exact ⟨t', is', a, List.mem_cons_of_mem _ b, c⟩
theorem tups_rel {K : PySem.W.Frag} {w : Wo} {H : Hp} : ∀ {ys : List V}, (∀ y ∈ ys, ∃ (t : Addr) (is : List Int), y = .ref t ∧ H t = some (.tup (is.map V.int))) → RVs K w H (tupsD (ys.map (keyV H))) ys
  | [], _ => by simp only [List.map_nil, tupsD, RVs]
  | y :: ys, h => by
    obtain ⟨t, is, rfl, ht⟩ := h y List.mem_cons_self
    have ih := tups_rel (K := K) (w := w) (ys := ys) fun z hz => h z (List.mem_cons_of_mem _ hz)
    simp only [List.map_cons, tupsD, RVs]
    refine ⟨_, _, rfl, ?_, ih⟩
    rw [keyV_of ht]
    simp only [RV]
    exact ⟨t, _, rfl, ht, .of_ints is⟩
theorem callS_sortT {K : PySem.W.Frag} : CallS K (rSortedTu K) oSortT := by
  intro w S H ds vs d S' Q s rd e k
  unfold oSortT at e
  split at e
  · rename_i d0
    obtain ⟨v, rfl, rv⟩ := rd.one
    cases hl : lstOf S d0 with
    | none => rw [hl] at e; cases e
    | some es =>
      rw [hl] at e
      cases hi : intss es with
      | none => simp only [Option.bind_some, hi] at e; cases e
      | some iss =>
        simp only [Option.bind_some, hi] at e
        split at e
        · rename_i hne
          cases e
          obtain ⟨a, xs, rfl, h2, h3⟩ := lstOf_sq s rv hl
          rw [intss_eq hi] at h3
          obtain ⟨k1, k2⟩ := tups_keys h3
          refine ⟨a, xs, keyV H, rfl, h2, fun x m => ?_, fun ys p hp hs hn => ?_⟩
          · obtain ⟨t, is, rfl, hm, ht⟩ := k2 x m
            refine ⟨t, rfl, by rw [keyV_of ht]; exact ht, ?_⟩
            rw [keyV_of ht]
            have := List.all_eq_true.mp hne is hm
            intro z
            rw [z] at this
            cases this
          · have r1 : RVs K w H (tupsD (ys.map (keyV H))) ys := tups_rel fun y hy => by
              obtain ⟨t, is, a, _, c⟩ := k2 y (hp.mem_iff.mp hy)
              exact ⟨t, is, a, c⟩
            have e1 : ys.map (keyV H) = isortL iss := srtL_uniq ((hp.map _).trans (by rw [k1]; exact (isortL_perm iss).symm)) (List.pairwise_map.mpr hs) (isortL_srt iss)
            rw [e1] at r1
            exact k w _ _ (Ext.fresh hn) (s.fresh hn) (RV.newLst s hn r1)
        · cases e
  · cases e
theorem E_sortT {X : Cx} {W : WX} {p pos : Pos} {e : Expr} {es : List Expr} {fa : AF} (hm : X.mg "sorted" = none) (ha : PA X (e :: es) (tA X.K W fa)) (hg : Gl X "sorted" := by rfl)
    (he : starEach (e :: es) X.env = (false, eval e X.env) :: starEach es X.env := by rfl) (hpl : (backTo pos (starEach es X.env)).any (·.1) = false := by rfl) : PE X (.Call (.Name "sorted" p) (e :: es) [] pos) (tE X.K W (eCb oSortT fa)) :=
  E_cb cr_sortedTu callS_sortT hm ha hg (by decide +kernel) (by decide) (by decide) he hpl
end Ev

namespace Ev
open PySem PySem.Spec PyProof.Rows L2
/-! ### a dict with tuple keys, walked: it is locked meanwhile -/
def keyD1 : Key → D
  | .inl i => .int i
  | .inr x => .str x
def keyD (k : List Key) : D := .tup (k.map keyD1)
theorem keyD_rv {K : PySem.W.Frag} {w : Wo} {H : Hp} : ∀ k : List Key, RVs K w H (k.map keyD1) (k.map kV)
  | [] => by simp only [List.map_nil, RVs]
  | x :: k => by
    simp only [List.map_cons, RVs]
    refine ⟨_, _, rfl, ?_, keyD_rv k⟩
    cases x <;> simp only [keyD1, kV, RV]
section
variable {K : PySem.W.Frag} {w w' : Wo} {H H' : Hp} {S : Sto} {a d : Addr} {od : Obj} {vs : List (List Key × V)}
mutual
theorem RV.ud (hm : d ∈ w.m) (hd : H d = some (.frz od (.dT vs))) : ∀ {x : D} {v : V}, RV K w H x v → RV K w (upd H d (.dT vs)) x v
  | .non, v, h => by simpa only [RV] using h
  | .bl b, v, h => by simpa only [RV] using h
  | .int i, v, h => by simpa only [RV] using h
  | .str x, v, h => by simpa only [RV] using h
  | .tup ds, v, h => by
    simp only [RV] at h ⊢
    obtain ⟨a, zs, h1, h2, h3⟩ := h
    have : a ≠ d := fun z => by rw [z, hd] at h2; cases h2
    exact ⟨a, zs, h1, by rw [upd_ne this]; exact h2, RVs.ud hm hd h3⟩
  | .con ds, v, h => by
    simp only [RV] at h ⊢
    obtain ⟨a, zs, h1, h2, h3⟩ := h
    exact ⟨a, zs, h1, h2, RVs.ud hm hd h3⟩
  | .lst ds, v, h => by
    simp only [RV] at h ⊢
    obtain ⟨a, zs, h1, h2, h3, h5⟩ := h
    have : a ≠ d := fun z => h3.1 (z ▸ hm)
    exact ⟨a, zs, h1, by rw [upd_ne this]; exact h2, h3, RVs.ud hm hd h5⟩
  | .frz ds, v, h => by
    simp only [RV] at h ⊢
    obtain ⟨a, zs, h1, h2, h5⟩ := h
    refine ⟨a, zs, h1, ?_, RVs.ud hm hd h5⟩
    rcases h2 with ⟨o, h2, h3⟩ | h2
    · have : a ≠ d := fun z => h3.1 (z ▸ hm)
      exact .inl ⟨o, by rw [upd_ne this]; exact h2, h3⟩
    · exact .inr h2
  | .loc n, v, h => by simpa only [RV] using h
theorem RVs.ud (hm : d ∈ w.m) (hd : H d = some (.frz od (.dT vs))) : ∀ {ds : List D} {us : List V}, RVs K w H ds us → RVs K w (upd H d (.dT vs)) ds us
  | [], us, h => by simpa only [RVs] using h
  | x :: ds, us, h => by
    simp only [RVs] at h ⊢
    obtain ⟨v, r, h1, h2, h3⟩ := h
    exact ⟨v, r, h1, RV.ud hm hd h2, RVs.ud hm hd h3⟩
end
theorem RP.ud {κ : Type} (hm : d ∈ w.m) (hd : H d = some (.frz od (.dT vs))) {ps : List (κ × D)} {us : List (κ × V)} (h : RP K w H ps us) : RP K w (upd H d (.dT vs)) ps us := ⟨h.1, h.2.ud hm hd⟩
theorem RC.ud {c : Cel} (hm : d ∈ w.m) (hd : H d = some (.frz od (.dT vs))) (hn : a ≠ d) (h : RC K w H a c) : RC K w (upd H d (.dT vs)) a c := by
  cases c with
  | lst ds => obtain ⟨xs, h1, h2⟩ := h; exact ⟨xs, by rw [upd_ne hn]; exact h1, h2.ud hm hd⟩
  | dK kvs => obtain ⟨us, h1, h2⟩ := h; exact ⟨us, by rw [upd_ne hn]; exact h1, h2.ud hm hd⟩
  | dT kvs => obtain ⟨us, h1, h2⟩ := h; exact ⟨us, by rw [upd_ne hn]; exact h1, h2.ud hm hd⟩
  | fT kvs => obtain ⟨o, us, h1, h2⟩ := h; exact ⟨o, us, by rw [upd_ne hn]; exact h1, h2.ud hm hd⟩
  | ins c fs => obtain ⟨C, dx, us, h0, h1, h2⟩ := h; exact ⟨C, dx, us, h0, by rw [upd_ne hn]; exact h1, h2.ud hm hd⟩
theorem Sim.unlock {n : Nat} {kvs : List (List Key × D)} (s : Sim K w S H) (hi : w.m[n]? = some d) (hd : H d = some (.frz od (.dT vs))) (hr : RP K w H kvs vs) : Sim K w (S.set n (.dT kvs)) (upd H d (.dT vs)) := by
  have hm : d ∈ w.m := List.mem_of_getElem? hi
  refine ⟨by rw [List.length_set]; exact s.len, s.nd, fun j c' e => ?_, fun b hb => ?_⟩
  · by_cases hj : j = n
    · subst hj
      have hl : j < S.length := by rw [← s.len]; exact (List.getElem?_eq_some_iff.mp hi).1
      rw [List.getElem?_set_self hl] at e
      cases e
      exact ⟨d, hi, vs, upd_same, hr.ud hm hd⟩
    · rw [List.getElem?_set_ne (Ne.symm hj)] at e
      obtain ⟨b, h1, h2⟩ := s.at_ j c' e
      exact ⟨b, h1, h2.ud hm hd fun z => hj (nd_inj s.nd h1 (z ▸ hi))⟩
  · obtain ⟨h1, o', h2⟩ := s.priv b hb
    have nb : b ≠ d := fun z => h1 (z ▸ hm)
    exact ⟨h1, o', by rw [upd_ne nb]; exact h2⟩
theorem Ext.unlock (hm : d ∈ w.m) (h0 : H d = some (.dT vs)) (e : Ext w (upd H d (.frz od (.dT vs))) w' H') : Ext w H w' (upd H' d (.dT vs)) := by
  have ne : ∀ {a : Addr} {o : HO}, H a = some o → a ≠ d → upd H d (.frz od (.dT vs)) a = some o := fun h n => by rw [upd_ne n]; exact h
  have nn : ∀ {a : Addr}, upd H d (.frz od (.dT vs)) a = none → H a = none := fun {a} h => by
    by_cases z : a = d
    · rw [z, upd_same] at h; cases h
    · rw [upd_ne z] at h; exact h
  refine ⟨e.pre, e.q, fun a h => (e.newq a h).imp id nn, fun a h => (e.new a h).imp id nn, fun a xs h => ?_, fun a o h hn => ?_, fun a o h => ?_, fun a o u h => ?_⟩
  · have n : a ≠ d := fun z => by rw [z, h0] at h; cases h
    rw [upd_ne n]
    exact e.tup a xs (ne h n)
  · have n : a ≠ d := fun z => hn (z ▸ hm)
    rw [upd_ne n]
    exact e.keep a o (ne h n) hn
  · by_cases n : a = d
    · exact ⟨_, by rw [n, upd_same]⟩
    · rw [upd_ne n]
      exact e.live a o (ne h n)
  · have n : a ≠ d := fun z => by rw [z, h0] at h; cases h
    rw [upd_ne n]
    exact e.frz a o u (ne h n)
end
/-- while fe is evaluated, the dict that the i-th name holds is locked -/
def eLock (i : Nat) (fe : EF) : EF := fun ρ S => match ρ[i]? with
  | some (some (D.loc n)) => match S[n]? with
    | some (.dT kvs) => (fe ρ (S.set n (.fT kvs))).nox.bind fun x S1 => match S1[n]? with
      | some (.fT kvs') => .ok x (S1.set n (.dT kvs'))
      | _ => .no
    | _ => .no
  | _ => .no
/-- its keys -/
def iKeysD (fe : EF) : IF := fun ρ S => (fe ρ S).bind fun x S1 => match x with
  | .loc n => match S1[n]? with
    | some (.fT kvs) => .ok ⟨kvs.map fun kv => keyD kv.1, some (n, .fT kvs)⟩ S1
    | _ => .no
  | _ => .no
section
variable {K : PySem.W.Frag} {w : Wo} {H : Hp} {a : Addr} {n : Nat} {od : Obj} {kvs : List (List Key × D)} {vs : List (List Key × V)}
theorem walks_keys (hn : w.m[n]? = some a) (h : H a = some (.frz od (.dT vs))) (r : RP K w H kvs vs) : Walks K w H ⟨kvs.map fun kv => keyD kv.1, some (n, .fT kvs)⟩ (Itkt a od vs) := fun w1 H1 S e s ok => by
  have h1 := e.frz a od _ h
  have hl : kvs.length = vs.length := r.len
  refine ⟨fun i d hd => ?_, h1, by rw [List.length_map, hl]; exact Nat.le_refl _⟩
  have hi : i < kvs.length := by
    have := (List.getElem?_eq_some_iff.mp hd).1
    simpa using this
  refine ⟨⟨h1, by omega⟩, fun x H' hy => ?_⟩
  obtain ⟨rfl, k, v, q, g1, rfl, g3⟩ := hy
  refine ⟨.refl, s, ?_⟩
  have e1 : (kvs.map (·.1))[i]? = some k := by rw [r.1, List.getElem?_map, g1]; rfl
  rw [List.getElem?_map] at e1 hd
  obtain ⟨kv, z1, rfl⟩ := Option.map_eq_some_iff.mp e1
  rw [z1] at hd
  cases hd
  simp only [keyD, RV]
  exact ⟨q, _, rfl, g3, keyD_rv _⟩
end
section
variable {X : Cx} {W : WX} {tg e : Expr} {fe : EF}
theorem I_keys (he : PE X e (tE X.K W fe)) : PI X tg e (tI X.K W (iKeysD fe)) :=
  PI.weak (pi_keys he) fun σ H R h => by
    obtain ⟨w, S, ρ, s, re, p⟩ := h
    refine ⟨w, S, ρ, s, re, p.bind fun w1 H1 v x S1 e1 s1 rx p1 => ?_⟩
    split at p1
    · rename_i n
      split at p1
      · rename_i kvs hn
        obtain ⟨a, rfl, h2, od, vs, h3, h4⟩ := s1.get hn rx
        exact ⟨a, od, rfl, .inr ⟨vs, h3, p1 w1 H1 _ .refl s1 (walks_keys h2 h3 h4)⟩⟩
      · exact p1.elim
    · exact p1.elim
theorem E_lock (i : Nat) (he : PE X e (tE X.K W fe)) : PE X e (tE X.K W (eLock i fe)) :=
  PE.weak (pe_lock he) fun σ H Q h => by
    obtain ⟨w, S, ρ, s, re, p⟩ := h
    unfold eLock at p
    split at p
    · rename_i n hρ
      split at p
      · rename_i kvs hn
        obtain ⟨v, hv, rv⟩ := re.2 i _ hρ
        obtain ⟨d, rfl, h2, vs, h3, h4⟩ := s.get hn rv
        have hm := List.mem_of_getElem? h2
        have fr : Free H d := free_of h3 fun _ _ z => nomatch z
        refine ⟨d, .dT vs, h3, True.intro, fun od => ?_⟩
        have ew : Ext w H w (upd H d (.frz od (.dT vs))) := Ext.write s hm fr
        refine ⟨w, S.set n (.fT kvs), ρ, s.write h2 fr ⟨od, vs, upd_same, h4.wr s h2 fr⟩, re.mono ew, ?_⟩
        cases hf : fe ρ (S.set n (.fT kvs)) with
        | ok x S1 =>
          rw [hf] at p
          simp only [R.nox_ok, R.bind_ok] at p
          intro w1 H1 b e1 s1 rb
          have hd1 := e1.frz d od _ upd_same
          refine ⟨hd1, ?_⟩
          split at p
          · rename_i kvs' hn1
            obtain ⟨t, ht⟩ := e1.pre
            have h21 : w1.m[n]? = some d := by rw [← ht, List.getElem?_append_left (List.getElem?_eq_some_iff.mp h2).1]; exact h2
            obtain ⟨d', g1, od', vs', g2, g3⟩ := s1.at_ n _ hn1
            rw [h21] at g1
            cases g1
            rw [hd1] at g2
            cases g2
            exact p w1 _ b (Ext.unlock hm h3 e1) (s1.unlock h21 hd1 g3) (rb.ud (List.mem_of_getElem? h21) hd1)
          · exact p.elim
        | ex x S1 =>
          rw [hf] at p
          exact p.elim
        | no => rw [hf] at p; exact p.elim
      · exact p.elim
    · exact p.elim
end
end Ev

namespace Ev
open PySem PySem.Spec PyProof.Rows L2
/-- an attribute of a class's instances -/
def FldI (K : PySem.W.Frag) (c f : Str) : Prop := ∃ C, CI K c C ∧ NoAttr K C f
section
variable {X : Cx} {W : WX} {pos pos' : Pos} {o e value : Expr} {fo fe : EF} {c f : Str}
theorem E_fldI (h : FldI X.K c f) (he : PE X e (tE X.K W fe)) (hb : attributeBase e f X.env (eval e X.env) = eval e X.env := by rfl) : PE X (.Attribute e f pos) (tE X.K W (eFld c fe f)) :=
  let ⟨_, hc, hn⟩ := h
  E_fld hc hn he hb
theorem S_fldI (h : FldI X.K c f) (hv : PE X value (tE X.K W fe)) (ho : PE X o (tE X.K W fo)) (hs : swapsWith value (some (.Attribute o f pos')) pos.line X.env = pure false := by rfl) :
    PS X (.Assign [.Attribute o f pos'] value pos) (tS X.K W (sFld c fo f fe)) :=
  let ⟨_, hc, hn⟩ := h
  S_fld hc hn hv ho hs
end
/-- x, y = e1, e2, both written -/
def sPar (i j : Nat) (fa : AF) : SF := fun ρ S => sB (fa ρ S) ρ fun ds S1 => match ds with
  | [x, y] => .nx ((ρ.set i (some x)).set j (some y)) S1
  | _ => .no
theorem S_par {X : Cx} {W : WX} {x y : Str} {a b : Expr} {fa : AF} {px py pt pos : Pos} {kt k2 pt2} (i j : Nat) (hc : X.calm = true) (hN : X.N.Nodup) (hx : X.env.scope.names.lookup x = some .local) (hy : X.env.scope.names.lookup y = some .local) (ha : PA X [a, b] (tA X.K W fa))
    (hw : swappedStores [.Tuple [.Name x px, .Name y py] kt pt] (.Tuple [a, b] k2 pt2) X.env = pure (some [x, y])) (hi : X.N[i]? = some x := by rfl) (hj : X.N[j]? = some y := by rfl) (hij : i ≠ j := by decide)
    (hs : swapsWithSole [.Tuple [.Name x px, .Name y py] kt pt] (.Tuple [a, b] k2 pt2) pos.line X.env = pure false := by rfl) :
    PS X (.Assign [.Tuple [.Name x px, .Name y py] kt pt] (.Tuple [a, b] k2 pt2) pos) (tS X.K W (sPar i j fa)) :=
  PS.weak (ps_par hc hN hi hj hij hx hy ha hw hs) fun D σ H h => by
    obtain ⟨w, S, ρ, s, re, p⟩ := h
    refine ⟨w, S, ρ, s, re, p.bind re fun w1 H1 vs ds S1 e1 s1 rd p1 => ?_⟩
    split at p1
    · obtain ⟨v, u, rfl, rv, ru⟩ := rd.two
      exact ⟨v, u, rfl, p1 w1 H1 _ .refl s1 (((re.mono e1).set rv).set ru)⟩
    · exact p1.elim
/-! ### reversed, of a list that nobody changes -/
def iRevD (fa : AF) : IF := fun ρ S => (fa ρ S).bind fun ds S1 => match ds with
  | [.lst es] => .ok ⟨es.reverse, none⟩ S1
  | _ => .no
theorem walksRev {K : PySem.W.Frag} {w : Wo} {H : Hp} {a : Addr} {ds : List D} {xs : List V} (h1 : ∀ w1 H1, Ext w H w1 H1 → SqL K H1 a xs) (r : RVs K w H ds xs) : Walks K w H ⟨ds.reverse, none⟩ (Itv K a xs.length) := fun w1 H1 S e s _ => by
  have h1 := h1 w1 H1 e
  have r1 := r.mono e
  have hl := r1.length
  refine ⟨fun i d hd => ?_, Nat.le_of_eq (by rw [List.length_reverse, hl])⟩
  have hi : i < ds.length := by
    have := (List.getElem?_eq_some_iff.mp hd).1
    rwa [List.length_reverse] at this
  rw [List.getElem?_reverse hi, hl] at hd
  obtain ⟨v, hv, rv⟩ := r1.get hd
  refine ⟨⟨by omega, xs, v, h1, hv⟩, fun x H' hy => ?_⟩
  obtain ⟨rfl, hy⟩ := hy
  have : x = v := Option.some.inj ((hy xs h1).symm.trans hv)
  subst this
  exact ⟨.refl, s, rv⟩
theorem I_rev {X : Cx} {W : WX} {e tg : Expr} {fa : AF} {p pos : Pos} (hm : X.mg "reversed" = none) (ha : PA X [e] (tA X.K W fa)) (hg : Gl X "reversed" := by rfl) (hs : starEach [e] X.env = [(false, eval e X.env)] := by rfl) :
    PI X tg (.Call (.Name "reversed" p) [e] [] pos) (tI X.K W (iRevD fa)) :=
  PI.weak (pi_reversed hg hm ha hs) fun σ H R h => by
    obtain ⟨w, S, ρ, s, re, p⟩ := h
    refine ⟨w, S, ρ, s, re, p.bind fun w1 H1 vs ds S1 e1 s1 rd p1 => ?_⟩
    split at p1
    · obtain ⟨v, rfl, rv⟩ := rd.one
      simp only [RV] at rv
      obtain ⟨a, xs, h1, h2, h4, h3⟩ := rv
      exact ⟨a, xs, by rw [h1], SqL.of h2, p1 w1 H1 _ .refl s1 (walksRev (fun w2 H2 e2 => .inl (e2.rd (.inl h2) h4.1)) h3)⟩
    · exact p1.elim
end Ev

namespace Ev
open PySem PySem.Spec PyProof.Rows L2
/-! ### sorted(d), of a dict whose keys are tuples of ints -/
section
variable {prog : Program} {w : World} {A : Around} {E : Value → Shared → Prop} {s : Shared}
theorem sorted_src {T : String} {r d : Addr} {n : Nat} {P : Nat → Value → Prop} {OK : Heap → Prop} {ltv : Value → Value → Bool} {Q : Value → Shared → Prop} (K : PySem.W.KdlSrc prog w T r d n P OK) (O : SrtO.Swo ltv) (hh : A.handled = none) (hok : OK s.heap) (hn : n ≤ sizeLine)
    (hS : ∀ (vs : List Value) (s₁ : Shared) (a : Addr), vs.length = n → (∀ j v, vs[j]? = some v → P j v) → s₁.heap.get? a = some (seqObj "list" vs.toArray 0) → (∀ b o, s.heap.get? b = some o → b ≠ a ∧ s₁.heap.get? b = some o) → 2 ≤ vs.length → SrtO.SortableO prog w A.in1.in1 s₁ a vs ltv)
    (h : ∀ (vs out : List Value) (h' : Heap) (tk : Nat), vs.length = n → (∀ j v, vs[j]? = some v → P j v) → SrtO.Srtd ltv out → SrtO.Stb ltv out vs → (∀ b o, s.heap.get? b = some o → h'.get? b = some o) → Q (.ref h'.objs.size) { s with heap := sortedHeap (h'.push (seqObj "list" vs.toArray 0)) h'.objs.size vs out.toArray, toks := tk }) :
    wpAny (model prog w) A (call (.builtin "sorted") [.ref r]) Q E s := by
  refine Calls.call_function_entry kind_sorted plain_sorted entry_sorted (args_sorted1 _) ?_
  unfold Builtin.«sorted»
  refine wpAny_bind (m := checkCount "sorted" 1 1 _) (wpAny_pure ?_)
  refine wpAny_bind (PySem.W.kdu_collect (A := A.in1) K hh hok hn fun h' tk acc hk hacc => ?_)
  have hl : acc.toList.length = n := by rw [Array.length_toList]; exact hacc.1
  have hp : ∀ j v, acc.toList[j]? = some v → P j v := fun j v e => hacc.2 j v (by rw [← Array.getElem?_toList]; exact e)
  refine wpAny_bind (wpAny_newList ?_ (by rw [hl]; exact hn))
  have hoL : (h'.push (seqObj "list" acc.toList.toArray 0)).get? h'.objs.size = some (seqObj "list" acc.toList.toArray 0) := Heap.get?_push_size _ rfl
  have keep : ∀ b o, s.heap.get? b = some o → b ≠ h'.objs.size ∧ (h'.push (seqObj "list" acc.toList.toArray 0)).get? b = some o := fun b o q => by
    have hlt := Heap.lt_size (hk b o q)
    exact ⟨Nat.ne_of_lt hlt, Heap.get?_push_of_some _ (hk b o q)⟩
  show wpAny _ _ _ _ _ { s with heap := h'.push (seqObj "list" acc.toList.toArray 0), toks := tk }
  refine wpAny_bind (wpAny_holding (wpAny_call_entry slot_list_sort ⟨_, hoL, rfl⟩ entry_list_sort (SrtO.list_sort_ord O hoL (by rw [hl]; exact hn) (fun h2 => hS _ _ _ hl hp hoL keep h2) fun out hs hb => ⟨_, rfl, ?_⟩) (args_list_sort _)))
  exact wpAny_pure ⟨_, rfl, h acc.toList out h' tk hl hp hs hb hk⟩
end
/-- the ints of a key -/
def keyI : List Key → Option (List Int)
  | [] => some []
  | .inl i :: k => (keyI k).map (i :: ·)
  | .inr _ :: _ => none
theorem keyI_eq : ∀ {k : List Key} {is : List Int}, keyI k = some is → k.map kV = is.map V.int
  | [], is, h => by cases h; rfl
  | .inl i :: k, is, h => by
    unfold keyI at h
    obtain ⟨js, h1, rfl⟩ := Option.map_eq_some_iff.mp h
    rw [List.map_cons, keyI_eq h1]
    rfl
  | .inr _ :: _, is, h => by cases h
/-- sorted(d), all keys tuples of ints, none empty -/
def rSortedDT (K : PySem.W.Frag) : List V → Hp → VK → Prop := fun vs H Q => ∃ (a : Addr) (kvs : List (List Key × V)) (k : V → List Int) (iss : List (List Int)), vs = [V.ref a] ∧ Rd H a (.dT kvs) ∧ kvs.map (fun p => keyI p.1) = iss.map some ∧ (∀ is ∈ iss, is ≠ []) ∧
  (∀ (t : Addr) (is : List Int), H t = some (.tup (is.map V.int)) → k (.ref t) = is) ∧
  ∀ ys p, (ys.map k).Perm iss → ys.Pairwise (fun x y => lexL (k y) (k x) = false) → (∀ y ∈ ys, ∃ t, y = V.ref t ∧ H t = some (.tup ((k y).map V.int))) → H p = none → Q (.ref p) (upd H p (.lst ys))
theorem isKeys_ints {H : Hp} {k : V → List Int} (hk : ∀ (t : Addr) (is : List Int), H t = some (.tup (is.map V.int)) → k (.ref t) = is) : ∀ {kvs : List (List Key × V)} {bs : List Addr} {iss : List (List Int)}, IsKeys H kvs bs → kvs.map (fun p => keyI p.1) = iss.map some → bs.map (fun b => k (.ref b)) = iss ∧ ∀ b ∈ bs, H b = some (.tup ((k (.ref b)).map V.int)) ∧ k (.ref b) ∈ iss
  | [], [], iss, _, h => by
    cases iss with
    | nil => exact ⟨rfl, fun b hb => by cases hb⟩
    | cons i l => cases h
  | p :: kvs, b :: bs, iss, r, h => by
    cases iss with
    | nil => cases h
    | cons is iss =>
      rw [List.map_cons, List.map_cons, List.cons.injEq] at h
      cases r with
      | cons h1 t =>
        rw [keyI_eq h.1] at h1
        have e := hk b is h1
        obtain ⟨i1, i2⟩ := isKeys_ints hk t h.2
        refine ⟨by rw [List.map_cons, e, i1], fun c hc => ?_⟩
        rcases List.mem_cons.mp hc with rfl | hc
        · rw [e]; exact ⟨h1, List.mem_cons_self⟩
        · exact ⟨(i2 c hc).1, List.mem_cons_of_mem _ (i2 c hc).2⟩
  | [], _ :: _, _, r, _ => by cases r
  | _ :: _, [], _, r, _ => by cases r
theorem cr_sortedDT {X : Cx} (hc : X.calm = true) : CallR X (.builtin "sorted") (rSortedDT X.K) := by
  intro pins s σ H vs us Q I r h
  obtain ⟨d, kvs, k, iss, rfl, hd, hki, hne, hk, q⟩ := h
  obtain ⟨u, rfl, rx⟩ := r.one
  cases rx
  obtain ⟨z, hs, ks, pr, o, es, ep, ho, hx, hdt, he, hn⟩ := (show ObjOk X.prog X.w H s.heap d (.dT kvs) from hd.ok I.hok)
  have l1 : es.size = ks.length := size_of_entries he
  have l2 : kvs.length = ks.length := Paired.length pr
  obtain ⟨i1, i2⟩ := isKeys_ints hk (isKeys_of pr) hki
  have shape : ∀ vs : List Value, vs.length = es.size → (∀ (j : Nat) (v : Value), vs[j]? = some v → ∃ en : DictEntry, es[j]? = some en ∧ v = en.key) → vs = (ks.map fun x => x.2.1).map Value.ref := by
    intro vs hv hp
    rw [List.map_map]
    apply List.ext_getElem?
    intro j
    rw [List.getElem?_map]
    cases hj : vs[j]? with
    | none =>
      have h1 := List.getElem?_eq_none_iff.mp hj
      rw [List.getElem?_eq_none (by omega)]
      all_goals rfl
    | some v =>
      obtain ⟨en, hen, hv⟩ := hp j v hj
      have qe := entry_at he j
      rw [hen] at qe
      cases hb : ks[j]? with
      | none =>
        rw [hb] at qe
        exact nomatch (show some en = none from qe)
      | some b =>
        rw [hb] at qe
        have e2 : en = entryOfKey (tupleKind (mixKind X.prog X.w)) b := Option.some.inj qe
        rw [hv, e2]
        all_goals rfl
  have hints : ∀ (h' : Heap), (∀ b o, s.heap.get? b = some o → h'.get? b = some o) → ∀ v ∈ (ks.map fun x => x.2.1).map Value.ref, IsInts h' v (k (backV v)) ∧ k (backV v) ≠ [] := by
    intro h' kp v hv
    obtain ⟨b, hb, rfl⟩ := List.mem_map.mp hv
    obtain ⟨hb1, hb2⟩ := i2 b hb
    obtain ⟨_, its2, r2, o, ho, hc, n, hd⟩ := I.hok _ _ hb1
    exact ⟨⟨b, o, _, n, rfl, kp _ _ ho, hc, hd, r2.ints⟩, hne _ hb2⟩
  refine sorted_src (kdl_raw hs hx hdt) (swo_lexL fun u => k (backV u)) (I.ok.hd hc) ho (by omega) (fun vs s₁ a hv hp ha kk h2 => ?_) fun vs out h' tk hv hp h1 h2 kp => ?_
  · rw [shape vs hv hp] at h2 ha ⊢
    refine ints_sortable (k := fun u => k (backV u)) (by omega) (hints s₁.heap fun b o e => (kk b o e).2) fun o e c => ?_
    have e' : some o = some (seqObj "list" _ 0) := e.symm.trans ha
    cases e'
    exact absurd (Value.type.inj c) (by decide)
  · have I2 : Inv X pins σ H { s with heap := h', toks := tk } := I.kept kp
    have ev := shape vs hv hp
    have hperm := h2.perm
    rw [ev] at hperm
    have h3 : ∀ u ∈ out, ∃ a, u = Value.ref a := fun u hu => by
      obtain ⟨b, _, rfl⟩ := List.mem_map.mp (hperm.mem_iff.mp hu)
      exact ⟨b, rfl⟩
    have hoL : (h'.push (seqObj "list" vs.toArray 0)).get? h'.objs.size = some (seqObj "list" vs.toArray 0) := Heap.get?_push_size _ rfl
    obtain ⟨e0, hat⟩ := sortedHeap_at (out := out.toArray) hoL
    have kp2 : ∀ b o, h'.get? b = some o → (sortedHeap (h'.push (seqObj "list" vs.toArray 0)) h'.objs.size vs out.toArray).get? b = some o := fun b o e => by
      have hlt := Heap.lt_size e
      have e2 := Heap.get?_push_of_some (seqObj "list" vs.toArray 0) e
      rw [sortedHeap_old (Nat.ne_of_lt hlt) (Heap.lt_size e2)]
      exact e2
    have hp2 : (out.map backV).Perm ((ks.map fun x => x.2.1).map V.ref) := by
      have := hperm.map backV
      rw [List.map_map] at this
      exact this
    have mm : ∀ y ∈ out.map backV, ∃ t, y = V.ref t ∧ H t = some (.tup ((k y).map V.int)) := fun y hy => by
      obtain ⟨b, hb, rfl⟩ := List.mem_map.mp (hp2.mem_iff.mp hy)
      exact ⟨b, rfl, (i2 b hb).1⟩
    refine ⟨.ref h'.objs.size, upd H h'.objs.size (.lst (out.map backV)), I2.laid (t' := tk) kp2 (Nat.le_refl _) ⟨?_, out, e0, vals_back h3, hat⟩, rfl, q _ _ ?_ (List.pairwise_map.mpr h1) mm (I2.hok.fresh (Nat.le_refl _))⟩
    · rw [hp2.length_eq, List.length_map, List.length_map]
      omega
    · have h4 := hp2.map k
      refine h4.trans (List.Perm.of_eq ?_)
      rw [← i1, List.map_map, List.map_map, List.map_map]
      rfl
/-! the same by data -/
def keysI {α : Type} : List (List Key × α) → Option (List (List Int))
  | [] => some []
  | p :: ps => match keyI p.1, keysI ps with
    | some is, some iss => some (is :: iss)
    | _, _ => none
theorem keysI_map {α : Type} : ∀ {ps : List (List Key × α)} {iss : List (List Int)}, keysI ps = some iss → ps.map (fun p => keyI p.1) = iss.map some
  | [], iss, h => by cases h; rfl
  | p :: ps, iss, h => by
    unfold keysI at h
    split at h
    · rename_i is iss0 h1 h2
      cases h
      rw [List.map_cons, List.map_cons, h1, keysI_map h2]
    · cases h
theorem keysI_fst {α β : Type} : ∀ {ps : List (List Key × α)} {qs : List (List Key × β)}, ps.map (·.1) = qs.map (·.1) → keysI ps = keysI qs
  | [], [], _ => rfl
  | [], _ :: _, h => by cases h
  | _ :: _, [], h => by cases h
  | p :: ps, q :: qs, h => by
    rw [List.map_cons, List.map_cons, List.cons.injEq] at h
    simp only [keysI, h.1, keysI_fst h.2]
def oSortK : OpN := fun ds S => match ds with
  | [.loc n] => match S[n]? with
    | some (.dT kvs) => (keysI kvs).bind fun iss => if iss.all (fun is => !is.isEmpty) then some (.lst (tupsD (isortL iss)), S) else none
    | _ => none
  | _ => none
theorem callS_sortK {K : PySem.W.Frag} : CallS K (rSortedDT K) oSortK := by
  intro w S H ds vs d S' Q s rd e k
  unfold oSortK at e
  split at e
  · rename_i n
    obtain ⟨v, rfl, rv⟩ := rd.one
    split at e
    · rename_i kvs hn
      obtain ⟨a, rfl, ha, us, h1, h2⟩ := s.get hn rv
      cases hi : keysI kvs with
      | none => rw [hi] at e; cases e
      | some iss =>
        rw [hi] at e
        simp only [Option.bind_some] at e
        split at e
        · rename_i hne
          cases e
          have hki := keysI_map ((keysI_fst h2.1.symm).trans hi)
          refine ⟨a, us, keyV H, iss, rfl, .inl h1, hki, fun is hm => ?_, fun t is ht => keyV_of ht, fun ys p hp hs hm hn2 => ?_⟩
          · have := List.all_eq_true.mp hne is hm
            intro z
            rw [z] at this
            cases this
          · have r1 : RVs K w H (tupsD (ys.map (keyV H))) ys := tups_rel fun y hy => by
              obtain ⟨t, rfl, c⟩ := hm y hy
              exact ⟨t, _, rfl, c⟩
            have e1 : ys.map (keyV H) = isortL iss := srtL_uniq (hp.trans (isortL_perm iss).symm) (List.pairwise_map.mpr hs) (isortL_srt iss)
            rw [e1] at r1
            exact k w _ _ (Ext.fresh hn2) (s.fresh hn2) (RV.newLst s hn2 r1)
        · cases e
    · cases e
  · cases e
theorem E_sortK {X : Cx} {W : WX} {p pos : Pos} {e : Expr} {es : List Expr} {fa : AF} (hc : X.calm = true) (hm : X.mg "sorted" = none) (ha : PA X (e :: es) (tA X.K W fa)) (hg : Gl X "sorted" := by rfl)
    (he : starEach (e :: es) X.env = (false, eval e X.env) :: starEach es X.env := by rfl) (hpl : (backTo pos (starEach es X.env)).any (·.1) = false := by rfl) : PE X (.Call (.Name "sorted" p) (e :: es) [] pos) (tE X.K W (eCb oSortK fa)) :=
  E_cb (cr_sortedDT hc) callS_sortK hm ha hg (by decide +kernel) (by decide) (by decide) he hpl
end Ev

namespace Ev
open PySem PySem.Spec PyProof.Rows L2
/-! ### min, of a list of ints -/
def minI (i : Int) (is : List Int) : Int := is.foldl (fun a b => if b < a then b else a) i
theorem minI_spec : ∀ (is : List Int) (i : Int), minI i is ∈ i :: is ∧ ∀ y ∈ i :: is, minI i is ≤ y
  | [], i => ⟨List.mem_cons_self, fun y hy => by rw [List.mem_singleton.mp hy]; exact Int.le_refl _⟩
  | j :: is, i => by
    unfold minI
    rw [List.foldl_cons]
    obtain ⟨h1, h2⟩ := minI_spec is (if j < i then j else i)
    unfold minI at h1 h2
    refine ⟨?_, fun y hy => ?_⟩
    · rcases List.mem_cons.mp h1 with z | z
      · rw [z]
        split
        · exact List.mem_cons_of_mem _ List.mem_cons_self
        · exact List.mem_cons_self
      · exact List.mem_cons_of_mem _ (List.mem_cons_of_mem _ z)
    · have h0 := h2 _ List.mem_cons_self
      rcases List.mem_cons.mp hy with rfl | hy
      · refine Int.le_trans h0 ?_
        split <;> omega
      · rcases List.mem_cons.mp hy with rfl | hy
        · refine Int.le_trans h0 ?_
          split <;> omega
        · exact h2 y (List.mem_cons_of_mem _ hy)
def gMinL : List D → Sto → Option D := fun ds S => match ds with
  | [d] => match (lstOf S d).bind intsOf with
    | some (i :: is) => some (.int (minI i is))
    | _ => none
  | _ => none
theorem callS_minL {K : PySem.W.Frag} : CallS K (rMin K) (pure1 gMinL) := callS_pure fun w S H ds vs d Q s rd e k => by
  unfold gMinL at e
  split at e
  · rename_i d0
    obtain ⟨v, rfl, rv⟩ := rd.one
    split at e
    · rename_i i is he
      cases e
      obtain ⟨es, hl, hi⟩ := Option.bind_eq_some_iff.mp he
      obtain ⟨a, xs, rfl, h2, h3⟩ := lstOf_sq s rv hl
      rw [intsOf_eq hi] at h3
      rw [h3.ints] at h2
      refine ⟨a, i :: is, rfl, h2, by simp, fun m hm hy => ?_⟩
      obtain ⟨m1, m2⟩ := minI_spec is i
      have e1 : m = minI i is := Int.le_antisymm (hy _ m1) (m2 _ hm)
      rw [e1]
      exact k w H _ .refl s (by simp only [RV])
    · cases e
  · cases e
theorem E_minL {X : Cx} {W : WX} {p pos : Pos} {e : Expr} {es : List Expr} {fa : AF} (hc : X.calm = true) (hm : X.mg "min" = none) (ha : PA X (e :: es) (tA X.K W fa)) (hg : Gl X "min" := by rfl)
    (he : starEach (e :: es) X.env = (false, eval e X.env) :: starEach es X.env := by rfl) (hpl : (backTo pos (starEach es X.env)).any (·.1) = false := by rfl) : PE X (.Call (.Name "min" p) (e :: es) [] pos) (tE X.K W (eCb (pure1 gMinL) fa)) :=
  E_cb (cr_min hc) callS_minL hm ha hg (by decide +kernel) (by decide) (by decide) he hpl
end Ev

namespace HT
open PySem PySem.Spec PyProof.Rows
section
variable {prog : Program} {w : World} {A : Around} {E : Value → Shared → Prop} {s : Shared}
theorem sliceApplied_rev {sl : Addr} {vl vu vs : Value} {n : Nat} {Q : Int × Int × Nat → Shared → Prop} (hs : s.heap.IsSliceOf sl vl vu vs) (pl : IsPart vl none) (pu : IsPart vu none) (ps : IsPart vs (some (-1)))
    (h : Q ((n : Int) - 1, -1, n) s) : wpAny (model prog w) A (Builtin.Slice.sliceApplied (.ref sl) (pure (n : Int))) Q E s := by
  obtain ⟨os, hos, hcs, hds⟩ := id hs
  unfold Builtin.Slice.sliceApplied Builtin.Slice.sliceFields
  refine wpAny_bind (wpAny_bind (wpAny_field hos hds (x := vl) rfl (wpAny_bind (wpAny_field hos hds (x := vu) rfl (wpAny_bind (wpAny_field hos hds (x := vs) rfl (wpAny_pure ?_)))))))
  refine wpAny_bind (slicePart_ ps ?_)
  show wpAny _ _ (if ((-1 : Int) == 0) = true then _ else _) _ _ s
  rw [if_neg (by decide)]
  refine wpAny_bind (slicePart_ pl (wpAny_bind (slicePart_ pu (wpAny_bind (wpAny_pure ?_)))))
  show wpAny _ _ (pure (((n : Int) - 1), (-1 : Int), Builtin.Slice.slicePlaces ((n : Int) - 1) (-1) (-1))) _ _ s
  have e : Builtin.Slice.slicePlaces ((n : Int) - 1) (-1) (-1) = n := by
    unfold Builtin.Slice.slicePlaces
    rw [if_neg (by decide)]
    by_cases hn : 0 < n
    · rw [if_pos (by omega)]
      have : ((n : Int) - 1 - -1 - 1) / (- -1) + 1 = (n : Int) := by
        rw [show (- -1 : Int) = 1 by decide, Int.ediv_one]
        omega
      rw [this]
      rfl
    · rw [if_neg (by omega)]
      have : n = 0 := by omega
      rw [this]
      rfl
  rw [e]
  exact wpAny_pure h
theorem pick_rev (xs : List Value) : ((List.range xs.length).filterMap fun (m : Nat) => xs.toArray[(((xs.length : Int) - 1) + (m : Int) * (-1)).toNat]?) = xs.reverse := by
  apply List.ext_getElem?
  intro i
  have e : ∀ l : List Nat, (∀ m ∈ l, m < xs.length) → (l.filterMap fun (m : Nat) => xs.toArray[(((xs.length : Int) - 1) + (m : Int) * (-1)).toNat]?) = l.map fun m => xs.reverse.getD m .none := by
    intro l hl
    induction l with
    | nil => rfl
    | cons m l ih =>
      have hm := hl m List.mem_cons_self
      have ih := ih fun k hk => hl k (List.mem_cons_of_mem _ hk)
      have e1 : (((xs.length : Int) - 1) + (m : Int) * (-1)).toNat = xs.length - 1 - m := by omega
      have e2 : xs.toArray[(((xs.length : Int) - 1) + (m : Int) * (-1)).toNat]? = some (xs.reverse.getD m .none) := by
        rw [e1, List.getElem?_toArray, List.getD_eq_getElem?_getD, List.getElem?_reverse hm, List.getElem?_eq_getElem (by omega)]
        rfl
      rw [List.filterMap_cons, e2, List.map_cons, ih]
  rw [e _ fun m hm => List.mem_range.mp hm]
  by_cases hi : i < xs.length
  · rw [List.getElem?_map, List.getElem?_range hi, Option.map_some, List.getD_eq_getElem?_getD, List.getElem?_eq_getElem (by rw [List.length_reverse]; exact hi)]
    rfl
  · rw [List.getElem?_eq_none (by simpa using hi), List.getElem?_eq_none (by simpa using hi)]
theorem getItem_tuple_rev {t sl : Addr} {its : List Value} {vl vu vs : Value} {Q : Value → Shared → Prop} (ht : IsTup s.heap t its.toArray) (hs : s.heap.IsSliceOf sl vl vu vs) (pl : IsPart vl none) (pu : IsPart vu none) (ps : IsPart vs (some (-1)))
    (h : Q (.ref s.heap.objs.size) { s with heap := s.heap.push { cls := .type "tuple", data := .seq its.reverse.toArray } })
    (hsz : its.length ≤ sizeLine) : wpAny (model prog w) A (getItem (.ref t) (.ref sl)) Q E s := by
  have htake : sizeOk (.seq its.reverse.toArray) := by
    show its.reverse.toArray.size ≤ sizeLine
    rw [List.size_toArray, List.length_reverse]
    exact hsz
  obtain ⟨os, hos, hcs, hds⟩ := id hs
  have hTs : s.TypeIs (.ref sl) "slice" := ⟨os, hos, hcs⟩
  unfold getItem
  try with_reducible refine wpAny_holding ?_
  first | refine wpAny_bind (wpAny_pure ?_) | skip
  refine wpAny_bind (wpAny_sequenceKey ht.typeIs (by decide) ?_)
  refine wpAny_bind (wpAny_callSpecial?_slot (name := Str.ofString "__getitem__") ht.typeIs PyProof.Rows.slot_tuple_getitem
    (wpAny_call_entry PyProof.Rows.slot_tuple_getitem ht.typeIs entry_tuple_getitem ?_ (args_tuple_getitem _ _)))
  show wpAny _ _ (Builtin.Tuple.tupleItemsOf (.ref t) >>= _) _ _ s
  refine wpAny_bind (tupleItemsOf_ ht ?_)
  refine wpAny_bind (wpAny_typeOf hTs ?_)
  rw [if_pos (by decide)]
  have hz : its.toArray.size = its.length := List.size_toArray
  refine wpAny_bind (sliceApplied_rev (n := its.toArray.size) hs pl pu ps ?_)
  show wpAny _ _ (if (((its.toArray.size : Int) - 1) == 0 && (-1 : Int) == 1 && its.toArray.size == its.toArray.size) = true then _ else _) _ _ s
  rw [if_neg (by simp)]
  have pk : ((List.range its.toArray.size).filterMap fun (m : Nat) => its.toArray[(((its.toArray.size : Int) - 1) + (m : Int) * (-1)).toNat]?) = its.reverse := by
    rw [hz]
    exact pick_rev its
  rw [pk]
  first
    | exact wpAny_bind (m := Builtin.Tuple.tupleExact _) (wpAny_newObj_type (wpAny_pure ⟨_, rfl, wpAny_pure h⟩) htake)
    | exact wpAny_bind (m := Builtin.Tuple.tupleExact _) (wpAny_newObj_type (wpAny_bind (wpAny_pure (wpAny_pure ⟨_, rfl, wpAny_pure h⟩))) htake)
    | exact wpAny_bind (wpAny_bind (m := Builtin.Tuple.tupleExact _) (wpAny_newObj_type (wpAny_pure (wpAny_pure ⟨_, rfl, wpAny_pure h⟩)) htake))
    | exact wpAny_bind (wpAny_bind (m := Builtin.Tuple.tupleExact _) (wpAny_newObj_type (wpAny_pure ⟨_, rfl, wpAny_pure h⟩) htake))
end
end HT
namespace L2
open PySem PySem.Spec PyProof.Rows
section
variable {X : Cx}
def tRevT (K : PySem.W.Frag) (te : TE) : TE := fun σ H Q => te σ H fun x H1 => ∃ a xs, x = .ref a ∧ SqT K H1 a xs ∧ ∀ p, H1 p = none → Q (.ref p) (upd H1 p (.tup xs.reverse))
theorem pe_revT {e : Expr} {te : TE} {k : Nat} {p1 p2 p3 pos : Pos} (he : PE X e te) : PE X (.Subscript e (.Slice none none (some (.UnaryOp .USub (.Constant (.int 1) k p1) p2)) p3) pos) (tRevT X.K te) := by
  refine ⟨fun pins s σ H Q I h => ?_⟩
  refine Subscript_ (thn (he.run pins s σ H _ I h) fun v s1 ⟨x, H1, I1, r1, q1⟩ => ?_)
  obtain ⟨a, xs, ex, hx, q⟩ := q1
  subst ex
  cases r1
  have hst : PO X (some (.UnaryOp .USub (.Constant (.int 1) k p1) p2)) (tPart (tUn (rU fun i => .int (-i)) (tC (.int 1)))) := po_some (pe_un un_neg pe_int)
  refine wpAny_Slice (thn (po_none.run pins s1 σ H1 (fun o H2 => o = none ∧ H2 = H1) I1 ⟨rfl, rfl⟩) fun vl s2 ⟨l, H2, I2, pl, el, e2⟩ => ?_)
  subst el e2
  refine thn (po_none.run pins s2 σ H2 (fun o H3 => o = none ∧ H3 = H2) I2 ⟨rfl, rfl⟩) fun vu s3 ⟨u, H3, I3, pu, eu, e3⟩ => ?_
  subst eu e3
  refine thn (hst.run pins s3 σ H3 (fun o H4 => o = some (-1) ∧ H4 = H3) I3 ⟨1, rfl, -1, rfl, rfl, rfl⟩) fun vs s4 ⟨o, H4, I4, ps, eo, e4⟩ => ?_
  subst eo e4
  have I5 : Inv X pins σ H4 { s4 with heap := s4.heap.push { cls := .type "slice", data := .fields #[vl, vu, vs] } } := I4.kept (t' := s4.toks) fun b ob q => Heap.get?_push_of_some _ q
  obtain ⟨its, r, ht, hz⟩ := I5.tuple hx
  have hlen := r.length
  show wpAny (model X.prog X.w) X.A (subscriptTail e (.Slice none none (some (.UnaryOp .USub (.Constant (.int 1) k p1) p2)) p3) (.ref a) (.ref s4.heap.objs.size)) (EP X pins σ Q) X.xe { s4 with heap := s4.heap.push { cls := .type "slice", data := .fields #[vl, vu, vs] } }
  refine tail_any (ops := [.ref a, .ref s4.heap.objs.size]) ht.typeIs (PyProof.Rows.slot_tuple_getitem.lookup) ?_ (by with_unfolding_all rfl)
  refine HT.getItem_tuple_rev ht (Heap.IsSliceOf.new _ vl vu vs) pl pu ps ?_ (by omega)
  refine ⟨.ref _, _, I5.laid (t' := s4.toks) (o := .tup xs.reverse) (fun b ob q => Heap.get?_push_of_some _ q) (Nat.le_refl _) ?_, rfl, q _ (I5.hok.fresh (Nat.le_refl _))⟩
  refine ⟨by rw [List.length_reverse]; exact hz, _, r.reverse, ?_⟩
  exact IsTup.new _ _
end
end L2
namespace Ev
open PySem PySem.Spec PyProof.Rows L2
/-- t[::-1], of a tuple -/
def eRevT (fe : EF) : EF := fun ρ S => (fe ρ S).bind fun x S1 => match tupOf x with
  | some ds => .ok (.tup ds.reverse) S1
  | none => .no
theorem RVs.reverse {K : PySem.W.Frag} {w : Wo} {H : Hp} : ∀ {ds : List D} {vs : List V}, RVs K w H ds vs → RVs K w H ds.reverse vs.reverse
  | [], vs, h => by simp only [RVs] at h; subst h; exact .nil
  | d :: ds, vs, h => by
    simp only [RVs] at h
    obtain ⟨v, r, h1, h2, h3⟩ := h
    subst h1
    rw [List.reverse_cons, List.reverse_cons]
    exact RVs.snoc (RVs.reverse h3) h2
theorem E_revT {X : Cx} {W : WX} {e : Expr} {fe : EF} {k : Nat} {p1 p2 p3 pos : Pos} (he : PE X e (tE X.K W fe)) : PE X (.Subscript e (.Slice none none (some (.UnaryOp .USub (.Constant (.int 1) k p1) p2)) p3) pos) (tE X.K W (eRevT fe)) :=
  PE.weak (pe_revT he) fun σ H Q h => by
    obtain ⟨w, S, ρ, s, re, p⟩ := h
    refine ⟨w, S, ρ, s, re, p.bind fun w1 H1 v x S1 e1 s1 rx p1 => ?_⟩
    split at p1
    · rename_i ds hd
      obtain ⟨a, xs, rfl, h2, h3⟩ := tupOf_sq rx hd
      exact ⟨a, xs, rfl, h2, fun q hq => p1 w1 _ _ (Ext.fresh hq) (s1.fresh hq) (RV.newTup hq h3.reverse)⟩
    · exact p1.elim
end Ev

namespace Ev
open PySem PySem.Spec PyProof.Rows L2
/-! ### the evaluation's steps, for simp -/
section
variable {i j : Int} {S : Sto} {a b : Str} {x y : D} {p : Bool}
theorem oAdd_int : oAdd (.int i) (.int j) S = some (.int (i + j)) := rfl
theorem oSub_int : oSub (.int i) (.int j) S = some (.int (i - j)) := rfl
theorem oMul_int (h : CMul i j) : oMul (.int i) (.int j) S = some (.int (i * j)) := by unfold oMul oI; exact if_pos h
theorem oDiv_int (h : CDv i j) : oDiv (.int i) (.int j) S = some (.int (i / j)) := by unfold oDiv oI; exact if_pos h
theorem oMod_int (h : 0 < j) : oMod (.int i) (.int j) S = some (.int (i % j)) := by unfold oMod oI; exact if_pos h
theorem oPow_int (h : CPow i j) : oPow (.int i) (.int j) S = some (.int (i ^ j.toNat)) := by unfold oPow oI; exact if_pos h
theorem oShl_int (h : CPow i j) : oShl (.int i) (.int j) S = some (.int (i * 2 ^ j.toNat)) := by unfold oShl oI; exact if_pos h
theorem oLt_int : oLt (.int i) (.int j) S = some (.bl (decide (i < j))) := rfl
theorem oLe_int : oLe (.int i) (.int j) S = some (.bl (decide (i ≤ j))) := rfl
theorem oGt_int : oGt (.int i) (.int j) S = some (.bl (decide (j < i))) := rfl
theorem oGe_int : oGe (.int i) (.int j) S = some (.bl (decide (j ≤ i))) := rfl
theorem oEq_int : oEq (.int i) (.int j) S = some (.bl (decide (i = j))) := rfl
theorem oNe_int : oNe (.int i) (.int j) S = some (.bl (!decide (i = j))) := rfl
theorem oEq_str : oEq (.str a) (.str b) S = some (.bl (decide (a = b))) := rfl
theorem oEq_bl {q : Bool} : oEq (.bl p) (.bl q) S = some (.bl (decide (p = q))) := rfl
theorem CMul.l (h : (-(2 ^ 64) < i ∧ i < 2 ^ 64)) : CMul i j := .inl h
theorem CMul.r (h : (-(2 ^ 64) < j ∧ j < 2 ^ 64)) : CMul i j := .inr h
theorem ixN_ok {n k : Nat} (h : k < n) : ixN n (k : Int) = some k := by
  unfold ixN
  rw [if_pos (by omega), if_pos (by omega)]
  simp
theorem atI_ok {α : Type} {xs : List α} {k : Nat} {v : α} (h : xs[k]? = some v) : atI xs (k : Int) = some v := atI_nat h
theorem atI_0 {α : Type} {x : α} {xs : List α} : atI (x :: xs) 0 = some x := atI_nat (j := 0) rfl
theorem atI_1 {α : Type} {x y : α} {xs : List α} : atI (x :: y :: xs) 1 = some y := atI_nat (j := 1) rfl
theorem atI_2 {α : Type} {x y z : α} {xs : List α} : atI (x :: y :: z :: xs) 2 = some z := atI_nat (j := 2) rfl
theorem atI_3 {α : Type} {x y z u : α} {xs : List α} : atI (x :: y :: z :: u :: xs) 3 = some u := atI_nat (j := 3) rfl
theorem atI_4 {α : Type} {x y z u v : α} {xs : List α} : atI (x :: y :: z :: u :: v :: xs) 4 = some v := atI_nat (j := 4) rfl
theorem ixN51 : ixN 5 1 = some 1 := by decide
theorem ixN52 : ixN 5 2 = some 2 := by decide
theorem ixN53 : ixN 5 3 = some 3 := by decide
theorem ixN54 : ixN 5 4 = some 4 := by decide
theorem set_get {l : List α} {k : Nat} {c : α} (h : k < l.length) : (l.set k c)[k]? = some c := List.getElem?_set_self h
theorem sizeLine_ok {n : Nat} (h : n ≤ 1000) : n ≤ sizeLine := by rw [sizeLine_eq]; omega
theorem gLen_seq {d : D} {es : List D} (h : seqOf S d = some es) : gLen [d] S = some (.int es.length) := by unfold gLen; simp only [h]
theorem seqOf_tup {es : List D} : seqOf S (.tup es) = some es := rfl
theorem seqOf_lst {es : List D} : seqOf S (.lst es) = some es := rfl
theorem seqOf_loc {n : Nat} {es : List D} (h : S[n]? = some (.lst es)) : seqOf S (.loc n) = some es := by unfold seqOf lstOf lstX; simp only [tupOf, h]
theorem oIx_tup {es : List D} : oIx (.tup es) (.int i) S = atI es i := rfl
theorem oIx_lst {es : List D} : oIx (.lst es) (.int i) S = atI es i := rfl
theorem oIx_con {es : List D} : oIx (.con es) (.int i) S = atI es i := rfl
theorem oIx_loc {n : Nat} {es : List D} (h : S[n]? = some (.lst es)) : oIx (.loc n) (.int i) S = atI es i := by unfold oIx lstOf lstX; simp only [tupOf, h]
theorem lstOf_loc {n : Nat} {es : List D} (h : S[n]? = some (.lst es)) : lstOf S (.loc n) = some es := by unfold lstOf lstX; simp only [h]
end
/-- a store cut back -/
theorem gc_set {S S' : Sto} {d : D} (h1 : S.length ≤ S'.length) (h2 : okD S.length d = true) (h3 : ∀ i, i < S.length → S'[i]? = S[i]? ∨ ∃ c, S'[i]? = some c ∧ okC S.length c = true) : gc S d S' = .ok d (S'.take S.length) := by
  unfold gc; exact if_pos ⟨h1, h2, h3⟩
theorem gc_same {S : Sto} {d : D} (h2 : okD S.length d = true) : gc S d S = .ok d S := by
  rw [gc_set (Nat.le_refl _) h2 fun i _ => .inl rfl, List.take_length]
theorem gc_app {S T : Sto} {d : D} (h2 : okD S.length d = true) : gc S d (S ++ T) = .ok d S := by
  rw [gc_set (by simp) h2 fun i hi => .inl (List.getElem?_append_left hi), List.take_left']
  rfl
theorem gc_put {S : Sto} {d : D} {p : Nat} {c : Cel} (h2 : okD S.length d = true) (hc : okC S.length c = true) : gc S d (S.set p c) = .ok d (S.set p c) := by
  have := gc_set (S := S) (S' := S.set p c) (d := d) (by simp) h2 fun i hi => by
    by_cases e : i = p
    · subst e; exact .inr ⟨c, List.getElem?_set_self hi, hc⟩
    · exact .inl (List.getElem?_set_ne (Ne.symm e))
  rw [this, show List.take S.length (S.set p c) = S.set p c from List.take_of_length_le (by simp)]
theorem gc_put_app {S T : Sto} {d : D} {p : Nat} {c : Cel} (h2 : okD S.length d = true) (hc : okC S.length c = true) : gc S d (S.set p c ++ T) = .ok d (S.set p c) := by
  have := gc_set (S := S) (S' := S.set p c ++ T) (d := d) (by simp) h2 fun i hi => by
    rw [List.getElem?_append_left (by simpa using hi)]
    by_cases e : i = p
    · subst e; exact .inr ⟨c, List.getElem?_set_self hi, hc⟩
    · exact .inl (List.getElem?_set_ne (Ne.symm e))
  rw [this, List.take_left' (by simp)]
theorem okDs_ints (n : Nat) (is : List Int) : okDs n (is.map D.int) = true := by
  induction is with
  | nil => rfl
  | cons i is ih => simp only [List.map_cons, okDs, okD, ih, Bool.and_self]
end Ev
namespace Ev
open PySem PySem.Spec PyProof.Rows L2
/-- a for by an invariant -/
theorem forGo_inv {k : Wk} {tg : Tg} {b : SF} (I : Nat → En → Sto → Prop) (hk : ∀ i ρ S, I i ρ S → k.ok S) : ∀ (ds : List D) (i : Nat) (ρ : En) (S : Sto), I i ρ S →
    (∀ (j : Nat) (d : D) (ρ : En) (S : Sto), ds[j]? = some d → I (i + j) ρ S → ∃ ρ1 ρ2 S2, tg.asg d ρ S = some ρ1 ∧ (b ρ1 S = .nx ρ2 S2 ∨ b ρ1 S = .ct ρ2 S2) ∧ I (i + j + 1) ρ2 S2) →
    ∃ ρ' S', forGo k tg b ds ρ S = .nx ρ' S' ∧ I (i + ds.length) ρ' S'
  | [], i, ρ, S, h, _ => ⟨ρ, S, by unfold forGo Wk.guard; rw [if_pos (hk _ _ _ h)], h⟩
  | d :: ds, i, ρ, S, h, step => by
    obtain ⟨ρ1, ρ2, S2, h1, h2, h3⟩ := step 0 d ρ S rfl h
    obtain ⟨ρ', S', h4, h5⟩ := forGo_inv I hk ds (i + 1) ρ2 S2 h3 fun j d' ρ S hd hI => by
      have := step (j + 1) d' ρ S (by simpa using hd) (by rw [← Nat.add_assoc, Nat.add_right_comm]; exact hI)
      simpa only [← Nat.add_assoc, Nat.add_right_comm i j 1, Nat.add_right_comm (i + 1) j 1] using this
    refine ⟨ρ', S', ?_, by simpa only [List.length_cons, Nat.add_right_comm i 1, ← Nat.add_assoc] using h5⟩
    unfold forGo Wk.guard
    rw [if_pos (hk _ _ _ h), h1]
    rcases h2 with h2 | h2 <;> (dsimp only; rw [h2]; exact h4)
/-- .. over what no one changes -/
theorem forGo_v {items : List D} {tg : Tg} {b : SF} (I : Nat → En → Sto → Prop) {ρ : En} {S : Sto} (h0 : I 0 ρ S)
    (step : ∀ (j : Nat) (d : D) (ρ : En) (S : Sto), items[j]? = some d → I j ρ S → ∃ ρ1 ρ2 S2, tg.asg d ρ S = some ρ1 ∧ (b ρ1 S = .nx ρ2 S2 ∨ b ρ1 S = .ct ρ2 S2) ∧ I (j + 1) ρ2 S2) :
    ∃ ρ' S', forGo ⟨items, none⟩ tg b items ρ S = .nx ρ' S' ∧ I items.length ρ' S' := by
  obtain ⟨ρ', S', h1, h2⟩ := forGo_inv (k := ⟨items, none⟩) (tg := tg) (b := b) I (fun _ _ _ _ => True.intro) items 0 ρ S h0 fun j d ρ S hd hI => by
    have := step j d ρ S hd (by simpa using hI)
    simpa using this
  exact ⟨ρ', S', h1, by simpa using h2⟩
/-- a comprehension whose items do not touch the store -/
theorem lcGo_map {k : Wk} {tg : Tg} {te : EF} {ρ0 : En} {S : Sto} {g : D → D} (hk : k.ok S) : ∀ (ds : List D), (∀ d ∈ ds, ∃ ρ1, tg.asg d ρ0 S = some ρ1 ∧ te ρ1 S = .ok (g d) S) → lcGo k tg bYes te ρ0 ds S = .ok (ds.map g) S
  | [], _ => by unfold lcGo Wk.guard; rw [if_pos hk]; rfl
  | d :: ds, h => by
    obtain ⟨ρ1, h1, h2⟩ := h d List.mem_cons_self
    have ih := lcGo_map hk ds fun d' hd => h d' (List.mem_cons_of_mem _ hd)
    unfold lcGo Wk.guard
    rw [if_pos hk, h1]
    simp only [bYes, R.nox, R.bind, h2, ih, List.map_cons, if_true]
theorem lcGo_filter {k : Wk} {tg : Tg} {tt : BF} {te : EF} {ρ0 : En} {S : Sto} {c : D → Bool} {g : D → D} (hk : k.ok S) : ∀ (ds : List D), (∀ d ∈ ds, ∃ ρ1, tg.asg d ρ0 S = some ρ1 ∧ tt ρ1 S = .ok (c d) S ∧ (c d = true → te ρ1 S = .ok (g d) S)) →
    lcGo k tg tt te ρ0 ds S = .ok ((ds.filter c).map g) S
  | [], _ => by unfold lcGo Wk.guard; rw [if_pos hk]; rfl
  | d :: ds, h => by
    obtain ⟨ρ1, h1, h2, h3⟩ := h d List.mem_cons_self
    have ih := lcGo_filter hk ds fun d' hd => h d' (List.mem_cons_of_mem _ hd)
    unfold lcGo Wk.guard
    rw [if_pos hk, h1]
    cases hc : c d with
    | true => simp only [R.nox, R.bind, h2, hc, h3 hc, ih, List.filter_cons, List.map_cons, if_true]
    | false => simp only [R.nox, R.bind, h2, hc, ih, List.filter_cons, Bool.false_eq_true, if_false]
/-- .. that may -/
theorem lcGo_inv {k : Wk} {tg : Tg} {tt : BF} {te : EF} {ρ0 : En} (I : Sto → Prop) (J : D → Prop) (hk : ∀ S, I S → k.ok S) : ∀ (ds : List D) (S : Sto), I S →
    (∀ d ∈ ds, ∀ S, I S → ∃ ρ1 b S1, tg.asg d ρ0 S = some ρ1 ∧ tt ρ1 S = .ok b S1 ∧ I S1 ∧ (b = true → ∃ y S2, te ρ1 S1 = .ok y S2 ∧ I S2 ∧ J y)) → ∃ ys S', lcGo k tg tt te ρ0 ds S = .ok ys S' ∧ I S' ∧ (∀ y ∈ ys, J y) ∧ ys.length ≤ ds.length
  | [], S, h, _ => ⟨[], S, by unfold lcGo Wk.guard; rw [if_pos (hk _ h)], h, fun _ q => by simp at q, Nat.le_refl _⟩
  | d :: ds, S, h, step => by
    obtain ⟨ρ1, b, S1, h1, h2, h3, h4⟩ := step d List.mem_cons_self S h
    have st : ∀ d' ∈ ds, _ := fun d' hd => step d' (List.mem_cons_of_mem _ hd)
    unfold lcGo Wk.guard
    rw [if_pos (hk _ h), h1]
    cases b with
    | true =>
      obtain ⟨y, S2, g1, g2, g3⟩ := h4 rfl
      obtain ⟨ys, S', i1, i2, i3, i4⟩ := lcGo_inv I J hk ds S2 g2 st
      refine ⟨y :: ys, S', ?_, i2, fun z hz => ?_, by simp; omega⟩
      · simp only [R.nox, R.bind, h2, g1, i1, if_true]
      · rcases List.mem_cons.mp hz with e | e
        · rw [e]; exact g3
        · exact i3 z e
    | false =>
      obtain ⟨ys, S', i1, i2, i3, i4⟩ := lcGo_inv I J hk ds S1 h3 st
      refine ⟨ys, S', ?_, i2, i3, by simp; omega⟩
      simp only [R.nox, R.bind, h2, i1, Bool.false_eq_true, if_false]
theorem sSeq_nx {f g : SF} {ρ ρ1 : En} {S S1 : Sto} (h : f ρ S = .nx ρ1 S1) : sSeq f g ρ S = g ρ1 S1 := by unfold sSeq; rw [h]
theorem sSeq_rt {f g : SF} {ρ : En} {S S1 : Sto} {d : D} (h : f ρ S = .rt d S1) : sSeq f g ρ S = .rt d S1 := by unfold sSeq; rw [h]
theorem rngD_get' {lo : Int} {n i : Nat} (h : i < n) : (rngD lo n)[i]? = some (.int (lo + i)) := by
  unfold rngD
  rw [List.getElem?_map, List.getElem?_range h]
  rfl
end Ev

namespace Ev
open PySem PySem.Spec PyProof.Rows L2
/-! ### one step each: what the evaluation's functions give -/
theorem b62 {i : Int} (h : -(2 ^ 62) ≤ i) (h2 : i < 2 ^ 62) : big62 i = true := by unfold big62; exact decide_eq_true ⟨h, h2⟩
theorem big62_nat {i : Int} (h : 0 ≤ i) (h2 : i < 1000000) : big62 i = true := b62 (by omega) (by omega)
section
variable {ρ ρ1 : En} {S S1 S2 : Sto} {fa : AF} {fe fb : EF} {d x y : D} {ds : List D} {o : O}
theorem iRng2D_ok {i j : Int} (h : fa ρ S = .ok [.int i, .int j] S1) (hi : 0 ≤ i ∧ i < 1000000) (hj : 0 ≤ j ∧ j < 1000000) : iRng2D fa ρ S = .ok ⟨rngD i (j - i).toNat, none⟩ S1 := by
  unfold iRng2D
  rw [h]
  simp only [R.bind, big62_nat hi.1 hi.2, big62_nat hj.1 hj.2, Bool.and_self, if_true]
theorem iRng1D_int {j : Int} (h : fa ρ S = .ok [.int j] S1) (hj : big62 j = true) : iRng1D fa ρ S = .ok ⟨rngD 0 j.toNat, none⟩ S1 := by
  unfold iRng1D
  rw [h]
  simp only [R.bind, hj, if_true]
theorem iRng1D_ok {j : Nat} (h : fa ρ S = .ok [.int j] S1) (hj : j < 1000000) : iRng1D fa ρ S = .ok ⟨rngD 0 j, none⟩ S1 := iRng1D_int h (big62_nat (Int.natCast_nonneg j) (by omega))
theorem iSeqD_tup (h : fe ρ S = .ok (.tup ds) S1) : iSeqD fe ρ S = .ok ⟨ds, none⟩ S1 := by
  unfold iSeqD
  rw [h]
  rfl
theorem iSeqD_lst (h : fe ρ S = .ok (.lst ds) S1) : iSeqD fe ρ S = .ok ⟨ds, none⟩ S1 := by
  unfold iSeqD
  rw [h]
  rfl
theorem iSeqD_con (h : fe ρ S = .ok (.con ds) S1) : iSeqD fe ρ S = .ok ⟨ds, none⟩ S1 := by
  unfold iSeqD
  rw [h]
  rfl
theorem iSeqD_loc {n : Nat} (h : fe ρ S = .ok (.loc n) S1) (h2 : S1[n]? = some (.lst ds)) : iSeqD fe ρ S = .ok ⟨ds, some (n, .lst ds)⟩ S1 := by
  unfold iSeqD
  rw [h]
  simp only [R.bind, seqW, tupOf, h2]
theorem sFor_ok {fi : IF} {tg : Tg} {b : SF} {k : Wk} (h : fi ρ S = .ok k S1) (h2 : forGo k tg b k.ds ρ S1 = o) : sFor fi tg b ρ S = o := by
  unfold sFor
  rw [h]
  exact h2
theorem sIf_t {t : BF} {f g : SF} (h : t ρ S = .ok true S1) : sIf t f g ρ S = f ρ S1 := by
  unfold sIf
  rw [h]
  rfl
theorem sIf_f {t : BF} {f g : SF} (h : t ρ S = .ok false S1) : sIf t f g ρ S = g ρ S1 := by
  unfold sIf
  rw [h]
  rfl
theorem sIf_fn {t : BF} {f : SF} (h : t ρ S = .ok false S1) : sIf t f sNext ρ S = .nx ρ S1 := (sIf_f h).trans rfl
theorem eLc_ok {fi : IF} {tg : Tg} {tt : BF} {te : EF} {vs : List Nat} {k : Wk} (h : fi ρ S = .ok k S1) (h2 : lcGo k tg tt te (wipeD ρ vs) k.ds S1 = .ok ds S2) (hl : ds.length ≤ sizeLine) : eLc fi tg tt te vs ρ S = .ok (.lst ds) S2 := by
  unfold eLc
  rw [h]
  simp only [R.bind]
  rw [h2]
  simp only [R.bind, hl, if_true]
theorem eLcA_ok {fi : IF} {tg : Tg} {tt : BF} {te : EF} {vs : List Nat} {k : Wk} (h : fi ρ S = .ok k S1) (h2 : lcGo k tg tt te (wipeD ρ vs) k.ds S1 = .ok ds S2) (hl : ds.length ≤ sizeLine) : eLcA fi tg tt te vs ρ S = .ok (.loc S2.length) (S2 ++ [.lst ds]) := by
  unfold eLcA
  rw [h]
  simp only [R.bind]
  rw [h2]
  simp only [R.bind, hl, if_true]
theorem eVar_ok {i : Nat} (h : ρ[i]? = some (some d)) : eVar i ρ S = .ok d S := by
  unfold eVar
  rw [h]
theorem eC_ok : eC d ρ S = .ok d S := rfl
theorem aNil_ok : aNil ρ S = .ok [] S := rfl
theorem eLstA_nil : eLstA aNil ρ S = .ok (.loc S.length) (S ++ [.lst []]) := by
  unfold eLstA
  rw [aNil_ok]
  simp only [R.bind, List.length_nil, Nat.zero_le, if_true]
theorem aCons_ok (h : fe ρ S = .ok d S1) (h2 : fa ρ S1 = .ok ds S2) : aCons fe fa ρ S = .ok (d :: ds) S2 := by
  unfold aCons
  rw [h]
  simp only [R.bind]
  rw [h2]
theorem eBin_ok {op : Op2} (ha : fe ρ S = .ok x S1) (hb : fb ρ S1 = .ok y S2) (ho : op x y S2 = some d) : eBin op fe fb ρ S = .ok d S2 := by
  unfold eBin
  rw [ha]
  simp only [R.bind]
  rw [hb]
  simp only [R.bind]
  rw [ho]
  rfl
theorem bBin_ok {op : Op2} {c : Bool} (ha : fe ρ S = .ok x S1) (hb : fb ρ S1 = .ok y S2) (ho : op x y S2 = some (.bl c)) : bBin op fe fb ρ S = .ok c S2 := by
  unfold bBin
  rw [ha]
  simp only [R.bind]
  rw [hb]
  simp only [R.bind]
  rw [ho]
  rfl
theorem eCb_ok {op : OpN} (ha : fa ρ S = .ok ds S1) (ho : op ds S1 = some (d, S2)) : eCb op fa ρ S = .ok d S2 := by
  unfold eCb
  rw [ha]
  simp only [R.bind]
  rw [ho]
  rfl
theorem eCall_ok {n : Nat} {F : List D → Sto → R D} (ha : fa ρ S = .ok ds S1) (hn : ds.length = n) (hF : F ds S1 = .ok d S2) : eCall n F fa ρ S = .ok d S2 := by
  unfold eCall
  rw [ha]
  simp only [R.bind]
  rw [hF, if_pos hn]
theorem sSet_ok {i : Nat} (h : fe ρ S = .ok d S1) : sSet i fe ρ S = .nx (ρ.set i (some d)) S1 := by
  unfold sSet
  rw [h]
  rfl
theorem sRet_ok (h : fe ρ S = .ok d S1) : sRet fe ρ S = .rt d S1 := by
  unfold sRet
  rw [h]
  rfl
theorem sAsg_ok {t : Tg} (h : fe ρ S = .ok d S1) (h2 : t.asg d ρ S1 = some ρ1) : sAsg t fe ρ S = .nx ρ1 S1 := by
  unfold sAsg
  rw [h]
  simp only [sB]
  rw [h2]
theorem sExpr_ok (h : fe ρ S = .ok d S1) : sExpr fe ρ S = .nx ρ S1 := by
  unfold sExpr
  rw [h]
  rfl
theorem runF_rt {n : Nat} {b : SF} {r : R D} (h : b (ds.map some ++ List.replicate (n - ds.length) none) S = .rt d S1) (h2 : gc S d S1 = r) : runF n b ds S = r := by
  unfold runF
  rw [h]
  exact h2
theorem eLm_ok {op : OpM} {S' : Sto} (hx : fe ρ S = .ok x S1) (hl : isLst S1 x = true) (ha : fa ρ S1 = .ok ds S2) (ho : op x ds S2 = some (d, S')) : eLm op fe fa ρ S = .ok d S' := by
  unfold eLm
  rw [hx]
  simp only [R.bind, hl, if_true]
  rw [ha]
  simp only [R.bind]
  rw [ho]
  rfl
end
theorem set_app {S : Sto} {x y : Cel} : (S ++ [x]).set S.length y = S ++ [y] := by
  induction S with
  | nil => rfl
  | cons c S ih => exact congrArg (c :: ·) ih
theorem get_app {S : Sto} {x : Cel} : (S ++ [x])[S.length]? = some x := by simp
theorem mAppend_ok {S : Sto} {n : Nat} {es : List D} {d : D} (h : S[n]? = some (.lst es)) (hl : es.length < sizeLine) : mAppend (.loc n) [d] S = some (.non, S.set n (.lst (es ++ [d]))) := by
  unfold mAppend
  simp only [h, hl, if_true]
theorem isLst_loc {S : Sto} {n : Nat} {es : List D} (h : S[n]? = some (.lst es)) : isLst S (.loc n) = true := by
  unfold isLst
  rw [lstOf_loc h]
  rfl
def natD (F : List Nat) : List D := F.map fun (x : Nat) => D.int (x : Int)
theorem natD_len (F : List Nat) : (natD F).length = F.length := List.length_map _
theorem natD_app (F G : List Nat) : natD (F ++ G) = natD F ++ natD G := List.map_append
theorem natD_get {F : List Nat} {j x : Nat} (h : F[j]? = some x) : (natD F)[j]? = some (.int x) := by
  unfold natD
  rw [List.getElem?_map, h]
  rfl
theorem natD_inv {F : List Nat} {j : Nat} {d : D} (h : (natD F)[j]? = some d) : ∃ x, F[j]? = some x ∧ d = .int x := by
  unfold natD at h
  rw [List.getElem?_map] at h
  cases e : F[j]? with
  | none => rw [e] at h; cases h
  | some x => rw [e] at h; cases h; exact ⟨x, rfl, rfl⟩
theorem natD_mem {F : List Nat} {d : D} (h : d ∈ natD F) : ∃ x ∈ F, d = .int x := by
  obtain ⟨x, a, b⟩ := List.mem_map.mp h
  exact ⟨x, a, b.symm⟩
theorem natD_eq (F : List Nat) : natD F = (F.map Int.ofNat).map D.int := by
  unfold natD
  rw [List.map_map]
  rfl
theorem rngD_nat (n : Nat) : rngD 0 n = natD (List.range n) := by
  unfold rngD natD
  exact List.map_congr_left fun (x : Nat) _ => congrArg D.int (Int.zero_add (x : Int))
theorem intsOf_nat (F : List Nat) : intsOf (natD F) = some (F.map Int.ofNat) := by rw [natD_eq, intsOf_map]
theorem okDs_nat (n : Nat) (F : List Nat) : okDs n (natD F) = true := by rw [natD_eq]; exact okDs_ints _ _
theorem mem_ofNat {F : List Nat} {a : Nat} : (a : Int) ∈ F.map Int.ofNat ↔ a ∈ F := by
  constructor
  · intro h
    obtain ⟨x, hx, e⟩ := List.mem_map.mp h
    have : x = a := Int.ofNat.inj e
    rw [← this]; exact hx
  · intro h
    exact List.mem_map.mpr ⟨a, h, rfl⟩
theorem inB_nat {S : Sto} {y : D} {F : List Nat} {a : Nat} (h : seqOf S y = some (natD F)) : inB (.int a) y S = some (decide (a ∈ F)) := by
  unfold inB
  rw [h]
  simp only [Option.bind_some, intsOf_nat, mem_ofNat]
theorem oIn_nat {S : Sto} {y : D} {F : List Nat} {a : Nat} (h : seqOf S y = some (natD F)) : oIn (.int a) y S = some (.bl (decide (a ∈ F))) := by
  unfold oIn
  rw [inB_nat h]
  rfl
theorem oNotIn_nat {S : Sto} {y : D} {F : List Nat} {a : Nat} (h : seqOf S y = some (natD F)) : oNotIn (.int a) y S = some (.bl (!decide (a ∈ F))) := by
  unfold oNotIn
  rw [inB_nat h]
  rfl
theorem lcGo_mapN {α : Type} {it : List D} {tg : Tg} {te : EF} {ρ0 : En} {S : Sto} {f g : α → D} : ∀ (xs : List α), (∀ x ∈ xs, ∃ ρ1, tg.asg (f x) ρ0 S = some ρ1 ∧ te ρ1 S = .ok (g x) S) → lcGo ⟨it, none⟩ tg bYes te ρ0 (xs.map f) S = .ok (xs.map g) S
  | [], _ => by simp only [List.map_nil]; unfold lcGo Wk.guard; rw [if_pos (show Wk.ok ⟨it, none⟩ S from True.intro)]
  | x :: xs, h => by
    obtain ⟨ρ1, h1, h2⟩ := h x List.mem_cons_self
    have ih := lcGo_mapN (it := it) xs fun d' hd => h d' (List.mem_cons_of_mem _ hd)
    simp only [List.map_cons]
    unfold lcGo Wk.guard
    rw [if_pos (show Wk.ok ⟨it, none⟩ S from True.intro), h1]
    simp only [bYes, R.nox, R.bind, h2, ih, if_true]
theorem lcGo_filterN {α : Type} {it : List D} {tg : Tg} {tt : BF} {te : EF} {ρ0 : En} {S : Sto} {c : α → Bool} {f g : α → D} : ∀ (xs : List α), (∀ x ∈ xs, ∃ ρ1, tg.asg (f x) ρ0 S = some ρ1 ∧ tt ρ1 S = .ok (c x) S ∧ (c x = true → te ρ1 S = .ok (g x) S)) →
    lcGo ⟨it, none⟩ tg tt te ρ0 (xs.map f) S = .ok ((xs.filter c).map g) S
  | [], _ => by simp only [List.map_nil]; unfold lcGo Wk.guard; rw [if_pos (show Wk.ok ⟨it, none⟩ S from True.intro)]; rfl
  | x :: xs, h => by
    obtain ⟨ρ1, h1, h2, h3⟩ := h x List.mem_cons_self
    have ih := lcGo_filterN (it := it) xs fun d' hd => h d' (List.mem_cons_of_mem _ hd)
    simp only [List.map_cons]
    unfold lcGo Wk.guard
    rw [if_pos (show Wk.ok ⟨it, none⟩ S from True.intro), h1]
    cases hc : c x with
    | true => simp only [R.nox, R.bind, h2, hc, h3 hc, ih, List.filter_cons, List.map_cons, if_true]
    | false => simp only [R.nox, R.bind, h2, hc, ih, List.filter_cons, Bool.false_eq_true, if_false]
theorem okRg_nat {n : Nat} (h : n ≤ 1000) : okRg 0 (n : Int) = true := by
  unfold okRg
  refine decide_eq_true ⟨?_, ?_, ?_, ?_, ?_⟩
  · exact Int.le_trans (Int.neg_nonpos_of_nonneg (Int.pow_nonneg (by omega))) (Int.le_refl 0)
  · exact Int.pow_pos (by omega)
  · exact Int.le_trans (Int.neg_nonpos_of_nonneg (Int.pow_nonneg (by omega))) (Int.natCast_nonneg n)
  · omega
  · rw [Int.sub_zero, Int.toNat_natCast]; omega
theorem eLr1_aux {ρ : En} {S S1 : Sto} {fe : EF} {n : Int} (h : fe ρ S = .ok (.int n) S1) (M : Int → Sto → R D) : ((fe ρ S).bind fun x S1 => match x with
  | .int n => M n S1
  | _ => .no) = M n S1 := by rw [h]; rfl
theorem mkRg_ok {n : Nat} {S : Sto} (hn : n ≤ 1000) : mkRg false 0 (n : Int) S = .ok (.lst (natD (List.range n))) S := by
  unfold mkRg
  rw [if_pos (okRg_nat hn), if_neg (by decide), Int.sub_zero, Int.toNat_natCast, rngD_nat]
theorem eLr1_ok {ρ : En} {S S1 : Sto} {fe : EF} {n : Nat} (h : fe ρ S = .ok (.int n) S1) (hn : n ≤ 1000) : eLr1 false fe ρ S = .ok (.lst (natD (List.range n))) S1 :=
  Eq.trans (eLr1_aux h (fun n S => mkRg false 0 n S)) (mkRg_ok hn)
theorem oAdd_lst {S : Sto} {xs ys : List D} (h : (xs ++ ys).length ≤ sizeLine) : oAdd (.lst xs) (.lst ys) S = some (.lst (xs ++ ys)) := by
  rw [List.length_append] at h
  unfold oAdd
  simp only [tupOf, lstOf, lstX, h, if_true]
end Ev

namespace Ev
open PySem PySem.Spec PyProof.Rows L2
/-- a for that may return -/
theorem forGo_rtA {k : Wk} {tg : Tg} {b : SF} (I : Nat → En → Sto → Prop) (Q : D → Sto → Prop) (hk : ∀ i ρ S, I i ρ S → k.ok S) : ∀ (ds : List D) (i : Nat) (ρ : En) (S : Sto), I i ρ S →
    (∀ (j : Nat) (d : D) (ρ : En) (S : Sto), ds[j]? = some d → I (i + j) ρ S → ∃ ρ1, tg.asg d ρ S = some ρ1 ∧ ((∃ ρ2 S2, (b ρ1 S = .nx ρ2 S2 ∨ b ρ1 S = .ct ρ2 S2) ∧ I (i + j + 1) ρ2 S2) ∨ ∃ v S2, b ρ1 S = .rt v S2 ∧ Q v S2)) →
    (∃ ρ' S', forGo k tg b ds ρ S = .nx ρ' S' ∧ I (i + ds.length) ρ' S') ∨ ∃ v S', forGo k tg b ds ρ S = .rt v S' ∧ Q v S'
  | [], i, ρ, S, h, _ => .inl ⟨ρ, S, by unfold forGo Wk.guard; rw [if_pos (hk _ _ _ h)], h⟩
  | d :: ds, i, ρ, S, h, step => by
    obtain ⟨ρ1, h1, h2⟩ := step 0 d ρ S rfl h
    rcases h2 with ⟨ρ2, S2, h2, h3⟩ | ⟨v, S2, h2, h3⟩
    · have ih := forGo_rtA I Q hk ds (i + 1) ρ2 S2 h3 fun j d' ρ S hd hI => by
        have := step (j + 1) d' ρ S (by simpa using hd) (by rw [← Nat.add_assoc, Nat.add_right_comm]; exact hI)
        simpa only [← Nat.add_assoc, Nat.add_right_comm i j 1, Nat.add_right_comm (i + 1) j 1] using this
      have eq : forGo k tg b (d :: ds) ρ S = forGo k tg b ds ρ2 S2 := by
        rw [forGo, Wk.guard, if_pos (hk _ _ _ h), h1]
        rcases h2 with h2 | h2 <;> (dsimp only; rw [h2])
      rw [eq]
      rcases ih with ⟨ρ', S', h4, h5⟩ | h4
      · exact .inl ⟨ρ', S', h4, by simpa only [List.length_cons, Nat.add_right_comm i 1, ← Nat.add_assoc] using h5⟩
      · exact .inr h4
    · refine .inr ⟨v, S2, ?_, h3⟩
      rw [forGo, Wk.guard, if_pos (hk _ _ _ h), h1]
      dsimp only
      rw [h2]
theorem forGo_rt {items : List D} {tg : Tg} {b : SF} (I : Nat → En → Sto → Prop) (Q : D → Sto → Prop) {ρ : En} {S : Sto} (h0 : I 0 ρ S)
    (step : ∀ (j : Nat) (d : D) (ρ : En) (S : Sto), items[j]? = some d → I j ρ S → ∃ ρ1, tg.asg d ρ S = some ρ1 ∧ ((∃ ρ2 S2, (b ρ1 S = .nx ρ2 S2 ∨ b ρ1 S = .ct ρ2 S2) ∧ I (j + 1) ρ2 S2) ∨ ∃ v S2, b ρ1 S = .rt v S2 ∧ Q v S2)) :
    (∃ ρ' S', forGo ⟨items, none⟩ tg b items ρ S = .nx ρ' S' ∧ I items.length ρ' S') ∨ ∃ v S', forGo ⟨items, none⟩ tg b items ρ S = .rt v S' ∧ Q v S' := by
  have := forGo_rtA (k := ⟨items, none⟩) (tg := tg) (b := b) I Q (fun _ _ _ _ => True.intro) items 0 ρ S h0 fun j d ρ S hd hI => by
    have := step j d ρ S hd (by simpa using hI)
    simpa using this
  simpa using this
theorem sSeq_nxo {f g : SF} {ρ ρ1 : En} {S S1 : Sto} {o : O} (h : f ρ S = .nx ρ1 S1) (h2 : g ρ1 S1 = o) : sSeq f g ρ S = o := (sSeq_nx h).trans h2
theorem eTup_ok {fa : AF} {ρ : En} {S S1 : Sto} {ds : List D} (h : fa ρ S = .ok ds S1) (hl : ds.length ≤ 1000) : eTup fa ρ S = .ok (.tup ds) S1 := by
  unfold eTup
  rw [h]
  simp only [R.bind, sizeLine_ok hl, if_true]
theorem eLst_ok {fa : AF} {ρ : En} {S S1 : Sto} {ds : List D} (h : fa ρ S = .ok ds S1) (hl : ds.length ≤ 1000) : eLst fa ρ S = .ok (.lst ds) S1 := by
  unfold eLst
  rw [h]
  simp only [R.bind, sizeLine_ok hl, if_true]
theorem eLstA_ok {fa : AF} {ρ : En} {S S1 : Sto} {ds : List D} (h : fa ρ S = .ok ds S1) (hl : ds.length ≤ 1000) : eLstA fa ρ S = .ok (.loc S1.length) (S1 ++ [.lst ds]) := by
  unfold eLstA
  rw [h]
  simp only [R.bind, sizeLine_ok hl, if_true]
theorem sumL {S : Sto} {is : List Int} : pure1 gSum [.lst (is.map D.int)] S = some (.int is.sum, S) := by
  unfold pure1 gSum
  simp only [seqOf_lst, Option.bind_some, intsOf_map, Option.map_some]
theorem sumT {S : Sto} {is : List Int} : pure1 gSum [.tup (is.map D.int)] S = some (.int is.sum, S) := by
  unfold pure1 gSum
  simp only [seqOf_tup, Option.bind_some, intsOf_map, Option.map_some]
end Ev

namespace Ev
open PySem PySem.Spec PyProof.Rows L2
/-! ### data of ints, None and truth values, nested k deep -/
mutual
def flat : Nat → D → Bool
  | _, .int _ => true
  | _, .non => true
  | _, .bl _ => true
  | k + 1, .tup ds => flats k ds
  | k + 1, .lst ds => flats k ds
  | _, _ => false
def flats : Nat → List D → Bool
  | _, [] => true
  | k, d :: ds => flat k d && flats k ds
end
mutual
theorem flat_ok : ∀ {k : Nat} {d : D}, flat k d = true → pyOk d = true ∧ (py d).canLay0 = true ∧ (py d).depth ≤ k + 1
  | k, .int _, _ => ⟨rfl, by simp only [py, PyData.canLay0], by simp only [py, PyData.depth]; omega⟩
  | k, .non, _ => ⟨rfl, by simp only [py, PyData.canLay0], by simp only [py, PyData.depth]; omega⟩
  | k, .bl _, _ => ⟨rfl, by simp only [py, PyData.canLay0], by simp only [py, PyData.depth]; omega⟩
  | k + 1, .tup ds, h => by
    simp only [flat] at h
    obtain ⟨a, b, c⟩ := flats_ok h
    exact ⟨by simp only [pyOk, a], by simp only [py, PyData.canLay0, b], by simp only [py, PyData.depth]; omega⟩
  | k + 1, .lst ds, h => by
    simp only [flat] at h
    obtain ⟨a, b, c⟩ := flats_ok h
    exact ⟨by simp only [pyOk, a], by simp only [py, PyData.canLay0, b], by simp only [py, PyData.depth]; omega⟩
  | 0, .tup ds, h => by simp only [flat] at h; cases h
  | 0, .lst ds, h => by simp only [flat] at h; cases h
  | k, .str _, h => by simp only [flat] at h; cases h
  | k, .con _, h => by simp only [flat] at h; cases h
  | k, .frz _, h => by simp only [flat] at h; cases h
  | k, .loc _, h => by simp only [flat] at h; cases h
theorem flats_ok : ∀ {k : Nat} {ds : List D}, flats k ds = true → pyOks ds = true ∧ PyData.canLayAll0 (pys ds) = true ∧ PyData.depthAll (pys ds) ≤ k + 1
  | k, [], _ => ⟨rfl, by simp only [pys, PyData.canLayAll0], by simp only [pys, PyData.depthAll]; omega⟩
  | k, d :: ds, h => by
    simp only [flats, Bool.and_eq_true] at h
    obtain ⟨a, b, c⟩ := flat_ok h.1
    obtain ⟨a2, b2, c2⟩ := flats_ok h.2
    exact ⟨by simp only [pyOks, a, a2, Bool.and_self], by simp only [pys, PyData.canLayAll0, b, b2, Bool.and_self], by simp only [pys, PyData.depthAll]; omega⟩
end
theorem eqOk_flat {k : Nat} {d : D} (h : flat k d = true) (hk : k ≤ 60) : eqOk d = true := by
  obtain ⟨a, b, c⟩ := flat_ok h
  unfold eqOk SeqAt.shaped
  rw [a, b, decide_eq_true (by omega)]
  rfl
theorem flats_of {k : Nat} {ds : List D} (h : ∀ d ∈ ds, flat k d = true) : flats k ds = true := by
  induction ds with
  | nil => simp only [flats]
  | cons d ds ih =>
    simp only [flats, h d List.mem_cons_self, ih fun e he => h e (List.mem_cons_of_mem _ he), Bool.and_self]
/-- x in y, x no int -/
theorem inB_flat {k : Nat} {S : Sto} {y : D} {xs ds : List D} (h : seqOf S y = some ds) (hk : k ≤ 59) (hx : flat (k + 1) (.tup xs) = true) (hd : flats k ds = true) : inB (.tup xs) y S = some (ds.any fun z => deq z (.tup xs)) := by
  unfold inB
  rw [h]
  have e1 := eqOk_flat hx (by omega)
  have e2 : eqOk (.lst ds) = true := eqOk_flat (k := k + 1) (by simp only [flat]; exact hd) (by omega)
  simp only [e1, e2, Bool.and_self, if_true]
theorem oIn_flat {k : Nat} {S : Sto} {y : D} {xs ds : List D} (h : seqOf S y = some ds) (hk : k ≤ 59) (hx : flat (k + 1) (.tup xs) = true) (hd : flats k ds = true) : oIn (.tup xs) y S = some (.bl (ds.any fun z => deq z (.tup xs))) := by
  unfold oIn
  rw [inB_flat h hk hx hd]
  rfl
theorem oNotIn_flat {k : Nat} {S : Sto} {y : D} {xs ds : List D} (h : seqOf S y = some ds) (hk : k ≤ 59) (hx : flat (k + 1) (.tup xs) = true) (hd : flats k ds = true) : oNotIn (.tup xs) y S = some (.bl (!(ds.any fun z => deq z (.tup xs)))) := by
  unfold oNotIn
  rw [inB_flat h hk hx hd]
  rfl
theorem iEnumD_tup {fa : AF} {ρ : En} {S S1 : Sto} {ds : List D} (h : fa ρ S = .ok [.tup ds] S1) : iEnumD fa ρ S = .ok ⟨enumDs 0 ds, none⟩ S1 := by
  unfold iEnumD
  rw [h]
  rfl
end Ev

namespace Ev
open PySem PySem.Spec PyProof.Rows L2
/-! ### goal-directed evaluation -/
section
variable {ρ ρ1 : En} {S S1 S2 S3 : Sto} {fa : AF} {fe fb fo fk fz : EF} {d x y z : D} {ds : List D} {o : O} {f g : SF} {t t2 : BF} {a b : Bool}
theorem bYes_ok : bYes ρ S = .ok true S := rfl
theorem eBl_ok {r : R D} (h : fe ρ S = .ok d S1) (h2 : R.ok d S1 = r) : fe ρ S = r := h.trans h2
theorem bVal_tru (h : fe ρ S = .ok d S1) (h2 : truD d S1 = some b) : bVal fe ρ S = .ok b S1 := by
  unfold bVal
  rw [h]
  simp only [R.bind, h2]
  rfl
theorem eCallD_ok {n : Nat} {is : List Int} {F : List D → Sto → R D} (ha : fa ρ S = .ok ds S1) (hn : ds.length + is.length = n) (hF : F (ds ++ is.map D.int) S1 = .ok d S2) : eCallD n is F fa ρ S = .ok d S2 := by
  unfold eCallD
  rw [ha]
  simp only [R.bind, hn, if_true]
  exact hF
theorem eFld_ok {c f : Str} {n : Nat} {fs : List (Str × D)} (h : fe ρ S = .ok (.loc n) S1) (h2 : S1[n]? = some (.ins c fs)) (h3 : lookD f fs = some d) : eFld c fe f ρ S = .ok d S1 := by
  unfold eFld
  rw [h]
  simp only [R.bind, h2, if_true, h3]
  rfl
theorem eMeth_ok {c m : Str} {n i : Nat} {fs : List (Str × D)} {F : List D → Sto → R D} (h : fo ρ S = .ok (.loc i) S1) (h2 : S1[i]? = some (.ins c fs)) (h3 : lookD m fs = none) (ha : fa ρ S1 = .ok ds S2) (hn : ds.length + 1 = n) (hF : F (.loc i :: ds) S2 = .ok d S3) : eMeth c m n F fo fa ρ S = .ok d S3 := by
  unfold eMeth
  rw [h]
  simp only [R.bind, h2, h3, and_self, if_true]
  rw [ha]
  simp only [R.bind, hn, if_true]
  exact hF
theorem eMake_ok {c : Str} {n : Nat} {F : List D → Sto → R D} (ha : fa ρ S = .ok ds S1) (hn : ds.length + 1 = n) (hF : F (.loc S1.length :: ds) (S1 ++ [.ins c []]) = .ok .non S2) : eMake c n F fa ρ S = .ok (.loc S1.length) S2 := by
  unfold eMake
  rw [ha]
  simp only [R.bind, hn, if_true]
  rw [hF]
  rfl
theorem eOrT_t (h : fe ρ S = .ok x S1) (h2 : truD x S1 = some true) : eOrT fe fb ρ S = .ok x S1 := by
  unfold eOrT
  rw [h]
  simp only [R.bind, h2, liftG_some, if_true]
theorem eOrT_f (h : fe ρ S = .ok x S1) (h2 : truD x S1 = some false) : eOrT fe fb ρ S = fb ρ S1 := by
  unfold eOrT
  rw [h]
  simp only [R.bind, h2, liftG_some]
  rfl
theorem eDGet_ok (h : fe ρ S = .ok x S1) (h2 : fk ρ S1 = .ok y S2) (h3 : dGet S2 x y = some (some d)) : eDGet fe fk ρ S = .ok d S2 := by
  unfold eDGet
  rw [h]
  simp only [R.bind]
  rw [h2]
  simp only [R.bind, h3]
theorem eDGet2_ok {r : Option D} (h : fe ρ S = .ok x S1) (hd : isDct S1 x = true) (h2 : fk ρ S1 = .ok y S2) (hz : fz ρ S2 = .ok z S3) (h3 : dGet S3 x y = some r) : eDGet2 fe fk fz ρ S = .ok (r.getD z) S3 := by
  unfold eDGet2
  rw [h]
  simp only [R.bind, hd, if_true]
  rw [h2]
  simp only [R.bind]
  rw [hz]
  simp only [R.bind, h3]
theorem eDNew_t : eDNew true ρ S = .ok (.loc S.length) (S ++ [.dT []]) := rfl
theorem bAnd_s {q r : Bool} (h : t ρ S = .ok q S1) (h2 : q = true → t2 ρ S1 = .ok r S1) : bAnd t t2 ρ S = .ok (q && r) S1 := by
  unfold bAnd
  rw [h]
  cases q with
  | true => simp only [R.bind, h2 rfl, Bool.true_and]; rfl
  | false => rfl
theorem bOr_s {q r : Bool} (h : t ρ S = .ok q S1) (h2 : q = false → t2 ρ S1 = .ok r S1) : bOr t t2 ρ S = .ok (q || r) S1 := by
  unfold bOr
  rw [h]
  cases q with
  | true => rfl
  | false => simp only [R.bind, h2 rfl, Bool.false_or]; rfl
theorem sIf_b {q : Bool} (h : t ρ S = .ok q S1) (h1 : q = true → f ρ S1 = o) (h2 : q = false → g ρ S1 = o) : sIf t f g ρ S = o := by
  cases q with
  | true => exact (sIf_t h).trans (h1 rfl)
  | false => exact (sIf_f h).trans (h2 rfl)
/-- xs.append(e), of a list of the store -/
theorem eApp_ok {fx : EF} {n : Nat} {es es1 : List D} (hx : fx ρ S = .ok (.loc n) S1) (h1 : S1[n]? = some (.lst es1)) (ha : fa ρ S1 = .ok [d] S2) (h2 : S2[n]? = some (.lst es)) (hl : es.length < 1000) : eLm mAppend fx fa ρ S = .ok .non (S2.set n (.lst (es ++ [d]))) :=
  eLm_ok hx (isLst_loc h1) ha (mAppend_ok h2 (Nat.lt_of_lt_of_le hl (sizeLine_ok (Nat.le_refl _))))
/-! statements -/
theorem q_set {i : Nat} (h : fe ρ S = .ok d S1) (k : g (ρ.set i (some d)) S1 = o) : sSeq (sSet i fe) g ρ S = o := sSeq_nxo (sSet_ok h) k
theorem q_expr (h : fe ρ S = .ok d S1) (k : g ρ S1 = o) : sSeq (sExpr fe) g ρ S = o := sSeq_nxo (sExpr_ok h) k
theorem q_asg {t : Tg} (h : fe ρ S = .ok d S1) (h2 : t.asg d ρ S1 = some ρ1) (k : g ρ1 S1 = o) : sSeq (sAsg t fe) g ρ S = o := sSeq_nxo (sAsg_ok h h2) k
theorem q_nx (h : f ρ S = .nx ρ1 S1) (k : g ρ1 S1 = o) : sSeq f g ρ S = o := sSeq_nxo h k
theorem q_rt (h : f ρ S = .rt d S1) : sSeq f g ρ S = .rt d S1 := sSeq_rt h
theorem sSub_ok {fi : EF} {n j : Nat} {i : Int} {es : List D} (h : fe ρ S = .ok d S1) (ho : fo ρ S1 = .ok (.loc n) S2) (hi : fi ρ S2 = .ok (.int i) S3) (hl : S3[n]? = some (.lst es)) (hx : ixN es.length i = some j) : sSub fo fi fe ρ S = .nx ρ (S3.set n (.lst (es.set j d))) := by
  unfold sSub
  rw [h]
  simp only [sB]
  rw [ho]
  simp only [sB]
  rw [hi]
  simp only [sB, hl, hx]
theorem sFld_ok {c f : Str} {n : Nat} {fs : List (Str × D)} (h : fe ρ S = .ok d S1) (ho : fo ρ S1 = .ok (.loc n) S2) (h2 : S2[n]? = some (.ins c fs)) (hl : fs.length < 1000) : sFld c fo f fe ρ S = .nx ρ (S2.set n (.ins c (putD f d fs))) := by
  unfold sFld
  rw [h]
  simp only [sB]
  rw [ho]
  simp only [sB, h2, hl, and_self, if_true]
theorem sDPut_ok (h : fe ρ S = .ok d S1) (ho : fo ρ S1 = .ok x S2) (hk : fk ρ S2 = .ok y S3) {S4 : Sto} (hp : dPut S3 x y d = some S4) : sDPut fo fk fe ρ S = .nx ρ S4 := by
  unfold sDPut
  rw [h]
  simp only [sB]
  rw [ho]
  simp only [sB]
  rw [hk]
  simp only [sB, hp]
/-- a comprehension whose items do not touch the store: what it tests and gives is read off -/
theorem eLc_f {α : Type} {xs : List α} {F : α → D} {c : α → Bool} {G : α → D} {fi : IF} {tg : Tg} {te : EF} {vs : List Nat} {k : Wk} (hi : fi ρ S = .ok k S1) (hk : k.ok S1) (hx : k.ds = xs.map F) (hl : xs.length ≤ 1000)
    (hb : ∀ x ∈ xs, ∃ ρ1, tg.asg (F x) (wipeD ρ vs) S1 = some ρ1 ∧ t ρ1 S1 = .ok (c x) S1 ∧ (c x = true → te ρ1 S1 = .ok (G x) S1)) : eLc fi tg t te vs ρ S = .ok (.lst ((xs.filter c).map G)) S1 := by
  refine eLc_ok hi ?_ (sizeLine_ok ?_)
  · have : ∀ ys : List α, (∀ x ∈ ys, x ∈ xs) → lcGo k tg t te (wipeD ρ vs) (ys.map F) S1 = .ok ((ys.filter c).map G) S1 := by
      intro ys hys
      induction ys with
      | nil => simp only [List.map_nil, List.filter_nil]; unfold lcGo Wk.guard; rw [if_pos hk]
      | cons x ys ih =>
        obtain ⟨ρ1, h1, h2, h3⟩ := hb x (hys x List.mem_cons_self)
        have ih := ih fun y hy => hys y (List.mem_cons_of_mem _ hy)
        simp only [List.map_cons]
        unfold lcGo Wk.guard
        rw [if_pos hk, h1]
        cases hc : c x with
        | true => simp only [R.nox, R.bind, h2, hc, h3 hc, ih, List.filter_cons, List.map_cons, if_true]
        | false => simp only [R.nox, R.bind, h2, hc, ih, List.filter_cons, Bool.false_eq_true, if_false]
    rw [hx]
    exact this xs fun _ h => h
  · rw [List.length_map]
    exact Nat.le_trans (List.length_filter_le _ _) hl
/-- .. without a test -/
theorem eLc_m {α : Type} {xs : List α} {F : α → D} {G : α → D} {fi : IF} {tg : Tg} {te : EF} {vs : List Nat} {k : Wk} (hi : fi ρ S = .ok k S1) (hk : k.ok S1) (hx : k.ds = xs.map F) (hl : xs.length ≤ 1000)
    (hb : ∀ x ∈ xs, ∃ ρ1, tg.asg (F x) (wipeD ρ vs) S1 = some ρ1 ∧ te ρ1 S1 = .ok (G x) S1) : eLc fi tg bYes te vs ρ S = .ok (.lst (xs.map G)) S1 := by
  have := eLc_f (c := fun _ => true) (t := bYes) (vs := vs) (te := te) (G := G) hi hk hx hl fun x hx => let ⟨ρ1, h1, h2⟩ := hb x hx; ⟨ρ1, h1, rfl, fun _ => h2⟩
  rw [this, List.filter_eq_self.mpr fun _ _ => rfl]
/-- a for by an invariant, and what comes behind -/
theorem q_for {fi : IF} {tg : Tg} {items : List D} (I : Nat → En → Sto → Prop) (hi : fi ρ S = .ok ⟨items, none⟩ S1) (h0 : I 0 ρ S1)
    (step : ∀ (j : Nat) (d : D) (ρ : En) (S : Sto), items[j]? = some d → I j ρ S → ∃ ρ1, tg.asg d ρ S = some ρ1 ∧ ∃ ρ2 S2, (f ρ1 S = .nx ρ2 S2 ∨ f ρ1 S = .ct ρ2 S2) ∧ I (j + 1) ρ2 S2)
    (k : ∀ ρ' S', I items.length ρ' S' → g ρ' S' = o) : sSeq (sFor fi tg f) g ρ S = o := by
  obtain ⟨ρ', S', h1, h2⟩ := forGo_v (items := items) (tg := tg) (b := f) I h0 fun j d ρ S hd hI => let ⟨ρ1, a, ρ2, S2, b, c⟩ := step j d ρ S hd hI; ⟨ρ1, ρ2, S2, a, b, c⟩
  exact sSeq_nxo (sFor_ok hi h1) (k ρ' S' h2)
/-- .. over a list of the store, which stays -/
theorem q_forL {fi : IF} {tg : Tg} {w : Wk} (I : Nat → En → Sto → Prop) (hi : fi ρ S = .ok w S1) (hk : ∀ i ρ S, I i ρ S → w.ok S) (h0 : I 0 ρ S1)
    (step : ∀ (j : Nat) (d : D) (ρ : En) (S : Sto), w.ds[j]? = some d → I j ρ S → ∃ ρ1, tg.asg d ρ S = some ρ1 ∧ ∃ ρ2 S2, (f ρ1 S = .nx ρ2 S2 ∨ f ρ1 S = .ct ρ2 S2) ∧ I (j + 1) ρ2 S2)
    (k : ∀ ρ' S', I w.ds.length ρ' S' → g ρ' S' = o) : sSeq (sFor fi tg f) g ρ S = o := by
  obtain ⟨ρ', S', h1, h2⟩ := forGo_inv (k := w) (tg := tg) (b := f) I hk w.ds 0 ρ S1 h0 fun j d ρ S hd hI => by
    rw [Nat.zero_add] at hI
    obtain ⟨ρ1, a, ρ2, S2, b, c⟩ := step j d ρ S hd hI
    exact ⟨ρ1, ρ2, S2, a, b, by rw [Nat.zero_add]; exact c⟩
  exact sSeq_nxo (sFor_ok hi h1) (k ρ' S' (by rwa [Nat.zero_add] at h2))
/-- .. at the end of a body -/
theorem forI {fi : IF} {tg : Tg} {items : List D} (I : Nat → En → Sto → Prop) (hi : fi ρ S = .ok ⟨items, none⟩ S1) (h0 : I 0 ρ S1)
    (step : ∀ (j : Nat) (d : D) (ρ : En) (S : Sto), items[j]? = some d → I j ρ S → ∃ ρ1, tg.asg d ρ S = some ρ1 ∧ ∃ ρ2 S2, (f ρ1 S = .nx ρ2 S2 ∨ f ρ1 S = .ct ρ2 S2) ∧ I (j + 1) ρ2 S2) :
    ∃ ρ' S', sFor fi tg f ρ S = .nx ρ' S' ∧ I items.length ρ' S' := by
  obtain ⟨ρ', S', h1, h2⟩ := forGo_v (items := items) (tg := tg) (b := f) I h0 fun j d ρ S hd hI => let ⟨ρ1, a, ρ2, S2, b, c⟩ := step j d ρ S hd hI; ⟨ρ1, ρ2, S2, a, b, c⟩
  exact ⟨ρ', S', sFor_ok hi h1, h2⟩
theorem runF_nx {n : Nat} {b : SF} {r : R D} (h : b (ds.map some ++ List.replicate (n - ds.length) none) S = .nx ρ1 S1) (h2 : gc S .non S1 = r) : runF n b ds S = r := by
  unfold runF
  rw [h]
  exact h2
end
theorem gc_len {S S' : Sto} {d : D} (hl : S'.length = S.length) (h2 : okD S.length d = true) (h3 : ∀ i, i < S.length → S'[i]? = S[i]? ∨ ∃ c, S'[i]? = some c ∧ okC S.length c = true) : gc S d S' = .ok d S' := by
  rw [gc_set (by omega) h2 h3, List.take_of_length_le (by omega)]
end Ev

namespace Ev
/-! ### places that ways connect: no program here -/
abbrev Edge := Nat × Nat
def Con (E : List Edge) (x y : Nat) : Prop := ∀ f : Nat → Nat, (∀ e ∈ E, f e.1 = f e.2) → f x = f y
theorem Con.refl (E : List Edge) (x : Nat) : Con E x x := fun _ _ => rfl
theorem Con.symm {E : List Edge} {x y : Nat} (h : Con E x y) : Con E y x := fun f hf => (h f hf).symm
theorem Con.trans {E : List Edge} {x y z : Nat} (h : Con E x y) (h2 : Con E y z) : Con E x z := fun f hf => (h f hf).trans (h2 f hf)
theorem Con.mono {E E' : List Edge} {x y : Nat} (h : Con E x y) (s : ∀ e ∈ E, e ∈ E') : Con E' x y := fun f hf => h f fun e he => hf e (s e he)
theorem Con.edge {E : List Edge} {e : Edge} (h : e ∈ E) : Con E e.1 e.2 := fun f hf => hf e h
def Eok (n : Nat) (E : List Edge) : Prop := ∀ e ∈ E, e.1 < n ∧ e.2 < n
def stepM (m : List Nat) (e : Edge) : List Nat :=
  m.map fun z => if z = max (m.getD e.1 0) (m.getD e.2 0) then min (m.getD e.1 0) (m.getD e.2 0) else z
structure MarkI (n : Nat) (E : List Edge) (m : List Nat) : Prop where
  len : m.length = n
  con : ∀ x, x < n → Con E x (m.getD x 0)
  le : ∀ x, x < n → m.getD x 0 ≤ x
  edge : ∀ e ∈ E, m.getD e.1 0 = m.getD e.2 0
theorem getD_map {m : List Nat} {g : Nat → Nat} {x : Nat} (h : x < m.length) : (m.map g).getD x 0 = g (m.getD x 0) := by
  rw [List.getD_eq_getElem?_getD, List.getD_eq_getElem?_getD, List.getElem?_map, List.getElem?_eq_getElem h]
  rfl
theorem MarkI.init (n : Nat) : MarkI n [] (List.range n) := by
  have hg : ∀ x, x < n → (List.range n).getD x 0 = x := fun x h => by rw [List.getD_eq_getElem?_getD, List.getElem?_range h]; rfl
  refine ⟨List.length_range, fun x h => by rw [hg x h]; exact Con.refl _ _, fun x h => by rw [hg x h]; exact Nat.le_refl _, fun e he => by simp at he⟩
theorem MarkI.step {n : Nat} {E : List Edge} {m : List Nat} {e : Edge} (hE : Eok n E) (he : e.1 < n ∧ e.2 < n) (h : MarkI n E m) : MarkI n (E ++ [e]) (stepM m e) := by
  have hg : ∀ x, x < n → (stepM m e).getD x 0 = if m.getD x 0 = max (m.getD e.1 0) (m.getD e.2 0) then min (m.getD e.1 0) (m.getD e.2 0) else m.getD x 0 := fun x hx => getD_map (by rw [h.len]; exact hx)
  have sub : ∀ f ∈ E, f ∈ E ++ [e] := fun f hf => List.mem_append_left _ hf
  have ce : Con (E ++ [e]) (m.getD e.1 0) (m.getD e.2 0) := ((h.con _ he.1).mono sub).symm.trans ((Con.edge (by simp)).trans ((h.con _ he.2).mono sub))
  refine ⟨by simp only [stepM, List.length_map, h.len], fun x hx => ?_, fun x hx => ?_, fun f hf => ?_⟩
  · rw [hg x hx]
    have c0 := (h.con x hx).mono sub
    split
    · rename_i q
      refine c0.trans ?_
      rw [q]
      rcases Nat.le_total (m.getD e.1 0) (m.getD e.2 0) with k | k
      · rw [Nat.max_eq_right k, Nat.min_eq_left k]; exact ce.symm
      · rw [Nat.max_eq_left k, Nat.min_eq_right k]; exact ce
    · exact c0
  · rw [hg x hx]
    have := h.le x hx
    split <;> omega
  · rcases List.mem_append.mp hf with z | z
    · rw [hg _ (hE f z).1, hg _ (hE f z).2, h.edge f z]
    · have : f = e := by simpa using z
      subst this
      rw [hg _ he.1, hg _ he.2]
      split <;> split <;> omega
theorem MarkI.fold {n : Nat} : ∀ (F E : List Edge) (m : List Nat), Eok n (E ++ F) → MarkI n E m → MarkI n (E ++ F) (F.foldl stepM m)
  | [], E, m, _, h => by simpa using h
  | f :: F, E, m, hE, h => by
    have hs := h.step (e := f) (fun e he => hE e (by simp [he])) (hE f (by simp))
    have := MarkI.fold F (E ++ [f]) (stepM m f) (by simpa using hE) hs
    simpa using this
def markOf (n : Nat) (E : List Edge) : List Nat := E.foldl stepM (List.range n)
theorem markOf_ok {n : Nat} {E : List Edge} (hE : Eok n E) : MarkI n E (markOf n E) := by
  have := MarkI.fold E [] (List.range n) (by simpa using hE) (MarkI.init n)
  unfold markOf
  simpa using this
/-- the least place of a place's group -/
def rep (n : Nat) (E : List Edge) (x : Nat) : Nat := (markOf n E).getD x 0
theorem rep_iff {n : Nat} {E : List Edge} {x y : Nat} (hE : Eok n E) (hx : x < n) (hy : y < n) : rep n E x = rep n E y ↔ Con E x y := by
  have h := markOf_ok hE
  constructor
  · intro q
    have := h.con y hy
    rw [show (markOf n E).getD y 0 = (markOf n E).getD x 0 from q.symm] at this
    exact (h.con x hx).trans this.symm
  · intro c
    exact c (fun z => (markOf n E).getD z 0) h.edge
theorem rep_le {n : Nat} {E : List Edge} {x : Nat} (hE : Eok n E) (hx : x < n) : rep n E x ≤ x := (markOf_ok hE).le x hx
theorem rep_lt {n : Nat} {E : List Edge} {x : Nat} (hE : Eok n E) (hx : x < n) : rep n E x < n := Nat.lt_of_le_of_lt (rep_le hE hx) hx
theorem rep_rep {n : Nat} {E : List Edge} {x : Nat} (hE : Eok n E) (hx : x < n) : rep n E (rep n E x) = rep n E x :=
  ((rep_iff hE hx (rep_lt hE hx)).2 ((markOf_ok hE).con x hx)).symm
def groupOf (n : Nat) (E : List Edge) (p : Nat) : List Nat := (List.range n).filter fun x => rep n E x == p
def parts (n : Nat) (E : List Edge) : List (List Nat) := ((List.range n).filter fun p => rep n E p == p).map (groupOf n E)
/-! ### the same from one place on -/
def putF (F : List Nat) (a b : Nat) : List Nat := if a ∈ F ∧ b ∉ F then F ++ [b] else F
def stepF (F : List Nat) (e : Edge) : List Nat := putF (putF F e.1 e.2) e.2 e.1
def roundF (E : List Edge) (F : List Nat) : List Nat := E.foldl stepF F
def roundsF (E : List Edge) (F : List Nat) : Nat → List Nat
  | 0 => F
  | k + 1 => roundF E (roundsF E F k)
structure FoundI (n : Nat) (E : List Edge) (p : Nat) (F : List Nat) : Prop where
  nd : F.Nodup
  con : ∀ x ∈ F, x < n ∧ Con E p x
  mem : p ∈ F
theorem FoundI.put {n p a b : Nat} {E : List Edge} {F : List Nat} (h : FoundI n E p F) (hb : b < n) (c : Con E a b) : FoundI n E p (putF F a b) := by
  unfold putF
  split
  · rename_i q
    refine ⟨?_, fun x hx => ?_, List.mem_append_left _ h.mem⟩
    · rw [List.nodup_append]
      exact ⟨h.nd, by simp, fun x hx y hy e => q.2 (by have : y = b := by simpa using hy
                                                       rw [← this, ← e]; exact hx)⟩
    · rcases List.mem_append.mp hx with z | z
      · exact h.con x z
      · have : x = b := by simpa using z
        rw [this]
        exact ⟨hb, (h.con a q.1).2.trans c⟩
  · exact h
theorem FoundI.step {n p : Nat} {E : List Edge} {e : Edge} {F : List Nat} (hE : Eok n E) (he : e ∈ E) (h : FoundI n E p F) : FoundI n E p (stepF F e) :=
  (h.put (hE e he).2 (Con.edge he)).put (hE e he).1 (Con.edge he).symm
theorem FoundI.fold {n p : Nat} {E : List Edge} (hE : Eok n E) : ∀ (G : List Edge) (F : List Nat), (∀ e ∈ G, e ∈ E) → FoundI n E p F → FoundI n E p (G.foldl stepF F)
  | [], F, _, h => h
  | g :: G, F, hs, h => FoundI.fold hE G (stepF F g) (fun e he => hs e (List.mem_cons_of_mem _ he)) (h.step hE (hs g List.mem_cons_self))
theorem FoundI.rounds {n p : Nat} {E : List Edge} {F : List Nat} (hE : Eok n E) (h : FoundI n E p F) : ∀ k, FoundI n E p (roundsF E F k)
  | 0 => h
  | k + 1 => FoundI.fold hE E _ (fun _ h => h) (FoundI.rounds hE h k)
theorem putF_le (F : List Nat) (a b : Nat) : F.length ≤ (putF F a b).length := by unfold putF; split <;> simp
theorem putF_eq {F : List Nat} {a b : Nat} (h : (putF F a b).length = F.length) : putF F a b = F ∧ (a ∈ F → b ∈ F) := by
  unfold putF at h ⊢
  split at h
  · simp at h
  · rename_i q
    rw [if_neg q]
    exact ⟨rfl, fun ha => Classical.byContradiction fun hb => q ⟨ha, hb⟩⟩
theorem stepF_le (F : List Nat) (e : Edge) : F.length ≤ (stepF F e).length := Nat.le_trans (putF_le _ _ _) (putF_le _ _ _)
theorem stepF_eq {F : List Nat} {e : Edge} (h : (stepF F e).length = F.length) : stepF F e = F ∧ (e.1 ∈ F ↔ e.2 ∈ F) := by
  have h1 := putF_le F e.1 e.2
  have h2 := putF_le (putF F e.1 e.2) e.2 e.1
  have h3 : (putF (putF F e.1 e.2) e.2 e.1).length = F.length := h
  obtain ⟨a, b⟩ := putF_eq (F := F) (a := e.1) (b := e.2) (by omega)
  rw [a] at h3
  obtain ⟨c, d⟩ := putF_eq h3
  exact ⟨by unfold stepF; rw [a, c], b, d⟩
def Closed (E : List Edge) (F : List Nat) : Prop := ∀ e ∈ E, (e.1 ∈ F ↔ e.2 ∈ F)
theorem foldF_le : ∀ (E : List Edge) (F : List Nat), F.length ≤ (E.foldl stepF F).length
  | [], F => Nat.le_refl _
  | e :: E, F => Nat.le_trans (stepF_le F e) (foldF_le E (stepF F e))
theorem foldF_eq : ∀ (E : List Edge) (F : List Nat), (E.foldl stepF F).length = F.length → Closed E F
  | [], F, _ => fun e he => by simp at he
  | e :: E, F, h => by
    have h1 := stepF_le F e
    have h2 := foldF_le E (stepF F e)
    simp only [List.foldl_cons] at h
    obtain ⟨a, b⟩ := stepF_eq (F := F) (e := e) (by omega)
    rw [a] at h
    have := foldF_eq E F h
    intro f hf
    rcases List.mem_cons.mp hf with z | z
    · rw [z]; exact b
    · exact this f z
theorem foldF_closed : ∀ (E : List Edge) (F : List Nat), Closed E F → E.foldl stepF F = F
  | [], F, _ => rfl
  | e :: E, F, h => by
    have he := h e List.mem_cons_self
    have h1 : putF F e.1 e.2 = F := by unfold putF; exact if_neg fun q => q.2 (he.1 q.1)
    have h2 : putF F e.2 e.1 = F := by unfold putF; exact if_neg fun q => q.2 (he.2 q.1)
    simp only [List.foldl_cons, stepF, h1, h2]
    exact foldF_closed E F fun f hf => h f (List.mem_cons_of_mem _ hf)
theorem rounds_or (E : List Edge) (F : List Nat) (h0 : 1 ≤ F.length) : ∀ k, Closed E (roundsF E F k) ∨ k + 1 ≤ (roundsF E F k).length
  | 0 => .inr h0
  | k + 1 => by
    rcases rounds_or E F h0 k with c | c
    · left
      show Closed E (roundF E (roundsF E F k))
      unfold roundF
      rw [foldF_closed _ _ c]
      exact c
    · by_cases q : (roundF E (roundsF E F k)).length = (roundsF E F k).length
      · have cl := foldF_eq _ _ q
        left
        show Closed E (roundF E (roundsF E F k))
        unfold roundF
        rw [foldF_closed _ _ cl]
        exact cl
      · right
        have := foldF_le E (roundsF E F k)
        show k + 1 + 1 ≤ (roundF E (roundsF E F k)).length
        unfold roundF at q ⊢
        omega
theorem perm_filter {n : Nat} {F : List Nat} {c : Nat → Bool} (nd : F.Nodup) (h : ∀ x, x ∈ F ↔ x < n ∧ c x = true) : F.Perm ((List.range n).filter c) :=
  (List.perm_ext_iff_of_nodup nd (List.nodup_range.filter _)).2 fun x => by rw [h x, List.mem_filter, List.mem_range]
theorem found_len {n : Nat} {F : List Nat} (nd : F.Nodup) (h : ∀ x ∈ F, x < n) : F.length ≤ n := by
  have := (perm_filter (n := n) (F := F) (c := fun x => decide (x ∈ F)) nd fun x => ⟨fun z => ⟨h x z, decide_eq_true z⟩, fun z => of_decide_eq_true z.2⟩).length_eq
  rw [this]
  exact Nat.le_trans (List.length_filter_le _ _) (by simp)
theorem FoundI.all {n p : Nat} {E : List Edge} {F : List Nat} (hE : Eok n E) (hp : p < n) (h : FoundI n E p F) (cl : Closed E F) (x : Nat) : x ∈ F ↔ x < n ∧ (rep n E x == rep n E p) = true := by
  constructor
  · intro hx
    obtain ⟨a, b⟩ := h.con x hx
    exact ⟨a, by rw [beq_iff_eq]; exact ((rep_iff hE hp a).2 b).symm⟩
  · rintro ⟨a, b⟩
    have c : Con E p x := (rep_iff hE hp a).1 (beq_iff_eq.mp b).symm
    have := c (fun z => if z ∈ F then 1 else 0) fun e he => by
      by_cases q : e.1 ∈ F
      · simp only [q, (cl e he).1 q, if_true]
      · simp only [q, mt (cl e he).2 q, if_false]
    simp only [h.mem, if_true] at this
    exact Classical.byContradiction fun q => by rw [if_neg q] at this; cases this
theorem rounds_perm {n p : Nat} {E : List Edge} (hE : Eok n E) (hp : p < n) : (roundsF E [p] n).Perm (groupOf n E (rep n E p)) := by
  have h0 : FoundI n E p [p] := ⟨by simp, fun x hx => by have : x = p := by simpa using hx
                                                         rw [this]; exact ⟨hp, Con.refl _ _⟩, by simp⟩
  have h := h0.rounds hE n
  have cl : Closed E (roundsF E [p] n) := by
    rcases rounds_or E [p] (by simp) n with c | c
    · exact c
    · have := found_len h.nd fun x hx => (h.con x hx).1
      omega
  exact perm_filter h.nd (h.all hE hp cl)
theorem rounds_le {n p : Nat} {E : List Edge} (hE : Eok n E) (hp : p < n) (k : Nat) : (roundsF E [p] k).length ≤ n := by
  have h0 : FoundI n E p [p] := ⟨by simp, fun x hx => by have : x = p := by simpa using hx
                                                         rw [this]; exact ⟨hp, Con.refl _ _⟩, by simp⟩
  have h := h0.rounds hE k
  exact found_len h.nd fun x hx => (h.con x hx).1
def natI (F : List Nat) : List Int := F.map Int.ofNat
theorem sort_group {n : Nat} {c : Nat → Bool} {F : List Nat} (h : F.Perm ((List.range n).filter c)) : isort (natI F) = natI ((List.range n).filter c) := by
  symm
  refine isort_same (h.symm.map _) ?_
  unfold natI
  rw [List.pairwise_map]
  exact (List.pairwise_lt_range.filter _).imp fun h => Int.ofNat_le.mpr (Nat.le_of_lt h)
/-- the first of a group is its least place -/
theorem group_head {n : Nat} {E : List Edge} {p : Nat} (hE : Eok n E) (hp : p < n) : (groupOf n E (rep n E p))[0]? = some (rep n E p) := by
  have hm : rep n E p ∈ groupOf n E (rep n E p) := by
    unfold groupOf
    rw [List.mem_filter, List.mem_range]
    exact ⟨rep_lt hE hp, by rw [beq_iff_eq]; exact rep_rep hE hp⟩
  have hs : (groupOf n E (rep n E p)).Pairwise (· < ·) := List.pairwise_lt_range.filter _
  have hmin : ∀ x ∈ groupOf n E (rep n E p), rep n E p ≤ x := fun x hx => by
    unfold groupOf at hx
    rw [List.mem_filter, List.mem_range, beq_iff_eq] at hx
    rw [← hx.2]
    exact rep_le hE hx.1
  cases hg : groupOf n E (rep n E p) with
  | nil => rw [hg] at hm; simp at hm
  | cons x xs =>
    rw [hg] at hm hs hmin
    have h1 := hmin x List.mem_cons_self
    rcases List.mem_cons.mp hm with z | z
    · rw [z]; rfl
    · have := (List.pairwise_cons.mp hs).1 _ z
      omega
end Ev

namespace Ev
open PySem PySem.Spec PyProof.Rows L2
noncomputable def b_law_pool : SF :=
  (sRet (eLstA (aCons (eCb (oList false) (aCons (eVar 0) aNil)) (aCons (eC (.int 0)) (aCons (eC (.int 0)) (aCons (eC (.int 0)) (aCons (eC (.int 0)) aNil)))))))
noncomputable def f_law_pool : List D → Sto → R D := runF 1 b_law_pool
noncomputable def b_law_draw : SF :=
  (sSeq (sIf (bBin oGt (eBin oIx (eVar 0) (eC (.int 2))) (eC (.int 0))) (sSeq (sSet 2 (eBin oMod (eCb (pure1 gInt) (aCons (eBin oIx (eVar 0) (eC (.int 2))) aNil)) (eVar 1)))
    (sSeq (sSub (eVar 0) (eC (.int 2)) (eBin oDiv (eBin oIx (eVar 0) (eC (.int 2))) (eVar 1)))
    (sRet (eVar 2)))) sNext)
    (sSeq (sIf (bAnd (bBin oEq (eBin oMod (eCb (pure1 gInt) (aCons (eBin oIx (eVar 0) (eC (.int 4))) aNil)) (eC (.int 8))) (eC (.int 0))) (bBin oLt (eBin oIx (eVar 0) (eC (.int 1))) (eCb (pure1 gLen) (aCons (eBin oIx (eVar 0) (eC (.int 0))) aNil)))) (sSeq (sSet 3 (eCb (pure1 gAbs) (aCons (eBin oIx (eBin oIx (eVar 0) (eC (.int 0))) (eBin oIx (eVar 0) (eC (.int 1)))) aNil)))
    (sSeq (sSub (eVar 0) (eC (.int 1)) (eBin oAdd (eBin oIx (eVar 0) (eC (.int 1))) (eC (.int 1))))
    (sSeq (sIf (bBin oGe (eVar 3) (eBin oPow (eC (.int 10)) (eC (.int 18)))) (sSeq (sSub (eVar 0) (eC (.int 2)) (eBin oDiv (eVar 3) (eVar 1)))
    (sRet (eBin oMod (eCb (pure1 gInt) (aCons (eVar 3) aNil)) (eVar 1)))) sNext)
    (sSub (eVar 0) (eC (.int 3)) (eVar 3))))) sNext)
    (sSeq (sSub (eVar 0) (eC (.int 4)) (eBin oAdd (eBin oIx (eVar 0) (eC (.int 4))) (eC (.int 1))))
    (sSeq (sSet 4 (eBin oMod (eCb (pure1 gInt) (aCons (eBin oAdd (eBin oAdd (eBin oMul (eBin oIx (eVar 0) (eC (.int 3))) (eC (.int 48271))) (eBin oMul (eBin oIx (eVar 0) (eC (.int 4))) (eC (.int 69621)))) (eC (.int 7919))) aNil)) (eC (.int 2147483647))))
    (sSeq (sSet 4 (eBin oMod (eCb (pure1 gInt) (aCons (eBin oAdd (eBin oMul (eVar 4) (eVar 4)) (eBin oMul (eBin oIx (eVar 0) (eC (.int 4))) (eC (.int 40692)))) aNil)) (eC (.int 2147483399))))
    (sRet (eBin oMod (eCb (pure1 gInt) (aCons (eVar 4) aNil)) (eVar 1))))))))
noncomputable def f_law_draw : List D → Sto → R D := runF 5 b_law_draw
noncomputable def b_law_pick : SF :=
  (sRet (eBin oIx (eVar 1) (eCall 2 f_law_draw (aCons (eVar 0) (aCons (eCb (pure1 gLen) (aCons (eVar 1) aNil)) aNil)))))
noncomputable def f_law_pick : List D → Sto → R D := runF 2 b_law_pick
noncomputable def b_law_cost : SF :=
  (sSeq (sSet 1 (eCall 2 f_law_draw (aCons (eVar 0) (aCons (eC (.int 8)) aNil))))
    (sSeq (sIf (bBin oEq (eVar 1) (eC (.int 0))) (sRet (eBin oAdd (eC (.int 1)) (eCall 2 f_law_draw (aCons (eVar 0) (aCons (eC (.int 10000)) aNil))))) sNext)
    (sSeq (sIf (bBin oLt (eVar 1) (eC (.int 4))) (sRet (eBin oIx (eLst (aCons (eC (.int 1)) (aCons (eC (.int 2)) (aCons (eC (.int 2)) (aCons (eC (.int 3)) (aCons (eC (.int 4)) aNil)))))) (eCall 2 f_law_draw (aCons (eVar 0) (aCons (eC (.int 5)) aNil))))) sNext)
    (sRet (eBin oAdd (eC (.int 1)) (eCall 2 f_law_draw (aCons (eVar 0) (aCons (eC (.int 12)) aNil))))))))
noncomputable def f_law_cost : List D → Sto → R D := runF 2 b_law_cost
noncomputable def b_law_way : SF :=
  (sSeq (sSet 2 (eCall 2 f_law_draw (aCons (eVar 0) (aCons (eBin oSub (eVar 1) (eC (.int 1))) aNil))))
    (sRet (eTup (aCons (eVar 2) (aCons (eBin oAdd (eBin oAdd (eVar 2) (eC (.int 1))) (eCall 2 f_law_draw (aCons (eVar 0) (aCons (eBin oSub (eBin oSub (eVar 1) (eC (.int 1))) (eVar 2)) aNil)))) (aCons (eCall 1 f_law_cost (aCons (eVar 0) aNil)) aNil))))))
noncomputable def f_law_way : List D → Sto → R D := runF 3 b_law_way
noncomputable def b_law_net : SF :=
  (sSeq (sSet 3 (eBin oAdd (eC (.int 1)) (eCall 2 f_law_draw (aCons (eVar 0) (aCons (eVar 1) aNil)))))
    (sSeq (sSet 4 (eLstA aNil))
    (sSeq (sIf (bAnd (bBin oGt (eVar 3) (eC (.int 1))) (bBin oGt (eCall 2 f_law_draw (aCons (eVar 0) (aCons (eC (.int 5)) aNil))) (eC (.int 0)))) (sFor (iRng2D (aCons (eC (.int 1)) (aCons (eVar 3) aNil))) (.nm 5) (sExpr (eLm mAppend (eVar 4) (aCons (eTup (aCons (eCall 2 f_law_draw (aCons (eVar 0) (aCons (eVar 5) aNil))) (aCons (eVar 5) (aCons (eCall 1 f_law_cost (aCons (eVar 0) aNil)) aNil)))) aNil)))) sNext)
    (sSeq (sIf (bBin oGt (eVar 3) (eC (.int 1))) (sFor (iRng1D (aCons (eCall 2 f_law_draw (aCons (eVar 0) (aCons (eBin oSub (eBin oAdd (eVar 2) (eC (.int 1))) (eCb (pure1 gMin) (aCons (eVar 2) (aCons (eCb (pure1 gLen) (aCons (eVar 4) aNil)) aNil)))) aNil))) aNil)) (.nm 6) (sExpr (eLm mInsert (eVar 4) (aCons (eCall 2 f_law_draw (aCons (eVar 0) (aCons (eBin oAdd (eCb (pure1 gLen) (aCons (eVar 4) aNil)) (eC (.int 1))) aNil))) (aCons (eCall 2 f_law_way (aCons (eVar 0) (aCons (eVar 3) aNil))) aNil))))) sNext)
    (sRet (eTup (aCons (eVar 3) (aCons (eCb (pure1 gTuple) (aCons (eSl false (eVar 4) pNone (pSome (eVar 2))) aNil)) aNil))))))))
noncomputable def f_law_net : List D → Sto → R D := runF 7 b_law_net
noncomputable def b_law_pairs : SF :=
  (sSeq (sSet 3 (eLstA aNil))
    (sSeq (sFor (iRng1D (aCons (eCall 2 f_law_draw (aCons (eVar 0) (aCons (eBin oAdd (eVar 2) (eC (.int 1))) aNil))) aNil)) (.nm 4) (sIf (bBin oGt (eVar 1) (eC (.int 1))) (sSeq (sSet 5 (eCall 2 f_law_draw (aCons (eVar 0) (aCons (eBin oSub (eVar 1) (eC (.int 1))) aNil))))
    (sSeq (sSet 6 (eTup (aCons (eVar 5) (aCons (eBin oAdd (eBin oAdd (eVar 5) (eC (.int 1))) (eCall 2 f_law_draw (aCons (eVar 0) (aCons (eBin oSub (eBin oSub (eVar 1) (eC (.int 1))) (eVar 5)) aNil)))) aNil))))
    (sIf (bBin oNotIn (eVar 6) (eVar 3)) (sExpr (eLm mAppend (eVar 3) (aCons (eVar 6) aNil))) sNext))) sNext))
    (sRet (eCb (pure1 gTuple) (aCons (eVar 3) aNil)))))
noncomputable def f_law_pairs : List D → Sto → R D := runF 7 b_law_pairs
noncomputable def b_law_group : SF :=
  (sSeq (sSet 3 (eLstA (aCons (eVar 2) aNil)))
    (sSeq (sFor (iRng1D (aCons (eBin oIx (eVar 0) (eC (.int 0))) aNil)) (.nm 4) (sFor (iSeqD (eVar 1)) (.nm 5) (sSeq (sAsg (.tp [(.nm 6), (.nm 7), (.nm 8)]) (eBin oIx (eBin oIx (eVar 0) (eC (.int 1))) (eVar 5)))
    (sSeq (sIf (bAnd (bBin oIn (eVar 6) (eVar 3)) (bBin oNotIn (eVar 7) (eVar 3))) (sExpr (eLm mAppend (eVar 3) (aCons (eVar 7) aNil))) sNext)
    (sIf (bAnd (bBin oIn (eVar 7) (eVar 3)) (bBin oNotIn (eVar 6) (eVar 3))) (sExpr (eLm mAppend (eVar 3) (aCons (eVar 6) aNil))) sNext)))))
    (sRet (eCb (pure1 gTuple) (aCons (eCb (oSort false) (aCons (eVar 3) aNil)) aNil)))))
noncomputable def f_law_group : List D → Sto → R D := runF 9 b_law_group
noncomputable def b_law_joins : SF :=
  (sRet (eBin oEq (eCb (pure1 gLen) (aCons (eLc (iSeqD (eVar 1)) (.nm 3) (bBin oNotIn (eBin oIx (eVar 3) (eC (.int 1))) (eCall 3 f_law_group (aCons (eVar 0) (aCons (eVar 2) (aCons (eBin oIx (eVar 3) (eC (.int 0))) aNil))))) (eVar 3) [3]) aNil)) (eC (.int 0))))
noncomputable def f_law_joins : List D → Sto → R D := runF 4 b_law_joins
noncomputable def b_law_task : SF :=
  (sSeq (sSet 3 (eCall 3 f_law_net (aCons (eVar 0) (aCons (eVar 1) (aCons (eVar 2) aNil)))))
    (sSeq (sSet 4 (eCall 3 f_law_pairs (aCons (eVar 0) (aCons (eBin oIx (eVar 3) (eC (.int 0))) (aCons (eC (.int 6)) aNil)))))
    (sSeq (sSet 5 (eLc (iRng1D (aCons (eCb (pure1 gLen) (aCons (eBin oIx (eVar 3) (eC (.int 1))) aNil)) aNil)) (.nm 6) bYes (eVar 6) [6]))
    (sRet (eTup (aCons (eVar 3) (aCons (eCb (pure1 gTuple) (aCons (eLc (iSeqD (eVar 4)) (.nm 7) (bVal (eCall 3 f_law_joins (aCons (eVar 3) (aCons (eTup (aCons (eVar 7) aNil)) (aCons (eVar 5) aNil))))) (eVar 7) [7]) aNil)) aNil)))))))
noncomputable def f_law_task : List D → Sto → R D := runF 8 b_law_task
noncomputable def b_law_any_task : SF :=
  (sRet (eCall 3 f_law_task (aCons (eVar 0) (aCons (eCall 2 f_law_pick (aCons (eVar 0) (aCons (eLst (aCons (eC (.int 6)) (aCons (eC (.int 10)) (aCons (eC (.int 12)) aNil)))) aNil))) (aCons (eCall 2 f_law_pick (aCons (eVar 0) (aCons (eLst (aCons (eC (.int 9)) (aCons (eC (.int 18)) (aCons (eC (.int 24)) aNil)))) aNil))) aNil)))))
noncomputable def f_law_any_task : List D → Sto → R D := runF 1 b_law_any_task
noncomputable def b_all_ways : SF :=
  (sRet (eCb (pure1 gTuple) (aCons (eLr1 false (eCb (pure1 gLen) (aCons (eBin oIx (eVar 0) (eC (.int 1))) aNil))) aNil)))
noncomputable def f_all_ways : List D → Sto → R D := runF 1 b_all_ways
noncomputable def b_groups : SF :=
  (sSeq (sAsg (.tp [(.nm 2), (.nm 3)]) (eVar 0))
    (sSeq (sSet 4 (eLr1 false (eVar 2)))
    (sSeq (sFor (iSeqD (eVar 1)) (.nm 5) (sSeq (sAsg (.tp [(.nm 6), (.nm 7), (.nm 8)]) (eBin oIx (eVar 3) (eVar 5)))
    (sSeq (sAsg (.ls [(.nm 9), (.nm 10)]) (eCb (oSort false) (aCons (eLst (aCons (eBin oIx (eVar 4) (eVar 6)) (aCons (eBin oIx (eVar 4) (eVar 7)) aNil))) aNil)))
    (sSet 4 (eLc (iSeqD (eVar 4)) (.nm 13) bYes (eIf (bBin oEq (eVar 13) (eVar 10)) (eVar 9) (eVar 13)) [13])))))
    (sSeq (sSet 11 (eLstA aNil))
    (sSeq (sFor (iRng1D (aCons (eVar 2) aNil)) (.nm 12) (sIf (bBin oEq (eBin oIx (eVar 4) (eVar 12)) (eVar 12)) (sExpr (eLm mAppend (eVar 11) (aCons (eCb (pure1 gTuple) (aCons (eLc (iRng1D (aCons (eVar 2) aNil)) (.nm 14) (bBin oEq (eBin oIx (eVar 4) (eVar 14)) (eVar 12)) (eVar 14) [14]) aNil)) aNil))) sNext))
    (sRet (eCb (pure1 gTuple) (aCons (eVar 11) aNil))))))))
noncomputable def f_groups : List D → Sto → R D := runF 15 b_groups
noncomputable def b_group_of : SF :=
  (sSeq (sFor (iSeqD (eVar 0)) (.nm 2) (sIf (bBin oIn (eVar 1) (eVar 2)) (sRet (eVar 2)) sNext))
    (sRet (eTup aNil)))
noncomputable def f_group_of : List D → Sto → R D := runF 3 b_group_of
noncomputable def b_first_apart : SF :=
  (sSeq (sSet 3 (eCall 2 f_groups (aCons (eVar 0) (aCons (eVar 2) aNil))))
    (sSeq (sFor (iEnumD (aCons (eVar 1) aNil)) (.tp [(.nm 4), (.tp [(.nm 5), (.nm 6)])]) (sIf (bBin oNotIn (eVar 6) (eCall 2 f_group_of (aCons (eVar 3) (aCons (eVar 5) aNil)))) (sRet (eVar 4)) sNext))
    (sRet (eC .non))))
noncomputable def f_first_apart : List D → Sto → R D := runF 7 b_first_apart
noncomputable def b_PairGrowth_is_open : SF :=
  (sRet (eCb (pure1 gAny) (aCons (eLc (iSeqD (eFld "PairGrowth" (eVar 0) "pairs")) (.tp [(.nm 2), (.nm 3)]) bYes (eBin oNe (eBin oIn (eVar 2) (eVar 1)) (eBin oIn (eVar 3) (eVar 1))) [2, 3]) aNil)))
noncomputable def f_PairGrowth_is_open : List D → Sto → R D := runF 4 b_PairGrowth_is_open
noncomputable def b_PairGrowth_still_open : SF :=
  (sRet (eCb (pure1 gTuple) (aCons (eLc (iSeqD (eFld "PairGrowth" (eVar 0) "parts")) (.nm 1) (bVal (eMeth "PairGrowth" "is_open" 2 f_PairGrowth_is_open (eVar 0) (aCons (eVar 1) aNil))) (eVar 1) [1]) aNil)))
noncomputable def f_PairGrowth_still_open : List D → Sto → R D := runF 2 b_PairGrowth_still_open
noncomputable def b_PairGrowth_waits : SF :=
  (sRet (eLstA aNil))
noncomputable def f_PairGrowth_waits : List D → Sto → R D := runF 2 b_PairGrowth_waits
noncomputable def b_PairGrowth_between : SF :=
  (sSeq (sAsg (.tp [(.nm 2), (.nm 3), (.nm 4)]) (eBin oIx (eFld "PairGrowth" (eVar 0) "ways") (eVar 1)))
    (sSeq (sSet 5 (eLc (iSeqD (eFld "PairGrowth" (eVar 0) "parts")) (.nm 6) (bOr (bBin oIn (eVar 2) (eVar 6)) (bBin oIn (eVar 3) (eVar 6))) (eVar 6) [6]))
    (sRet (eIf (bBin oEq (eCb (pure1 gLen) (aCons (eVar 5) aNil)) (eC (.int 2))) (eVar 5) (eC .non)))))
noncomputable def f_PairGrowth_between : List D → Sto → R D := runF 7 b_PairGrowth_between
noncomputable def b_PairGrowth_rates : SF :=
  (sSeq (sSet 2 (eLstA aNil))
    (sSeq (sFor (iEnumD (aCons (eFld "PairGrowth" (eVar 0) "ways") aNil)) (.tp [(.nm 3), (.nm 4)]) (sSeq (sSet 5 (eOrT (eMeth "PairGrowth" "between" 2 f_PairGrowth_between (eVar 0) (aCons (eVar 3) aNil)) (eLst aNil)))
    (sExpr (eLm mAppend (eVar 2) (aCons (eCb (pure1 gLen) (aCons (eLc (iSeqD (eVar 5)) (.nm 6) (bBin oIn (eVar 6) (eVar 1)) (eVar 6) [6]) aNil)) aNil)))))
    (sRet (eVar 2))))
noncomputable def f_PairGrowth_rates : List D → Sto → R D := runL 7 b_PairGrowth_rates
noncomputable def b_ratio : SF :=
  (sSeq (sIf (bBin oLt (eVar 1) (eC (.int 0))) (sPar 0 1 (aCons (eNeg (eVar 0)) (aCons (eNeg (eVar 1)) aNil))) sNext)
    (sSeq (sSet 2 (eCb (pure1 gGcd) (aCons (eVar 0) (aCons (eVar 1) aNil))))
    (sRet (eTup (aCons (eBin oDiv (eVar 0) (eVar 2)) (aCons (eBin oDiv (eVar 1) (eVar 2)) aNil))))))
noncomputable def f_ratio : List D → Sto → R D := runF 3 b_ratio
noncomputable def b_minus : SF :=
  (sRet (eCall 2 f_ratio (aCons (eBin oSub (eBin oMul (eBin oIx (eVar 0) (eC (.int 0))) (eBin oIx (eVar 1) (eC (.int 1)))) (eBin oMul (eBin oIx (eVar 1) (eC (.int 0))) (eBin oIx (eVar 0) (eC (.int 1))))) (aCons (eBin oMul (eBin oIx (eVar 0) (eC (.int 1))) (eBin oIx (eVar 1) (eC (.int 1)))) aNil))))
noncomputable def f_minus : List D → Sto → R D := runF 2 b_minus
noncomputable def b_over : SF :=
  (sRet (eCall 2 f_ratio (aCons (eBin oMul (eBin oIx (eVar 0) (eC (.int 0))) (eBin oIx (eVar 1) (eC (.int 1)))) (aCons (eBin oMul (eBin oIx (eVar 0) (eC (.int 1))) (eBin oIx (eVar 1) (eC (.int 0)))) aNil))))
noncomputable def f_over : List D → Sto → R D := runF 2 b_over
noncomputable def b_less : SF :=
  (sRet (eBin oLt (eBin oMul (eBin oIx (eVar 0) (eC (.int 0))) (eBin oIx (eVar 1) (eC (.int 1)))) (eBin oMul (eBin oIx (eVar 1) (eC (.int 0))) (eBin oIx (eVar 0) (eC (.int 1))))))
noncomputable def f_less : List D → Sto → R D := runF 2 b_less
noncomputable def b_PairGrowth_step : SF :=
  (sSeq (sSet 2 (eMeth "PairGrowth" "waits" 2 f_PairGrowth_waits (eVar 0) (aCons (eVar 1) aNil)))
    (sSeq (sFor (iEnumD (aCons (eMeth "PairGrowth" "rates" 2 f_PairGrowth_rates (eVar 0) (aCons (eVar 1) aNil)) aNil)) (.tp [(.nm 3), (.nm 4)]) (sIf (bBin oGt (eVar 4) (eC (.int 0))) (sSeq (sSet 5 (eCall 2 f_minus (aCons (eCallD 2 [1] f_ratio (aCons (eBin oIx (eBin oIx (eFld "PairGrowth" (eVar 0) "ways") (eVar 3)) (eC (.int 2))) aNil)) (aCons (eBin oIx (eFld "PairGrowth" (eVar 0) "filled") (eVar 3)) aNil))))
    (sExpr (eLm mAppend (eVar 2) (aCons (eCall 2 f_over (aCons (eVar 5) (aCons (eCallD 2 [1] f_ratio (aCons (eVar 4) aNil)) aNil))) aNil)))) sNext))
    (sSeq (sSet 6 (eBin oIx (eVar 2) (eC (.int 0))))
    (sSeq (sFor (iSeqD (eVar 2)) (.nm 7) (sIf (bVal (eCall 2 f_less (aCons (eVar 7) (aCons (eVar 6) aNil)))) (sSet 6 (eVar 7)) sNext))
    (sRet (eVar 6))))))
noncomputable def f_PairGrowth_step : List D → Sto → R D := runF 8 b_PairGrowth_step
noncomputable def b_times : SF :=
  (sRet (eCall 2 f_ratio (aCons (eBin oMul (eBin oIx (eVar 0) (eC (.int 0))) (eBin oIx (eVar 1) (eC (.int 0)))) (aCons (eBin oMul (eBin oIx (eVar 0) (eC (.int 1))) (eBin oIx (eVar 1) (eC (.int 1)))) aNil))))
noncomputable def f_times : List D → Sto → R D := runF 2 b_times
noncomputable def b_plus : SF :=
  (sRet (eCall 2 f_ratio (aCons (eBin oAdd (eBin oMul (eBin oIx (eVar 0) (eC (.int 0))) (eBin oIx (eVar 1) (eC (.int 1)))) (eBin oMul (eBin oIx (eVar 1) (eC (.int 0))) (eBin oIx (eVar 0) (eC (.int 1))))) (aCons (eBin oMul (eBin oIx (eVar 0) (eC (.int 1))) (eBin oIx (eVar 1) (eC (.int 1)))) aNil))))
noncomputable def f_plus : List D → Sto → R D := runF 2 b_plus
noncomputable def b_PairGrowth_pass_time : SF :=
  (sSeq (sFor (iEnumD (aCons (eMeth "PairGrowth" "rates" 2 f_PairGrowth_rates (eVar 0) (aCons (eVar 2) aNil)) aNil)) (.tp [(.nm 3), (.nm 4)]) (sSub (eFld "PairGrowth" (eVar 0) "filled") (eVar 3) (eCall 2 f_plus (aCons (eBin oIx (eFld "PairGrowth" (eVar 0) "filled") (eVar 3)) (aCons (eCall 2 f_times (aCons (eVar 1) (aCons (eCallD 2 [1] f_ratio (aCons (eVar 4) aNil)) aNil))) aNil)))))
    (sSeq (sFor (iSeqD (eVar 2)) (.nm 5) (sDPut (eFld "PairGrowth" (eVar 0) "widths") (eVar 5) (eCall 2 f_plus (aCons (eDGet2 (eFld "PairGrowth" (eVar 0) "widths") (eVar 5) (eC (.con (([0, 1] : List Int).map D.int)))) (aCons (eVar 1) aNil)))))
    (sFld "PairGrowth" (eVar 0) "time" (eCall 2 f_plus (aCons (eFld "PairGrowth" (eVar 0) "time") (aCons (eVar 1) aNil))))))
noncomputable def f_PairGrowth_pass_time : List D → Sto → R D := runF 6 b_PairGrowth_pass_time
noncomputable def b_PairGrowth_full_way : SF :=
  (sSeq (sFor (iEnumD (aCons (eFld "PairGrowth" (eVar 0) "ways") aNil)) (.tp [(.nm 1), (.nm 2)]) (sIf (bAnd (bBin oEq (eBin oIx (eFld "PairGrowth" (eVar 0) "filled") (eVar 1)) (eCallD 2 [1] f_ratio (aCons (eBin oIx (eVar 2) (eC (.int 2))) aNil))) (bBin oNotN (eMeth "PairGrowth" "between" 2 f_PairGrowth_between (eVar 0) (aCons (eVar 1) aNil)) (eC .non))) (sRet (eVar 1)) sNext))
    (sRet (eC .non)))
noncomputable def f_PairGrowth_full_way : List D → Sto → R D := runF 3 b_PairGrowth_full_way
noncomputable def b_PairGrowth_came : SF :=
  sNext
noncomputable def f_PairGrowth_came : List D → Sto → R D := runF 2 b_PairGrowth_came
noncomputable def b_PairGrowth_take_full_ways : SF :=
  (sSeq (sSet 1 (eMeth "PairGrowth" "full_way" 1 f_PairGrowth_full_way (eVar 0) aNil))
    (sWhile bigW (bBin oNotN (eVar 1) (eC .non)) (sSeq (sAsg (.ls [(.nm 2), (.nm 3)]) (eMeth "PairGrowth" "between" 2 f_PairGrowth_between (eVar 0) (aCons (eVar 1) aNil)))
    (sSeq (sSet 4 (eCb (pure1 gTuple) (aCons (eCb (oSort false) (aCons (eBin oAdd (eVar 2) (eVar 3)) aNil)) aNil)))
    (sSeq (sFld "PairGrowth" (eVar 0) "parts" (eCb (pure1 gTuple) (aCons (eCb oSortT (aCons (eBin oAdd (eLc (iSeqD (eFld "PairGrowth" (eVar 0) "parts")) (.nm 5) (bBin oNotIn (eVar 5) (eTup (aCons (eVar 2) (aCons (eVar 3) aNil)))) (eVar 5) [5]) (eLst (aCons (eVar 4) aNil))) aNil)) aNil)))
    (sSeq (sExpr (eLm mAppend (eFld "PairGrowth" (eVar 0) "taken") (aCons (eTup (aCons (eFld "PairGrowth" (eVar 0) "time") (aCons (eVar 1) aNil))) aNil)))
    (sSeq (sExpr (eMeth "PairGrowth" "came" 2 f_PairGrowth_came (eVar 0) (aCons (eVar 4) aNil)))
    (sSet 1 (eMeth "PairGrowth" "full_way" 1 f_PairGrowth_full_way (eVar 0) aNil)))))))))
noncomputable def f_PairGrowth_take_full_ways : List D → Sto → R D := runF 6 b_PairGrowth_take_full_ways
noncomputable def b_PairGrowth_rested : SF :=
  sNext
noncomputable def f_PairGrowth_rested : List D → Sto → R D := runF 1 b_PairGrowth_rested
noncomputable def b_PairGrowth_grow : SF :=
  (sSeq (sExpr (eLm mAppend (eFld "PairGrowth" (eVar 0) "rows") (aCons (eTup (aCons (eFld "PairGrowth" (eVar 0) "time") (aCons (eFld "PairGrowth" (eVar 0) "parts") (aCons (eMeth "PairGrowth" "still_open" 1 f_PairGrowth_still_open (eVar 0) aNil) aNil)))) aNil)))
    (sWhile bigW (bVal (eMeth "PairGrowth" "still_open" 1 f_PairGrowth_still_open (eVar 0) aNil)) (sSeq (sSet 1 (eMeth "PairGrowth" "still_open" 1 f_PairGrowth_still_open (eVar 0) aNil))
    (sSeq (sExpr (eMeth "PairGrowth" "pass_time" 3 f_PairGrowth_pass_time (eVar 0) (aCons (eMeth "PairGrowth" "step" 2 f_PairGrowth_step (eVar 0) (aCons (eVar 1) aNil)) (aCons (eVar 1) aNil))))
    (sSeq (sSet 2 (eCb (pure1 gLen) (aCons (eFld "PairGrowth" (eVar 0) "taken") aNil)))
    (sSeq (sExpr (eMeth "PairGrowth" "take_full_ways" 1 f_PairGrowth_take_full_ways (eVar 0) aNil))
    (sSeq (sExpr (eMeth "PairGrowth" "rested" 1 f_PairGrowth_rested (eVar 0) aNil))
    (sIf (bBin oGt (eCb (pure1 gLen) (aCons (eFld "PairGrowth" (eVar 0) "taken") aNil)) (eVar 2)) (sExpr (eLm mAppend (eFld "PairGrowth" (eVar 0) "rows") (aCons (eTup (aCons (eFld "PairGrowth" (eVar 0) "time") (aCons (eFld "PairGrowth" (eVar 0) "parts") (aCons (eMeth "PairGrowth" "still_open" 1 f_PairGrowth_still_open (eVar 0) aNil) aNil)))) aNil))) sNext))))))))
noncomputable def f_PairGrowth_grow : List D → Sto → R D := runF 3 b_PairGrowth_grow
noncomputable def b_PairGrowth_Growth_init : SF :=
  (sSeq (sFld "PairGrowth" (eVar 0) "net" (eVar 1))
    (sSeq (sFld "PairGrowth" (eVar 0) "ways" (eBin oIx (eVar 1) (eC (.int 1))))
    (sSeq (sFld "PairGrowth" (eVar 0) "time" (eC (.con (([0, 1] : List Int).map D.int))))
    (sSeq (sFld "PairGrowth" (eVar 0) "parts" (eCall 2 f_groups (aCons (eVar 1) (aCons (eTup aNil) aNil))))
    (sSeq (sFld "PairGrowth" (eVar 0) "filled" (eLcA (iSeqD (eFld "PairGrowth" (eVar 0) "ways")) (.nm 2) bYes (eC (.con (([0, 1] : List Int).map D.int))) [2]))
    (sSeq (sFld "PairGrowth" (eVar 0) "widths" (eDNew true))
    (sSeq (sFld "PairGrowth" (eVar 0) "taken" (eLstA aNil))
    (sFld "PairGrowth" (eVar 0) "rows" (eLstA aNil)))))))))
noncomputable def f_PairGrowth_Growth_init : List D → Sto → R D := runF 3 b_PairGrowth_Growth_init
noncomputable def b_PairGrowth_init : SF :=
  (sSeq (sSup "PairGrowth" 2 f_PairGrowth_Growth_init (aCons (eVar 1) aNil))
    (sSeq (sFld "PairGrowth" (eVar 0) "pairs" (eVar 2))
    (sSeq (sSet 4 (eCall 3 f_first_apart (aCons (eVar 1) (aCons (eVar 2) (aCons (eCall 1 f_all_ways (aCons (eVar 1) aNil)) aNil)))))
    (sSeq (sIf (bBin oNotN (eVar 4) (eC .non)) sNo sNext)
    (sExpr (eMeth "PairGrowth" "grow" 1 f_PairGrowth_grow (eVar 0) aNil))))))
noncomputable def f_PairGrowth_init : List D → Sto → R D := runF 5 b_PairGrowth_init
noncomputable def b_joins : SF :=
  (sRet (eBin oIsN (eCall 3 f_first_apart (aCons (eVar 0) (aCons (eVar 1) (aCons (eVar 2) aNil)))) (eC .non)))
noncomputable def f_joins : List D → Sto → R D := runF 3 b_joins
noncomputable def b_told : SF :=
  (sSeq (sSet 2 (eLc (iSeqD (eFld "PairGrowth" (eMake "PairGrowth" 3 f_PairGrowth_init (aCons (eVar 0) (aCons (eVar 1) aNil))) "taken")) (.tp [(.nm 5), (.nm 6)]) bYes (eVar 6) [5, 6]))
    (sSeq (sFor (iRevD (aCons (eCb (oList false) (aCons (eVar 2) aNil)) aNil)) (.nm 3) (sSeq (sSet 4 (eLc (iSeqD (eVar 2)) (.nm 6) (bBin oNe (eVar 6) (eVar 3)) (eVar 6) [6]))
    (sIf (bVal (eCall 3 f_joins (aCons (eVar 0) (aCons (eVar 1) (aCons (eVar 4) aNil))))) (sSet 2 (eVar 4)) sNext)))
    (sRet (eCb (pure1 gTuple) (aCons (eCb (oSort false) (aCons (eVar 2) aNil)) aNil)))))
noncomputable def f_told : List D → Sto → R D := runF 7 b_told
noncomputable def b_law_same (F : List D → Sto → R D) : SF :=
  (sSeq (sIf (bVal (eIsi "tuple" (eVar 1))) (sSeq (sIf (bOr (bNot (bVal (eIsi "tuple" (eVar 0)))) (bBin oNe (eCb (pure1 gLen) (aCons (eVar 0) aNil)) (eCb (pure1 gLen) (aCons (eVar 1) aNil)))) (sRet (eC (.bl false))) sNext)
    (sRet (eBin oEq (eCb (pure1 gLen) (aCons (eLc (iRng1D (aCons (eCb (pure1 gLen) (aCons (eVar 1) aNil)) aNil)) (.nm 2) (bNot (bVal (eCall 2 F (aCons (eBin oIx (eVar 0) (eVar 2)) (aCons (eBin oIx (eVar 1) (eVar 2)) aNil))))) (eVar 2) [2]) aNil)) (eC (.int 0))))) sNext)
    (sSeq (sIf (bBin oIsN (eVar 1) (eC .non)) (sRet (eBin oIsN (eVar 0) (eC .non))) sNext)
    (sSeq (sIf (bVal (eIsi "str" (eVar 1))) (sRet (eAnd (eIsi "str" (eVar 0)) (eBin oEq (eVar 0) (eVar 1)))) sNext)
    (sRet (eAnd (eIsi "int" (eVar 0)) (eAnd (eNot (eIsi "bool" (eVar 0))) (eBin oEq (eVar 0) (eVar 1))))))))
noncomputable def f_law_sameN : Nat → List D → Sto → R D
  | 0 => runF 3 sNo
  | k + 1 => runF 3 (b_law_same (f_law_sameN k))
noncomputable def f_law_same : List D → Sto → R D := f_law_sameN 7
noncomputable def b_growth : SF :=
  (sRet (eCb (pure1 gTuple) (aCons (eFld "PairGrowth" (eMake "PairGrowth" 3 f_PairGrowth_init (aCons (eVar 0) (aCons (eVar 1) aNil))) "taken") aNil)))
noncomputable def f_growth : List D → Sto → R D := runF 2 b_growth
noncomputable def b_law_gcd : SF :=
  (sSeq (sFor (iRng1D (aCons (eC (.int 100000)) aNil)) (.nm 2) (sSeq (sIf (bBin oEq (eVar 1) (eC (.int 0))) (sRet (eVar 0)) sNext)
    (sPar 0 1 (aCons (eVar 1) (aCons (eBin oMod (eCb (pure1 gInt) (aCons (eVar 0) aNil)) (eVar 1)) aNil)))))
    (sRet (eC (.int 1))))
noncomputable def f_law_gcd : List D → Sto → R D := runF 3 b_law_gcd
noncomputable def b_law_ratio : SF :=
  (sSeq (sSet 2 (eCall 2 f_law_gcd (aCons (eCb (pure1 gAbs) (aCons (eVar 0) aNil)) (aCons (eCb (pure1 gAbs) (aCons (eVar 1) aNil)) aNil))))
    (sSeq (sIf (bBin oLt (eVar 1) (eC (.int 0))) (sSet 2 (eBin oSub (eC (.int 0)) (eVar 2))) sNext)
    (sRet (eTup (aCons (eBin oDiv (eVar 0) (eVar 2)) (aCons (eBin oDiv (eVar 1) (eVar 2)) aNil))))))
noncomputable def f_law_ratio : List D → Sto → R D := runF 3 b_law_ratio
noncomputable def b_law_times : SF :=
  (sRet (eCall 2 f_law_ratio (aCons (eBin oMul (eBin oIx (eVar 0) (eC (.int 0))) (eBin oIx (eVar 1) (eC (.int 0)))) (aCons (eBin oMul (eBin oIx (eVar 0) (eC (.int 1))) (eBin oIx (eVar 1) (eC (.int 1)))) aNil))))
noncomputable def f_law_times : List D → Sto → R D := runF 2 b_law_times
noncomputable def b_PairGrowth_paper : SF :=
  (sRet (eCb (pure1 gTuple) (aCons (eLc (iSeqD (eCb oSortK (aCons (eFld "PairGrowth" (eVar 0) "widths") aNil))) (.nm 1) (bBin oNe (eDGet (eFld "PairGrowth" (eVar 0) "widths") (eVar 1)) (eC (.con (([0, 1] : List Int).map D.int)))) (eTup (aCons (eVar 1) (aCons (eDGet (eFld "PairGrowth" (eVar 0) "widths") (eVar 1)) aNil))) [1]) aNil)))
noncomputable def f_PairGrowth_paper : List D → Sto → R D := runF 2 b_PairGrowth_paper
noncomputable def b_moats : SF :=
  (sRet (eMeth "PairGrowth" "paper" 1 f_PairGrowth_paper (eMake "PairGrowth" 3 f_PairGrowth_init (aCons (eVar 0) (aCons (eVar 1) aNil))) aNil))
noncomputable def f_moats : List D → Sto → R D := runF 2 b_moats
noncomputable def b_law : SF :=
  (sSeq (sSet 1 (eCall 1 f_law_pool (aCons (eVar 0) aNil)))
    (sSeq (sAsg (.tp [(.nm 2), (.nm 3)]) (eCall 1 f_law_any_task (aCons (eVar 1) aNil)))
    (sSeq (sSet 4 (eTup (aCons (eBin oIx (eVar 2) (eC (.int 0))) (aCons (eCb (pure1 gTuple) (aCons (eLc (iSeqD (eBin oIx (eVar 2) (eC (.int 1)))) (.nm 12) bYes (eTup (aCons (eBin oIx (eVar 12) (eC (.int 0))) (aCons (eBin oIx (eVar 12) (eC (.int 1))) (aCons (eCb (pure1 gMin) (aCons (eBin oIx (eVar 12) (eC (.int 2))) (aCons (eC (.int 3000)) aNil))) aNil)))) [12]) aNil)) aNil))))
    (sSeq (sSet 5 (eBin oAdd (eC (.int 2)) (eCall 2 f_law_draw (aCons (eVar 1) (aCons (eC (.int 2)) aNil)))))
    (sSeq (sSet 6 (eTup (aCons (eBin oIx (eVar 4) (eC (.int 0))) (aCons (eCb (pure1 gTuple) (aCons (eLc (iSeqD (eBin oIx (eVar 4) (eC (.int 1)))) (.nm 12) bYes (eTup (aCons (eBin oIx (eVar 12) (eC (.int 0))) (aCons (eBin oIx (eVar 12) (eC (.int 1))) (aCons (eBin oMul (eBin oIx (eVar 12) (eC (.int 2))) (eVar 5)) aNil)))) [12]) aNil)) aNil))))
    (sSeq (sIf (bNot (bVal (eCall 2 f_law_same (aCons (eCall 2 f_told (aCons (eVar 6) (aCons (eVar 3) aNil))) (aCons (eCall 2 f_told (aCons (eVar 4) (aCons (eVar 3) aNil))) aNil))))) (sRet (eC (.bl false))) sNext)
    (sSeq (sSet 7 (eCb (pure1 gTuple) (aCons (eLc (iSeqD (eCall 2 f_growth (aCons (eVar 4) (aCons (eVar 3) aNil)))) (.tp [(.nm 11), (.nm 12)]) bYes (eTup (aCons (eCall 2 f_law_times (aCons (eVar 11) (aCons (eTup (aCons (eVar 5) (aCons (eC (.int 1)) aNil))) aNil))) (aCons (eVar 12) aNil))) [11, 12]) aNil)))
    (sSeq (sSet 8 (eCb (pure1 gTuple) (aCons (eLc (iSeqD (eCall 2 f_moats (aCons (eVar 4) (aCons (eVar 3) aNil)))) (.tp [(.nm 13), (.nm 14)]) bYes (eTup (aCons (eVar 13) (aCons (eCall 2 f_law_times (aCons (eVar 14) (aCons (eTup (aCons (eVar 5) (aCons (eC (.int 1)) aNil))) aNil))) aNil))) [13, 14]) aNil)))
    (sSeq (sIf (bOr (bNot (bVal (eCall 2 f_law_same (aCons (eCall 2 f_growth (aCons (eVar 6) (aCons (eVar 3) aNil))) (aCons (eVar 7) aNil))))) (bNot (bVal (eCall 2 f_law_same (aCons (eCall 2 f_moats (aCons (eVar 6) (aCons (eVar 3) aNil))) (aCons (eVar 8) aNil)))))) (sRet (eC (.bl false))) sNext)
    (sSeq (sSet 9 (eCall 2 f_law_draw (aCons (eVar 1) (aCons (eC (.int 6)) aNil))))
    (sSeq (sSet 10 (eRevT (eBin oAdd (eSl false (eVar 3) (pSome (eVar 9)) pNone) (eSl false (eVar 3) pNone (pSome (eVar 9))))))
    (sSeq (sIf (bOr (bNot (bVal (eCall 2 f_law_same (aCons (eCall 2 f_told (aCons (eVar 4) (aCons (eVar 10) aNil))) (aCons (eCall 2 f_told (aCons (eVar 4) (aCons (eVar 3) aNil))) aNil))))) (bNot (bVal (eCall 2 f_law_same (aCons (eCall 2 f_moats (aCons (eVar 4) (aCons (eVar 10) aNil))) (aCons (eCall 2 f_moats (aCons (eVar 4) (aCons (eVar 3) aNil))) aNil)))))) (sRet (eC (.bl false))) sNext)
    (sRet (eCall 2 f_law_same (aCons (eCall 2 f_growth (aCons (eVar 4) (aCons (eVar 10) aNil))) (aCons (eCall 2 f_growth (aCons (eVar 4) (aCons (eVar 3) aNil))) aNil))))))))))))))))
noncomputable def f_law : List D → Sto → R D := runF 15 b_law
def topS (i : Nat) : Stmt := PySem.Challenge.pw_moatways_k24_scaled_and_turned_tasks.main.body.getD i (.Pass ⟨0, 0, 0, 0⟩)
abbrev s_law_pool : Stmt := topS 26
abbrev N_law_pool : List Str := ["_law_script"]
theorem sc_law_pool : FnScope N_law_pool ["_law_script"] (defScope s_law_pool) := ⟨rfl, rfl, rfl, by decide +kernel, rfl, by decide +kernel, by decide +kernel⟩
abbrev s_law_draw : Stmt := topS 27
abbrev N_law_draw : List Str := ["_law_pool_here", "_law_many", "_law_found", "_law_cell", "_law_mixed"]
theorem sc_law_draw : FnScope N_law_draw ["_law_pool_here", "_law_many"] (defScope s_law_draw) := ⟨rfl, rfl, rfl, by decide +kernel, rfl, by decide +kernel, by decide +kernel⟩
abbrev s_law_pick : Stmt := topS 28
abbrev N_law_pick : List Str := ["_law_pool_here", "_law_rows"]
theorem sc_law_pick : FnScope N_law_pick ["_law_pool_here", "_law_rows"] (defScope s_law_pick) := ⟨rfl, rfl, rfl, by decide +kernel, rfl, by decide +kernel, by decide +kernel⟩
abbrev s_law_cost : Stmt := topS 33
abbrev N_law_cost : List Str := ["_law_pool_here", "_law_pick_here"]
theorem sc_law_cost : FnScope N_law_cost ["_law_pool_here"] (defScope s_law_cost) := ⟨rfl, rfl, rfl, by decide +kernel, rfl, by decide +kernel, by decide +kernel⟩
abbrev s_law_way : Stmt := topS 34
abbrev N_law_way : List Str := ["_law_pool_here", "_law_places", "_law_a"]
theorem sc_law_way : FnScope N_law_way ["_law_pool_here", "_law_places"] (defScope s_law_way) := ⟨rfl, rfl, rfl, by decide +kernel, rfl, by decide +kernel, by decide +kernel⟩
abbrev s_law_net : Stmt := topS 35
abbrev N_law_net : List Str := ["_law_pool_here", "_law_most", "_law_ways", "_law_places", "_law_found", "_law_place", "_law_k"]
theorem sc_law_net : FnScope N_law_net ["_law_pool_here", "_law_most", "_law_ways"] (defScope s_law_net) := ⟨rfl, rfl, rfl, by decide +kernel, rfl, by decide +kernel, by decide +kernel⟩
abbrev s_law_pairs : Stmt := topS 36
abbrev N_law_pairs : List Str := ["_law_pool_here", "_law_places", "_law_most", "_law_found", "_law_k", "_law_a", "_law_pair"]
theorem sc_law_pairs : FnScope N_law_pairs ["_law_pool_here", "_law_places", "_law_most"] (defScope s_law_pairs) := ⟨rfl, rfl, rfl, by decide +kernel, rfl, by decide +kernel, by decide +kernel⟩
abbrev s_law_group : Stmt := topS 37
abbrev N_law_group : List Str := ["_law_net_here", "_law_choice", "_law_place", "_law_found", "_law_turn", "_law_index", "_law_a", "_law_b", "_law_cost_here"]
theorem sc_law_group : FnScope N_law_group ["_law_net_here", "_law_choice", "_law_place"] (defScope s_law_group) := ⟨rfl, rfl, rfl, by decide +kernel, rfl, by decide +kernel, by decide +kernel⟩
abbrev s_law_joins : Stmt := topS 38
abbrev N_law_joins : List Str := ["_law_net_here", "_law_pairs_here", "_law_choice", "_law_pair"]
theorem sc_law_joins : FnScope N_law_joins ["_law_net_here", "_law_pairs_here", "_law_choice"] (defScope s_law_joins) := ⟨rfl, rfl, rfl, by decide +kernel, rfl, by decide +kernel, by decide +kernel⟩
abbrev s_law_task : Stmt := topS 39
abbrev N_law_task : List Str := ["_law_pool_here", "_law_most", "_law_ways", "_law_net_here", "_law_pairs_here", "_law_whole", "_law_k", "_law_pair"]
theorem sc_law_task : FnScope N_law_task ["_law_pool_here", "_law_most", "_law_ways"] (defScope s_law_task) := ⟨rfl, rfl, rfl, by decide +kernel, rfl, by decide +kernel, by decide +kernel⟩
abbrev s_law_any_task : Stmt := topS 40
abbrev N_law_any_task : List Str := ["_law_pool_here"]
theorem sc_law_any_task : FnScope N_law_any_task ["_law_pool_here"] (defScope s_law_any_task) := ⟨rfl, rfl, rfl, by decide +kernel, rfl, by decide +kernel, by decide +kernel⟩
abbrev s_all_ways : Stmt := topS 6
abbrev N_all_ways : List Str := ["net"]
theorem sc_all_ways : FnScope N_all_ways ["net"] (defScope s_all_ways) := ⟨rfl, rfl, rfl, by decide +kernel, rfl, by decide +kernel, by decide +kernel⟩
abbrev s_groups : Stmt := topS 5
abbrev N_groups : List Str := ["net", "choice", "places", "ways", "mark", "index", "a", "b", "_", "low", "high", "found", "first", "one", "place"]
theorem sc_groups : FnScope N_groups ["net", "choice"] (defScope s_groups) := ⟨rfl, rfl, rfl, by decide +kernel, rfl, by decide +kernel, by decide +kernel⟩
abbrev s_group_of : Stmt := topS 7
abbrev N_group_of : List Str := ["parts", "place", "part"]
theorem sc_group_of : FnScope N_group_of ["parts", "place"] (defScope s_group_of) := ⟨rfl, rfl, rfl, by decide +kernel, rfl, by decide +kernel, by decide +kernel⟩
abbrev s_first_apart : Stmt := topS 8
abbrev N_first_apart : List Str := ["net", "pairs", "choice", "parts", "index", "a", "b"]
theorem sc_first_apart : FnScope N_first_apart ["net", "pairs", "choice"] (defScope s_first_apart) := ⟨rfl, rfl, rfl, by decide +kernel, rfl, by decide +kernel, by decide +kernel⟩
abbrev s_PairGrowth_is_open : Stmt := inClass (topS 21) 1
abbrev N_PairGrowth_is_open : List Str := ["self", "part", "a", "b"]
theorem sc_PairGrowth_is_open : FnScope N_PairGrowth_is_open ["self", "part"] (defScope s_PairGrowth_is_open) := ⟨rfl, rfl, rfl, by decide +kernel, rfl, by decide +kernel, by decide +kernel⟩
abbrev s_PairGrowth_still_open : Stmt := inClass (topS 19) 11
abbrev N_PairGrowth_still_open : List Str := ["self", "part"]
theorem sc_PairGrowth_still_open : FnScope N_PairGrowth_still_open ["self"] (defScope s_PairGrowth_still_open) := ⟨rfl, rfl, rfl, by decide +kernel, rfl, by decide +kernel, by decide +kernel⟩
abbrev s_PairGrowth_waits : Stmt := inClass (topS 19) 4
abbrev N_PairGrowth_waits : List Str := ["self", "still"]
theorem sc_PairGrowth_waits : FnScope N_PairGrowth_waits ["self", "still"] (defScope s_PairGrowth_waits) := ⟨rfl, rfl, rfl, by decide +kernel, rfl, by decide +kernel, by decide +kernel⟩
abbrev s_PairGrowth_between : Stmt := inClass (topS 19) 5
abbrev N_PairGrowth_between : List Str := ["self", "index", "a", "b", "_", "found", "part"]
theorem sc_PairGrowth_between : FnScope N_PairGrowth_between ["self", "index"] (defScope s_PairGrowth_between) := ⟨rfl, rfl, rfl, by decide +kernel, rfl, by decide +kernel, by decide +kernel⟩
abbrev s_PairGrowth_rates : Stmt := inClass (topS 19) 8
abbrev N_PairGrowth_rates : List Str := ["self", "still", "found", "index", "way", "ends", "part"]
theorem sc_PairGrowth_rates : FnScope N_PairGrowth_rates ["self", "still"] (defScope s_PairGrowth_rates) := ⟨rfl, rfl, rfl, by decide +kernel, rfl, by decide +kernel, by decide +kernel⟩
abbrev s_ratio : Stmt := topS 12
abbrev N_ratio : List Str := ["top", "bottom", "common"]
theorem sc_ratio : FnScope N_ratio ["top", "bottom"] (defScope s_ratio) := ⟨rfl, rfl, rfl, by decide +kernel, rfl, by decide +kernel, by decide +kernel⟩
abbrev s_minus : Stmt := topS 14
abbrev N_minus : List Str := ["a", "b"]
theorem sc_minus : FnScope N_minus ["a", "b"] (defScope s_minus) := ⟨rfl, rfl, rfl, by decide +kernel, rfl, by decide +kernel, by decide +kernel⟩
abbrev s_over : Stmt := topS 16
abbrev N_over : List Str := ["a", "b"]
theorem sc_over : FnScope N_over ["a", "b"] (defScope s_over) := ⟨rfl, rfl, rfl, by decide +kernel, rfl, by decide +kernel, by decide +kernel⟩
abbrev s_less : Stmt := topS 17
abbrev N_less : List Str := ["a", "b"]
theorem sc_less : FnScope N_less ["a", "b"] (defScope s_less) := ⟨rfl, rfl, rfl, by decide +kernel, rfl, by decide +kernel, by decide +kernel⟩
abbrev s_PairGrowth_step : Stmt := inClass (topS 19) 9
abbrev N_PairGrowth_step : List Str := ["self", "still", "times_left", "index", "rate", "lacking", "best", "one"]
theorem sc_PairGrowth_step : FnScope N_PairGrowth_step ["self", "still"] (defScope s_PairGrowth_step) := ⟨rfl, rfl, rfl, by decide +kernel, rfl, by decide +kernel, by decide +kernel⟩
abbrev s_times : Stmt := topS 15
abbrev N_times : List Str := ["a", "b"]
theorem sc_times : FnScope N_times ["a", "b"] (defScope s_times) := ⟨rfl, rfl, rfl, by decide +kernel, rfl, by decide +kernel, by decide +kernel⟩
abbrev s_plus : Stmt := topS 13
abbrev N_plus : List Str := ["a", "b"]
theorem sc_plus : FnScope N_plus ["a", "b"] (defScope s_plus) := ⟨rfl, rfl, rfl, by decide +kernel, rfl, by decide +kernel, by decide +kernel⟩
abbrev s_PairGrowth_pass_time : Stmt := inClass (topS 19) 10
abbrev N_PairGrowth_pass_time : List Str := ["self", "span", "still", "index", "rate", "part"]
theorem sc_PairGrowth_pass_time : FnScope N_PairGrowth_pass_time ["self", "span", "still"] (defScope s_PairGrowth_pass_time) := ⟨rfl, rfl, rfl, by decide +kernel, rfl, by decide +kernel, by decide +kernel⟩
abbrev s_PairGrowth_full_way : Stmt := inClass (topS 19) 6
abbrev N_PairGrowth_full_way : List Str := ["self", "index", "way"]
theorem sc_PairGrowth_full_way : FnScope N_PairGrowth_full_way ["self"] (defScope s_PairGrowth_full_way) := ⟨rfl, rfl, rfl, by decide +kernel, rfl, by decide +kernel, by decide +kernel⟩
abbrev s_PairGrowth_came : Stmt := inClass (topS 19) 2
abbrev N_PairGrowth_came : List Str := ["self", "part"]
theorem sc_PairGrowth_came : FnScope N_PairGrowth_came ["self", "part"] (defScope s_PairGrowth_came) := ⟨rfl, rfl, rfl, by decide +kernel, rfl, by decide +kernel, by decide +kernel⟩
abbrev s_PairGrowth_take_full_ways : Stmt := inClass (topS 19) 7
abbrev N_PairGrowth_take_full_ways : List Str := ["self", "index", "one", "other", "joined", "part"]
theorem sc_PairGrowth_take_full_ways : FnScope N_PairGrowth_take_full_ways ["self"] (defScope s_PairGrowth_take_full_ways) := ⟨rfl, rfl, rfl, by decide +kernel, rfl, by decide +kernel, by decide +kernel⟩
abbrev s_PairGrowth_rested : Stmt := inClass (topS 19) 3
abbrev N_PairGrowth_rested : List Str := ["self"]
theorem sc_PairGrowth_rested : FnScope N_PairGrowth_rested ["self"] (defScope s_PairGrowth_rested) := ⟨rfl, rfl, rfl, by decide +kernel, rfl, by decide +kernel, by decide +kernel⟩
abbrev s_PairGrowth_grow : Stmt := inClass (topS 19) 12
abbrev N_PairGrowth_grow : List Str := ["self", "still", "many"]
theorem sc_PairGrowth_grow : FnScope N_PairGrowth_grow ["self"] (defScope s_PairGrowth_grow) := ⟨rfl, rfl, rfl, by decide +kernel, rfl, by decide +kernel, by decide +kernel⟩
abbrev s_PairGrowth_Growth_init : Stmt := inClass (topS 19) 0
abbrev N_PairGrowth_Growth_init : List Str := ["self", "net", "way"]
theorem sc_PairGrowth_Growth_init : FnScope N_PairGrowth_Growth_init ["self", "net"] (defScope s_PairGrowth_Growth_init) := ⟨rfl, rfl, rfl, by decide +kernel, rfl, by decide +kernel, by decide +kernel⟩
abbrev s_PairGrowth_init : Stmt := inClass (topS 21) 0
abbrev N_PairGrowth_init : List Str := ["self", "net", "pairs", "__class__", "apart"]
theorem sc_PairGrowth_init : NdefX.NScope N_PairGrowth_init ["self", "net", "pairs"] [("__class__" : Str)] (defScope s_PairGrowth_init) := NdefX.nscope_by (by decide +kernel)
abbrev s_joins : Stmt := topS 9
abbrev N_joins : List Str := ["net", "pairs", "choice"]
theorem sc_joins : FnScope N_joins ["net", "pairs", "choice"] (defScope s_joins) := ⟨rfl, rfl, rfl, by decide +kernel, rfl, by decide +kernel, by decide +kernel⟩
abbrev s_told : Stmt := topS 23
abbrev N_told : List Str := ["net", "pairs", "kept", "way", "others", "_", "index"]
theorem sc_told : FnScope N_told ["net", "pairs"] (defScope s_told) := ⟨rfl, rfl, rfl, by decide +kernel, rfl, by decide +kernel, by decide +kernel⟩
abbrev s_law_same : Stmt := topS 32
abbrev N_law_same : List Str := ["_law_actual", "_law_due", "_law_k"]
theorem sc_law_same : FnScope N_law_same ["_law_actual", "_law_due"] (defScope s_law_same) := ⟨rfl, rfl, rfl, by decide +kernel, rfl, by decide +kernel, by decide +kernel⟩
abbrev s_growth : Stmt := topS 22
abbrev N_growth : List Str := ["net", "pairs"]
theorem sc_growth : FnScope N_growth ["net", "pairs"] (defScope s_growth) := ⟨rfl, rfl, rfl, by decide +kernel, rfl, by decide +kernel, by decide +kernel⟩
abbrev s_law_gcd : Stmt := topS 29
abbrev N_law_gcd : List Str := ["_law_a", "_law_b", "_law_k"]
theorem sc_law_gcd : FnScope N_law_gcd ["_law_a", "_law_b"] (defScope s_law_gcd) := ⟨rfl, rfl, rfl, by decide +kernel, rfl, by decide +kernel, by decide +kernel⟩
abbrev s_law_ratio : Stmt := topS 30
abbrev N_law_ratio : List Str := ["_law_top", "_law_bottom", "_law_common"]
theorem sc_law_ratio : FnScope N_law_ratio ["_law_top", "_law_bottom"] (defScope s_law_ratio) := ⟨rfl, rfl, rfl, by decide +kernel, rfl, by decide +kernel, by decide +kernel⟩
abbrev s_law_times : Stmt := topS 31
abbrev N_law_times : List Str := ["_law_a", "_law_b"]
theorem sc_law_times : FnScope N_law_times ["_law_a", "_law_b"] (defScope s_law_times) := ⟨rfl, rfl, rfl, by decide +kernel, rfl, by decide +kernel, by decide +kernel⟩
abbrev s_PairGrowth_paper : Stmt := inClass (topS 19) 13
abbrev N_PairGrowth_paper : List Str := ["self", "part"]
theorem sc_PairGrowth_paper : FnScope N_PairGrowth_paper ["self"] (defScope s_PairGrowth_paper) := ⟨rfl, rfl, rfl, by decide +kernel, rfl, by decide +kernel, by decide +kernel⟩
abbrev s_moats : Stmt := topS 24
abbrev N_moats : List Str := ["net", "pairs"]
theorem sc_moats : FnScope N_moats ["net", "pairs"] (defScope s_moats) := ⟨rfl, rfl, rfl, by decide +kernel, rfl, by decide +kernel, by decide +kernel⟩
abbrev s_law : Stmt := topS 41
abbrev N_law : List Str := ["_law_script", "_law_pool_here", "_law_drawn", "_law_pairs_here", "_law_net_here", "_law_many", "_law_greater", "_law_times_here", "_law_paper", "_law_shift", "_law_turned", "_law_time", "_law_way_here", "_law_part", "_law_width"]
theorem sc_law : FnScope N_law ["_law_script"] (defScope s_law) := ⟨rfl, rfl, rfl, by decide +kernel, rfl, by decide +kernel, by decide +kernel⟩
structure Txt (K : PySem.W.Frag) (mg : Str → Option Value) : Prop where
  z_abs : mg "abs" = none
  z_any : mg "any" = none
  z_bool : mg "bool" = none
  z_enumerate : mg "enumerate" = none
  z_int : mg "int" = none
  z_isinstance : mg "isinstance" = none
  z_len : mg "len" = none
  z_list : mg "list" = none
  z_min : mg "min" = none
  z_range : mg "range" = none
  z_reversed : mg "reversed" = none
  z_sorted : mg "sorted" = none
  z_str : mg "str" = none
  z_tuple : mg "tuple" = none
  g_gcd : mg "gcd" = some (.builtin "math.gcd")
  c_ZERO : GTup K mg "ZERO" [0, 1]
  a_PairGrowth_filled : FldI K "PairGrowth" "filled"
  a_PairGrowth_net : FldI K "PairGrowth" "net"
  a_PairGrowth_pairs : FldI K "PairGrowth" "pairs"
  a_PairGrowth_parts : FldI K "PairGrowth" "parts"
  a_PairGrowth_rows : FldI K "PairGrowth" "rows"
  a_PairGrowth_taken : FldI K "PairGrowth" "taken"
  a_PairGrowth_time : FldI K "PairGrowth" "time"
  a_PairGrowth_ways : FldI K "PairGrowth" "ways"
  a_PairGrowth_widths : FldI K "PairGrowth" "widths"
section
variable {P : Program} {w : World} {K : PySem.W.Frag} {mg : Str → Option Value} {base : Heap}
theorem ok_law_pool {f : Addr} {fd : FuncData} (F : Fun K "_law_pool" "_law_pool" s_law_pool f fd) (T : Txt K mg)  : FnOk P w K mg base CX0 1 f fd ["_law_script"] (spOf K 1 f_law_pool) :=
  fun_ok0 (N := N_law_pool) (b := b_law_pool) (k := 0) F sc_law_pool fun X W cdv A outer s H E hr hX => by
    subst hX
    exact (S_one (S_ret (E_lstA (A_cons (E_list false T.z_list (A_cons (E_var 0) A_nil)) (A_cons E_int (A_cons E_int (A_cons E_int (A_cons E_int A_nil))))))))
theorem ok_law_draw {f : Addr} {fd : FuncData} (F : Fun K "_law_draw" "_law_draw" s_law_draw f fd) (T : Txt K mg)  : FnOk P w K mg base CX0 1 f fd ["_law_pool_here", "_law_many"] (spOf K 2 f_law_draw) :=
  fun_ok0 (N := N_law_draw) (b := b_law_draw) (k := 0) F sc_law_draw fun X W cdv A outer s H E hr hX => by
    subst hX
    exact (S_cons (S_if (T_cmp op_gt opS_intB (E_ix (E_var 0) E_int) E_int (nomark _)) (S_cons (S_set 2 sc_law_draw.nd (E_mod (E_intc T.z_int (A_cons (E_ix (E_var 0) E_int) A_nil)) (E_var 1)))
      (S_cons (S_sub (E_div (E_ix (E_var 0) E_int) (E_var 1)) (E_var 0) E_int)
      (S_one (S_ret (E_var 2))))) S_nil)
      (S_cons (S_if (T_and (T_cmp (op_eqA ⟨rfl, hr, sc_law_draw.nd⟩) opS_eq (E_mod (E_intc T.z_int (A_cons (E_ix (E_var 0) E_int) A_nil)) E_int) E_int (nomark _)) (T_and1 (T_cmp op_lt opS_intB (E_ix (E_var 0) E_int) (E_len T.z_len (A_cons (E_ix (E_var 0) E_int) A_nil)) (nomark _)))).pt (S_cons (S_set 3 sc_law_draw.nd (E_abs T.z_abs (A_cons (E_ix (E_ix (E_var 0) E_int) (E_ix (E_var 0) E_int)) A_nil)))
      (S_cons (S_sub (E_add (E_ix (E_var 0) E_int) E_int) (E_var 0) E_int)
      (S_cons (S_if (T_cmp op_ge opS_intB (E_var 3) (E_pow E_int E_int) (nomark _)) (S_cons (S_sub (E_div (E_var 3) (E_var 1)) (E_var 0) E_int)
      (S_one (S_ret (E_mod (E_intc T.z_int (A_cons (E_var 3) A_nil)) (E_var 1))))) S_nil)
      (S_one (S_sub (E_var 3) (E_var 0) E_int))))) S_nil)
      (S_cons (S_sub (E_add (E_ix (E_var 0) E_int) E_int) (E_var 0) E_int)
      (S_cons (S_set 4 sc_law_draw.nd (E_mod (E_intc T.z_int (A_cons (E_add (E_add (E_mul (E_ix (E_var 0) E_int) E_int) (E_mul (E_ix (E_var 0) E_int) E_int)) E_int) A_nil)) E_int))
      (S_cons (S_set 4 sc_law_draw.nd (E_mod (E_intc T.z_int (A_cons (E_add (E_mul (E_var 4) (E_var 4)) (E_mul (E_ix (E_var 0) E_int) E_int)) A_nil)) E_int))
      (S_one (S_ret (E_mod (E_intc T.z_int (A_cons (E_var 4) A_nil)) (E_var 1)))))))))
theorem ok_law_pick {f : Addr} {fd : FuncData} (F : Fun K "_law_pick" "_law_pick" s_law_pick f fd) (T : Txt K mg) (c_law_draw : Cal P w K mg base CX0 1 "_law_draw" 2 f_law_draw) : FnOk P w K mg base CX0 2 f fd ["_law_pool_here", "_law_rows"] (spOf K 2 f_law_pick) :=
  fun_ok0 (N := N_law_pick) (b := b_law_pick) (k := 1) F sc_law_pick fun X W cdv A outer s H E hr hX => by
    subst hX
    exact (S_one (S_ret (E_ix (E_var 1) (E_call c_law_draw hr (fun σ => pass0S σ) (A_cons (E_var 0) (A_cons (E_len T.z_len (A_cons (E_var 1) A_nil)) A_nil))))))
theorem ok_law_cost {f : Addr} {fd : FuncData} (F : Fun K "_law_cost" "_law_cost" s_law_cost f fd) (T : Txt K mg) (c_law_draw : Cal P w K mg base CX0 1 "_law_draw" 2 f_law_draw) : FnOk P w K mg base CX0 2 f fd ["_law_pool_here"] (spOf K 1 f_law_cost) :=
  fun_ok0 (N := N_law_cost) (b := b_law_cost) (k := 1) F sc_law_cost fun X W cdv A outer s H E hr hX => by
    subst hX
    exact (S_cons (S_set 1 sc_law_cost.nd (E_call c_law_draw hr (fun σ => pass0S σ) (A_cons (E_var 0) (A_cons E_int A_nil))))
      (S_cons (S_if (T_cmp (op_eqA ⟨rfl, hr, sc_law_cost.nd⟩) opS_eq (E_var 1) E_int (nomark _)) (S_one (S_ret (E_add E_int (E_call c_law_draw hr (fun σ => pass0S σ) (A_cons (E_var 0) (A_cons E_int A_nil)))))) S_nil)
      (S_cons (S_if (T_cmp op_lt opS_intB (E_var 1) E_int (nomark _)) (S_one (S_ret (E_ix (E_lst (A_cons E_int (A_cons E_int (A_cons E_int (A_cons E_int (A_cons E_int A_nil)))))) (E_call c_law_draw hr (fun σ => pass0S σ) (A_cons (E_var 0) (A_cons E_int A_nil)))))) S_nil)
      (S_one (S_ret (E_add E_int (E_call c_law_draw hr (fun σ => pass0S σ) (A_cons (E_var 0) (A_cons E_int A_nil)))))))))
theorem ok_law_way {f : Addr} {fd : FuncData} (F : Fun K "_law_way" "_law_way" s_law_way f fd) (T : Txt K mg) (c_law_draw : Cal P w K mg base CX0 1 "_law_draw" 2 f_law_draw) (c_law_cost : Cal P w K mg base CX0 2 "_law_cost" 1 f_law_cost) : FnOk P w K mg base CX0 3 f fd ["_law_pool_here", "_law_places"] (spOf K 2 f_law_way) :=
  fun_ok0 (N := N_law_way) (b := b_law_way) (k := 2) F sc_law_way fun X W cdv A outer s H E hr hX => by
    subst hX
    exact (S_cons (S_set 2 sc_law_way.nd (E_call c_law_draw hr (fun σ => pass0S σ) (A_cons (E_var 0) (A_cons (E_sub (E_var 1) E_int) A_nil))))
      (S_one (S_ret (E_tup (A_cons (E_var 2) (A_cons (E_add (E_add (E_var 2) E_int) (E_call c_law_draw hr (fun σ => pass0S σ) (A_cons (E_var 0) (A_cons (E_sub (E_sub (E_var 1) E_int) (E_var 2)) A_nil)))) (A_cons (E_call c_law_cost hr (fun σ => pass0S σ) (A_cons (E_var 0) A_nil)) A_nil)))))))
theorem ok_law_net {f : Addr} {fd : FuncData} (F : Fun K "_law_net" "_law_net" s_law_net f fd) (T : Txt K mg) (c_law_draw : Cal P w K mg base CX0 1 "_law_draw" 2 f_law_draw) (c_law_cost : Cal P w K mg base CX0 2 "_law_cost" 1 f_law_cost) (c_law_way : Cal P w K mg base CX0 3 "_law_way" 2 f_law_way) : FnOk P w K mg base CX0 4 f fd ["_law_pool_here", "_law_most", "_law_ways"] (spOf K 3 f_law_net) :=
  fun_ok0 (N := N_law_net) (b := b_law_net) (k := 3) F sc_law_net fun X W cdv A outer s H E hr hX => by
    subst hX
    exact (S_cons (S_set 3 sc_law_net.nd (E_add E_int (E_call c_law_draw hr (fun σ => pass0S σ) (A_cons (E_var 0) (A_cons (E_var 1) A_nil)))))
      (S_cons (S_set 4 sc_law_net.nd (E_lstA A_nil))
      (S_cons (S_if (T_and (T_cmp op_gt opS_intB (E_var 3) E_int (nomark _)) (T_and1 (T_cmp op_gt opS_intB (E_call c_law_draw hr (fun σ => pass0S σ) (A_cons (E_var 0) (A_cons E_int A_nil))) E_int (nomark _)))).pt (S_one (S_for PassesOwn.never rfl (I_rng2 T.z_range (A_cons E_int (A_cons (E_var 3) A_nil))) (G_nm 5 sc_law_net.nd) (S_one (S_expr (E_append (E_var 4) (A_cons (E_tup (A_cons (E_call c_law_draw hr (fun σ => pass0S σ) (A_cons (E_var 0) (A_cons (E_var 5) A_nil))) (A_cons (E_var 5) (A_cons (E_call c_law_cost hr (fun σ => pass0S σ) (A_cons (E_var 0) A_nil)) A_nil)))) A_nil)))))) S_nil)
      (S_cons (S_if (T_cmp op_gt opS_intB (E_var 3) E_int (nomark _)) (S_one (S_for PassesOwn.never rfl (I_rng1 T.z_range (A_cons (E_call c_law_draw hr (fun σ => pass0S σ) (A_cons (E_var 0) (A_cons (E_sub (E_add (E_var 2) E_int) (E_min rfl T.z_min (A_cons (E_var 2) (A_cons (E_len T.z_len (A_cons (E_var 4) A_nil)) A_nil)))) A_nil))) A_nil)) (G_nm 6 sc_law_net.nd) (S_one (S_expr (E_insert (E_var 4) (A_cons (E_call c_law_draw hr (fun σ => pass0S σ) (A_cons (E_var 0) (A_cons (E_add (E_len T.z_len (A_cons (E_var 4) A_nil)) E_int) A_nil))) (A_cons (E_call c_law_way hr (fun σ => pass0S σ) (A_cons (E_var 0) (A_cons (E_var 3) A_nil))) A_nil))))))) S_nil)
      (S_one (S_ret (E_tup (A_cons (E_var 3) (A_cons (E_tuple T.z_tuple (A_cons (E_slice false (E_var 4) P_none (P_some (E_var 2))) A_nil)) A_nil)))))))))
theorem ok_law_pairs {f : Addr} {fd : FuncData} (F : Fun K "_law_pairs" "_law_pairs" s_law_pairs f fd) (T : Txt K mg) (c_law_draw : Cal P w K mg base CX0 1 "_law_draw" 2 f_law_draw) : FnOk P w K mg base CX0 2 f fd ["_law_pool_here", "_law_places", "_law_most"] (spOf K 3 f_law_pairs) :=
  fun_ok0 (N := N_law_pairs) (b := b_law_pairs) (k := 1) F sc_law_pairs fun X W cdv A outer s H E hr hX => by
    subst hX
    exact (S_cons (S_set 3 sc_law_pairs.nd (E_lstA A_nil))
      (S_cons (S_for PassesOwn.never rfl (I_rng1 T.z_range (A_cons (E_call c_law_draw hr (fun σ => pass0S σ) (A_cons (E_var 0) (A_cons (E_add (E_var 2) E_int) A_nil))) A_nil)) (G_nm 4 sc_law_pairs.nd) (S_one (S_if (T_cmp op_gt opS_intB (E_var 1) E_int (nomark _)) (S_cons (S_set 5 sc_law_pairs.nd (E_call c_law_draw hr (fun σ => pass0S σ) (A_cons (E_var 0) (A_cons (E_sub (E_var 1) E_int) A_nil))))
      (S_cons (S_set 6 sc_law_pairs.nd (E_tup (A_cons (E_var 5) (A_cons (E_add (E_add (E_var 5) E_int) (E_call c_law_draw hr (fun σ => pass0S σ) (A_cons (E_var 0) (A_cons (E_sub (E_sub (E_var 1) E_int) (E_var 5)) A_nil)))) A_nil))))
      (S_one (S_if (T_cmp (op_notInA ⟨rfl, hr, sc_law_pairs.nd⟩) opS_notIn (E_var 6) (E_var 3) rfl) (S_one (S_expr (E_append (E_var 3) (A_cons (E_var 6) A_nil)))) S_nil)))) S_nil)))
      (S_one (S_ret (E_tuple T.z_tuple (A_cons (E_var 3) A_nil))))))
theorem ok_law_group {f : Addr} {fd : FuncData} (F : Fun K "_law_group" "_law_group" s_law_group f fd) (T : Txt K mg)  : FnOk P w K mg base CX0 1 f fd ["_law_net_here", "_law_choice", "_law_place"] (spOf K 3 f_law_group) :=
  fun_ok0 (N := N_law_group) (b := b_law_group) (k := 0) F sc_law_group fun X W cdv A outer s H E hr hX => by
    subst hX
    exact (S_cons (S_set 3 sc_law_group.nd (E_lstA (A_cons (E_var 2) A_nil)))
      (S_cons (S_for PassesOwn.never rfl (I_rng1 T.z_range (A_cons (E_ix (E_var 0) E_int) A_nil)) (G_nm 4 sc_law_group.nd) (S_one (S_for PassesOwn.never rfl (I_seq (E_var 1)) (G_nm 5 sc_law_group.nd) (S_cons (S_asg (E_ix (E_ix (E_var 0) E_int) (E_var 5)) (G_tp rfl (Gs_cons (G_nm 6 sc_law_group.nd) (Gs_cons (G_nm 7 sc_law_group.nd) (Gs_cons (G_nm 8 sc_law_group.nd) Gs_nil)))))
      (S_cons (S_if (T_and (T_cmp (op_inA ⟨rfl, hr, sc_law_group.nd⟩) opS_in (E_var 6) (E_var 3) rfl) (T_and1 (T_cmp (op_notInA ⟨rfl, hr, sc_law_group.nd⟩) opS_notIn (E_var 7) (E_var 3) rfl))).pt (S_one (S_expr (E_append (E_var 3) (A_cons (E_var 7) A_nil)))) S_nil)
      (S_one (S_if (T_and (T_cmp (op_inA ⟨rfl, hr, sc_law_group.nd⟩) opS_in (E_var 7) (E_var 3) rfl) (T_and1 (T_cmp (op_notInA ⟨rfl, hr, sc_law_group.nd⟩) opS_notIn (E_var 6) (E_var 3) rfl))).pt (S_one (S_expr (E_append (E_var 3) (A_cons (E_var 6) A_nil)))) S_nil)))))))
      (S_one (S_ret (E_tuple T.z_tuple (A_cons (E_sorted false T.z_sorted (A_cons (E_var 3) A_nil)) A_nil))))))
theorem ok_law_joins {f : Addr} {fd : FuncData} (F : Fun K "_law_joins" "_law_joins" s_law_joins f fd) (T : Txt K mg) (c_law_group : Cal P w K mg base CX0 1 "_law_group" 3 f_law_group) : FnOk P w K mg base CX0 2 f fd ["_law_net_here", "_law_pairs_here", "_law_choice"] (spOf K 3 f_law_joins) :=
  fun_ok0 (N := N_law_joins) (b := b_law_joins) (k := 1) F sc_law_joins fun X W cdv A outer s H E hr hX => by
    subst hX
    exact (S_one (S_ret (E_cmp (op_eqA ⟨rfl, hr, sc_law_joins.nd⟩) opS_eq (E_len T.z_len (A_cons (E_lc rfl sc_law_joins.nd (I_seq (E_var 1)) (blkOk_by (N := N_law_joins) (sc := (defScope s_law_joins)) (own := [(("_law_pair" : Str), 3)]) (by decide +kernel)) (fun _ _ _ _ _ => (G_nm 3 sc_law_joins.nd)) (fun _ _ _ _ _ => (C_one (T_cmp (op_notInA ⟨rfl, hr, sc_law_joins.nd⟩) opS_notIn (E_ix (E_var 3) E_int) (E_call c_law_group hr (fun σ => pass0S σ) (A_cons (E_var 0) (A_cons (E_var 2) (A_cons (E_ix (E_var 3) E_int) A_nil)))) rfl))) (fun _ _ _ _ _ => (E_var 3))) A_nil)) E_int (nomark _))))
theorem ok_law_task {f : Addr} {fd : FuncData} (F : Fun K "_law_task" "_law_task" s_law_task f fd) (T : Txt K mg) (c_law_net : Cal P w K mg base CX0 4 "_law_net" 3 f_law_net) (c_law_pairs : Cal P w K mg base CX0 2 "_law_pairs" 3 f_law_pairs) (c_law_joins : Cal P w K mg base CX0 2 "_law_joins" 3 f_law_joins) : FnOk P w K mg base CX0 5 f fd ["_law_pool_here", "_law_most", "_law_ways"] (spOf K 3 f_law_task) :=
  fun_ok0 (N := N_law_task) (b := b_law_task) (k := 4) F sc_law_task fun X W cdv A outer s H E hr hX => by
    subst hX
    exact (S_cons (S_set 3 sc_law_task.nd (E_call c_law_net hr (fun σ => pass0S σ) (A_cons (E_var 0) (A_cons (E_var 1) (A_cons (E_var 2) A_nil)))))
      (S_cons (S_set 4 sc_law_task.nd (E_call c_law_pairs hr (fun σ => pass0S σ) (A_cons (E_var 0) (A_cons (E_ix (E_var 3) E_int) (A_cons E_int A_nil)))))
      (S_cons (S_set 5 sc_law_task.nd (E_lc rfl sc_law_task.nd (I_rng1 T.z_range (A_cons (E_len T.z_len (A_cons (E_ix (E_var 3) E_int) A_nil)) A_nil)) (blkOk_by (N := N_law_task) (sc := (defScope s_law_task)) (own := [(("_law_k" : Str), 6)]) (by decide +kernel)) (fun _ _ _ _ _ => (G_nm 6 sc_law_task.nd)) (fun _ _ _ _ _ => C_nil) (fun _ _ _ _ _ => (E_var 6))))
      (S_one (S_ret (E_tup (A_cons (E_var 3) (A_cons (E_tuple T.z_tuple (A_cons (E_lc rfl sc_law_task.nd (I_seq (E_var 4)) (blkOk_by (N := N_law_task) (sc := (defScope s_law_task)) (own := [(("_law_pair" : Str), 7)]) (by decide +kernel)) (fun _ _ _ _ _ => (G_nm 7 sc_law_task.nd)) (fun _ _ _ _ _ => (C_one (T_val (E_call c_law_joins hr (fun σ => pass0S σ) (A_cons (E_var 3) (A_cons (E_tup (A_cons (E_var 7) A_nil)) (A_cons (E_var 5) A_nil))))))) (fun _ _ _ _ _ => (E_var 7))) A_nil)) A_nil))))))))
theorem ok_law_any_task {f : Addr} {fd : FuncData} (F : Fun K "_law_any_task" "_law_any_task" s_law_any_task f fd) (T : Txt K mg) (c_law_pick : Cal P w K mg base CX0 2 "_law_pick" 2 f_law_pick) (c_law_task : Cal P w K mg base CX0 5 "_law_task" 3 f_law_task) : FnOk P w K mg base CX0 6 f fd ["_law_pool_here"] (spOf K 1 f_law_any_task) :=
  fun_ok0 (N := N_law_any_task) (b := b_law_any_task) (k := 5) F sc_law_any_task fun X W cdv A outer s H E hr hX => by
    subst hX
    exact (S_one (S_ret (E_call c_law_task hr (fun σ => pass0S σ) (A_cons (E_var 0) (A_cons (E_call c_law_pick hr (fun σ => pass0S σ) (A_cons (E_var 0) (A_cons (E_lst (A_cons E_int (A_cons E_int (A_cons E_int A_nil)))) A_nil))) (A_cons (E_call c_law_pick hr (fun σ => pass0S σ) (A_cons (E_var 0) (A_cons (E_lst (A_cons E_int (A_cons E_int (A_cons E_int A_nil)))) A_nil))) A_nil))))))
theorem ok_all_ways {f : Addr} {fd : FuncData} (F : Fun K "all_ways" "all_ways" s_all_ways f fd) (T : Txt K mg)  : FnOk P w K mg base CX0 1 f fd ["net"] (spOf K 1 f_all_ways) :=
  fun_ok0 (N := N_all_ways) (b := b_all_ways) (k := 0) F sc_all_ways fun X W cdv A outer s H E hr hX => by
    subst hX
    exact (S_one (S_ret (E_tuple T.z_tuple (A_cons (E_lr1 false rfl T.z_list T.z_range (E_len T.z_len (A_cons (E_ix (E_var 0) E_int) A_nil))) A_nil))))
theorem ok_groups {f : Addr} {fd : FuncData} (F : Fun K "groups" "groups" s_groups f fd) (T : Txt K mg)  : FnOk P w K mg base CX0 1 f fd ["net", "choice"] (spOf K 2 f_groups) :=
  fun_ok0 (N := N_groups) (b := b_groups) (k := 0) F sc_groups fun X W cdv A outer s H E hr hX => by
    subst hX
    exact (S_cons (S_asg (E_var 0) (G_tp rfl (Gs_cons (G_nm 2 sc_groups.nd) (Gs_cons (G_nm 3 sc_groups.nd) Gs_nil))))
      (S_cons (S_set 4 sc_groups.nd (E_lr1 false rfl T.z_list T.z_range (E_var 2)))
      (S_cons (S_for PassesOwn.never rfl (I_seq (E_var 1)) (G_nm 5 sc_groups.nd) (S_cons (S_asg (E_ix (E_var 3) (E_var 5)) (G_tp rfl (Gs_cons (G_nm 6 sc_groups.nd) (Gs_cons (G_nm 7 sc_groups.nd) (Gs_cons (G_nm 8 sc_groups.nd) Gs_nil)))))
      (S_cons (S_asg (E_sorted false T.z_sorted (A_cons (E_lst (A_cons (E_ix (E_var 4) (E_var 6)) (A_cons (E_ix (E_var 4) (E_var 7)) A_nil))) A_nil)) (G_ls rfl (Gs_cons (G_nm 9 sc_groups.nd) (Gs_cons (G_nm 10 sc_groups.nd) Gs_nil))))
      (S_one (S_set 4 sc_groups.nd (E_lc rfl sc_groups.nd (I_seq (E_var 4)) (blkOk_by (N := N_groups) (sc := (defScope s_groups)) (own := [(("one" : Str), 13)]) (by decide +kernel)) (fun _ _ _ _ _ => (G_nm 13 sc_groups.nd)) (fun _ _ _ _ _ => C_nil) (fun _ _ _ _ _ => (E_ifx (T_cmp (op_eqA ⟨rfl, hr, sc_groups.nd⟩) opS_eq (E_var 13) (E_var 10) (nomark _)) (E_var 9) (E_var 13)))))))))
      (S_cons (S_set 11 sc_groups.nd (E_lstA A_nil))
      (S_cons (S_for PassesOwn.never rfl (I_rng1 T.z_range (A_cons (E_var 2) A_nil)) (G_nm 12 sc_groups.nd) (S_one (S_if (T_cmp (op_eqA ⟨rfl, hr, sc_groups.nd⟩) opS_eq (E_ix (E_var 4) (E_var 12)) (E_var 12) (nomark _)) (S_one (S_expr (E_append (E_var 11) (A_cons (E_tuple T.z_tuple (A_cons (E_lc rfl sc_groups.nd (I_rng1 T.z_range (A_cons (E_var 2) A_nil)) (blkOk_by (N := N_groups) (sc := (defScope s_groups)) (own := [(("place" : Str), 14)]) (by decide +kernel)) (fun _ _ _ _ _ => (G_nm 14 sc_groups.nd)) (fun _ _ _ _ _ => (C_one (T_cmp (op_eqA ⟨rfl, hr, sc_groups.nd⟩) opS_eq (E_ix (E_var 4) (E_var 14)) (E_var 12) (nomark _)))) (fun _ _ _ _ _ => (E_var 14))) A_nil)) A_nil)))) S_nil)))
      (S_one (S_ret (E_tuple T.z_tuple (A_cons (E_var 11) A_nil)))))))))
theorem ok_group_of {f : Addr} {fd : FuncData} (F : Fun K "group_of" "group_of" s_group_of f fd) (T : Txt K mg)  : FnOk P w K mg base CX0 1 f fd ["parts", "place"] (spOf K 2 f_group_of) :=
  fun_ok0 (N := N_group_of) (b := b_group_of) (k := 0) F sc_group_of fun X W cdv A outer s H E hr hX => by
    subst hX
    exact (S_cons (S_for PassesOwn.never rfl (I_seq (E_var 0)) (G_nm 2 sc_group_of.nd) (S_one (S_if (T_cmp (op_inA ⟨rfl, hr, sc_group_of.nd⟩) opS_in (E_var 1) (E_var 2) rfl) (S_one (S_ret (E_var 2))) S_nil)))
      (S_one (S_ret (E_tup A_nil))))
theorem ok_first_apart {f : Addr} {fd : FuncData} (F : Fun K "first_apart" "first_apart" s_first_apart f fd) (T : Txt K mg) (c_groups : Cal P w K mg base CX0 1 "groups" 2 f_groups) (c_group_of : Cal P w K mg base CX0 1 "group_of" 2 f_group_of) : FnOk P w K mg base CX0 2 f fd ["net", "pairs", "choice"] (spOf K 3 f_first_apart) :=
  fun_ok0 (N := N_first_apart) (b := b_first_apart) (k := 1) F sc_first_apart fun X W cdv A outer s H E hr hX => by
    subst hX
    exact (S_cons (S_set 3 sc_first_apart.nd (E_call c_groups hr (fun σ => pass0S σ) (A_cons (E_var 0) (A_cons (E_var 2) A_nil))))
      (S_cons (S_for PassesOwn.never rfl (I_enum T.z_enumerate (A_cons (E_var 1) A_nil)) (G_tp rfl (Gs_cons (G_nm 4 sc_first_apart.nd) (Gs_cons (G_tp rfl (Gs_cons (G_nm 5 sc_first_apart.nd) (Gs_cons (G_nm 6 sc_first_apart.nd) Gs_nil))) Gs_nil))) (S_one (S_if (T_cmp (op_notInA ⟨rfl, hr, sc_first_apart.nd⟩) opS_notIn (E_var 6) (E_call c_group_of hr (fun σ => pass0S σ) (A_cons (E_var 3) (A_cons (E_var 5) A_nil))) rfl) (S_one (S_ret (E_var 4))) S_nil)))
      (S_one (S_ret E_non))))
theorem ok_PairGrowth_is_open {f : Addr} {fd : FuncData} (F : Fun K "is_open" "PairGrowth.is_open" s_PairGrowth_is_open f fd) (T : Txt K mg)  : FnOk P w K mg base CX0 1 f fd ["self", "part"] (spOf K 2 f_PairGrowth_is_open) :=
  fun_ok0 (N := N_PairGrowth_is_open) (b := b_PairGrowth_is_open) (k := 0) F sc_PairGrowth_is_open fun X W cdv A outer s H E hr hX => by
    subst hX
    exact (S_one (S_ret (E_any rfl T.z_any (A_cons (E_lc rfl sc_PairGrowth_is_open.nd (I_seq (E_fldI T.a_PairGrowth_pairs (E_var 0))) (blkOk_by (N := N_PairGrowth_is_open) (sc := (defScope s_PairGrowth_is_open)) (own := [(("a" : Str), 2), (("b" : Str), 3)]) (by decide +kernel)) (fun _ _ _ _ _ => (G_tp rfl (Gs_cons (G_nm 2 sc_PairGrowth_is_open.nd) (Gs_cons (G_nm 3 sc_PairGrowth_is_open.nd) Gs_nil)))) (fun _ _ _ _ _ => C_nil) (fun _ _ _ _ _ => (E_cmp (op_neA ⟨rfl, hr, sc_PairGrowth_is_open.nd⟩) opS_ne (E_cmp (op_inA ⟨rfl, hr, sc_PairGrowth_is_open.nd⟩) opS_in (E_var 2) (E_var 1) rfl) (E_cmp (op_inA ⟨rfl, hr, sc_PairGrowth_is_open.nd⟩) opS_in (E_var 3) (E_var 1) rfl) (nomark _)))) A_nil))))
theorem ok_PairGrowth_still_open {f : Addr} {fd : FuncData} (F : Fun K "still_open" "Growth.still_open" s_PairGrowth_still_open f fd) (T : Txt K mg) (c_PairGrowth_is_open : CalM P w K mg base CX0 1 "PairGrowth" "is_open" 2 f_PairGrowth_is_open) : FnOk P w K mg base CX0 2 f fd ["self"] (spOf K 1 f_PairGrowth_still_open) :=
  fun_ok0 (N := N_PairGrowth_still_open) (b := b_PairGrowth_still_open) (k := 1) F sc_PairGrowth_still_open fun X W cdv A outer s H E hr hX => by
    subst hX
    exact (S_one (S_ret (E_tuple T.z_tuple (A_cons (E_lc rfl sc_PairGrowth_still_open.nd (I_seq (E_fldI T.a_PairGrowth_parts (E_var 0))) (blkOk_by (N := N_PairGrowth_still_open) (sc := (defScope s_PairGrowth_still_open)) (own := [(("part" : Str), 1)]) (by decide +kernel)) (fun _ _ _ _ _ => (G_nm 1 sc_PairGrowth_still_open.nd)) (fun _ _ _ _ _ => (C_one (T_val (E_meth c_PairGrowth_is_open hr (fun σ => pass0S σ) (E_var 0) (A_cons (E_var 1) A_nil))))) (fun _ _ _ _ _ => (E_var 1))) A_nil))))
theorem ok_PairGrowth_waits {f : Addr} {fd : FuncData} (F : Fun K "waits" "Growth.waits" s_PairGrowth_waits f fd) (T : Txt K mg)  : FnOk P w K mg base CX0 1 f fd ["self", "still"] (spOf K 2 f_PairGrowth_waits) :=
  fun_ok0 (N := N_PairGrowth_waits) (b := b_PairGrowth_waits) (k := 0) F sc_PairGrowth_waits fun X W cdv A outer s H E hr hX => by
    subst hX
    exact (S_one (S_ret (E_lstA A_nil)))
theorem ok_PairGrowth_between {f : Addr} {fd : FuncData} (F : Fun K "between" "Growth.between" s_PairGrowth_between f fd) (T : Txt K mg)  : FnOk P w K mg base CX0 1 f fd ["self", "index"] (spOf K 2 f_PairGrowth_between) :=
  fun_ok0 (N := N_PairGrowth_between) (b := b_PairGrowth_between) (k := 0) F sc_PairGrowth_between fun X W cdv A outer s H E hr hX => by
    subst hX
    exact (S_cons (S_asg (E_ix (E_fldI T.a_PairGrowth_ways (E_var 0)) (E_var 1)) (G_tp rfl (Gs_cons (G_nm 2 sc_PairGrowth_between.nd) (Gs_cons (G_nm 3 sc_PairGrowth_between.nd) (Gs_cons (G_nm 4 sc_PairGrowth_between.nd) Gs_nil)))))
      (S_cons (S_setLc 5 rfl sc_PairGrowth_between.nd rfl (sw_true rfl rfl rfl rfl) (I_seq (E_fldI T.a_PairGrowth_parts (E_var 0))) (blkOk_by (N := N_PairGrowth_between) (sc := (defScope s_PairGrowth_between)) (own := [(("part" : Str), 6)]) (by decide +kernel)) (fun _ _ _ _ _ => (G_nm 6 sc_PairGrowth_between.nd)) (fun _ _ _ _ _ => (C_one (T_or (T_cmp (op_inA ⟨rfl, hr, sc_PairGrowth_between.nd⟩) opS_in (E_var 2) (E_var 6) rfl) (T_or1 (T_cmp (op_inA ⟨rfl, hr, sc_PairGrowth_between.nd⟩) opS_in (E_var 3) (E_var 6) rfl))).pt)) (fun _ _ _ _ _ => (E_var 6)))
      (S_one (S_ret (E_ifx (T_cmp (op_eqA ⟨rfl, hr, sc_PairGrowth_between.nd⟩) opS_eq (E_len T.z_len (A_cons (E_var 5) A_nil)) E_int (nomark _)) (E_var 5) E_non)))))
theorem ok_PairGrowth_rates {f : Addr} {fd : FuncData} (F : Fun K "rates" "Growth.rates" s_PairGrowth_rates f fd) (T : Txt K mg) (c_PairGrowth_between : CalM P w K mg base CX0 1 "PairGrowth" "between" 2 f_PairGrowth_between) : FnOk P w K mg base CX0 2 f fd ["self", "still"] (spOf K 2 f_PairGrowth_rates) :=
  fun_okL (N := N_PairGrowth_rates) (b := b_PairGrowth_rates) (k := 1) F sc_PairGrowth_rates fun X W cdv A outer s H E hr hX => by
    subst hX
    exact (S_cons (S_set 2 sc_PairGrowth_rates.nd (E_lstA A_nil))
      (S_cons (S_for PassesOwn.never rfl (I_enum T.z_enumerate (A_cons (E_fldI T.a_PairGrowth_ways (E_var 0)) A_nil)) (G_tp rfl (Gs_cons (G_nm 3 sc_PairGrowth_rates.nd) (Gs_cons (G_nm 4 sc_PairGrowth_rates.nd) Gs_nil))) (S_cons (S_set 5 sc_PairGrowth_rates.nd (E_orT (E_meth c_PairGrowth_between hr (fun σ => pass0S σ) (E_var 0) (A_cons (E_var 3) A_nil)) (E_one (E_lst A_nil))))
      (S_one (S_expr (E_append (E_var 2) (A_cons (E_len T.z_len (A_cons (E_lc rfl sc_PairGrowth_rates.nd (I_seq (E_var 5)) (blkOk_by (N := N_PairGrowth_rates) (sc := (defScope s_PairGrowth_rates)) (own := [(("part" : Str), 6)]) (by decide +kernel)) (fun _ _ _ _ _ => (G_nm 6 sc_PairGrowth_rates.nd)) (fun _ _ _ _ _ => (C_one (T_cmp (op_inA ⟨rfl, hr, sc_PairGrowth_rates.nd⟩) opS_in (E_var 6) (E_var 1) rfl))) (fun _ _ _ _ _ => (E_var 6))) A_nil)) A_nil))))))
      (S_one (S_ret (E_var 2)))))
theorem ok_ratio {f : Addr} {fd : FuncData} (F : FunD K "ratio" "ratio" (defArgs s_ratio) (defBody s_ratio) (defScope s_ratio) [.int 1] [] f fd) (T : Txt K mg)  : FnOk P w K mg base CX0 1 f fd ["top", "bottom"] (spOf K 2 f_ratio) :=
  fun_okD F sc_ratio fun X W cdv A outer s H E hr hX => by
    subst hX
    exact (S_cons (S_if (T_cmp op_lt opS_intB (E_var 1) E_int (nomark _)) (S_one (S_par 0 1 rfl sc_ratio.nd rfl rfl (A_cons (E_neg (E_var 0)) (A_cons (E_neg (E_var 1)) A_nil)) rfl)) S_nil)
      (S_cons (S_set 2 sc_ratio.nd (E_gcd T.g_gcd (A_cons (E_var 0) (A_cons (E_var 1) A_nil))))
      (S_one (S_ret (E_tup (A_cons (E_div (E_var 0) (E_var 2)) (A_cons (E_div (E_var 1) (E_var 2)) A_nil)))))))
theorem ok_minus {f : Addr} {fd : FuncData} (F : Fun K "minus" "minus" s_minus f fd) (T : Txt K mg) (c_ratio : Cal P w K mg base CX0 1 "ratio" 2 f_ratio) : FnOk P w K mg base CX0 2 f fd ["a", "b"] (spOf K 2 f_minus) :=
  fun_ok0 (N := N_minus) (b := b_minus) (k := 1) F sc_minus fun X W cdv A outer s H E hr hX => by
    subst hX
    exact (S_one (S_ret (E_call c_ratio hr (fun σ => pass0S σ) (A_cons (E_sub (E_mul (E_ix (E_var 0) E_int) (E_ix (E_var 1) E_int)) (E_mul (E_ix (E_var 1) E_int) (E_ix (E_var 0) E_int))) (A_cons (E_mul (E_ix (E_var 0) E_int) (E_ix (E_var 1) E_int)) A_nil)))))
theorem ok_over {f : Addr} {fd : FuncData} (F : Fun K "over" "over" s_over f fd) (T : Txt K mg) (c_ratio : Cal P w K mg base CX0 1 "ratio" 2 f_ratio) : FnOk P w K mg base CX0 2 f fd ["a", "b"] (spOf K 2 f_over) :=
  fun_ok0 (N := N_over) (b := b_over) (k := 1) F sc_over fun X W cdv A outer s H E hr hX => by
    subst hX
    exact (S_one (S_ret (E_call c_ratio hr (fun σ => pass0S σ) (A_cons (E_mul (E_ix (E_var 0) E_int) (E_ix (E_var 1) E_int)) (A_cons (E_mul (E_ix (E_var 0) E_int) (E_ix (E_var 1) E_int)) A_nil)))))
theorem ok_less {f : Addr} {fd : FuncData} (F : Fun K "less" "less" s_less f fd) (T : Txt K mg)  : FnOk P w K mg base CX0 1 f fd ["a", "b"] (spOf K 2 f_less) :=
  fun_ok0 (N := N_less) (b := b_less) (k := 0) F sc_less fun X W cdv A outer s H E hr hX => by
    subst hX
    exact (S_one (S_ret (E_cmp op_lt opS_intB (E_mul (E_ix (E_var 0) E_int) (E_ix (E_var 1) E_int)) (E_mul (E_ix (E_var 1) E_int) (E_ix (E_var 0) E_int)) (nomark _))))
theorem ok_PairGrowth_step {f : Addr} {fd : FuncData} (F : Fun K "step" "Growth.step" s_PairGrowth_step f fd) (T : Txt K mg) (c_PairGrowth_waits : CalM P w K mg base CX0 1 "PairGrowth" "waits" 2 f_PairGrowth_waits) (c_PairGrowth_rates : CalM P w K mg base CX0 2 "PairGrowth" "rates" 2 f_PairGrowth_rates) (d_ratio : CalD P w K mg base CX0 1 "ratio" 2 [1] f_ratio) (c_minus : Cal P w K mg base CX0 2 "minus" 2 f_minus) (c_over : Cal P w K mg base CX0 2 "over" 2 f_over) (c_less : Cal P w K mg base CX0 1 "less" 2 f_less) : FnOk P w K mg base CX0 3 f fd ["self", "still"] (spOf K 2 f_PairGrowth_step) :=
  fun_ok0 (N := N_PairGrowth_step) (b := b_PairGrowth_step) (k := 2) F sc_PairGrowth_step fun X W cdv A outer s H E hr hX => by
    subst hX
    exact (S_cons (S_set 2 sc_PairGrowth_step.nd (E_meth c_PairGrowth_waits hr (fun σ => pass0S σ) (E_var 0) (A_cons (E_var 1) A_nil)))
      (S_cons (S_for PassesOwn.never rfl (I_enum T.z_enumerate (A_cons (E_meth c_PairGrowth_rates hr (fun σ => pass0S σ) (E_var 0) (A_cons (E_var 1) A_nil)) A_nil)) (G_tp rfl (Gs_cons (G_nm 3 sc_PairGrowth_step.nd) (Gs_cons (G_nm 4 sc_PairGrowth_step.nd) Gs_nil))) (S_one (S_if (T_cmp op_gt opS_intB (E_var 4) E_int (nomark _)) (S_cons (S_set 5 sc_PairGrowth_step.nd (E_call c_minus hr (fun σ => pass0S σ) (A_cons (E_callD d_ratio hr (fun σ => pass0S σ) (A_cons (E_ix (E_ix (E_fldI T.a_PairGrowth_ways (E_var 0)) (E_var 3)) E_int) A_nil)) (A_cons (E_ix (E_fldI T.a_PairGrowth_filled (E_var 0)) (E_var 3)) A_nil))))
      (S_one (S_expr (E_append (E_var 2) (A_cons (E_call c_over hr (fun σ => pass0S σ) (A_cons (E_var 5) (A_cons (E_callD d_ratio hr (fun σ => pass0S σ) (A_cons (E_var 4) A_nil)) A_nil))) A_nil))))) S_nil)))
      (S_cons (S_set 6 sc_PairGrowth_step.nd (E_ix (E_var 2) E_int))
      (S_cons (S_for PassesOwn.never rfl (I_seq (E_var 2)) (G_nm 7 sc_PairGrowth_step.nd) (S_one (S_if (T_val (E_call c_less hr (fun σ => pass0S σ) (A_cons (E_var 7) (A_cons (E_var 6) A_nil)))) (S_one (S_set 6 sc_PairGrowth_step.nd (E_var 7))) S_nil)))
      (S_one (S_ret (E_var 6)))))))
theorem ok_times {f : Addr} {fd : FuncData} (F : Fun K "times" "times" s_times f fd) (T : Txt K mg) (c_ratio : Cal P w K mg base CX0 1 "ratio" 2 f_ratio) : FnOk P w K mg base CX0 2 f fd ["a", "b"] (spOf K 2 f_times) :=
  fun_ok0 (N := N_times) (b := b_times) (k := 1) F sc_times fun X W cdv A outer s H E hr hX => by
    subst hX
    exact (S_one (S_ret (E_call c_ratio hr (fun σ => pass0S σ) (A_cons (E_mul (E_ix (E_var 0) E_int) (E_ix (E_var 1) E_int)) (A_cons (E_mul (E_ix (E_var 0) E_int) (E_ix (E_var 1) E_int)) A_nil)))))
theorem ok_plus {f : Addr} {fd : FuncData} (F : Fun K "plus" "plus" s_plus f fd) (T : Txt K mg) (c_ratio : Cal P w K mg base CX0 1 "ratio" 2 f_ratio) : FnOk P w K mg base CX0 2 f fd ["a", "b"] (spOf K 2 f_plus) :=
  fun_ok0 (N := N_plus) (b := b_plus) (k := 1) F sc_plus fun X W cdv A outer s H E hr hX => by
    subst hX
    exact (S_one (S_ret (E_call c_ratio hr (fun σ => pass0S σ) (A_cons (E_add (E_mul (E_ix (E_var 0) E_int) (E_ix (E_var 1) E_int)) (E_mul (E_ix (E_var 1) E_int) (E_ix (E_var 0) E_int))) (A_cons (E_mul (E_ix (E_var 0) E_int) (E_ix (E_var 1) E_int)) A_nil)))))
theorem ok_PairGrowth_pass_time {f : Addr} {fd : FuncData} (F : Fun K "pass_time" "Growth.pass_time" s_PairGrowth_pass_time f fd) (T : Txt K mg) (c_PairGrowth_rates : CalM P w K mg base CX0 2 "PairGrowth" "rates" 2 f_PairGrowth_rates) (d_ratio : CalD P w K mg base CX0 1 "ratio" 2 [1] f_ratio) (c_times : Cal P w K mg base CX0 2 "times" 2 f_times) (c_plus : Cal P w K mg base CX0 2 "plus" 2 f_plus) : FnOk P w K mg base CX0 3 f fd ["self", "span", "still"] (spOf K 3 f_PairGrowth_pass_time) :=
  fun_ok0 (N := N_PairGrowth_pass_time) (b := b_PairGrowth_pass_time) (k := 2) F sc_PairGrowth_pass_time fun X W cdv A outer s H E hr hX => by
    subst hX
    exact (S_cons (S_for PassesOwn.never rfl (I_enum T.z_enumerate (A_cons (E_meth c_PairGrowth_rates hr (fun σ => pass0S σ) (E_var 0) (A_cons (E_var 2) A_nil)) A_nil)) (G_tp rfl (Gs_cons (G_nm 3 sc_PairGrowth_pass_time.nd) (Gs_cons (G_nm 4 sc_PairGrowth_pass_time.nd) Gs_nil))) (S_one (S_sub (E_call c_plus hr (fun σ => pass0S σ) (A_cons (E_ix (E_fldI T.a_PairGrowth_filled (E_var 0)) (E_var 3)) (A_cons (E_call c_times hr (fun σ => pass0S σ) (A_cons (E_var 1) (A_cons (E_callD d_ratio hr (fun σ => pass0S σ) (A_cons (E_var 4) A_nil)) A_nil))) A_nil))) (E_fldI T.a_PairGrowth_filled (E_var 0)) (E_var 3))))
      (S_cons (S_for PassesOwn.never rfl (I_seq (E_var 2)) (G_nm 5 sc_PairGrowth_pass_time.nd) (S_one (S_dput ⟨rfl, hr, sc_PairGrowth_pass_time.nd⟩ (E_call c_plus hr (fun σ => pass0S σ) (A_cons (E_dget2 ⟨rfl, hr, sc_PairGrowth_pass_time.nd⟩ (E_fldI T.a_PairGrowth_widths (E_var 0)) (E_var 5) (E_glob T.c_ZERO)) (A_cons (E_var 1) A_nil))) (E_fldI T.a_PairGrowth_widths (E_var 0)) (E_var 5))))
      (S_one (S_fldI T.a_PairGrowth_time (E_call c_plus hr (fun σ => pass0S σ) (A_cons (E_fldI T.a_PairGrowth_time (E_var 0)) (A_cons (E_var 1) A_nil))) (E_var 0)))))
theorem ok_PairGrowth_full_way {f : Addr} {fd : FuncData} (F : Fun K "full_way" "Growth.full_way" s_PairGrowth_full_way f fd) (T : Txt K mg) (d_ratio : CalD P w K mg base CX0 1 "ratio" 2 [1] f_ratio) (c_PairGrowth_between : CalM P w K mg base CX0 1 "PairGrowth" "between" 2 f_PairGrowth_between) : FnOk P w K mg base CX0 2 f fd ["self"] (spOf K 1 f_PairGrowth_full_way) :=
  fun_ok0 (N := N_PairGrowth_full_way) (b := b_PairGrowth_full_way) (k := 1) F sc_PairGrowth_full_way fun X W cdv A outer s H E hr hX => by
    subst hX
    exact (S_cons (S_for PassesOwn.never rfl (I_enum T.z_enumerate (A_cons (E_fldI T.a_PairGrowth_ways (E_var 0)) A_nil)) (G_tp rfl (Gs_cons (G_nm 1 sc_PairGrowth_full_way.nd) (Gs_cons (G_nm 2 sc_PairGrowth_full_way.nd) Gs_nil))) (S_one (S_if (T_and (T_cmp (op_eqA ⟨rfl, hr, sc_PairGrowth_full_way.nd⟩) opS_eq (E_ix (E_fldI T.a_PairGrowth_filled (E_var 0)) (E_var 1)) (E_callD d_ratio hr (fun σ => pass0S σ) (A_cons (E_ix (E_var 2) E_int) A_nil)) (nomark _)) (T_and1 (T_cmp op_notN opS_notN (E_meth c_PairGrowth_between hr (fun σ => pass0S σ) (E_var 0) (A_cons (E_var 1) A_nil)) E_non (nomark _)))).pt (S_one (S_ret (E_var 1))) S_nil)))
      (S_one (S_ret E_non)))
theorem ok_PairGrowth_came {f : Addr} {fd : FuncData} (F : Fun K "came" "Growth.came" s_PairGrowth_came f fd) (T : Txt K mg)  : FnOk P w K mg base CX0 1 f fd ["self", "part"] (spOf K 2 f_PairGrowth_came) :=
  fun_ok0 (N := N_PairGrowth_came) (b := b_PairGrowth_came) (k := 0) F sc_PairGrowth_came fun X W cdv A outer s H E hr hX => by
    subst hX
    exact (S_one S_pass)
theorem ok_PairGrowth_take_full_ways {f : Addr} {fd : FuncData} (F : Fun K "take_full_ways" "Growth.take_full_ways" s_PairGrowth_take_full_ways f fd) (T : Txt K mg) (c_PairGrowth_full_way : CalM P w K mg base CX0 2 "PairGrowth" "full_way" 1 f_PairGrowth_full_way) (c_PairGrowth_between : CalM P w K mg base CX0 1 "PairGrowth" "between" 2 f_PairGrowth_between) (c_PairGrowth_came : CalM P w K mg base CX0 1 "PairGrowth" "came" 2 f_PairGrowth_came) : FnOk P w K mg base CX0 3 f fd ["self"] (spOf K 1 f_PairGrowth_take_full_ways) :=
  fun_ok0 (N := N_PairGrowth_take_full_ways) (b := b_PairGrowth_take_full_ways) (k := 2) F sc_PairGrowth_take_full_ways fun X W cdv A outer s H E hr hX => by
    subst hX
    exact (S_cons (S_set 1 sc_PairGrowth_take_full_ways.nd (E_meth0 c_PairGrowth_full_way hr (fun σ => pass0S σ) (E_var 0)))
      (S_one (S_while bigW PassesOwn.never (T_cmp op_notN opS_notN (E_var 1) E_non (nomark _)) (S_cons (S_asg (E_meth c_PairGrowth_between hr (fun σ => pass0S σ) (E_var 0) (A_cons (E_var 1) A_nil)) (G_ls rfl (Gs_cons (G_nm 2 sc_PairGrowth_take_full_ways.nd) (Gs_cons (G_nm 3 sc_PairGrowth_take_full_ways.nd) Gs_nil))))
      (S_cons (S_set 4 sc_PairGrowth_take_full_ways.nd (E_tuple T.z_tuple (A_cons (E_sorted false T.z_sorted (A_cons (E_add (E_var 2) (E_var 3)) A_nil)) A_nil)))
      (S_cons (S_fldI T.a_PairGrowth_parts (E_tuple T.z_tuple (A_cons (E_sortT T.z_sorted (A_cons (E_add (E_lc rfl sc_PairGrowth_take_full_ways.nd (I_seq (E_fldI T.a_PairGrowth_parts (E_var 0))) (blkOk_by (N := N_PairGrowth_take_full_ways) (sc := (defScope s_PairGrowth_take_full_ways)) (own := [(("part" : Str), 5)]) (by decide +kernel)) (fun _ _ _ _ _ => (G_nm 5 sc_PairGrowth_take_full_ways.nd)) (fun _ _ _ _ _ => (C_one (T_cmp (op_notInA ⟨rfl, hr, sc_PairGrowth_take_full_ways.nd⟩) opS_notIn (E_var 5) (E_tup (A_cons (E_var 2) (A_cons (E_var 3) A_nil))) rfl))) (fun _ _ _ _ _ => (E_var 5))) (E_lst (A_cons (E_var 4) A_nil))) A_nil)) A_nil)) (E_var 0))
      (S_cons (S_expr (E_append (E_fldI T.a_PairGrowth_taken (E_var 0)) (A_cons (E_tup (A_cons (E_fldI T.a_PairGrowth_time (E_var 0)) (A_cons (E_var 1) A_nil))) A_nil)))
      (S_cons (S_expr (E_meth c_PairGrowth_came hr (fun σ => pass0S σ) (E_var 0) (A_cons (E_var 4) A_nil)))
      (S_one (S_set 1 sc_PairGrowth_take_full_ways.nd (E_meth0 c_PairGrowth_full_way hr (fun σ => pass0S σ) (E_var 0))))))))))))
theorem ok_PairGrowth_rested {f : Addr} {fd : FuncData} (F : Fun K "rested" "Growth.rested" s_PairGrowth_rested f fd) (T : Txt K mg)  : FnOk P w K mg base CX0 1 f fd ["self"] (spOf K 1 f_PairGrowth_rested) :=
  fun_ok0 (N := N_PairGrowth_rested) (b := b_PairGrowth_rested) (k := 0) F sc_PairGrowth_rested fun X W cdv A outer s H E hr hX => by
    subst hX
    exact (S_one S_pass)
theorem ok_PairGrowth_grow {f : Addr} {fd : FuncData} (F : Fun K "grow" "Growth.grow" s_PairGrowth_grow f fd) (T : Txt K mg) (c_PairGrowth_still_open : CalM P w K mg base CX0 2 "PairGrowth" "still_open" 1 f_PairGrowth_still_open) (c_PairGrowth_step : CalM P w K mg base CX0 3 "PairGrowth" "step" 2 f_PairGrowth_step) (c_PairGrowth_pass_time : CalM P w K mg base CX0 3 "PairGrowth" "pass_time" 3 f_PairGrowth_pass_time) (c_PairGrowth_take_full_ways : CalM P w K mg base CX0 3 "PairGrowth" "take_full_ways" 1 f_PairGrowth_take_full_ways) (c_PairGrowth_rested : CalM P w K mg base CX0 1 "PairGrowth" "rested" 1 f_PairGrowth_rested) : FnOk P w K mg base CX0 4 f fd ["self"] (spOf K 1 f_PairGrowth_grow) :=
  fun_ok0 (N := N_PairGrowth_grow) (b := b_PairGrowth_grow) (k := 3) F sc_PairGrowth_grow fun X W cdv A outer s H E hr hX => by
    subst hX
    exact (S_cons (S_expr (E_append (E_fldI T.a_PairGrowth_rows (E_var 0)) (A_cons (E_tup (A_cons (E_fldI T.a_PairGrowth_time (E_var 0)) (A_cons (E_fldI T.a_PairGrowth_parts (E_var 0)) (A_cons (E_meth0 c_PairGrowth_still_open hr (fun σ => pass0S σ) (E_var 0)) A_nil)))) A_nil)))
      (S_one (S_while bigW PassesOwn.never (T_val (E_meth0 c_PairGrowth_still_open hr (fun σ => pass0S σ) (E_var 0))) (S_cons (S_set 1 sc_PairGrowth_grow.nd (E_meth0 c_PairGrowth_still_open hr (fun σ => pass0S σ) (E_var 0)))
      (S_cons (S_expr (E_meth c_PairGrowth_pass_time hr (fun σ => pass0S σ) (E_var 0) (A_cons (E_meth c_PairGrowth_step hr (fun σ => pass0S σ) (E_var 0) (A_cons (E_var 1) A_nil)) (A_cons (E_var 1) A_nil))))
      (S_cons (S_set 2 sc_PairGrowth_grow.nd (E_len T.z_len (A_cons (E_fldI T.a_PairGrowth_taken (E_var 0)) A_nil)))
      (S_cons (S_expr (E_meth0 c_PairGrowth_take_full_ways hr (fun σ => pass0S σ) (E_var 0)))
      (S_cons (S_expr (E_meth0 c_PairGrowth_rested hr (fun σ => pass0S σ) (E_var 0)))
      (S_one (S_if (T_cmp op_gt opS_intB (E_len T.z_len (A_cons (E_fldI T.a_PairGrowth_taken (E_var 0)) A_nil)) (E_var 2) (nomark _)) (S_one (S_expr (E_append (E_fldI T.a_PairGrowth_rows (E_var 0)) (A_cons (E_tup (A_cons (E_fldI T.a_PairGrowth_time (E_var 0)) (A_cons (E_fldI T.a_PairGrowth_parts (E_var 0)) (A_cons (E_meth0 c_PairGrowth_still_open hr (fun σ => pass0S σ) (E_var 0)) A_nil)))) A_nil)))) S_nil))))))))))
theorem ok_PairGrowth_Growth_init {f : Addr} {fd : FuncData} (F : Fun K "__init__" "Growth.__init__" s_PairGrowth_Growth_init f fd) (T : Txt K mg) (c_groups : Cal P w K mg base CX0 1 "groups" 2 f_groups) : FnOk P w K mg base CX0 2 f fd ["self", "net"] (spOf K 2 f_PairGrowth_Growth_init) :=
  fun_ok0 (N := N_PairGrowth_Growth_init) (b := b_PairGrowth_Growth_init) (k := 1) F sc_PairGrowth_Growth_init fun X W cdv A outer s H E hr hX => by
    subst hX
    exact (S_cons (S_fldI T.a_PairGrowth_net (E_var 1) (E_var 0))
      (S_cons (S_fldI T.a_PairGrowth_ways (E_ix (E_var 1) E_int) (E_var 0))
      (S_cons (S_fldI T.a_PairGrowth_time (E_glob T.c_ZERO) (E_var 0))
      (S_cons (S_fldI T.a_PairGrowth_parts (E_call c_groups hr (fun σ => pass0S σ) (A_cons (E_var 1) (A_cons (E_tup A_nil) A_nil))) (E_var 0))
      (S_cons (S_fldI T.a_PairGrowth_filled (E_lcA rfl sc_PairGrowth_Growth_init.nd (I_seq (E_fldI T.a_PairGrowth_ways (E_var 0))) (blkOk_by (N := N_PairGrowth_Growth_init) (sc := (defScope s_PairGrowth_Growth_init)) (own := [(("way" : Str), 2)]) (by decide +kernel)) (fun _ _ _ _ _ => (G_nm 2 sc_PairGrowth_Growth_init.nd)) (fun _ _ _ _ _ => C_nil) (fun _ _ _ _ _ => (E_glob T.c_ZERO))) (E_var 0))
      (S_cons (S_fldI T.a_PairGrowth_widths E_dnewT (E_var 0))
      (S_cons (S_fldI T.a_PairGrowth_taken (E_lstA A_nil) (E_var 0))
      (S_one (S_fldI T.a_PairGrowth_rows (E_lstA A_nil) (E_var 0))))))))))
theorem ok_PairGrowth_init {file : Str} {f f2 cda cc Dc : Addr} {fd2 : FuncData} {ps2 : List Str} {oc : Value} {od : Option Addr} {osl : Array (Option Value)} {doc pm ct : Value}
    (lk : K.lookup f = some ⟨oc, od, .func ((supNF "__init__" "PairGrowth.__init__" s_PairGrowth_init cc cda).fd doc pm ct), osl⟩) (hcd : PySem.W.codeIn K (.ref cda) "PairGrowth.__init__" = true) (hc : CI K "PairGrowth" Dc)
    (U : SupF P K Dc f f2 cda cc "PairGrowth.__init__" file (defArgs s_PairGrowth_init) (defScope s_PairGrowth_init)) (G : FnOk P w K mg base CX0 2 f2 fd2 ps2 (spOf K 2 f_PairGrowth_Growth_init)) (bd : Binds K fd2 ps2 []) (hms : mg "super" = none) (T : Txt K mg) (c_all_ways : Cal P w K mg base CX0 1 "all_ways" 1 f_all_ways) (c_first_apart : Cal P w K mg base CX0 2 "first_apart" 3 f_first_apart) (c_PairGrowth_grow : CalM P w K mg base CX0 4 "PairGrowth" "grow" 1 f_PairGrowth_grow) :
    FnOk P w K mg base CX0 5 f ((supNF "__init__" "PairGrowth.__init__" s_PairGrowth_init cc cda).fd doc pm ct) ["self", "net", "pairs"] (spOf K 3 f_PairGrowth_init) :=
  fun_okS lk hcd sc_PairGrowth_init hc U (G.mono (k := 4) (by decide)) bd hms rfl rfl rfl rfl rfl fun X W A outer s H E hr hX => by
    subst hX
    exact ⟨(A_cons (E_var 1) A_nil), (S_cons (S_fldI T.a_PairGrowth_pairs (E_var 2) (E_var 0))
      (S_cons (S_set 4 sc_PairGrowth_init.nd (E_call c_first_apart hr (fun σ => pass0S σ) (A_cons (E_var 1) (A_cons (E_var 2) (A_cons (E_call c_all_ways hr (fun σ => pass0S σ) (A_cons (E_var 1) A_nil)) A_nil)))))
      (S_cons (S_if (T_cmp op_notN opS_notN (E_var 4) E_non (nomark _)) (S_one S_never) S_nil)
      (S_one (S_expr (E_meth0 c_PairGrowth_grow hr (fun σ => pass0S σ) (E_var 0))))))), rfl, rfl, rfl, rfl, rfl⟩
theorem ok_joins {f : Addr} {fd : FuncData} (F : Fun K "joins" "joins" s_joins f fd) (T : Txt K mg) (c_first_apart : Cal P w K mg base CX0 2 "first_apart" 3 f_first_apart) : FnOk P w K mg base CX0 3 f fd ["net", "pairs", "choice"] (spOf K 3 f_joins) :=
  fun_ok0 (N := N_joins) (b := b_joins) (k := 2) F sc_joins fun X W cdv A outer s H E hr hX => by
    subst hX
    exact (S_one (S_ret (E_cmp op_isN opS_isN (E_call c_first_apart hr (fun σ => pass0S σ) (A_cons (E_var 0) (A_cons (E_var 1) (A_cons (E_var 2) A_nil)))) E_non (nomark _))))
theorem ok_told {f : Addr} {fd : FuncData} (F : Fun K "told" "told" s_told f fd) (T : Txt K mg) (k_PairGrowth : CalC P w K mg base CX0 5 "PairGrowth" 3 f_PairGrowth_init) (c_joins : Cal P w K mg base CX0 3 "joins" 3 f_joins) : FnOk P w K mg base CX0 7 f fd ["net", "pairs"] (spOf K 2 f_told) :=
  fun_ok0 (N := N_told) (b := b_told) (k := 6) F sc_told fun X W cdv A outer s H E hr hX => by
    subst hX
    exact (S_cons (S_setLc 2 rfl sc_told.nd rfl (sw_true rfl rfl rfl rfl) (I_seq (E_fldI T.a_PairGrowth_taken (E_make k_PairGrowth hr (fun σ => pass0S σ) (A_cons (E_var 0) (A_cons (E_var 1) A_nil))))) (blkOk_by (N := N_told) (sc := (defScope s_told)) (own := [(("_" : Str), 5), (("index" : Str), 6)]) (by decide +kernel)) (fun _ _ _ _ _ => (G_tp rfl (Gs_cons (G_nm 5 sc_told.nd) (Gs_cons (G_nm 6 sc_told.nd) Gs_nil)))) (fun _ _ _ _ _ => C_nil) (fun _ _ _ _ _ => (E_var 6)))
      (S_cons (S_for PassesOwn.never rfl (I_rev T.z_reversed (A_cons (E_list false T.z_list (A_cons (E_var 2) A_nil)) A_nil)) (G_nm 3 sc_told.nd) (S_cons (S_setLc 4 rfl sc_told.nd rfl (sw_true rfl rfl rfl rfl) (I_seq (E_var 2)) (blkOk_by (N := N_told) (sc := (defScope s_told)) (own := [(("index" : Str), 6)]) (by decide +kernel)) (fun _ _ _ _ _ => (G_nm 6 sc_told.nd)) (fun _ _ _ _ _ => (C_one (T_cmp (op_neA ⟨rfl, hr, sc_told.nd⟩) opS_ne (E_var 6) (E_var 3) (nomark _)))) (fun _ _ _ _ _ => (E_var 6)))
      (S_one (S_if (T_val (E_call c_joins hr (fun σ => pass0S σ) (A_cons (E_var 0) (A_cons (E_var 1) (A_cons (E_var 4) A_nil))))) (S_one (S_set 2 sc_told.nd (E_var 4))) S_nil))))
      (S_one (S_ret (E_tuple T.z_tuple (A_cons (E_sorted false T.z_sorted (A_cons (E_var 2) A_nil)) A_nil))))))
theorem ok_law_sameN {f : Addr} {fd : FuncData} (F : Fun K "_law_same" "_law_same" s_law_same f fd) (T : Txt K mg) (hm : mg "_law_same" = some (.ref f)) (hb : Binds K fd ["_law_actual", "_law_due"] [])  : ∀ k : Nat, FnOk P w K mg base CX0 (0 + k + 1) f fd ["_law_actual", "_law_due"] (spOf K 2 (f_law_sameN k))
  | 0 => fun_ok0 F sc_law_same fun X W cdv A outer s H E hr hX => by
    subst hX
    exact PSs.weak pss_never fun D σ H h => let ⟨_, _, _, _, _, p⟩ := h; p.elim
  | k + 1 => fun_ok0 F sc_law_same fun X W cdv A outer s H E hr hX => by
    have c_law_same : Cal P w K mg base CX0 (0 + k + 1) "_law_same" 2 (f_law_sameN k) := ⟨f, fd, ["_law_actual", "_law_due"], ok_law_sameN F T hm hb  k, hm, F.kp, hb⟩
    subst hX
    exact (S_cons (S_if (T_val (E_isi T.z_isinstance T.z_tuple (E_var 1))) (S_cons (S_if (T_or (T_not (T_val (E_isi T.z_isinstance T.z_tuple (E_var 0)))) (T_or1 (T_cmp (op_neA ⟨rfl, hr, sc_law_same.nd⟩) opS_ne (E_len T.z_len (A_cons (E_var 0) A_nil)) (E_len T.z_len (A_cons (E_var 1) A_nil)) (nomark _)))).pt (S_one (S_ret E_bl)) S_nil)
      (S_one (S_ret (E_cmp (op_eqA ⟨rfl, hr, sc_law_same.nd⟩) opS_eq (E_len T.z_len (A_cons (E_lc rfl sc_law_same.nd (I_rng1 T.z_range (A_cons (E_len T.z_len (A_cons (E_var 1) A_nil)) A_nil)) (blkOk_by (N := N_law_same) (sc := (defScope s_law_same)) (own := [(("_law_k" : Str), 2)]) (by decide +kernel)) (fun _ _ _ _ _ => (G_nm 2 sc_law_same.nd)) (fun _ _ _ _ _ => (C_one (T_not (T_val (E_call c_law_same hr (fun σ => pass0S σ) (A_cons (E_ix (E_var 0) (E_var 2)) (A_cons (E_ix (E_var 1) (E_var 2)) A_nil))))))) (fun _ _ _ _ _ => (E_var 2))) A_nil)) E_int (nomark _))))) S_nil)
      (S_cons (S_if (T_cmp op_isN opS_isN (E_var 1) E_non (nomark _)) (S_one (S_ret (E_cmp op_isN opS_isN (E_var 0) E_non (nomark _)))) S_nil)
      (S_cons (S_if (T_val (E_isi T.z_isinstance T.z_str (E_var 1))) (S_one (S_ret (E_andV (E_isi T.z_isinstance T.z_str (E_var 0)) (E_one (E_cmp (op_eqA ⟨rfl, hr, sc_law_same.nd⟩) opS_eq (E_var 0) (E_var 1) (nomark _)))))) S_nil)
      (S_one (S_ret (E_andV (E_isi T.z_isinstance T.z_int (E_var 0)) (E_andV (E_notV (E_isi T.z_isinstance T.z_bool (E_var 0))) (E_one (E_cmp (op_eqA ⟨rfl, hr, sc_law_same.nd⟩) opS_eq (E_var 0) (E_var 1) (nomark _))))))))))
theorem ok_law_same {f : Addr} {fd : FuncData} (F : Fun K "_law_same" "_law_same" s_law_same f fd) (T : Txt K mg) (hm : mg "_law_same" = some (.ref f)) (hb : Binds K fd ["_law_actual", "_law_due"] [])  : FnOk P w K mg base CX0 8 f fd ["_law_actual", "_law_due"] (spOf K 2 f_law_same) := ok_law_sameN F T hm hb  7
theorem ok_growth {f : Addr} {fd : FuncData} (F : Fun K "growth" "growth" s_growth f fd) (T : Txt K mg) (k_PairGrowth : CalC P w K mg base CX0 5 "PairGrowth" 3 f_PairGrowth_init) : FnOk P w K mg base CX0 7 f fd ["net", "pairs"] (spOf K 2 f_growth) :=
  fun_ok0 (N := N_growth) (b := b_growth) (k := 6) F sc_growth fun X W cdv A outer s H E hr hX => by
    subst hX
    exact (S_one (S_ret (E_tuple T.z_tuple (A_cons (E_fldI T.a_PairGrowth_taken (E_make k_PairGrowth hr (fun σ => pass0S σ) (A_cons (E_var 0) (A_cons (E_var 1) A_nil)))) A_nil))))
theorem ok_law_gcd {f : Addr} {fd : FuncData} (F : Fun K "_law_gcd" "_law_gcd" s_law_gcd f fd) (T : Txt K mg)  : FnOk P w K mg base CX0 1 f fd ["_law_a", "_law_b"] (spOf K 2 f_law_gcd) :=
  fun_ok0 (N := N_law_gcd) (b := b_law_gcd) (k := 0) F sc_law_gcd fun X W cdv A outer s H E hr hX => by
    subst hX
    exact (S_cons (S_for PassesOwn.never rfl (I_rng1 T.z_range (A_cons E_int A_nil)) (G_nm 2 sc_law_gcd.nd) (S_cons (S_if (T_cmp (op_eqA ⟨rfl, hr, sc_law_gcd.nd⟩) opS_eq (E_var 1) E_int (nomark _)) (S_one (S_ret (E_var 0))) S_nil)
      (S_one (S_par 0 1 rfl sc_law_gcd.nd rfl rfl (A_cons (E_var 1) (A_cons (E_mod (E_intc T.z_int (A_cons (E_var 0) A_nil)) (E_var 1)) A_nil)) rfl))))
      (S_one (S_ret E_int)))
theorem ok_law_ratio {f : Addr} {fd : FuncData} (F : Fun K "_law_ratio" "_law_ratio" s_law_ratio f fd) (T : Txt K mg) (c_law_gcd : Cal P w K mg base CX0 1 "_law_gcd" 2 f_law_gcd) : FnOk P w K mg base CX0 2 f fd ["_law_top", "_law_bottom"] (spOf K 2 f_law_ratio) :=
  fun_ok0 (N := N_law_ratio) (b := b_law_ratio) (k := 1) F sc_law_ratio fun X W cdv A outer s H E hr hX => by
    subst hX
    exact (S_cons (S_set 2 sc_law_ratio.nd (E_call c_law_gcd hr (fun σ => pass0S σ) (A_cons (E_abs T.z_abs (A_cons (E_var 0) A_nil)) (A_cons (E_abs T.z_abs (A_cons (E_var 1) A_nil)) A_nil))))
      (S_cons (S_if (T_cmp op_lt opS_intB (E_var 1) E_int (nomark _)) (S_one (S_set 2 sc_law_ratio.nd (E_sub E_int (E_var 2)))) S_nil)
      (S_one (S_ret (E_tup (A_cons (E_div (E_var 0) (E_var 2)) (A_cons (E_div (E_var 1) (E_var 2)) A_nil)))))))
theorem ok_law_times {f : Addr} {fd : FuncData} (F : Fun K "_law_times" "_law_times" s_law_times f fd) (T : Txt K mg) (c_law_ratio : Cal P w K mg base CX0 2 "_law_ratio" 2 f_law_ratio) : FnOk P w K mg base CX0 3 f fd ["_law_a", "_law_b"] (spOf K 2 f_law_times) :=
  fun_ok0 (N := N_law_times) (b := b_law_times) (k := 2) F sc_law_times fun X W cdv A outer s H E hr hX => by
    subst hX
    exact (S_one (S_ret (E_call c_law_ratio hr (fun σ => pass0S σ) (A_cons (E_mul (E_ix (E_var 0) E_int) (E_ix (E_var 1) E_int)) (A_cons (E_mul (E_ix (E_var 0) E_int) (E_ix (E_var 1) E_int)) A_nil)))))
theorem ok_PairGrowth_paper {f : Addr} {fd : FuncData} (F : Fun K "paper" "Growth.paper" s_PairGrowth_paper f fd) (T : Txt K mg)  : FnOk P w K mg base CX0 1 f fd ["self"] (spOf K 1 f_PairGrowth_paper) :=
  fun_ok0 (N := N_PairGrowth_paper) (b := b_PairGrowth_paper) (k := 0) F sc_PairGrowth_paper fun X W cdv A outer s H E hr hX => by
    subst hX
    exact (S_one (S_ret (E_tuple T.z_tuple (A_cons (E_lc rfl sc_PairGrowth_paper.nd (I_seq (E_sortK rfl T.z_sorted (A_cons (E_fldI T.a_PairGrowth_widths (E_var 0)) A_nil))) (blkOk_by (N := N_PairGrowth_paper) (sc := (defScope s_PairGrowth_paper)) (own := [(("part" : Str), 1)]) (by decide +kernel)) (fun _ _ _ _ _ => (G_nm 1 sc_PairGrowth_paper.nd)) (fun _ _ _ _ _ => (C_one (T_cmp (op_neA ⟨rfl, hr, sc_PairGrowth_paper.nd⟩) opS_ne (E_dget ⟨rfl, hr, sc_PairGrowth_paper.nd⟩ (E_fldI T.a_PairGrowth_widths (E_var 0)) (E_var 1)) (E_glob T.c_ZERO) (nomark _)))) (fun _ _ _ _ _ => (E_tup (A_cons (E_var 1) (A_cons (E_dget ⟨rfl, hr, sc_PairGrowth_paper.nd⟩ (E_fldI T.a_PairGrowth_widths (E_var 0)) (E_var 1)) A_nil))))) A_nil))))
theorem ok_moats {f : Addr} {fd : FuncData} (F : Fun K "moats" "moats" s_moats f fd) (T : Txt K mg) (k_PairGrowth : CalC P w K mg base CX0 5 "PairGrowth" 3 f_PairGrowth_init) (c_PairGrowth_paper : CalM P w K mg base CX0 1 "PairGrowth" "paper" 1 f_PairGrowth_paper) : FnOk P w K mg base CX0 7 f fd ["net", "pairs"] (spOf K 2 f_moats) :=
  fun_ok0 (N := N_moats) (b := b_moats) (k := 6) F sc_moats fun X W cdv A outer s H E hr hX => by
    subst hX
    exact (S_one (S_ret (E_meth0 c_PairGrowth_paper hr (fun σ => pass0S σ) (E_make k_PairGrowth hr (fun σ => pass0S σ) (A_cons (E_var 0) (A_cons (E_var 1) A_nil))))))
theorem ok_law {f : Addr} {fd : FuncData} (F : Fun K "law" "law" s_law f fd) (T : Txt K mg) (c_law_pool : Cal P w K mg base CX0 1 "_law_pool" 1 f_law_pool) (c_law_any_task : Cal P w K mg base CX0 6 "_law_any_task" 1 f_law_any_task) (c_law_draw : Cal P w K mg base CX0 1 "_law_draw" 2 f_law_draw) (c_told : Cal P w K mg base CX0 7 "told" 2 f_told) (c_law_same : Cal P w K mg base CX0 8 "_law_same" 2 f_law_same) (c_growth : Cal P w K mg base CX0 7 "growth" 2 f_growth) (c_law_times : Cal P w K mg base CX0 3 "_law_times" 2 f_law_times) (c_moats : Cal P w K mg base CX0 7 "moats" 2 f_moats) : FnOk P w K mg base CX0 9 f fd ["_law_script"] (spOf K 1 f_law) :=
  fun_ok0 (N := N_law) (b := b_law) (k := 8) F sc_law fun X W cdv A outer s H E hr hX => by
    subst hX
    exact (S_cons (S_set 1 sc_law.nd (E_call c_law_pool hr (fun σ => pass0S σ) (A_cons (E_var 0) A_nil)))
      (S_cons (S_asg (E_call c_law_any_task hr (fun σ => pass0S σ) (A_cons (E_var 1) A_nil)) (G_tp rfl (Gs_cons (G_nm 2 sc_law.nd) (Gs_cons (G_nm 3 sc_law.nd) Gs_nil))))
      (S_cons (S_set 4 sc_law.nd (E_tup (A_cons (E_ix (E_var 2) E_int) (A_cons (E_tuple T.z_tuple (A_cons (E_lc rfl sc_law.nd (I_seq (E_ix (E_var 2) E_int)) (blkOk_by (N := N_law) (sc := (defScope s_law)) (own := [(("_law_way_here" : Str), 12)]) (by decide +kernel)) (fun _ _ _ _ _ => (G_nm 12 sc_law.nd)) (fun _ _ _ _ _ => C_nil) (fun _ _ _ _ _ => (E_tup (A_cons (E_ix (E_var 12) E_int) (A_cons (E_ix (E_var 12) E_int) (A_cons (E_min rfl T.z_min (A_cons (E_ix (E_var 12) E_int) (A_cons E_int A_nil))) A_nil)))))) A_nil)) A_nil))))
      (S_cons (S_set 5 sc_law.nd (E_add E_int (E_call c_law_draw hr (fun σ => pass0S σ) (A_cons (E_var 1) (A_cons E_int A_nil)))))
      (S_cons (S_set 6 sc_law.nd (E_tup (A_cons (E_ix (E_var 4) E_int) (A_cons (E_tuple T.z_tuple (A_cons (E_lc rfl sc_law.nd (I_seq (E_ix (E_var 4) E_int)) (blkOk_by (N := N_law) (sc := (defScope s_law)) (own := [(("_law_way_here" : Str), 12)]) (by decide +kernel)) (fun _ _ _ _ _ => (G_nm 12 sc_law.nd)) (fun _ _ _ _ _ => C_nil) (fun _ _ _ _ _ => (E_tup (A_cons (E_ix (E_var 12) E_int) (A_cons (E_ix (E_var 12) E_int) (A_cons (E_mul (E_ix (E_var 12) E_int) (E_var 5)) A_nil)))))) A_nil)) A_nil))))
      (S_cons (S_if (T_not (T_val (E_call c_law_same hr (fun σ => pass0S σ) (A_cons (E_call c_told hr (fun σ => pass0S σ) (A_cons (E_var 6) (A_cons (E_var 3) A_nil))) (A_cons (E_call c_told hr (fun σ => pass0S σ) (A_cons (E_var 4) (A_cons (E_var 3) A_nil))) A_nil))))) (S_one (S_ret E_bl)) S_nil)
      (S_cons (S_set 7 sc_law.nd (E_tuple T.z_tuple (A_cons (E_lc rfl sc_law.nd (I_seq (E_call c_growth hr (fun σ => pass0S σ) (A_cons (E_var 4) (A_cons (E_var 3) A_nil)))) (blkOk_by (N := N_law) (sc := (defScope s_law)) (own := [(("_law_time" : Str), 11), (("_law_way_here" : Str), 12)]) (by decide +kernel)) (fun _ _ _ _ _ => (G_tp rfl (Gs_cons (G_nm 11 sc_law.nd) (Gs_cons (G_nm 12 sc_law.nd) Gs_nil)))) (fun _ _ _ _ _ => C_nil) (fun _ _ _ _ _ => (E_tup (A_cons (E_call c_law_times hr (fun σ => pass0S σ) (A_cons (E_var 11) (A_cons (E_tup (A_cons (E_var 5) (A_cons E_int A_nil))) A_nil))) (A_cons (E_var 12) A_nil))))) A_nil)))
      (S_cons (S_set 8 sc_law.nd (E_tuple T.z_tuple (A_cons (E_lc rfl sc_law.nd (I_seq (E_call c_moats hr (fun σ => pass0S σ) (A_cons (E_var 4) (A_cons (E_var 3) A_nil)))) (blkOk_by (N := N_law) (sc := (defScope s_law)) (own := [(("_law_part" : Str), 13), (("_law_width" : Str), 14)]) (by decide +kernel)) (fun _ _ _ _ _ => (G_tp rfl (Gs_cons (G_nm 13 sc_law.nd) (Gs_cons (G_nm 14 sc_law.nd) Gs_nil)))) (fun _ _ _ _ _ => C_nil) (fun _ _ _ _ _ => (E_tup (A_cons (E_var 13) (A_cons (E_call c_law_times hr (fun σ => pass0S σ) (A_cons (E_var 14) (A_cons (E_tup (A_cons (E_var 5) (A_cons E_int A_nil))) A_nil))) A_nil))))) A_nil)))
      (S_cons (S_if (T_or (T_not (T_val (E_call c_law_same hr (fun σ => pass0S σ) (A_cons (E_call c_growth hr (fun σ => pass0S σ) (A_cons (E_var 6) (A_cons (E_var 3) A_nil))) (A_cons (E_var 7) A_nil))))) (T_or1 (T_not (T_val (E_call c_law_same hr (fun σ => pass0S σ) (A_cons (E_call c_moats hr (fun σ => pass0S σ) (A_cons (E_var 6) (A_cons (E_var 3) A_nil))) (A_cons (E_var 8) A_nil))))))).pt (S_one (S_ret E_bl)) S_nil)
      (S_cons (S_set 9 sc_law.nd (E_call c_law_draw hr (fun σ => pass0S σ) (A_cons (E_var 1) (A_cons E_int A_nil))))
      (S_cons (S_set 10 sc_law.nd (E_revT (E_add (E_slice false (E_var 3) (P_some (E_var 9)) P_none) (E_slice false (E_var 3) P_none (P_some (E_var 9))))))
      (S_cons (S_if (T_or (T_not (T_val (E_call c_law_same hr (fun σ => pass0S σ) (A_cons (E_call c_told hr (fun σ => pass0S σ) (A_cons (E_var 4) (A_cons (E_var 10) A_nil))) (A_cons (E_call c_told hr (fun σ => pass0S σ) (A_cons (E_var 4) (A_cons (E_var 3) A_nil))) A_nil))))) (T_or1 (T_not (T_val (E_call c_law_same hr (fun σ => pass0S σ) (A_cons (E_call c_moats hr (fun σ => pass0S σ) (A_cons (E_var 4) (A_cons (E_var 10) A_nil))) (A_cons (E_call c_moats hr (fun σ => pass0S σ) (A_cons (E_var 4) (A_cons (E_var 3) A_nil))) A_nil))))))).pt (S_one (S_ret E_bl)) S_nil)
      (S_one (S_ret (E_call c_law_same hr (fun σ => pass0S σ) (A_cons (E_call c_growth hr (fun σ => pass0S σ) (A_cons (E_var 4) (A_cons (E_var 10) A_nil))) (A_cons (E_call c_growth hr (fun σ => pass0S σ) (A_cons (E_var 4) (A_cons (E_var 3) A_nil))) A_nil)))))))))))))))))
end
end Ev

namespace Ev
open PySem PySem.Spec PyProof.Rows L2
structure Pool where
  s : List Int
  pos : Int
  acc : Int
  cell : Int
  cnt : Int
def poolC (P : Pool) : Cel := .lst [.lst (P.s.map D.int), .int P.pos, .int P.acc, .int P.cell, .int P.cnt]
theorem okC_pool (n : Nat) (P : Pool) : okC n (poolC P) = true := by simp only [poolC, okC, okDs, okD, okDs_ints, Bool.and_self]
def mix (y c : Int) : Int := ((y * 48271 + c * 69621 + 7919) % 2147483647 * ((y * 48271 + c * 69621 + 7919) % 2147483647) + c * 40692) % 2147483399
theorem draw_spec {S : Sto} {p : Nat} {P : Pool} {n : Int} (hS : S[p]? = some (poolC P)) (h0 : 0 ≤ P.pos) (hn : 0 < n) (hn2 : n < 1073741824) :
    ∃ r P', 0 ≤ r ∧ r < n ∧ 0 ≤ P'.pos ∧ f_law_draw [.loc p, .int n] S = .ok (.int r) (S.set p (poolC P')) := by
  have hp : p < S.length := (List.getElem?_eq_some_iff.mp hS).1
  have sg : ∀ (c : Cel), (S.set p c)[p]? = some c := fun c => set_get hp
  have cd : ∀ x : Int, CDv x n := fun x => ⟨hn, by omega⟩
  have pw : ∀ S : Sto, oPow (.int 10) (.int 18) S = some (.int 1000000000000000000) := fun S => oPow_int (by decide)
  have cm1 : ∀ x : Int, CMul x 48271 := fun x => Or.inr (by decide)
  have cm2 : ∀ x : Int, CMul x 69621 := fun x => Or.inr (by decide)
  have cm3 : ∀ x : Int, CMul x 40692 := fun x => Or.inr (by decide)
  have cm4 : ∀ x : Int, CMul (x % 2147483647) (x % 2147483647) := fun x => Or.inl (by omega)
  have m1 : (0 : Int) < 2147483647 := by decide
  have m2 : (0 : Int) < 2147483399 := by decide
  have m3 : (0 : Int) < 8 := by decide
  unfold f_law_draw runF
  by_cases hc : 0 < P.acc
  · refine ⟨P.acc % n, { P with acc := P.acc / n }, Int.emod_nonneg _ (by omega), Int.emod_lt_of_pos _ hn, h0, ?_⟩
    unfold poolC at hS
    simp only [eVar, eC, eBin, bBin, bVal, bAnd, bOr, bNot, eAnd, eOr, eNot, eIf, eNeg, eOrT, liftO_some, liftB_bl, liftG_some, liftP_some, R.bind, R.nox_ok, sB, aNil, aCons, sSeq, sSet, sIf, sRet, sRetN, sNext, sExpr, sAsg, sSub, sBrk, sCnt, eCb, pure1, eIsi, bYes, pNone, pSome, List.getElem?_cons_zero, List.getElem?_cons_succ, List.set_cons_zero, List.set_cons_succ, Option.map_some, Option.bind_some, List.map_cons, List.map_nil, List.length_cons, List.length_nil, List.nil_append, List.cons_append, List.replicate_succ, List.replicate_zero, Nat.reduceSub, Nat.reduceAdd, Nat.add_eq, Nat.zero_add, if_true, if_false, reduceIte, Bool.false_eq_true, Bool.not_true, Bool.not_false, Tg.asg, asgs, tupOf, decide_true, decide_false, ite_true, ite_false, oAdd_int, oSub_int, oLt_int, oLe_int, oGt_int, oGe_int, oEq_int, oNe_int, oEq_str, atI_0, atI_1, atI_2, atI_3, atI_4, ixN51, ixN52, ixN53, ixN54, gInt, gAbs, gMin, gMax, oIx_tup, oIx_lst, oIx_con, seqOf_tup, seqOf_lst, List.length_set, b_law_draw, oIx_loc hS, oMod_int hn, oDiv_int (cd _), hS, hc]
    exact gc_put rfl (okC_pool _ { P with acc := P.acc / n })
  · unfold poolC at hS
    by_cases h8 : P.cnt % 8 = 0 ∧ P.pos < (P.s.length : Int)
    · obtain ⟨x, hx⟩ : ∃ x, P.s[P.pos.toNat]? = some x := ⟨_, List.getElem?_eq_getElem (by omega)⟩
      have hix : atI (P.s.map D.int) P.pos = some (.int x) := by
        have := atI_nat (xs := P.s.map D.int) (j := P.pos.toNat) (v := .int x) (by rw [List.getElem?_map, hx]; rfl)
        rwa [Int.toNat_of_nonneg h0] at this
      generalize hy : (if x < 0 then -x else x) = y
      by_cases hb : (1000000000000000000 : Int) ≤ y
      · refine ⟨y % n, { P with pos := P.pos + 1, acc := y / n }, Int.emod_nonneg _ (by omega), Int.emod_lt_of_pos _ hn, by show 0 ≤ P.pos + 1; omega, ?_⟩
        simp only [eVar, eC, eBin, bBin, bVal, bAnd, bOr, bNot, eAnd, eOr, eNot, eIf, eNeg, eOrT, liftO_some, liftB_bl, liftG_some, liftP_some, R.bind, R.nox_ok, sB, aNil, aCons, sSeq, sSet, sIf, sRet, sRetN, sNext, sExpr, sAsg, sSub, sBrk, sCnt, eCb, pure1, eIsi, bYes, pNone, pSome, List.getElem?_cons_zero, List.getElem?_cons_succ, List.set_cons_zero, List.set_cons_succ, Option.map_some, Option.bind_some, List.map_cons, List.map_nil, List.length_cons, List.length_nil, List.nil_append, List.cons_append, List.replicate_succ, List.replicate_zero, Nat.reduceSub, Nat.reduceAdd, Nat.add_eq, Nat.zero_add, if_true, if_false, reduceIte, Bool.false_eq_true, Bool.not_true, Bool.not_false, Tg.asg, asgs, tupOf, decide_true, decide_false, ite_true, ite_false, oAdd_int, oSub_int, oLt_int, oLe_int, oGt_int, oGe_int, oEq_int, oNe_int, oEq_str, atI_0, atI_1, atI_2, atI_3, atI_4, ixN51, ixN52, ixN53, ixN54, gInt, gAbs, gMin, gMax, oIx_tup, oIx_lst, oIx_con, seqOf_tup, seqOf_lst, List.length_set, b_law_draw, oIx_loc hS, oMod_int hn, oDiv_int (cd _), hS, hc, h8.1, h8.2, oMod_int m3, gLen_seq seqOf_lst, List.length_map, hix, sg, List.set_set, pw, hb, hy, oIx_loc (sg _)]
        exact gc_put rfl (okC_pool _ { P with pos := P.pos + 1, acc := y / n })
      · refine ⟨mix y (P.cnt + 1) % n, { P with pos := P.pos + 1, cell := y, cnt := P.cnt + 1 }, Int.emod_nonneg _ (by omega), Int.emod_lt_of_pos _ hn, by show 0 ≤ P.pos + 1; omega, ?_⟩
        · simp only [eVar, eC, eBin, bBin, bVal, bAnd, bOr, bNot, eAnd, eOr, eNot, eIf, eNeg, eOrT, liftO_some, liftB_bl, liftG_some, liftP_some, R.bind, R.nox_ok, sB, aNil, aCons, sSeq, sSet, sIf, sRet, sRetN, sNext, sExpr, sAsg, sSub, sBrk, sCnt, eCb, pure1, eIsi, bYes, pNone, pSome, List.getElem?_cons_zero, List.getElem?_cons_succ, List.set_cons_zero, List.set_cons_succ, Option.map_some, Option.bind_some, List.map_cons, List.map_nil, List.length_cons, List.length_nil, List.nil_append, List.cons_append, List.replicate_succ, List.replicate_zero, Nat.reduceSub, Nat.reduceAdd, Nat.add_eq, Nat.zero_add, if_true, if_false, reduceIte, Bool.false_eq_true, Bool.not_true, Bool.not_false, Tg.asg, asgs, tupOf, decide_true, decide_false, ite_true, ite_false, oAdd_int, oSub_int, oLt_int, oLe_int, oGt_int, oGe_int, oEq_int, oNe_int, oEq_str, atI_0, atI_1, atI_2, atI_3, atI_4, ixN51, ixN52, ixN53, ixN54, gInt, gAbs, gMin, gMax, oIx_tup, oIx_lst, oIx_con, seqOf_tup, seqOf_lst, List.length_set, b_law_draw, oIx_loc hS, oMod_int hn, oDiv_int (cd _), hS, hc, h8.1, h8.2, oMod_int m3, gLen_seq seqOf_lst, List.length_map, hix, sg, List.set_set, pw, hb, hy, oIx_loc (sg _), oMul_int (cm1 _), oMul_int (cm2 _), oMul_int (cm3 _), oMul_int (cm4 _), oMod_int m1, oMod_int m2]
          exact gc_put rfl (okC_pool _ { P with pos := P.pos + 1, cell := y, cnt := P.cnt + 1 })
    · have hand : (decide (P.cnt % 8 = 0) && decide (P.pos < (P.s.length : Int))) = false := by simp; omega
      refine ⟨mix P.cell (P.cnt + 1) % n, { P with cnt := P.cnt + 1 }, Int.emod_nonneg _ (by omega), Int.emod_lt_of_pos _ hn, h0, ?_⟩
      · by_cases h9 : P.cnt % 8 = 0
        · have h10 : ¬ P.pos < (P.s.length : Int) := fun z => h8 ⟨h9, z⟩
          simp only [eVar, eC, eBin, bBin, bVal, bAnd, bOr, bNot, eAnd, eOr, eNot, eIf, eNeg, eOrT, liftO_some, liftB_bl, liftG_some, liftP_some, R.bind, R.nox_ok, sB, aNil, aCons, sSeq, sSet, sIf, sRet, sRetN, sNext, sExpr, sAsg, sSub, sBrk, sCnt, eCb, pure1, eIsi, bYes, pNone, pSome, List.getElem?_cons_zero, List.getElem?_cons_succ, List.set_cons_zero, List.set_cons_succ, Option.map_some, Option.bind_some, List.map_cons, List.map_nil, List.length_cons, List.length_nil, List.nil_append, List.cons_append, List.replicate_succ, List.replicate_zero, Nat.reduceSub, Nat.reduceAdd, Nat.add_eq, Nat.zero_add, if_true, if_false, reduceIte, Bool.false_eq_true, Bool.not_true, Bool.not_false, Tg.asg, asgs, tupOf, decide_true, decide_false, ite_true, ite_false, oAdd_int, oSub_int, oLt_int, oLe_int, oGt_int, oGe_int, oEq_int, oNe_int, oEq_str, atI_0, atI_1, atI_2, atI_3, atI_4, ixN51, ixN52, ixN53, ixN54, gInt, gAbs, gMin, gMax, oIx_tup, oIx_lst, oIx_con, seqOf_tup, seqOf_lst, List.length_set, b_law_draw, oIx_loc hS, oMod_int hn, oDiv_int (cd _), hS, hc, h9, h10, oMod_int m3, gLen_seq seqOf_lst, List.length_map, sg, List.set_set, pw, oIx_loc (sg _), oMul_int (cm1 _), oMul_int (cm2 _), oMul_int (cm3 _), oMul_int (cm4 _), oMod_int m1, oMod_int m2]
          exact gc_put rfl (okC_pool _ { P with cnt := P.cnt + 1 })
        · simp only [eVar, eC, eBin, bBin, bVal, bAnd, bOr, bNot, eAnd, eOr, eNot, eIf, eNeg, eOrT, liftO_some, liftB_bl, liftG_some, liftP_some, R.bind, R.nox_ok, sB, aNil, aCons, sSeq, sSet, sIf, sRet, sRetN, sNext, sExpr, sAsg, sSub, sBrk, sCnt, eCb, pure1, eIsi, bYes, pNone, pSome, List.getElem?_cons_zero, List.getElem?_cons_succ, List.set_cons_zero, List.set_cons_succ, Option.map_some, Option.bind_some, List.map_cons, List.map_nil, List.length_cons, List.length_nil, List.nil_append, List.cons_append, List.replicate_succ, List.replicate_zero, Nat.reduceSub, Nat.reduceAdd, Nat.add_eq, Nat.zero_add, if_true, if_false, reduceIte, Bool.false_eq_true, Bool.not_true, Bool.not_false, Tg.asg, asgs, tupOf, decide_true, decide_false, ite_true, ite_false, oAdd_int, oSub_int, oLt_int, oLe_int, oGt_int, oGe_int, oEq_int, oNe_int, oEq_str, atI_0, atI_1, atI_2, atI_3, atI_4, ixN51, ixN52, ixN53, ixN54, gInt, gAbs, gMin, gMax, oIx_tup, oIx_lst, oIx_con, seqOf_tup, seqOf_lst, List.length_set, b_law_draw, oIx_loc hS, oMod_int hn, oDiv_int (cd _), hS, hc, h9, oMod_int m3, gLen_seq seqOf_lst, List.length_map, sg, List.set_set, pw, oIx_loc (sg _), oMul_int (cm1 _), oMul_int (cm2 _), oMul_int (cm3 _), oMul_int (cm4 _), oMod_int m1, oMod_int m2]
          exact gc_put rfl (okC_pool _ { P with cnt := P.cnt + 1 })
end Ev

namespace Ev
open PySem PySem.Spec PyProof.Rows L2
theorem pool_get {S : Sto} {p : Nat} (c : Cel) (h : p < S.length) : (S.set p c)[p]? = some c := set_get h
/-- what a def does that draws: it hands back v, the pool turns -/
def Turn1 (p : Nat) (S : Sto) (r : R D) (v : D) : Prop := ∃ P' : Pool, 0 ≤ P'.pos ∧ r = .ok v (S.set p (poolC P'))
theorem pick_spec {S : Sto} {p : Nat} {P : Pool} {ds : List D} (hS : S[p]? = some (poolC P)) (h0 : 0 ≤ P.pos) (hn : 0 < ds.length) (hn2 : ds.length < 1073741824) (hok : okDs S.length ds = true) :
    ∃ v, v ∈ ds ∧ Turn1 p S (f_law_pick [.loc p, .lst ds] S) v := by
  obtain ⟨r, P1, r0, r1, p1, e1⟩ := draw_spec (n := (ds.length : Int)) hS h0 (by omega) (by omega)
  have hr : r.toNat < ds.length := by omega
  refine ⟨ds[r.toNat], List.getElem_mem hr, P1, p1, ?_⟩
  have hix : atI ds r = some ds[r.toNat] := by
    have := atI_nat (xs := ds) (j := r.toNat) (v := ds[r.toNat]) (List.getElem?_eq_getElem hr)
    rwa [Int.toNat_of_nonneg r0] at this
  have okd : ∀ (ds : List D) (i : Nat) (h : i < ds.length), okDs S.length ds = true → okD S.length ds[i] = true := by
    intro ds
    induction ds with
    | nil => intro i h; simp at h
    | cons d ds ih =>
      intro i h o
      simp only [okDs, Bool.and_eq_true] at o
      cases i with
      | zero => exact o.1
      | succ i => exact ih i (by simpa using h) o.2
  unfold f_law_pick runF
  simp only [eVar, eC, eBin, bBin, bVal, bAnd, bOr, bNot, eAnd, eOr, eNot, eIf, eNeg, eOrT, liftO_some, liftB_bl, liftG_some, liftP_some, R.bind, R.nox_ok, sB, aNil, aCons, sSeq, sSet, sIf, sRet, sRetN, sNext, sExpr, sAsg, sSub, sBrk, sCnt, eCb, pure1, eIsi, bYes, pNone, pSome, List.getElem?_cons_zero, List.getElem?_cons_succ, List.set_cons_zero, List.set_cons_succ, Option.map_some, Option.bind_some, List.map_cons, List.map_nil, List.length_cons, List.length_nil, List.nil_append, List.cons_append, List.replicate_succ, List.replicate_zero, Nat.reduceSub, Nat.reduceAdd, Nat.add_eq, Nat.zero_add, if_true, if_false, reduceIte, Bool.false_eq_true, Bool.not_true, Bool.not_false, Tg.asg, asgs, tupOf, decide_true, decide_false, ite_true, ite_false, oAdd_int, oSub_int, oLt_int, oLe_int, oGt_int, oGe_int, oEq_int, oNe_int, oEq_str, atI_0, atI_1, atI_2, atI_3, atI_4, ixN51, ixN52, ixN53, ixN54, gInt, gAbs, gMin, gMax, oIx_tup, oIx_lst, oIx_con, seqOf_tup, seqOf_lst, List.length_set, b_law_pick, gLen_seq seqOf_lst, eCall, e1, hix]
  exact gc_put (okd ds _ hr hok) (okC_pool _ P1)
theorem cost_spec {S : Sto} {p : Nat} {P : Pool} (hS : S[p]? = some (poolC P)) (h0 : 0 ≤ P.pos) : ∃ c : Nat, 1 ≤ c ∧ c ≤ 10000 ∧ Turn1 p S (f_law_cost [.loc p] S) (.int c) := by
  have hp : p < S.length := (List.getElem?_eq_some_iff.mp hS).1
  obtain ⟨r, P1, r0, r1, p1, e1⟩ := draw_spec (n := 8) hS h0 (by decide) (by decide)
  have hS1 := pool_get (poolC P1) hp
  unfold f_law_cost runF
  by_cases c0 : r = 0
  · obtain ⟨r2, P2, a0, a1, p2, e2⟩ := draw_spec (n := 10000) hS1 p1 (by decide) (by decide)
    refine ⟨(1 + r2).toNat, by omega, by omega, P2, p2, ?_⟩
    rw [Int.toNat_of_nonneg (by omega)]
    simp only [List.set_set] at e2
    simp only [eVar, eC, eBin, bBin, bVal, bAnd, bOr, bNot, eAnd, eOr, eNot, eIf, eNeg, eOrT, liftO_some, liftB_bl, liftG_some, liftP_some, R.bind, R.nox_ok, sB, aNil, aCons, sSeq, sSet, sIf, sRet, sRetN, sNext, sExpr, sAsg, sSub, sBrk, sCnt, eCb, pure1, eIsi, bYes, pNone, pSome, List.getElem?_cons_zero, List.getElem?_cons_succ, List.set_cons_zero, List.set_cons_succ, Option.map_some, Option.bind_some, List.map_cons, List.map_nil, List.length_cons, List.length_nil, List.nil_append, List.cons_append, List.replicate_succ, List.replicate_zero, Nat.reduceSub, Nat.reduceAdd, Nat.add_eq, Nat.zero_add, if_true, if_false, reduceIte, Bool.false_eq_true, Bool.not_true, Bool.not_false, Tg.asg, asgs, tupOf, decide_true, decide_false, ite_true, ite_false, oAdd_int, oSub_int, oLt_int, oLe_int, oGt_int, oGe_int, oEq_int, oNe_int, oEq_str, atI_0, atI_1, atI_2, atI_3, atI_4, ixN51, ixN52, ixN53, ixN54, gInt, gAbs, gMin, gMax, oIx_tup, oIx_lst, oIx_con, seqOf_tup, seqOf_lst, List.length_set, b_law_cost, eCall, e1, c0, e2]
    exact gc_put rfl (okC_pool _ P2)
  · by_cases c4 : r < 4
    · obtain ⟨r2, P2, a0, a1, p2, e2⟩ := draw_spec (n := 5) hS1 p1 (by decide) (by decide)
      simp only [List.set_set] at e2
      have key : ∀ (v : Nat), 1 ≤ v ∧ v ≤ 10000 → atI [D.int 1, .int 2, .int 2, .int 3, .int 4] r2 = some (.int v) → ∃ c : Nat, 1 ≤ c ∧ c ≤ 10000 ∧ Turn1 p S (match b_law_cost (List.map some [D.loc p] ++ List.replicate (2 - [D.loc p].length) none) S with
        | O.rt d S' => gc S d S'
        | O.nx ρ S' => gc S D.non S'
        | O.ex e ρ S' => R.ex e S'
        | x => R.no) (.int c) := by
        intro v hv hix
        refine ⟨v, hv.1, hv.2, P2, p2, ?_⟩
        have sl : (5 : Nat) ≤ sizeLine := sizeLine_ok (by decide)
        simp only [eVar, eC, eBin, bBin, bVal, bAnd, bOr, bNot, eAnd, eOr, eNot, eIf, eNeg, eOrT, liftO_some, liftB_bl, liftG_some, liftP_some, R.bind, R.nox_ok, sB, aNil, aCons, sSeq, sSet, sIf, sRet, sRetN, sNext, sExpr, sAsg, sSub, sBrk, sCnt, eCb, pure1, eIsi, bYes, pNone, pSome, List.getElem?_cons_zero, List.getElem?_cons_succ, List.set_cons_zero, List.set_cons_succ, Option.map_some, Option.bind_some, List.map_cons, List.map_nil, List.length_cons, List.length_nil, List.nil_append, List.cons_append, List.replicate_succ, List.replicate_zero, Nat.reduceSub, Nat.reduceAdd, Nat.add_eq, Nat.zero_add, if_true, if_false, reduceIte, Bool.false_eq_true, Bool.not_true, Bool.not_false, Tg.asg, asgs, tupOf, decide_true, decide_false, ite_true, ite_false, oAdd_int, oSub_int, oLt_int, oLe_int, oGt_int, oGe_int, oEq_int, oNe_int, oEq_str, atI_0, atI_1, atI_2, atI_3, atI_4, ixN51, ixN52, ixN53, ixN54, gInt, gAbs, gMin, gMax, oIx_tup, oIx_lst, oIx_con, seqOf_tup, seqOf_lst, List.length_set, b_law_cost, eCall, e1, c0, c4, e2, eLst, hix, sl]
        exact gc_put rfl (okC_pool _ P2)
      obtain h | h | h | h | h : r2 = 0 ∨ r2 = 1 ∨ r2 = 2 ∨ r2 = 3 ∨ r2 = 4 := by omega
      · exact key 1 (by decide) (by rw [h]; rfl)
      · exact key 2 (by decide) (by rw [h]; rfl)
      · exact key 2 (by decide) (by rw [h]; rfl)
      · exact key 3 (by decide) (by rw [h]; rfl)
      · exact key 4 (by decide) (by rw [h]; rfl)
    · obtain ⟨r2, P2, a0, a1, p2, e2⟩ := draw_spec (n := 12) hS1 p1 (by decide) (by decide)
      refine ⟨(1 + r2).toNat, by omega, by omega, P2, p2, ?_⟩
      rw [Int.toNat_of_nonneg (by omega)]
      simp only [List.set_set] at e2
      simp only [eVar, eC, eBin, bBin, bVal, bAnd, bOr, bNot, eAnd, eOr, eNot, eIf, eNeg, eOrT, liftO_some, liftB_bl, liftG_some, liftP_some, R.bind, R.nox_ok, sB, aNil, aCons, sSeq, sSet, sIf, sRet, sRetN, sNext, sExpr, sAsg, sSub, sBrk, sCnt, eCb, pure1, eIsi, bYes, pNone, pSome, List.getElem?_cons_zero, List.getElem?_cons_succ, List.set_cons_zero, List.set_cons_succ, Option.map_some, Option.bind_some, List.map_cons, List.map_nil, List.length_cons, List.length_nil, List.nil_append, List.cons_append, List.replicate_succ, List.replicate_zero, Nat.reduceSub, Nat.reduceAdd, Nat.add_eq, Nat.zero_add, if_true, if_false, reduceIte, Bool.false_eq_true, Bool.not_true, Bool.not_false, Tg.asg, asgs, tupOf, decide_true, decide_false, ite_true, ite_false, oAdd_int, oSub_int, oLt_int, oLe_int, oGt_int, oGe_int, oEq_int, oNe_int, oEq_str, atI_0, atI_1, atI_2, atI_3, atI_4, ixN51, ixN52, ixN53, ixN54, gInt, gAbs, gMin, gMax, oIx_tup, oIx_lst, oIx_con, seqOf_tup, seqOf_lst, List.length_set, b_law_cost, eCall, e1, c0, c4, e2]
      exact gc_put rfl (okC_pool _ P2)
/-! ### nets -/
structure Way where
  a : Nat
  b : Nat
  c : Nat
def wayD (w : Way) : D := .tup [.int w.a, .int w.b, .int w.c]
def Way.Ok (n : Nat) (w : Way) : Prop := w.a < w.b ∧ w.b < n ∧ 1 ≤ w.c ∧ w.c ≤ 10000
structure Net where
  n : Nat
  ways : List Way
def netD (N : Net) : D := .tup [.int N.n, .tup (N.ways.map wayD)]
structure Net.Ok (most bound : Nat) (N : Net) : Prop where
  n1 : 1 ≤ N.n
  n2 : N.n ≤ most
  len : N.ways.length ≤ bound
  ways : ∀ w ∈ N.ways, w.Ok N.n
theorem way_spec {S : Sto} {p : Nat} {P : Pool} {n : Nat} (hS : S[p]? = some (poolC P)) (h0 : 0 ≤ P.pos) (hn : 2 ≤ n) (hn2 : n ≤ 1000) : ∃ w : Way, w.Ok n ∧ Turn1 p S (f_law_way [.loc p, .int n] S) (wayD w) := by
  have hp : p < S.length := (List.getElem?_eq_some_iff.mp hS).1
  obtain ⟨r, P1, r0, r1, p1, e1⟩ := draw_spec (n := (n : Int) - 1) hS h0 (by omega) (by omega)
  obtain ⟨r2, P2, a0, a1, p2, e2⟩ := draw_spec (n := (n : Int) - 1 - r) (pool_get (poolC P1) hp) p1 (by omega) (by omega)
  simp only [List.set_set] at e2
  obtain ⟨c, c1, c2, P3, p3, e3⟩ := cost_spec (pool_get (poolC P2) hp) p2
  simp only [List.set_set] at e3
  refine ⟨⟨r.toNat, (r + 1 + r2).toNat, c⟩, ⟨by show r.toNat < (r + 1 + r2).toNat; omega, by show (r + 1 + r2).toNat < n; omega, c1, c2⟩, P3, p3, ?_⟩
  unfold f_law_way runF wayD
  rw [Int.toNat_of_nonneg r0, Int.toNat_of_nonneg (by omega)]
  have sl : (3 : Nat) ≤ sizeLine := sizeLine_ok (by decide)
  simp only [eVar, eC, eBin, bBin, bVal, bAnd, bOr, bNot, eAnd, eOr, eNot, eIf, eNeg, eOrT, liftO_some, liftB_bl, liftG_some, liftP_some, R.bind, R.nox_ok, sB, aNil, aCons, sSeq, sSet, sIf, sRet, sRetN, sNext, sExpr, sAsg, sSub, sBrk, sCnt, eCb, pure1, eIsi, bYes, pNone, pSome, List.getElem?_cons_zero, List.getElem?_cons_succ, List.set_cons_zero, List.set_cons_succ, Option.map_some, Option.bind_some, List.map_cons, List.map_nil, List.length_cons, List.length_nil, List.nil_append, List.cons_append, List.replicate_succ, List.replicate_zero, Nat.reduceSub, Nat.reduceAdd, Nat.add_eq, Nat.zero_add, if_true, if_false, reduceIte, Bool.false_eq_true, Bool.not_true, Bool.not_false, Tg.asg, asgs, tupOf, decide_true, decide_false, ite_true, ite_false, oAdd_int, oSub_int, oLt_int, oLe_int, oGt_int, oGe_int, oEq_int, oNe_int, oEq_str, atI_0, atI_1, atI_2, atI_3, atI_4, ixN51, ixN52, ixN53, ixN54, gInt, gAbs, gMin, gMax, oIx_tup, oIx_lst, oIx_con, seqOf_tup, seqOf_lst, List.length_set, b_law_way, eCall, e1, e2, e3, eTup, sl]
  exact gc_put rfl (okC_pool _ P3)
theorem okDs_ways (k : Nat) (ws : List Way) : okDs k (ws.map wayD) = true := by
  induction ws with
  | nil => rfl
  | cons w ws ih => simp only [List.map_cons, okDs, wayD, okD, ih, Bool.and_self]
theorem okD_net (k : Nat) (N : Net) : okD k (netD N) = true := by simp only [netD, okD, okDs, okDs_ways, Bool.and_self]
end Ev

namespace Ev
open PySem PySem.Spec PyProof.Rows L2
theorem draw1 {T : Sto} {P : Pool} {n : Int} (h0 : 0 ≤ P.pos) (hn : 0 < n) (hn2 : n < 1073741824) :
    ∃ r P', 0 ≤ r ∧ r < n ∧ 0 ≤ P'.pos ∧ f_law_draw [.loc 0, .int n] (poolC P :: T) = .ok (.int r) (poolC P' :: T) := by
  obtain ⟨r, P', a, b, c, d⟩ := draw_spec (S := poolC P :: T) (p := 0) rfl h0 hn hn2
  exact ⟨r, P', a, b, c, d⟩
theorem cost1 {T : Sto} {P : Pool} (h0 : 0 ≤ P.pos) : ∃ (c : Nat) (P' : Pool), 1 ≤ c ∧ c ≤ 10000 ∧ 0 ≤ P'.pos ∧ f_law_cost [.loc 0] (poolC P :: T) = .ok (.int c) (poolC P' :: T) := by
  obtain ⟨c, a, b, P', d, e⟩ := cost_spec (S := poolC P :: T) (p := 0) rfl h0
  exact ⟨c, P', a, b, d, e⟩
theorem way1 {T : Sto} {P : Pool} {n : Nat} (h0 : 0 ≤ P.pos) (hn : 2 ≤ n) (hn2 : n ≤ 1000) : ∃ (w : Way) (P' : Pool), w.Ok n ∧ 0 ≤ P'.pos ∧ f_law_way [.loc 0, .int n] (poolC P :: T) = .ok (wayD w) (poolC P' :: T) := by
  obtain ⟨w, a, P', d, e⟩ := way_spec (S := poolC P :: T) (p := 0) rfl h0 hn hn2
  exact ⟨w, P', a, d, e⟩
theorem pick1 {T : Sto} {P : Pool} {ds : List D} (h0 : 0 ≤ P.pos) (hn : 0 < ds.length) (hn2 : ds.length < 1073741824) (hok : okDs (T.length + 1) ds = true) :
    ∃ (v : D) (P' : Pool), v ∈ ds ∧ 0 ≤ P'.pos ∧ f_law_pick [.loc 0, .lst ds] (poolC P :: T) = .ok v (poolC P' :: T) := by
  obtain ⟨v, a, P', d, e⟩ := pick_spec (S := poolC P :: T) (p := 0) rfl h0 hn hn2 (by simpa using hok)
  exact ⟨v, P', a, d, e⟩
def netEnv (most W n : Nat) (x5 x6 : Option D) : En := [some (.loc 0), some (.int most), some (.int W), some (.int n), some (.loc 1), x5, x6]
def NetI (most W n : Nat) (ρ : En) (S : Sto) (fs : List Way) : Prop := ∃ (P : Pool) (x5 x6 : Option D), 0 ≤ P.pos ∧ ρ = netEnv most W n x5 x6 ∧ S = [poolC P, .lst (fs.map wayD)] ∧ ∀ w ∈ fs, w.Ok n
theorem sizeLine_lt {n : Nat} (h : n ≤ 1000) : n < sizeLine := by rw [sizeLine_eq]; omega
theorem loopTree {most W n : Nat} (hn : 2 ≤ n) (hn2 : n ≤ 12) {P : Pool} (h0 : 0 ≤ P.pos) {x5 x6 : Option D} :
    ∃ ρ' S' fs, forGo ⟨rngD 1 (n - 1), none⟩ (.nm 5) (sExpr (eLm mAppend (eVar 4) (aCons (eTup (aCons (eCall 2 f_law_draw (aCons (eVar 0) (aCons (eVar 5) aNil))) (aCons (eVar 5) (aCons (eCall 1 f_law_cost (aCons (eVar 0) aNil)) aNil)))) aNil)))
      (rngD 1 (n - 1)) (netEnv most W n x5 x6) [poolC P, .lst []] = .nx ρ' S' ∧ NetI most W n ρ' S' fs ∧ fs.length = n - 1 := by
  have key := forGo_v (items := rngD 1 (n - 1)) (tg := .nm 5) (b := (sExpr (eLm mAppend (eVar 4) (aCons (eTup (aCons (eCall 2 f_law_draw (aCons (eVar 0) (aCons (eVar 5) aNil))) (aCons (eVar 5) (aCons (eCall 1 f_law_cost (aCons (eVar 0) aNil)) aNil)))) aNil))))
    (fun j ρ S => ∃ fs, NetI most W n ρ S fs ∧ fs.length = j) (ρ := netEnv most W n x5 x6) (S := [poolC P, .lst []]) ⟨[], ⟨P, x5, x6, h0, rfl, rfl, by simp⟩, rfl⟩ (by
    rintro j d ρ S hd ⟨fs, ⟨P, y5, y6, p0, rfl, rfl, hf⟩, hl⟩
    obtain ⟨hj, rfl⟩ := rngD_get hd
    obtain ⟨r, P1, r0, r1, p1, e1⟩ := draw1 (T := [.lst (fs.map wayD)]) (n := 1 + (j : Int)) p0 (by omega) (by omega)
    obtain ⟨c, P2, c1, c2, p2, e2⟩ := cost1 (T := [.lst (fs.map wayD)]) p1
    have sl : (3 : Nat) ≤ sizeLine := sizeLine_ok (by decide)
    have sl2 : (fs.map wayD).length < sizeLine := sizeLine_lt (by simp; omega)
    refine ⟨_, netEnv most W n (some (.int (1 + (j : Int)))) y6, [poolC P2, .lst ((fs ++ [(⟨r.toNat, j + 1, c⟩ : Way)]).map wayD)], rfl, .inl ?_, fs ++ [(⟨r.toNat, j + 1, c⟩ : Way)], ?_, by simp [hl]⟩
    · unfold netEnv
      simp only [eVar, eC, eBin, bBin, bVal, bAnd, bOr, bNot, eAnd, eOr, eNot, eIf, eNeg, eOrT, liftO_some, liftB_bl, liftG_some, liftP_some, R.bind, R.nox_ok, sB, aNil, aCons, sSeq, sSet, sIf, sRet, sRetN, sNext, sExpr, sAsg, sSub, sBrk, sCnt, eCb, pure1, eIsi, bYes, pNone, pSome, List.getElem?_cons_zero, List.getElem?_cons_succ, List.set_cons_zero, List.set_cons_succ, Option.map_some, Option.bind_some, List.map_cons, List.map_nil, List.length_cons, List.length_nil, List.nil_append, List.cons_append, List.replicate_succ, List.replicate_zero, Nat.reduceSub, Nat.reduceAdd, Nat.add_eq, Nat.zero_add, if_true, if_false, reduceIte, Bool.false_eq_true, Bool.not_true, Bool.not_false, Tg.asg, asgs, tupOf, decide_true, decide_false, ite_true, ite_false, oAdd_int, oSub_int, oLt_int, oLe_int, oGt_int, oGe_int, oEq_int, oNe_int, oEq_str, atI_0, atI_1, atI_2, atI_3, atI_4, ixN51, ixN52, ixN53, ixN54, gInt, gAbs, gMin, gMax, oIx_tup, oIx_lst, oIx_con, seqOf_tup, seqOf_lst, List.length_set, eLm, isLst, lstOf, lstX, Option.isSome_some, eCall, e1, e2, eTup, sl, mAppend, sl2]
      simp only [List.map_append, List.map_cons, List.map_nil, wayD]
      rw [Int.toNat_of_nonneg r0, show (1 + (j : Int)) = ((j + 1 : Nat) : Int) by omega]
    · refine ⟨P2, _, _, p2, rfl, rfl, fun w hw => ?_⟩
      rcases List.mem_append.mp hw with z | z
      · exact hf w z
      · have : w = ⟨r.toNat, j + 1, c⟩ := by simpa using z
        subst this
        exact ⟨by show r.toNat < j + 1; omega, by show j + 1 < n; omega, c1, c2⟩)
  obtain ⟨ρ', S', h1, fs, h2, h3⟩ := key
  exact ⟨ρ', S', fs, h1, h2, by simpa using h3⟩

theorem loopMore {most W n k : Nat} (hn : 2 ≤ n) (hn2 : n ≤ 12) {ρ : En} {S : Sto} {fs : List Way} (h : NetI most W n ρ S fs) (hk : fs.length + k ≤ 500) :
    ∃ ρ' S' fs', forGo ⟨rngD 0 k, none⟩ (.nm 6) (sExpr (eLm mInsert (eVar 4) (aCons (eCall 2 f_law_draw (aCons (eVar 0) (aCons (eBin oAdd (eCb (pure1 gLen) (aCons (eVar 4) aNil)) (eC (.int 1))) aNil))) (aCons (eCall 2 f_law_way (aCons (eVar 0) (aCons (eVar 3) aNil))) aNil))))
      (rngD 0 k) ρ S = .nx ρ' S' ∧ NetI most W n ρ' S' fs' ∧ fs'.length = fs.length + k := by
  have key := forGo_v (items := rngD 0 k) (tg := .nm 6) (b := (sExpr (eLm mInsert (eVar 4) (aCons (eCall 2 f_law_draw (aCons (eVar 0) (aCons (eBin oAdd (eCb (pure1 gLen) (aCons (eVar 4) aNil)) (eC (.int 1))) aNil))) (aCons (eCall 2 f_law_way (aCons (eVar 0) (aCons (eVar 3) aNil))) aNil)))))
    (fun j ρ S => ∃ fs', NetI most W n ρ S fs' ∧ fs'.length = fs.length + j ∧ j ≤ k) (ρ := ρ) (S := S) ⟨fs, h, rfl, Nat.zero_le _⟩ (by
    rintro j d ρ S hd ⟨fs, ⟨P, y5, y6, p0, rfl, rfl, hf⟩, hl, hjk⟩
    obtain ⟨hj, rfl⟩ := rngD_get hd
    obtain ⟨r, P1, r0, r1, p1, e1⟩ := draw1 (T := [.lst (fs.map wayD)]) (n := (fs.length : Int) + 1) p0 (by omega) (by omega)
    obtain ⟨wy, P2, c1, p2, e2⟩ := way1 (T := [.lst (fs.map wayD)]) (n := n) p1 hn (by omega)
    have sl2 : (fs.map wayD).length < sizeLine ∧ 0 ≤ r ∧ r < 2 ^ 63 := ⟨sizeLine_lt (by simp; omega), r0, by omega⟩
    refine ⟨_, netEnv most W n y5 (some (.int (0 + (j : Int)))), [poolC P2, .lst ((fs.take r.toNat ++ [wy] ++ fs.drop r.toNat).map wayD)], rfl, .inl ?_, fs.take r.toNat ++ [wy] ++ fs.drop r.toNat, ?_, by simp; omega, hj⟩
    · unfold netEnv
      simp only [eVar, eC, eBin, bBin, bVal, bAnd, bOr, bNot, eAnd, eOr, eNot, eIf, eNeg, eOrT, liftO_some, liftB_bl, liftG_some, liftP_some, R.bind, R.nox_ok, sB, aNil, aCons, sSeq, sSet, sIf, sRet, sRetN, sNext, sExpr, sAsg, sSub, sBrk, sCnt, eCb, pure1, eIsi, bYes, pNone, pSome, List.getElem?_cons_zero, List.getElem?_cons_succ, List.set_cons_zero, List.set_cons_succ, Option.map_some, Option.bind_some, List.map_cons, List.map_nil, List.length_cons, List.length_nil, List.nil_append, List.cons_append, List.replicate_succ, List.replicate_zero, Nat.reduceSub, Nat.reduceAdd, Nat.add_eq, Nat.zero_add, if_true, if_false, reduceIte, Bool.false_eq_true, Bool.not_true, Bool.not_false, Tg.asg, asgs, tupOf, decide_true, decide_false, ite_true, ite_false, oAdd_int, oSub_int, oLt_int, oLe_int, oGt_int, oGe_int, oEq_int, oNe_int, oEq_str, atI_0, atI_1, atI_2, atI_3, atI_4, ixN51, ixN52, ixN53, ixN54, gInt, gAbs, gMin, gMax, oIx_tup, oIx_lst, oIx_con, seqOf_tup, seqOf_lst, List.length_set, eLm, isLst, lstOf, lstX, Option.isSome_some, eCall, gLen_seq (seqOf_loc (S := [poolC P, .lst (fs.map wayD)]) (n := 1) rfl), List.length_map, e1, e2, mInsert]
      rw [List.length_map] at sl2
      rw [if_pos sl2]
      simp only [List.map_append, List.map_cons, List.map_nil, List.map_take, List.map_drop]
      rfl
    · refine ⟨P2, _, _, p2, rfl, rfl, fun w hw => ?_⟩
      rcases List.mem_append.mp hw with z | z
      · rcases List.mem_append.mp z with z | z
        · exact hf w (List.mem_of_mem_take z)
        · have : w = wy := by simpa using z
          subst this
          exact c1
      · exact hf w (List.mem_of_mem_drop z))
  obtain ⟨ρ', S', h1, fs', h2, h3⟩ := key
  exact ⟨ρ', S', fs', h1, h2, by simpa using h3.1⟩

theorem net_fin {most W n : Nat} (n1 : 1 ≤ n) (n2 : n ≤ most) : ∀ (ρ : En) (S : Sto) (fs : List Way), NetI most W n ρ S fs → ∃ (N : Net) (P' : Pool), N.Ok most W ∧ 0 ≤ P'.pos ∧ ∃ T, sRet (eTup (aCons (eVar 3) (aCons (eCb (pure1 gTuple) (aCons (eSl false (eVar 4) pNone (pSome (eVar 2))) aNil)) aNil))) ρ S = .rt (netD N) ([poolC P'] ++ T) := by
  rintro ρ S fs ⟨P, y5, y6, q0, rfl, rfl, hf⟩
  have sl : (2 : Nat) ≤ sizeLine := sizeLine_ok (by decide)
  have hcut : cutD (fs.map wayD) none (some (W : Int)) = (fs.take W).map wayD := by
    unfold cutD
    rw [HT.sIx_none, show HT.sIx (fs.map wayD).length (fs.map wayD).length (some (W : Int)) = min W (fs.map wayD).length from HT.sIx_nat _ _ _, List.drop_zero, Nat.sub_zero, List.map_take]
    exact (List.take_eq_take_min).symm
  refine ⟨⟨n, fs.take W⟩, P, ⟨n1, n2, by simp; omega, fun w hw => hf w (List.mem_of_mem_take hw)⟩, q0, [.lst (fs.map wayD)], ?_⟩
  unfold netEnv
  simp only [eVar, eC, eBin, bBin, bVal, bAnd, bOr, bNot, eAnd, eOr, eNot, eIf, eNeg, eOrT, liftO_some, liftB_bl, liftG_some, liftP_some, R.bind, R.nox_ok, sB, aNil, aCons, sSeq, sSet, sIf, sRet, sRetN, sNext, sExpr, sAsg, sSub, sBrk, sCnt, eCb, pure1, eIsi, bYes, pNone, pSome, List.getElem?_cons_zero, List.getElem?_cons_succ, List.set_cons_zero, List.set_cons_succ, Option.map_some, Option.bind_some, List.map_cons, List.map_nil, List.length_cons, List.length_nil, List.nil_append, List.cons_append, List.replicate_succ, List.replicate_zero, Nat.reduceSub, Nat.reduceAdd, Nat.add_eq, Nat.zero_add, if_true, if_false, reduceIte, Bool.false_eq_true, Bool.not_true, Bool.not_false, Tg.asg, asgs, tupOf, decide_true, decide_false, ite_true, ite_false, oAdd_int, oSub_int, oLt_int, oLe_int, oGt_int, oGe_int, oEq_int, oNe_int, oEq_str, atI_0, atI_1, atI_2, atI_3, atI_4, ixN51, ixN52, ixN53, ixN54, gInt, gAbs, gMin, gMax, oIx_tup, oIx_lst, oIx_con, seqOf_tup, seqOf_lst, List.length_set, eSl, oSl, lstOf, lstX, hcut, gTuple, eTup, sl]
  rfl
theorem net_tail {most W n : Nat} (hm2 : most ≤ 12) (hW : W ≤ 24) (n1 : 1 ≤ n) (n2 : n ≤ most) : ∀ (P : Pool) (x5 x6 : Option D) (fs : List Way), 0 ≤ P.pos → (∀ w ∈ fs, w.Ok n) → fs.length ≤ 12 → (n < 2 → fs = []) →
      ∃ (N : Net) (P' : Pool), N.Ok most W ∧ 0 ≤ P'.pos ∧ ∃ T, (sSeq (sIf (bBin oGt (eVar 3) (eC (.int 1))) (sFor (iRng1D (aCons (eCall 2 f_law_draw (aCons (eVar 0) (aCons (eBin oSub (eBin oAdd (eVar 2) (eC (.int 1))) (eCb (pure1 gMin) (aCons (eVar 2) (aCons (eCb (pure1 gLen) (aCons (eVar 4) aNil)) aNil)))) aNil))) aNil)) (.nm 6) (sExpr (eLm mInsert (eVar 4) (aCons (eCall 2 f_law_draw (aCons (eVar 0) (aCons (eBin oAdd (eCb (pure1 gLen) (aCons (eVar 4) aNil)) (eC (.int 1))) aNil))) (aCons (eCall 2 f_law_way (aCons (eVar 0) (aCons (eVar 3) aNil))) aNil))))) sNext)
    (sRet (eTup (aCons (eVar 3) (aCons (eCb (pure1 gTuple) (aCons (eSl false (eVar 4) pNone (pSome (eVar 2))) aNil)) aNil))))) (netEnv most W n x5 x6) [poolC P, .lst (fs.map wayD)] = .rt (netD N) ([poolC P'] ++ T) := by
  intro P x5 x6 fs p0 hf hl12 hnil
  have fin := net_fin (most := most) (W := W) n1 n2
  by_cases h2 : n < 2
  · have := hnil h2
    subst this
    obtain ⟨N, P', a, b, T, e⟩ := fin _ _ [] ⟨P, x5, x6, p0, rfl, rfl, by simp⟩
    refine ⟨N, P', a, b, T, ?_⟩
    rw [← e]
    have hng : ¬ (1 : Int) < n := by omega
    unfold netEnv
    simp only [eVar, eC, eBin, bBin, bVal, bAnd, bOr, bNot, eAnd, eOr, eNot, eIf, eNeg, eOrT, liftO_some, liftB_bl, liftG_some, liftP_some, R.bind, R.nox_ok, sB, aNil, aCons, sSeq, sSet, sIf, sRet, sRetN, sNext, sExpr, sAsg, sSub, sBrk, sCnt, eCb, pure1, eIsi, bYes, pNone, pSome, List.getElem?_cons_zero, List.getElem?_cons_succ, List.set_cons_zero, List.set_cons_succ, Option.map_some, Option.bind_some, List.map_cons, List.map_nil, List.length_cons, List.length_nil, List.nil_append, List.cons_append, List.replicate_succ, List.replicate_zero, Nat.reduceSub, Nat.reduceAdd, Nat.add_eq, Nat.zero_add, if_true, if_false, reduceIte, Bool.false_eq_true, Bool.not_true, Bool.not_false, Tg.asg, asgs, tupOf, decide_true, decide_false, ite_true, ite_false, oAdd_int, oSub_int, oLt_int, oLe_int, oGt_int, oGe_int, oEq_int, oNe_int, oEq_str, atI_0, atI_1, atI_2, atI_3, atI_4, ixN51, ixN52, ixN53, ixN54, gInt, gAbs, gMin, gMax, oIx_tup, oIx_lst, oIx_con, seqOf_tup, seqOf_lst, List.length_set, hng]
  · have hg : (1 : Int) < n := by omega
    obtain ⟨k, P2, k0, k1, p2, e2⟩ := draw1 (T := [.lst (fs.map wayD)]) (n := (W : Int) + 1 - (if (fs.length : Int) < W then (fs.length : Int) else W)) p0 (by split <;> omega) (by split <;> omega)
    obtain ⟨ρ', S', fs', g1, g2, g3⟩ := loopMore (most := most) (W := W) (k := k.toNat) (by omega) (by omega) ⟨P2, x5, x6, p2, rfl, rfl, hf⟩ (by split at k1 <;> omega)
    obtain ⟨N, P', a, b, T, e⟩ := fin _ _ fs' g2
    refine ⟨N, P', a, b, T, ?_⟩
    rw [← e]
    have hb : big62 k = true := decide_eq_true (by split at k1 <;> omega)
    unfold netEnv at g1 ⊢
    have hlen := gLen_seq (seqOf_loc (S := [poolC P, .lst (fs.map wayD)]) (n := 1) rfl)
    rw [List.length_map] at hlen
    simp only [eVar, eC, eBin, bBin, bVal, bAnd, bOr, bNot, eAnd, eOr, eNot, eIf, eNeg, eOrT, liftO_some, liftB_bl, liftG_some, liftP_some, R.bind, R.nox_ok, sB, aNil, aCons, sSeq, sSet, sIf, sRet, sRetN, sNext, sExpr, sAsg, sSub, sBrk, sCnt, eCb, pure1, eIsi, bYes, pNone, pSome, List.getElem?_cons_zero, List.getElem?_cons_succ, List.set_cons_zero, List.set_cons_succ, Option.map_some, Option.bind_some, List.map_cons, List.map_nil, List.length_cons, List.length_nil, List.nil_append, List.cons_append, List.replicate_succ, List.replicate_zero, Nat.reduceSub, Nat.reduceAdd, Nat.add_eq, Nat.zero_add, if_true, if_false, reduceIte, Bool.false_eq_true, Bool.not_true, Bool.not_false, Tg.asg, asgs, tupOf, decide_true, decide_false, ite_true, ite_false, oAdd_int, oSub_int, oLt_int, oLe_int, oGt_int, oGe_int, oEq_int, oNe_int, oEq_str, atI_0, atI_1, atI_2, atI_3, atI_4, ixN51, ixN52, ixN53, ixN54, gInt, gAbs, gMin, gMax, oIx_tup, oIx_lst, oIx_con, seqOf_tup, seqOf_lst, List.length_set, hg, sFor, iRng1D, eCall, hlen, e2, hb, g1]
end Ev

namespace Ev
open PySem PySem.Spec PyProof.Rows L2
theorem net_gc (P : Pool) (N : Net) (P' : Pool) (T : Sto) : gc [poolC P] (netD N) ([poolC P'] ++ T) = .ok (netD N) [poolC P'] := gc_put_app (S := [poolC P]) (p := 0) (c := poolC P') (T := T) (okD_net _ N) (okC_pool _ P')
theorem net_s1 {most W n : Nat} {P P1 : Pool} {r : Int} (hn : (n : Int) = 1 + r) (e1 : f_law_draw [.loc 0, .int most] [poolC P] = .ok (.int r) [poolC P1]) : (sSet 3 (eBin oAdd (eC (.int 1)) (eCall 2 f_law_draw (aCons (eVar 0) (aCons (eVar 1) aNil))))) [some (.loc 0), some (.int most), some (.int W), none, none, none, none] [poolC P] = .nx [some (.loc 0), some (.int most), some (.int W), some (.int n), none, none, none] [poolC P1] := by
    simp only [eVar, eC, eBin, bBin, bVal, bAnd, bOr, bNot, eAnd, eOr, eNot, eIf, eNeg, eOrT, liftO_some, liftB_bl, liftG_some, liftP_some, R.bind, R.nox_ok, sB, aNil, aCons, sSeq, sSet, sIf, sRet, sRetN, sNext, sExpr, sAsg, sSub, sBrk, sCnt, eCb, pure1, eIsi, bYes, pNone, pSome, List.getElem?_cons_zero, List.getElem?_cons_succ, List.set_cons_zero, List.set_cons_succ, Option.map_some, Option.bind_some, List.map_cons, List.map_nil, List.length_cons, List.length_nil, List.nil_append, List.cons_append, List.replicate_succ, List.replicate_zero, Nat.reduceSub, Nat.reduceAdd, Nat.add_eq, Nat.zero_add, if_true, if_false, reduceIte, Bool.false_eq_true, Bool.not_true, Bool.not_false, Tg.asg, asgs, tupOf, decide_true, decide_false, ite_true, ite_false, oAdd_int, oSub_int, oLt_int, oLe_int, oGt_int, oGe_int, oEq_int, oNe_int, oEq_str, atI_0, atI_1, atI_2, atI_3, atI_4, ixN51, ixN52, ixN53, ixN54, gInt, gAbs, gMin, gMax, oIx_tup, oIx_lst, oIx_con, seqOf_tup, seqOf_lst, List.length_set, eCall, e1]
    rw [hn]
theorem net_s2 {most W n : Nat} {P1 : Pool} : (sSet 4 (eLstA aNil)) [some (.loc 0), some (.int most), some (.int W), some (.int n), none, none, none] [poolC P1] = .nx (netEnv most W n none none) [poolC P1, .lst []] := by
    unfold netEnv
    simp only [eVar, eC, eBin, bBin, bVal, bAnd, bOr, bNot, eAnd, eOr, eNot, eIf, eNeg, eOrT, liftO_some, liftB_bl, liftG_some, liftP_some, R.bind, R.nox_ok, sB, aNil, aCons, sSeq, sSet, sIf, sRet, sRetN, sNext, sExpr, sAsg, sSub, sBrk, sCnt, eCb, pure1, eIsi, bYes, pNone, pSome, List.getElem?_cons_zero, List.getElem?_cons_succ, List.set_cons_zero, List.set_cons_succ, Option.map_some, Option.bind_some, List.map_cons, List.map_nil, List.length_cons, List.length_nil, List.nil_append, List.cons_append, List.replicate_succ, List.replicate_zero, Nat.reduceSub, Nat.reduceAdd, Nat.add_eq, Nat.zero_add, if_true, if_false, reduceIte, Bool.false_eq_true, Bool.not_true, Bool.not_false, Tg.asg, asgs, tupOf, decide_true, decide_false, ite_true, ite_false, oAdd_int, oSub_int, oLt_int, oLe_int, oGt_int, oGe_int, oEq_int, oNe_int, oEq_str, atI_0, atI_1, atI_2, atI_3, atI_4, ixN51, ixN52, ixN53, ixN54, gInt, gAbs, gMin, gMax, oIx_tup, oIx_lst, oIx_con, seqOf_tup, seqOf_lst, List.length_set, eLstA, Nat.zero_le]
theorem net_s3a {most W n : Nat} {P1 : Pool} (hng : ¬ (1 : Int) < n) (g : SF) : (sIf (bAnd (bBin oGt (eVar 3) (eC (.int 1))) (bBin oGt (eCall 2 f_law_draw (aCons (eVar 0) (aCons (eC (.int 5)) aNil))) (eC (.int 0)))) g sNext) (netEnv most W n none none) [poolC P1, .lst []] = .nx (netEnv most W n none none) [poolC P1, .lst []] := by
      unfold netEnv
      simp only [eVar, eC, eBin, bBin, bVal, bAnd, bOr, bNot, eAnd, eOr, eNot, eIf, eNeg, eOrT, liftO_some, liftB_bl, liftG_some, liftP_some, R.bind, R.nox_ok, sB, aNil, aCons, sSeq, sSet, sIf, sRet, sRetN, sNext, sExpr, sAsg, sSub, sBrk, sCnt, eCb, pure1, eIsi, bYes, pNone, pSome, List.getElem?_cons_zero, List.getElem?_cons_succ, List.set_cons_zero, List.set_cons_succ, Option.map_some, Option.bind_some, List.map_cons, List.map_nil, List.length_cons, List.length_nil, List.nil_append, List.cons_append, List.replicate_succ, List.replicate_zero, Nat.reduceSub, Nat.reduceAdd, Nat.add_eq, Nat.zero_add, if_true, if_false, reduceIte, Bool.false_eq_true, Bool.not_true, Bool.not_false, Tg.asg, asgs, tupOf, decide_true, decide_false, ite_true, ite_false, oAdd_int, oSub_int, oLt_int, oLe_int, oGt_int, oGe_int, oEq_int, oNe_int, oEq_str, atI_0, atI_1, atI_2, atI_3, atI_4, ixN51, ixN52, ixN53, ixN54, gInt, gAbs, gMin, gMax, oIx_tup, oIx_lst, oIx_con, seqOf_tup, seqOf_lst, List.length_set, hng]
theorem net_s3b {most W n : Nat} {P1 P2 : Pool} {q : Int} (hg : (1 : Int) < n) (e2 : f_law_draw [.loc 0, .int 5] [poolC P1, .lst []] = .ok (.int q) [poolC P2, .lst []]) (hq : ¬ 0 < q) (g : SF) : (sIf (bAnd (bBin oGt (eVar 3) (eC (.int 1))) (bBin oGt (eCall 2 f_law_draw (aCons (eVar 0) (aCons (eC (.int 5)) aNil))) (eC (.int 0)))) g sNext) (netEnv most W n none none) [poolC P1, .lst []] = .nx (netEnv most W n none none) [poolC P2, .lst []] := by
        unfold netEnv
        simp only [eVar, eC, eBin, bBin, bVal, bAnd, bOr, bNot, eAnd, eOr, eNot, eIf, eNeg, eOrT, liftO_some, liftB_bl, liftG_some, liftP_some, R.bind, R.nox_ok, sB, aNil, aCons, sSeq, sSet, sIf, sRet, sRetN, sNext, sExpr, sAsg, sSub, sBrk, sCnt, eCb, pure1, eIsi, bYes, pNone, pSome, List.getElem?_cons_zero, List.getElem?_cons_succ, List.set_cons_zero, List.set_cons_succ, Option.map_some, Option.bind_some, List.map_cons, List.map_nil, List.length_cons, List.length_nil, List.nil_append, List.cons_append, List.replicate_succ, List.replicate_zero, Nat.reduceSub, Nat.reduceAdd, Nat.add_eq, Nat.zero_add, if_true, if_false, reduceIte, Bool.false_eq_true, Bool.not_true, Bool.not_false, Tg.asg, asgs, tupOf, decide_true, decide_false, ite_true, ite_false, oAdd_int, oSub_int, oLt_int, oLe_int, oGt_int, oGe_int, oEq_int, oNe_int, oEq_str, atI_0, atI_1, atI_2, atI_3, atI_4, ixN51, ixN52, ixN53, ixN54, gInt, gAbs, gMin, gMax, oIx_tup, oIx_lst, oIx_con, seqOf_tup, seqOf_lst, List.length_set, hg, eCall, e2, hq]
theorem net_s3c {most W n : Nat} {P1 P2 P3 : Pool} {x5 x6 : Option D} {fs : List Way} {q : Int} (hg : (1 : Int) < n) (hn2 : n ≤ 12) (e2 : f_law_draw [.loc 0, .int 5] [poolC P1, .lst []] = .ok (.int q) [poolC P2, .lst []]) (hq : 0 < q)
    (g1 : forGo ⟨rngD 1 (n - 1), none⟩ (.nm 5) (sExpr (eLm mAppend (eVar 4) (aCons (eTup (aCons (eCall 2 f_law_draw (aCons (eVar 0) (aCons (eVar 5) aNil))) (aCons (eVar 5) (aCons (eCall 1 f_law_cost (aCons (eVar 0) aNil)) aNil)))) aNil)))
      (rngD 1 (n - 1)) (netEnv most W n none none) [poolC P2, .lst []] = .nx (netEnv most W n x5 x6) [poolC P3, .lst (fs.map wayD)]) :
    (sIf (bAnd (bBin oGt (eVar 3) (eC (.int 1))) (bBin oGt (eCall 2 f_law_draw (aCons (eVar 0) (aCons (eC (.int 5)) aNil))) (eC (.int 0)))) (sFor (iRng2D (aCons (eC (.int 1)) (aCons (eVar 3) aNil))) (.nm 5) (sExpr (eLm mAppend (eVar 4) (aCons (eTup (aCons (eCall 2 f_law_draw (aCons (eVar 0) (aCons (eVar 5) aNil))) (aCons (eVar 5) (aCons (eCall 1 f_law_cost (aCons (eVar 0) aNil)) aNil)))) aNil)))) sNext) (netEnv most W n none none) [poolC P1, .lst []] = .nx (netEnv most W n x5 x6) [poolC P3, .lst (fs.map wayD)] := by
  have hit : ∀ S, iRng2D (aCons (eC (.int 1)) (aCons (eVar 3) aNil)) (netEnv most W n none none) S = .ok ⟨rngD 1 (n - 1), none⟩ S := by
    intro S
    have := iRng2D_ok (fa := (aCons (eC (.int 1)) (aCons (eVar 3) aNil))) (ρ := netEnv most W n none none) (S := S) (S1 := S) (i := 1) (j := n) rfl ⟨by omega, by omega⟩ ⟨by omega, by omega⟩
    rw [this, show ((n : Int) - 1).toNat = n - 1 by omega]
  have hc : (bAnd (bBin oGt (eVar 3) (eC (.int 1))) (bBin oGt (eCall 2 f_law_draw (aCons (eVar 0) (aCons (eC (.int 5)) aNil))) (eC (.int 0)))) (netEnv most W n none none) [poolC P1, .lst []] = .ok true [poolC P2, .lst []] := by
    unfold netEnv
    simp only [eVar, eC, eBin, bBin, bVal, bAnd, bOr, bNot, eAnd, eOr, eNot, eIf, eNeg, eOrT, liftO_some, liftB_bl, liftG_some, liftP_some, R.bind, R.nox_ok, sB, aNil, aCons, sSeq, sSet, sIf, sRet, sRetN, sNext, sExpr, sAsg, sSub, sBrk, sCnt, eCb, pure1, eIsi, bYes, pNone, pSome, List.getElem?_cons_zero, List.getElem?_cons_succ, List.set_cons_zero, List.set_cons_succ, Option.map_some, Option.bind_some, List.map_cons, List.map_nil, List.length_cons, List.length_nil, List.nil_append, List.cons_append, List.replicate_succ, List.replicate_zero, Nat.reduceSub, Nat.reduceAdd, Nat.add_eq, Nat.zero_add, if_true, if_false, reduceIte, Bool.false_eq_true, Bool.not_true, Bool.not_false, Tg.asg, asgs, tupOf, decide_true, decide_false, ite_true, ite_false, oAdd_int, oSub_int, oLt_int, oLe_int, oGt_int, oGe_int, oEq_int, oNe_int, oEq_str, atI_0, atI_1, atI_2, atI_3, atI_4, ixN51, ixN52, ixN53, ixN54, gInt, gAbs, gMin, gMax, oIx_tup, oIx_lst, oIx_con, seqOf_tup, seqOf_lst, List.length_set, hg, eCall, e2, hq]
  rw [sIf_t hc]
  exact sFor_ok (hit _) g1

theorem net_spec {most W : Nat} (hm : 1 ≤ most) (hm2 : most ≤ 12) (hW : W ≤ 24) {P : Pool} (h0 : 0 ≤ P.pos) :
    ∃ (N : Net) (P' : Pool), N.Ok most W ∧ 0 ≤ P'.pos ∧ f_law_net [.loc 0, .int most, .int W] [poolC P] = .ok (netD N) [poolC P'] := by
  obtain ⟨r, P1, r0, r1, p1, e1⟩ := draw1 (T := []) (n := (most : Int)) h0 (by omega) (by omega)
  obtain ⟨n, hn⟩ : ∃ n : Nat, (n : Int) = 1 + r := ⟨(1 + r).toNat, by omega⟩
  have n1 : 1 ≤ n := by omega
  have n2 : n ≤ most := by omega
  have tail := net_tail (most := most) (W := W) hm2 hW n1 n2
  have h : ∃ (N : Net) (P' : Pool), N.Ok most W ∧ 0 ≤ P'.pos ∧ ∃ T, b_law_net [some (.loc 0), some (.int most), some (.int W), none, none, none, none] [poolC P] = .rt (netD N) ([poolC P'] ++ T) := by
    unfold b_law_net
    rw [sSeq_nx (net_s1 hn e1), sSeq_nx net_s2]
    by_cases h2 : n < 2
    · have hng : ¬ (1 : Int) < n := by omega
      rw [sSeq_nx (net_s3a hng _)]
      exact tail P1 none none [] p1 (by simp) (by simp) (fun _ => rfl)
    · have hg : (1 : Int) < n := by omega
      obtain ⟨q, P2, q0, q1, p2, e2⟩ := draw1 (T := [.lst []]) (n := 5) p1 (by omega) (by omega)
      by_cases hq : 0 < q
      · obtain ⟨ρ', S', fs, g1, ⟨P3, x5, x6, p3, hρ, hS, hf⟩, g3⟩ := loopTree (most := most) (W := W) (n := n) (by omega) (by omega) p2 (x5 := none) (x6 := none)
        subst hρ hS
        rw [sSeq_nx (net_s3c hg (by omega) e2 hq g1)]
        exact tail P3 x5 x6 fs p3 hf (by omega) (fun z => absurd z h2)
      · rw [sSeq_nx (net_s3b hg e2 hq _)]
        exact tail P2 none none [] p2 (by simp) (by simp) (fun _ => rfl)
  obtain ⟨N, P', a, b, T, e⟩ := h
  refine ⟨N, P', a, b, ?_⟩
  unfold f_law_net runF
  simp only [List.map_cons, List.map_nil, List.length_cons, List.length_nil, Nat.reduceAdd, Nat.reduceSub, Nat.zero_add, List.replicate_succ, List.replicate_zero, List.cons_append, List.nil_append, e]
  exact net_gc P N P' T
end Ev

namespace Ev
open PySem PySem.Spec PyProof.Rows L2
/-! ### a drawn choice, groups, price -/
def wayAt (N : Net) (k : Nat) : Way := N.ways.getD k ⟨0, 1, 1⟩
def edgeAt (N : Net) (k : Nat) : Edge := ((wayAt N k).a, (wayAt N k).b)
def edges (N : Net) (c : List Nat) : List Edge := c.map (edgeAt N)
def ChOk (N : Net) (c : List Nat) : Prop := c.length ≤ N.ways.length ∧ ∀ k ∈ c, k < N.ways.length
theorem ways_at {N : Net} {k : Nat} (h : k < N.ways.length) : N.ways[k]? = some (wayAt N k) := by
  unfold wayAt
  rw [List.getD_eq_getElem?_getD, List.getElem?_eq_getElem h]
  rfl
theorem wayAt_ok {N : Net} {most W k : Nat} (hN : N.Ok most W) (h : k < N.ways.length) : (wayAt N k).Ok N.n := hN.ways _ (List.mem_of_getElem? (ways_at h))
theorem edges_ok {N : Net} {most W : Nat} {c : List Nat} (hN : N.Ok most W) (hc : ChOk N c) : Eok N.n (edges N c) := by
  intro e he
  obtain ⟨k, hk, rfl⟩ := List.mem_map.mp he
  have := wayAt_ok hN (hc.2 k hk)
  exact ⟨Nat.lt_trans this.1 this.2.1, this.2.1⟩
/-- net[1][k] -/
theorem net_ix {N : Net} {k : Nat} {S : Sto} (h : k < N.ways.length) : oIx (.tup (N.ways.map wayD)) (.int k) S = some (wayD (wayAt N k)) := by
  rw [oIx_tup]
  refine atI_ok ?_
  rw [List.getElem?_map, ways_at h]
  rfl
theorem way_asg {a b c : Nat} {w : Way} {ρ : En} {S : Sto} : (Tg.tp [.nm a, .nm b, .nm c]).asg (wayD w) ρ S = some (((ρ.set a (some (.int w.a))).set b (some (.int w.b))).set c (some (.int w.c))) := by
  simp only [Tg.asg, asgs, tupOf, wayD, List.length_cons, List.length_nil, if_true, Nat.reduceAdd]
theorem take_get {α : Type} {xs : List α} {j : Nat} {x : α} (h : xs[j]? = some x) : xs.take (j + 1) = xs.take j ++ [x] := by
  rw [List.take_succ, h]; rfl
theorem put_stmt {ρ : En} {S : Sto} {F : List Nat} {a b i j : Nat} (hi : ρ[i]? = some (some (.int a))) (hj : ρ[j]? = some (some (.int b))) (h3 : ρ[3]? = some (some (.loc S.length))) (hl : F.length ≤ 1000) :
    (sIf (bAnd (bBin oIn (eVar i) (eVar 3)) (bBin oNotIn (eVar j) (eVar 3))) (sExpr (eLm mAppend (eVar 3) (aCons (eVar j) aNil))) sNext) ρ (S ++ [.lst (natD F)]) = .nx ρ (S ++ [.lst (natD (putF F a b))]) := by
  have hg : (S ++ [Cel.lst (natD F)])[S.length]? = some (.lst (natD F)) := get_app
  have t1 : (bBin oIn (eVar i) (eVar 3)) ρ (S ++ [.lst (natD F)]) = .ok (decide (a ∈ F)) (S ++ [.lst (natD F)]) := bBin_ok (eVar_ok hi) (eVar_ok h3) (oIn_nat (seqOf_loc hg))
  have t2 : (bBin oNotIn (eVar j) (eVar 3)) ρ (S ++ [.lst (natD F)]) = .ok (!decide (b ∈ F)) (S ++ [.lst (natD F)]) := bBin_ok (eVar_ok hj) (eVar_ok h3) (oNotIn_nat (seqOf_loc hg))
  have sl : (natD F).length < sizeLine := sizeLine_lt (by rw [natD_len]; exact hl)
  have t3 : sExpr (eLm mAppend (eVar 3) (aCons (eVar j) aNil)) ρ (S ++ [.lst (natD F)]) = .nx ρ (S ++ [.lst (natD (F ++ [b]))]) := by
    refine sExpr_ok (d := .non) (eLm_ok (eVar_ok h3) (isLst_loc hg) (aCons_ok (eVar_ok hj) aNil_ok) ?_)
    rw [mAppend_ok hg sl, set_app, natD_app]
    rfl
  unfold putF
  by_cases ha : a ∈ F
  · by_cases hb : b ∈ F
    · rw [if_neg (fun q => q.2 hb)]
      refine sIf_f ?_
      unfold bAnd
      simp only [t1, t2, ha, hb, decide_true, R.bind, if_true, Bool.not_true]
    · rw [if_pos ⟨ha, hb⟩, ← t3]
      refine sIf_t ?_
      unfold bAnd
      simp only [t1, t2, ha, hb, decide_true, decide_false, R.bind, if_true, Bool.not_false]
  · rw [if_neg (fun q => ha q.1)]
    refine sIf_f ?_
    unfold bAnd
    simp only [t1, ha, decide_false, R.bind, Bool.false_eq_true, if_false]
/-- a choice, as a tuple or as a list -/
def SeqC (cd : D) (c : List Nat) : Prop := cd = .tup (natD c) ∨ cd = .lst (natD c)
theorem iSeqD_c {cd : D} {c : List Nat} {fe : EF} {ρ : En} {S S1 : Sto} (hcd : SeqC cd c) (h : fe ρ S = .ok cd S1) : iSeqD fe ρ S = .ok ⟨natD c, none⟩ S1 := by
  rcases hcd with rfl | rfl
  · exact iSeqD_tup h
  · exact iSeqD_lst h
def gEnv (N : Net) (cd : D) (p k : Nat) (x4 x5 x6 x7 x8 : Option D) : En := [some (netD N), some cd, some (.int p), some (.loc k), x4, x5, x6, x7, x8]
theorem foldF_length_le {n p : Nat} {E : List Edge} (hE : Eok n E) (hp : p < n) (k : Nat) (G : List Edge) (hG : ∀ e ∈ G, e ∈ E) : (G.foldl stepF (roundsF E [p] k)).length ≤ n := by
  have h0 : FoundI n E p [p] := ⟨by simp, fun x hx => by have : x = p := by simpa using hx
                                                         rw [this]; exact ⟨hp, Con.refl _ _⟩, by simp⟩
  have h := FoundI.fold hE G _ hG (h0.rounds hE k)
  exact found_len h.nd fun x hx => (h.con x hx).1
theorem gInner {N : Net} {most W : Nat} {c : List Nat} {p k : Nat} {S : Sto} {cd : D} (hcd : SeqC cd c) (hm : most ≤ 1000) (hN : N.Ok most W) (hc : ChOk N c) (hp : p < N.n) {x4 x5 x6 x7 x8 : Option D} :
    ∃ y5 y6 y7 y8, sFor (iSeqD (eVar 1)) (.nm 5) (sSeq (sAsg (.tp [(.nm 6), (.nm 7), (.nm 8)]) (eBin oIx (eBin oIx (eVar 0) (eC (.int 1))) (eVar 5)))
      (sSeq (sIf (bAnd (bBin oIn (eVar 6) (eVar 3)) (bBin oNotIn (eVar 7) (eVar 3))) (sExpr (eLm mAppend (eVar 3) (aCons (eVar 7) aNil))) sNext)
      (sIf (bAnd (bBin oIn (eVar 7) (eVar 3)) (bBin oNotIn (eVar 6) (eVar 3))) (sExpr (eLm mAppend (eVar 3) (aCons (eVar 6) aNil))) sNext)))
      (gEnv N cd p S.length x4 x5 x6 x7 x8) (S ++ [.lst (natD (roundsF (edges N c) [p] k))]) = .nx (gEnv N cd p S.length x4 y5 y6 y7 y8) (S ++ [.lst (natD (roundsF (edges N c) [p] (k + 1)))]) := by
  have hE := edges_ok hN hc
  have key := forGo_v (items := natD c) (tg := .nm 5) (b := (sSeq (sAsg (.tp [(.nm 6), (.nm 7), (.nm 8)]) (eBin oIx (eBin oIx (eVar 0) (eC (.int 1))) (eVar 5)))
      (sSeq (sIf (bAnd (bBin oIn (eVar 6) (eVar 3)) (bBin oNotIn (eVar 7) (eVar 3))) (sExpr (eLm mAppend (eVar 3) (aCons (eVar 7) aNil))) sNext)
      (sIf (bAnd (bBin oIn (eVar 7) (eVar 3)) (bBin oNotIn (eVar 6) (eVar 3))) (sExpr (eLm mAppend (eVar 3) (aCons (eVar 6) aNil))) sNext))))
    (fun j ρ S' => ∃ y5 y6 y7 y8, ρ = gEnv N cd p S.length x4 y5 y6 y7 y8 ∧ S' = S ++ [.lst (natD (((edges N c).take j).foldl stepF (roundsF (edges N c) [p] k)))])
    (ρ := gEnv N cd p S.length x4 x5 x6 x7 x8) (S := S ++ [.lst (natD (roundsF (edges N c) [p] k))]) ⟨x5, x6, x7, x8, rfl, rfl⟩ (by
    rintro j d ρ S' hd ⟨y5, y6, y7, y8, rfl, rfl⟩
    obtain ⟨q, hq, rfl⟩ := natD_inv hd
    have hk := hc.2 q (List.mem_of_getElem? hq)
    have he : (edges N c)[j]? = some (edgeAt N q) := by unfold edges; rw [List.getElem?_map, hq]; rfl
    have hl1 := foldF_length_le hE hp k ((edges N c).take j) (fun e he => List.mem_of_mem_take he)
    have hl2 := foldF_length_le hE hp k ((edges N c).take (j + 1)) (fun e he => List.mem_of_mem_take he)
    have hn := hN.n2
    rw [take_get he, List.foldl_append] at hl2 ⊢
    simp only [List.foldl_cons, List.foldl_nil] at hl2 ⊢
    generalize ((edges N c).take j).foldl stepF (roundsF (edges N c) [p] k) = F at hl1 hl2 ⊢
    refine ⟨gEnv N cd p S.length x4 (some (.int q)) y6 y7 y8, gEnv N cd p S.length x4 (some (.int q)) (some (.int (wayAt N q).a)) (some (.int (wayAt N q).b)) (some (.int (wayAt N q).c)), S ++ [.lst (natD (stepF F (edgeAt N q)))], rfl, .inl ?_, _, _, _, _, rfl, rfl⟩
    rw [sSeq_nx (sAsg_ok (eBin_ok (eBin_ok (eVar_ok rfl) eC_ok oIx_tup) (eVar_ok rfl) (by exact net_ix hk)) way_asg)]
    have l1 : (putF F (wayAt N q).a (wayAt N q).b).length ≤ 1000 := Nat.le_trans (putF_le _ (wayAt N q).b (wayAt N q).a) (Nat.le_trans hl2 (Nat.le_trans hn hm))
    rw [sSeq_nx (put_stmt (i := 6) (j := 7) (a := (wayAt N q).a) (b := (wayAt N q).b) rfl rfl rfl (by omega))]
    exact put_stmt (i := 7) (j := 6) (a := (wayAt N q).b) (b := (wayAt N q).a) rfl rfl rfl l1)
  obtain ⟨ρ', S', h1, y5, y6, y7, y8, rfl, rfl⟩ := key
  refine ⟨y5, y6, y7, y8, sFor_ok (iSeqD_c hcd (eVar_ok rfl)) ?_⟩
  rw [h1, List.take_of_length_le (by rw [natD_len]; unfold edges; simp)]
  rfl
theorem group_specC {N : Net} {most W : Nat} {c : List Nat} {p : Nat} {cd : D} (S : Sto) (hcd : SeqC cd c) (hm : most ≤ 1000) (hN : N.Ok most W) (hc : ChOk N c) (hp : p < N.n) :
    f_law_group [netD N, cd, .int p] S = .ok (.tup (natD (groupOf N.n (edges N c) (rep N.n (edges N c) p)))) S := by
  have hn := hN.n2
  have sl : (1 : Nat) ≤ sizeLine := sizeLine_ok (by decide)
  have s1 : (sSet 3 (eLstA (aCons (eVar 2) aNil))) [some (netD N), some cd, some (.int p), none, none, none, none, none, none] S = .nx (gEnv N cd p S.length none none none none none) (S ++ [.lst (natD (roundsF (edges N c) [p] 0))]) := by
    unfold gEnv
    simp only [eVar, eC, eBin, bBin, bVal, bAnd, bOr, bNot, eAnd, eOr, eNot, eIf, eNeg, eOrT, liftO_some, liftB_bl, liftG_some, liftP_some, R.bind, R.nox_ok, sB, aNil, aCons, sSeq, sSet, sIf, sRet, sRetN, sNext, sExpr, sAsg, sSub, sBrk, sCnt, eCb, pure1, eIsi, bYes, pNone, pSome, List.getElem?_cons_zero, List.getElem?_cons_succ, List.set_cons_zero, List.set_cons_succ, Option.map_some, Option.bind_some, List.map_cons, List.map_nil, List.length_cons, List.length_nil, List.nil_append, List.cons_append, List.replicate_succ, List.replicate_zero, Nat.reduceSub, Nat.reduceAdd, Nat.add_eq, Nat.zero_add, if_true, if_false, reduceIte, Bool.false_eq_true, Bool.not_true, Bool.not_false, Tg.asg, asgs, tupOf, decide_true, decide_false, ite_true, ite_false, oAdd_int, oSub_int, oLt_int, oLe_int, oGt_int, oGe_int, oEq_int, oNe_int, oEq_str, atI_0, atI_1, atI_2, atI_3, atI_4, ixN51, ixN52, ixN53, ixN54, gInt, gAbs, gMin, gMax, oIx_tup, oIx_lst, oIx_con, seqOf_tup, seqOf_lst, List.length_set, eLstA, sl]
    rfl
  have key := forGo_v (items := rngD 0 N.n) (tg := .nm 4) (b := _)
    (fun j ρ S' => ∃ y4 y5 y6 y7 y8, ρ = gEnv N cd p S.length y4 y5 y6 y7 y8 ∧ S' = S ++ [.lst (natD (roundsF (edges N c) [p] j))])
    (ρ := gEnv N cd p S.length none none none none none) (S := S ++ [.lst (natD (roundsF (edges N c) [p] 0))]) ⟨_, _, _, _, _, rfl, rfl⟩ (by
    rintro j d ρ S' hd ⟨y4, y5, y6, y7, y8, rfl, rfl⟩
    obtain ⟨z5, z6, z7, z8, e⟩ := gInner (k := j) (x4 := some d) (x5 := y5) (x6 := y6) (x7 := y7) (x8 := y8) (S := S) hcd hm hN hc hp
    exact ⟨gEnv N cd p S.length (some d) y5 y6 y7 y8, _, _, rfl, .inl e, _, _, _, _, _, rfl, rfl⟩)
  obtain ⟨ρ', S', h1, y4, y5, y6, y7, y8, rfl, rfl⟩ := key
  rw [rngD_length] at h1
  refine runF_rt (S1 := S ++ [.lst (natD (roundsF (edges N c) [p] N.n))]) (d := .tup (natD (groupOf N.n (edges N c) (rep N.n (edges N c) p)))) ?_ (gc_app (okDs_nat _ _))
  show b_law_group [some (netD N), some cd, some (.int p), none, none, none, none, none, none] S = _
  unfold b_law_group
  rw [sSeq_nx s1, sSeq_nx (sFor_ok (iRng1D_ok (j := N.n) (aCons_ok (eBin_ok (eVar_ok rfl) eC_ok (by exact (oIx_tup.trans atI_0))) aNil_ok) (by omega)) h1)]
  refine sRet_ok (eCb_ok (aCons_ok (eCb_ok (op := oSort false) (S2 := S ++ [.lst (natD (roundsF (edges N c) [p] N.n))]) (d := .lst (natD (groupOf N.n (edges N c) (rep N.n (edges N c) p)))) (aCons_ok (eVar_ok rfl) aNil_ok) ?_) aNil_ok) ?_)
  · unfold oSort
    simp only [seqOf_loc (get_app (S := S)), Option.bind_some, intsOf_nat, Option.map_some, Bool.false_eq_true, if_false]
    rw [show (roundsF (edges N c) [p] N.n).map Int.ofNat = natI (roundsF (edges N c) [p] N.n) from rfl, sort_group (rounds_perm (edges_ok hN hc) hp)]
    rw [show natI ((List.range N.n).filter fun x => rep N.n (edges N c) x == rep N.n (edges N c) p) = (groupOf N.n (edges N c) (rep N.n (edges N c) p)).map Int.ofNat from rfl, ← natD_eq]
  · rfl
theorem group_spec {N : Net} {most W : Nat} {c : List Nat} {p : Nat} (S : Sto) (hm : most ≤ 1000) (hN : N.Ok most W) (hc : ChOk N c) (hp : p < N.n) :
    f_law_group [netD N, .tup (natD c), .int p] S = .ok (.tup (natD (groupOf N.n (edges N c) (rep N.n (edges N c) p)))) S := group_specC S (.inl rfl) hm hN hc hp
end Ev

namespace Ev
open PySem PySem.Spec PyProof.Rows L2
/-! ### drawn pairs -/
def pairD (p : Nat × Nat) : D := .tup [.int p.1, .int p.2]
def pairsD (ps : List (Nat × Nat)) : D := .tup (ps.map pairD)
def PrOk (n : Nat) (ps : List (Nat × Nat)) : Prop := ∀ p ∈ ps, p.1 < p.2 ∧ p.2 < n
theorem pairD_flat (p : Nat × Nat) : flat 1 (pairD p) = true := by simp only [pairD, flat, flats, Bool.and_self]
theorem pairs_flat (ps : List (Nat × Nat)) : flats 1 (ps.map pairD) = true := flats_of fun d hd => by
  obtain ⟨p, _, rfl⟩ := List.mem_map.mp hd
  exact pairD_flat p
theorem okDs_pairs (k : Nat) (ps : List (Nat × Nat)) : okDs k (ps.map pairD) = true := by
  induction ps with
  | nil => rfl
  | cons p ps ih => simp only [List.map_cons, pairD, okDs, okD, ih, Bool.and_self]
def prEnv (n most : Nat) (x4 x5 x6 : Option D) : En := [some (.loc 0), some (.int n), some (.int most), some (.loc 1), x4, x5, x6]
noncomputable def prBody : SF := (sIf (bBin oGt (eVar 1) (eC (.int 1))) (sSeq (sSet 5 (eCall 2 f_law_draw (aCons (eVar 0) (aCons (eBin oSub (eVar 1) (eC (.int 1))) aNil))))
    (sSeq (sSet 6 (eTup (aCons (eVar 5) (aCons (eBin oAdd (eBin oAdd (eVar 5) (eC (.int 1))) (eCall 2 f_law_draw (aCons (eVar 0) (aCons (eBin oSub (eBin oSub (eVar 1) (eC (.int 1))) (eVar 5)) aNil)))) aNil))))
    (sIf (bBin oNotIn (eVar 6) (eVar 3)) (sExpr (eLm mAppend (eVar 3) (aCons (eVar 6) aNil))) sNext))) sNext)
theorem pr_step {n most : Nat} {P : Pool} {ps : List (Nat × Nat)} {x4 x5 x6 : Option D} (hn : n ≤ 1000) (h0 : 0 ≤ P.pos) (hp : PrOk n ps) (hl : ps.length < 1000) :
    ∃ (P' : Pool) (ps' : List (Nat × Nat)) (y5 y6 : Option D), 0 ≤ P'.pos ∧ PrOk n ps' ∧ ps'.length ≤ ps.length + 1 ∧ prBody (prEnv n most x4 x5 x6) [poolC P, .lst (ps.map pairD)] = .nx (prEnv n most x4 y5 y6) [poolC P', .lst (ps'.map pairD)] := by
  unfold prBody
  by_cases h1 : 1 < n
  · obtain ⟨a, P1, a0, a1, p1, e1⟩ := draw1 (T := [.lst (ps.map pairD)]) (n := (n : Int) - 1) h0 (by omega) (by omega)
    obtain ⟨b, P2, b0, b1, p2, e2⟩ := draw1 (T := [.lst (ps.map pairD)]) (n := (n : Int) - 1 - a) p1 (by omega) (by omega)
    obtain ⟨a', rfl⟩ : ∃ a' : Nat, a = a' := ⟨a.toNat, by omega⟩
    obtain ⟨b', hb'⟩ : ∃ b' : Nat, (a' : Int) + 1 + b = b' := ⟨((a' : Int) + 1 + b).toNat, by omega⟩
    have hpr : a' < b' ∧ b' < n := by omega
    have t1 : (bBin oGt (eVar 1) (eC (.int 1))) (prEnv n most x4 x5 x6) [poolC P, .lst (ps.map pairD)] = .ok true [poolC P, .lst (ps.map pairD)] := bBin_ok (eVar_ok rfl) eC_ok (by rw [oGt_int, decide_eq_true (by omega)])
    have s1 : (sSet 5 (eCall 2 f_law_draw (aCons (eVar 0) (aCons (eBin oSub (eVar 1) (eC (.int 1))) aNil)))) (prEnv n most x4 x5 x6) [poolC P, .lst (ps.map pairD)] = .nx (prEnv n most x4 (some (.int a')) x6) [poolC P1, .lst (ps.map pairD)] :=
      sSet_ok (eCall_ok (aCons_ok (eVar_ok rfl) (aCons_ok (eBin_ok (eVar_ok rfl) eC_ok oSub_int) aNil_ok)) rfl e1)
    have s2 : (sSet 6 (eTup (aCons (eVar 5) (aCons (eBin oAdd (eBin oAdd (eVar 5) (eC (.int 1))) (eCall 2 f_law_draw (aCons (eVar 0) (aCons (eBin oSub (eBin oSub (eVar 1) (eC (.int 1))) (eVar 5)) aNil)))) aNil)))) (prEnv n most x4 (some (.int a')) x6) [poolC P1, .lst (ps.map pairD)] = .nx (prEnv n most x4 (some (.int a')) (some (pairD (a', b')))) [poolC P2, .lst (ps.map pairD)] := by
      have := eTup_ok (fa := (aCons (eVar 5) (aCons (eBin oAdd (eBin oAdd (eVar 5) (eC (.int 1))) (eCall 2 f_law_draw (aCons (eVar 0) (aCons (eBin oSub (eBin oSub (eVar 1) (eC (.int 1))) (eVar 5)) aNil)))) aNil))) (ρ := prEnv n most x4 (some (.int a')) x6) (S := [poolC P1, .lst (ps.map pairD)])
        (aCons_ok (eVar_ok rfl) (aCons_ok (eBin_ok (eBin_ok (eVar_ok rfl) eC_ok oAdd_int) (eCall_ok (aCons_ok (eVar_ok rfl) (aCons_ok (eBin_ok (eBin_ok (eVar_ok rfl) eC_ok oSub_int) (eVar_ok rfl) oSub_int) aNil_ok)) rfl e2) oAdd_int) aNil_ok)) (by simp)
      rw [hb'] at this
      exact sSet_ok this
    have hg : ([poolC P2, Cel.lst (ps.map pairD)] : Sto)[1]? = some (.lst (ps.map pairD)) := rfl
    have t2 := bBin_ok (op := oNotIn) (fe := eVar 6) (fb := eVar 3) (ρ := prEnv n most x4 (some (.int a')) (some (pairD (a', b')))) (S := [poolC P2, .lst (ps.map pairD)]) (eVar_ok rfl) (eVar_ok rfl) (oNotIn_flat (k := 1) (xs := [.int a', .int b']) (seqOf_loc hg) (by omega) (by simp only [flat, flats, Bool.and_self]) (pairs_flat ps))
    cases hc : (ps.map pairD).any fun z => deq z (.tup [.int a', .int b']) with
    | true =>
      rw [hc] at t2
      exact ⟨P2, ps, _, _, p2, hp, Nat.le_succ _, (sIf_t t1).trans (sSeq_nxo s1 (sSeq_nxo s2 (sIf_fn t2)))⟩
    | false =>
      rw [hc] at t2
      refine ⟨P2, ps ++ [(a', b')], some (.int a'), some (pairD (a', b')), p2, fun p hp' => ?_, by simp, (sIf_t t1).trans (sSeq_nxo s1 (sSeq_nxo s2 ((sIf_t t2).trans ?_)))⟩
      · rcases List.mem_append.mp hp' with z | z
        · exact hp p z
        · have : p = (a', b') := by simpa using z
          rw [this]
          exact hpr
      · refine sExpr_ok (d := .non) (eLm_ok (eVar_ok rfl) (isLst_loc hg) (aCons_ok (eVar_ok rfl) aNil_ok) ?_)
        rw [mAppend_ok hg (sizeLine_lt (by rw [List.length_map]; omega)), List.map_append]
        rfl
  · have t1 : (bBin oGt (eVar 1) (eC (.int 1))) (prEnv n most x4 x5 x6) [poolC P, .lst (ps.map pairD)] = .ok false [poolC P, .lst (ps.map pairD)] := bBin_ok (eVar_ok rfl) eC_ok (by rw [oGt_int, decide_eq_false (by omega)])
    exact ⟨P, ps, x5, x6, h0, hp, Nat.le_succ _, sIf_fn t1⟩
theorem pairs_spec {n most : Nat} (hn : n ≤ 1000) (hm : most ≤ 100) {P : Pool} (h0 : 0 ≤ P.pos) :
    ∃ (ps : List (Nat × Nat)) (P' : Pool), PrOk n ps ∧ ps.length ≤ most ∧ 0 ≤ P'.pos ∧ f_law_pairs [.loc 0, .int n, .int most] [poolC P] = .ok (pairsD ps) [poolC P'] := by
  obtain ⟨k, P1, k0, k1, p1, e1⟩ := draw1 (T := [.lst []]) (n := (most : Int) + 1) h0 (by omega) (by omega)
  obtain ⟨k', rfl⟩ : ∃ k' : Nat, k = k' := ⟨k.toNat, by omega⟩
  have s1 : (sSet 3 (eLstA aNil)) [some (.loc 0), some (.int n), some (.int most), none, none, none, none] [poolC P] = .nx (prEnv n most none none none) [poolC P, .lst []] := (sSet_ok eLstA_nil).trans rfl
  have key := forGo_v (items := rngD 0 k') (tg := .nm 4) (b := prBody)
    (fun j ρ S => j ≤ k' ∧ (∃ x4 x5 x6, ρ = prEnv n most x4 x5 x6) ∧ ∃ (P : Pool) (ps : List (Nat × Nat)), 0 ≤ P.pos ∧ PrOk n ps ∧ ps.length ≤ j ∧ S = [poolC P, .lst (ps.map pairD)])
    (ρ := prEnv n most none none none) (S := [poolC P1, .lst []]) ⟨Nat.zero_le _, ⟨_, _, _, rfl⟩, P1, [], p1, (fun p h => by simp at h), Nat.le_refl _, rfl⟩ (by
    rintro j d ρ S hd ⟨hj0, ⟨x4, x5, x6, rfl⟩, P, ps, p0, hp, hl, rfl⟩
    obtain ⟨hj, rfl⟩ := rngD_get hd
    obtain ⟨P', ps', y5, y6, a, b, c, e⟩ := pr_step (n := n) (most := most) (x4 := some (.int (0 + (j : Int)))) (x5 := x5) (x6 := x6) hn p0 hp (by omega)
    exact ⟨prEnv n most (some (.int (0 + (j : Int)))) x5 x6, _, _, rfl, .inl e, hj, ⟨_, _, _, rfl⟩, P', ps', a, b, by omega, rfl⟩)
  obtain ⟨ρ', S', h1, -, ⟨x4, x5, x6, rfl⟩, P2, ps, p2, hp, hl, rfl⟩ := key
  rw [rngD_length] at hl
  refine ⟨ps, P2, hp, by omega, p2, ?_⟩
  have okk : okD [poolC P].length (pairsD ps) = true := okDs_pairs _ ps
  refine runF_rt (S1 := [poolC P2] ++ [.lst (ps.map pairD)]) (d := pairsD ps) ?_ (gc_put_app (S := [poolC P]) (p := 0) (c := poolC P2) okk (okC_pool _ P2))
  show b_law_pairs [some (.loc 0), some (.int n), some (.int most), none, none, none, none] [poolC P] = _
  unfold b_law_pairs
  refine sSeq_nxo s1 (sSeq_nxo (sFor_ok (k := ⟨rngD 0 k', none⟩) (iRng1D_ok (j := k') (aCons_ok (eCall_ok (aCons_ok (eVar_ok rfl) (aCons_ok (eBin_ok (eVar_ok rfl) eC_ok oAdd_int) aNil_ok)) rfl e1) aNil_ok) (by omega)) h1) ?_)
  exact sRet_ok (eCb_ok (aCons_ok (eVar_ok rfl) aNil_ok) rfl)
end Ev

namespace Ev
open PySem PySem.Spec PyProof.Rows L2
def partsD (n : Nat) (E : List Edge) (ps : List Nat) : List D := (ps.filter fun p => rep n E p == p).map fun p => .tup (natD (groupOf n E p))
theorem okDs_parts (k n : Nat) (E : List Edge) (ps : List Nat) : okDs k (partsD n E ps) = true := by
  unfold partsD
  induction (ps.filter fun p => rep n E p == p) with
  | nil => rfl
  | cons p ps ih => simp only [List.map_cons, okDs, okD, okDs_nat, ih, Bool.and_self]
theorem partsD_snoc (n : Nat) (E : List Edge) (ps : List Nat) (p : Nat) : partsD n E (ps ++ [p]) = if rep n E p = p then partsD n E ps ++ [.tup (natD (groupOf n E p))] else partsD n E ps := by
  unfold partsD
  rw [List.filter_append, List.map_append]
  by_cases h : rep n E p = p
  · simp only [List.filter_cons, List.filter_nil, beq_iff_eq, h, if_true, List.map_cons, List.map_nil]
  · simp only [List.filter_cons, List.filter_nil, beq_iff_eq, h, if_false, List.map_nil, List.append_nil]
theorem partsD_len (n : Nat) (E : List Edge) (ps : List Nat) : (partsD n E ps).length ≤ ps.length := by
  unfold partsD
  rw [List.length_map]
  exact List.length_filter_le _ _
end Ev

namespace Ev
open PySem PySem.Spec PyProof.Rows L2
/-! ### groups -/
def gsEnv (N : Net) (cd : D) (m : List Nat) (x5 x6 x7 x8 x9 x10 x11 x12 x13 x14 : Option D) : En :=
  [some (netD N), some cd, some (.int N.n), some (.tup (N.ways.map wayD)), some (.lst (natD m)), x5, x6, x7, x8, x9, x10, x11, x12, x13, x14]
theorem mark_at {m : List Nat} {k : Nat} (h : k < m.length) : m[k]? = some (m.getD k 0) := by
  rw [List.getD_eq_getElem?_getD, List.getElem?_eq_getElem h]; rfl
theorem isort2 (a b : Nat) : isort [(a : Int), (b : Int)] = [((min a b : Nat) : Int), ((max a b : Nat) : Int)] := by
  simp only [isort, insI]
  split
  · rw [Nat.min_eq_left (by omega), Nat.max_eq_right (by omega)]
  · rw [Nat.min_eq_right (by omega), Nat.max_eq_left (by omega)]
theorem sort2 {S : Sto} (a b : Nat) : oSort false [.lst [.int a, .int b]] S = some (.lst [.int (min a b : Nat), .int (max a b : Nat)], S) := by
  unfold oSort
  simp only [seqOf, tupOf, lstOf, lstX, intsOf, Option.bind_some, Option.map_some, isort2, Bool.false_eq_true, if_false, List.map_cons, List.map_nil]
theorem stepM_len (m : List Nat) (e : Edge) : (stepM m e).length = m.length := List.length_map _
theorem foldM_len : ∀ (E : List Edge) (m : List Nat), (E.foldl stepM m).length = m.length
  | [], m => rfl
  | e :: E, m => by rw [List.foldl_cons, foldM_len E, stepM_len]
theorem gs_loop {N : Net} {most W : Nat} {c : List Nat} {S : Sto} {cd : D} (hcd : SeqC cd c) (hm : most ≤ 1000) (hN : N.Ok most W) (hc : ChOk N c) :
    ∃ y5 y6 y7 y8 y9 y10, sFor (iSeqD (eVar 1)) (.nm 5) (sSeq (sAsg (.tp [(.nm 6), (.nm 7), (.nm 8)]) (eBin oIx (eVar 3) (eVar 5)))
    (sSeq (sAsg (.ls [(.nm 9), (.nm 10)]) (eCb (oSort false) (aCons (eLst (aCons (eBin oIx (eVar 4) (eVar 6)) (aCons (eBin oIx (eVar 4) (eVar 7)) aNil))) aNil)))
    (sSet 4 (eLc (iSeqD (eVar 4)) (.nm 13) bYes (eIf (bBin oEq (eVar 13) (eVar 10)) (eVar 9) (eVar 13)) [13]))))
     (gsEnv N cd (List.range N.n) none none none none none none none none none none) S = .nx (gsEnv N cd (markOf N.n (edges N c)) y5 y6 y7 y8 y9 y10 none none none none) S := by
  have hE := edges_ok hN hc
  have hn := hN.n2
  have key := forGo_v (items := natD c) (tg := .nm 5) (b := (sSeq (sAsg (.tp [(.nm 6), (.nm 7), (.nm 8)]) (eBin oIx (eVar 3) (eVar 5)))
    (sSeq (sAsg (.ls [(.nm 9), (.nm 10)]) (eCb (oSort false) (aCons (eLst (aCons (eBin oIx (eVar 4) (eVar 6)) (aCons (eBin oIx (eVar 4) (eVar 7)) aNil))) aNil)))
    (sSet 4 (eLc (iSeqD (eVar 4)) (.nm 13) bYes (eIf (bBin oEq (eVar 13) (eVar 10)) (eVar 9) (eVar 13)) [13])))))
    (fun j ρ S' => ∃ y5 y6 y7 y8 y9 y10, ρ = gsEnv N cd (((edges N c).take j).foldl stepM (List.range N.n)) y5 y6 y7 y8 y9 y10 none none none none ∧ S' = S)
    (ρ := gsEnv N cd (List.range N.n) none none none none none none none none none none) (S := S) ⟨_, _, _, _, _, _, rfl, rfl⟩ (by
    rintro j d ρ S' hd ⟨y5, y6, y7, y8, y9, y10, rfl, rfl⟩
    obtain ⟨q, hq, rfl⟩ := natD_inv hd
    have hk := hc.2 q (List.mem_of_getElem? hq)
    have he : (edges N c)[j]? = some (edgeAt N q) := by unfold edges; rw [List.getElem?_map, hq]; rfl
    have hl := foldM_len ((edges N c).take j) (List.range N.n)
    rw [List.length_range] at hl
    rw [take_get he, List.foldl_append]
    simp only [List.foldl_cons, List.foldl_nil]
    generalize ((edges N c).take j).foldl stepM (List.range N.n) = m at hl ⊢
    have hw := wayAt_ok hN hk
    generalize hwd : wayAt N q = w at hw
    have hed : edgeAt N q = (w.a, w.b) := by unfold edgeAt; rw [hwd]
    rw [hed]
    have ha : m[w.a]? = some (m.getD w.a 0) := mark_at (by have := hw.1; have := hw.2.1; omega)
    have hb : m[w.b]? = some (m.getD w.b 0) := mark_at (by have := hw.2.1; omega)
    generalize hlo : min (m.getD w.a 0) (m.getD w.b 0) = lo
    generalize hhi : max (m.getD w.a 0) (m.getD w.b 0) = hi
    have hst : stepM m (w.a, w.b) = m.map fun z => if z = hi then lo else z := by unfold stepM; rw [hlo, hhi]
    refine ⟨gsEnv N cd m (some (.int q)) y6 y7 y8 y9 y10 none none none none, gsEnv N cd (stepM m (w.a, w.b)) (some (.int q)) (some (.int w.a)) (some (.int w.b)) (some (.int w.c)) (some (.int lo)) (some (.int hi)) none none none none, S', rfl, .inl ?_, _, _, _, _, _, _, rfl, rfl⟩
    rw [sSeq_nx (sAsg_ok (eBin_ok (eVar_ok rfl) (eVar_ok rfl) (by exact net_ix hk)) way_asg), hwd]
    have e1 : (eCb (oSort false) (aCons (eLst (aCons (eBin oIx (eVar 4) (eVar 6)) (aCons (eBin oIx (eVar 4) (eVar 7)) aNil))) aNil)) (gsEnv N cd m (some (.int q)) (some (.int w.a)) (some (.int w.b)) (some (.int w.c)) y9 y10 none none none none) S' = .ok (.lst [.int lo, .int hi]) S' := by
      refine eCb_ok (aCons_ok (d := .lst [.int (m.getD w.a 0 : Nat), .int (m.getD w.b 0 : Nat)]) ?_ aNil_ok) (by rw [sort2, hlo, hhi])
      unfold eLst
      rw [aCons_ok (eBin_ok (eVar_ok rfl) (eVar_ok rfl) (oIx_lst.trans (atI_ok (natD_get ha)))) (aCons_ok (eBin_ok (eVar_ok rfl) (eVar_ok rfl) (oIx_lst.trans (atI_ok (natD_get hb)))) aNil_ok)]
      simp only [R.bind]
      exact if_pos (sizeLine_ok (by simp))
    have e2 : (Tg.ls [.nm 9, .nm 10]).asg (.lst [.int lo, .int hi]) (gsEnv N cd m (some (.int q)) (some (.int w.a)) (some (.int w.b)) (some (.int w.c)) y9 y10 none none none none) S' = some (gsEnv N cd m (some (.int q)) (some (.int w.a)) (some (.int w.b)) (some (.int w.c)) (some (.int lo)) (some (.int hi)) none none none none) := rfl
    refine (sSeq_nx (sAsg_ok e1 e2)).trans ?_
    have e3 : (eLc (iSeqD (eVar 4)) (.nm 13) bYes (eIf (bBin oEq (eVar 13) (eVar 10)) (eVar 9) (eVar 13)) [13]) (gsEnv N cd m (some (.int q)) (some (.int w.a)) (some (.int w.b)) (some (.int w.c)) (some (.int lo)) (some (.int hi)) none none none none) S' = .ok (.lst (natD (stepM m (w.a, w.b)))) S' := by
      have lm : lcGo ⟨natD m, none⟩ (.nm 13) bYes (eIf (bBin oEq (eVar 13) (eVar 10)) (eVar 9) (eVar 13)) (gsEnv N cd m (some (.int q)) (some (.int w.a)) (some (.int w.b)) (some (.int w.c)) (some (.int lo)) (some (.int hi)) none none none none) (natD m) S' = .ok (m.map fun (z : Nat) => D.int ((if z = hi then lo else z : Nat) : Int)) S' := lcGo_mapN m fun z hz => by
          refine ⟨gsEnv N cd m (some (.int q)) (some (.int w.a)) (some (.int w.b)) (some (.int w.c)) (some (.int lo)) (some (.int hi)) none none (some (.int z)) none, rfl, ?_⟩
          have b1 : (bBin oEq (eVar 13) (eVar 10)) (gsEnv N cd m (some (.int q)) (some (.int w.a)) (some (.int w.b)) (some (.int w.c)) (some (.int lo)) (some (.int hi)) none none (some (.int z)) none) S' = .ok (decide ((z : Int) = hi)) S' := bBin_ok (eVar_ok rfl) (eVar_ok rfl) oEq_int
          unfold eIf
          rw [b1]
          by_cases h : z = hi
          · rw [if_pos h, decide_eq_true (by rw [h])]
            simp only [R.bind, if_true]
            exact eVar_ok rfl
          · rw [if_neg h, decide_eq_false (by omega)]
            simp only [R.bind, Bool.false_eq_true, if_false]
            exact eVar_ok rfl
      have el : (m.map fun (z : Nat) => D.int ((if z = hi then lo else z : Nat) : Int)) = natD (stepM m (w.a, w.b)) := by
        rw [hst]
        unfold natD
        rw [List.map_map]
        rfl
      rw [el] at lm
      exact eLc_ok (k := ⟨natD m, none⟩) (iSeqD_lst (eVar_ok rfl)) lm (sizeLine_ok (by rw [natD_len, stepM_len]; omega))
    exact sSet_ok e3)
  obtain ⟨ρ', S', h1, y5, y6, y7, y8, y9, y10, rfl, rfl⟩ := key
  refine ⟨y5, y6, y7, y8, y9, y10, sFor_ok (iSeqD_c hcd (eVar_ok rfl)) ?_⟩
  rw [h1, List.take_of_length_le (by rw [natD_len]; unfold edges; simp)]
  rfl
def gEnv2 (N : Net) (cd : D) (m : List Nat) (y5 y6 y7 y8 y9 y10 : Option D) (k : Nat) (x12 x13 x14 : Option D) : En := gsEnv N cd m y5 y6 y7 y8 y9 y10 (some (.loc k)) x12 x13 x14
theorem gs_one {N : Net} {cd : D} {m : List Nat} {y5 y6 y7 y8 y9 y10 : Option D} {k f : Nat} {S : Sto} (hn : N.n ≤ 1000) (hl : m.length = N.n) :
    (eCb (pure1 gTuple) (aCons (eLc (iRng1D (aCons (eVar 2) aNil)) (.nm 14) (bBin oEq (eBin oIx (eVar 4) (eVar 14)) (eVar 12)) (eVar 14) [14]) aNil)) (gEnv2 N cd m y5 y6 y7 y8 y9 y10 k (some (.int f)) none none) S =
      .ok (.tup (natD ((List.range N.n).filter fun x => m.getD x 0 == f))) S := by
  have lm : lcGo ⟨rngD 0 N.n, none⟩ (.nm 14) (bBin oEq (eBin oIx (eVar 4) (eVar 14)) (eVar 12)) (eVar 14) (gEnv2 N cd m y5 y6 y7 y8 y9 y10 k (some (.int f)) none none) (natD (List.range N.n)) S =
      .ok (((List.range N.n).filter fun x => m.getD x 0 == f).map fun (x : Nat) => D.int (x : Int)) S := lcGo_filterN (List.range N.n) fun x hx => by
    rw [List.mem_range] at hx
    refine ⟨gEnv2 N cd m y5 y6 y7 y8 y9 y10 k (some (.int f)) none (some (.int x)), rfl, ?_, fun _ => eVar_ok rfl⟩
    rw [bBin_ok (eBin_ok (eVar_ok rfl) (eVar_ok rfl) (oIx_lst.trans (atI_ok (natD_get (mark_at (by omega)))))) (eVar_ok rfl) oEq_int]
    by_cases h : m.getD x 0 = f
    · rw [decide_eq_true (by rw [h]), beq_iff_eq.mpr h]
    · rw [decide_eq_false (by omega), beq_eq_false_iff_ne.mpr h]
  refine eCb_ok (ds := [.lst (natD ((List.range N.n).filter fun x => m.getD x 0 == f))]) (aCons_ok (eLc_ok (k := ⟨rngD 0 N.n, none⟩) (iRng1D_ok (aCons_ok (eVar_ok rfl) aNil_ok) (by omega)) (by rw [← rngD_nat] at lm; exact lm) ?_) aNil_ok) rfl
  rw [natD_len]
  exact sizeLine_ok (Nat.le_trans (List.length_filter_le _ _) (by rw [List.length_range]; exact hn))
theorem groups_specC {N : Net} {most W : Nat} {c : List Nat} {cd : D} (S : Sto) (hcd : SeqC cd c) (hm : most ≤ 1000) (hN : N.Ok most W) (hc : ChOk N c) :
    f_groups [netD N, cd] S = .ok (.tup (partsD N.n (edges N c) (List.range N.n))) S := by
  have hn := hN.n2
  have hE := edges_ok hN hc
  have hn1 : N.n ≤ 1000 := Nat.le_trans hn hm
  obtain ⟨y5, y6, y7, y8, y9, y10, e1⟩ := gs_loop (S := S) hcd hm hN hc
  have hl : (markOf N.n (edges N c)).length = N.n := (markOf_ok hE).len
  have sl : (0 : Nat) ≤ sizeLine := sizeLine_ok (by omega)
  have key := forGo_v (items := rngD 0 N.n) (tg := .nm 12) (b := (sIf (bBin oEq (eBin oIx (eVar 4) (eVar 12)) (eVar 12)) (sExpr (eLm mAppend (eVar 11) (aCons (eCb (pure1 gTuple) (aCons (eLc (iRng1D (aCons (eVar 2) aNil)) (.nm 14) (bBin oEq (eBin oIx (eVar 4) (eVar 14)) (eVar 12)) (eVar 14) [14]) aNil)) aNil))) sNext))
    (fun j ρ S' => j ≤ N.n ∧ ∃ x12, ρ = gEnv2 N cd (markOf N.n (edges N c)) y5 y6 y7 y8 y9 y10 S.length x12 none none ∧ S' = S ++ [.lst (partsD N.n (edges N c) (List.range j))])
    (ρ := gEnv2 N cd (markOf N.n (edges N c)) y5 y6 y7 y8 y9 y10 S.length none none none) (S := S ++ [.lst (partsD N.n (edges N c) (List.range 0))]) ⟨Nat.zero_le _, _, rfl, rfl⟩ (by
    rintro j d ρ S' hd ⟨hj0, x12, rfl, rfl⟩
    rw [rngD_nat] at hd
    obtain ⟨q, hq, rfl⟩ := natD_inv hd
    have hj : j < N.n := by
      have := (List.getElem?_eq_some_iff.mp hq).1
      simpa using this
    rw [List.getElem?_range hj] at hq
    cases hq
    rw [List.range_succ, partsD_snoc]
    have hg : (S ++ [Cel.lst (partsD N.n (edges N c) (List.range j))])[S.length]? = some (.lst (partsD N.n (edges N c) (List.range j))) := get_app
    have pl := partsD_len N.n (edges N c) (List.range j)
    rw [List.length_range] at pl
    have sl2 : (partsD N.n (edges N c) (List.range j)).length < sizeLine := sizeLine_lt (by omega)
    generalize hP : partsD N.n (edges N c) (List.range j) = P at hg pl sl2 ⊢
    have e2 : (bBin oEq (eBin oIx (eVar 4) (eVar 12)) (eVar 12)) (gEnv2 N cd (markOf N.n (edges N c)) y5 y6 y7 y8 y9 y10 S.length (some (.int j)) none none) (S ++ [.lst P]) = .ok (decide ((rep N.n (edges N c) j : Int) = j)) (S ++ [.lst P]) :=
      bBin_ok (eBin_ok (eVar_ok rfl) (eVar_ok rfl) (oIx_lst.trans (atI_ok (natD_get (mark_at (by omega)))))) (eVar_ok rfl) oEq_int
    by_cases hr : rep N.n (edges N c) j = j
    · rw [if_pos hr]
      refine ⟨gEnv2 N cd (markOf N.n (edges N c)) y5 y6 y7 y8 y9 y10 S.length (some (.int j)) none none, gEnv2 N cd (markOf N.n (edges N c)) y5 y6 y7 y8 y9 y10 S.length (some (.int j)) none none, S ++ [.lst (P ++ [.tup (natD (groupOf N.n (edges N c) j))])], rfl, .inl ?_, hj, _, rfl, rfl⟩
      refine (sIf_t (e2.trans (by rw [decide_eq_true (by rw [hr])]))).trans ?_
      refine sExpr_ok (d := .non) (eLm_ok (eVar_ok rfl) (isLst_loc hg) (aCons_ok (gs_one hn1 hl) aNil_ok) ?_)
      rw [mAppend_ok hg sl2, set_app]
      rfl
    · rw [if_neg hr]
      refine ⟨gEnv2 N cd (markOf N.n (edges N c)) y5 y6 y7 y8 y9 y10 S.length (some (.int j)) none none, gEnv2 N cd (markOf N.n (edges N c)) y5 y6 y7 y8 y9 y10 S.length (some (.int j)) none none, S ++ [.lst P], rfl, .inl ?_, hj, _, rfl, rfl⟩
      exact (sIf_f (e2.trans (by rw [decide_eq_false (by omega)]))).trans rfl)
  obtain ⟨ρ', S', h1, -, x12, rfl, rfl⟩ := key
  rw [rngD_length] at h1
  have s1 : (sAsg (.tp [(.nm 2), (.nm 3)]) (eVar 0)) [some (netD N), some cd, none, none, none, none, none, none, none, none, none, none, none, none, none] S = .nx [some (netD N), some cd, some (.int N.n), some (.tup (N.ways.map wayD)), none, none, none, none, none, none, none, none, none, none, none] S :=
    sAsg_ok (eVar_ok rfl) rfl
  have s2 : (sSet 4 (eLr1 false (eVar 2))) [some (netD N), some cd, some (.int N.n), some (.tup (N.ways.map wayD)), none, none, none, none, none, none, none, none, none, none, none] S = .nx (gsEnv N cd (List.range N.n) none none none none none none none none none none) S := by
    exact (sSet_ok (eLr1_ok (eVar_ok rfl) hn1)).trans rfl
  have s3 : (sSet 11 (eLstA aNil)) (gsEnv N cd (markOf N.n (edges N c)) y5 y6 y7 y8 y9 y10 none none none none) S = .nx (gEnv2 N cd (markOf N.n (edges N c)) y5 y6 y7 y8 y9 y10 S.length none none none) (S ++ [.lst (partsD N.n (edges N c) (List.range 0))]) := by
    refine (sSet_ok (d := .loc S.length) (S1 := S ++ [.lst []]) ?_).trans rfl
    exact eLstA_nil
  refine runF_rt (S1 := S ++ [.lst (partsD N.n (edges N c) (List.range N.n))]) (d := .tup (partsD N.n (edges N c) (List.range N.n))) ?_ (gc_app (okDs_parts _ _ _ _))
  show b_groups [some (netD N), some cd, none, none, none, none, none, none, none, none, none, none, none, none, none] S = _
  unfold b_groups
  rw [sSeq_nx s1, sSeq_nx s2, sSeq_nx e1, sSeq_nx s3, sSeq_nx (sFor_ok (iRng1D_ok (j := N.n) (aCons_ok (eVar_ok rfl) aNil_ok) (by omega)) h1)]
  refine sRet_ok (eCb_ok (aCons_ok (eVar_ok rfl) aNil_ok) ?_)
  unfold pure1 gTuple
  simp only [tupOf, lstOf_loc (get_app (S := S)), Option.map_some]
theorem groups_spec {N : Net} {most W : Nat} {c : List Nat} (S : Sto) (hm : most ≤ 1000) (hN : N.Ok most W) (hc : ChOk N c) :
    f_groups [netD N, .tup (natD c)] S = .ok (.tup (partsD N.n (edges N c) (List.range N.n))) S := groups_specC S (.inl rfl) hm hN hc
end Ev

namespace Ev
open PySem PySem.Spec PyProof.Rows L2
theorem mem_group {n : Nat} {E : List Edge} {p x : Nat} : x ∈ groupOf n E p ↔ x < n ∧ rep n E x = p := by
  unfold groupOf
  rw [List.mem_filter, List.mem_range, beq_iff_eq]
theorem partsD_get {n j : Nat} {E : List Edge} {d : D} (h : (partsD n E (List.range n))[j]? = some d) : ∃ q, q < n ∧ rep n E q = q ∧ d = .tup (natD (groupOf n E q)) := by
  have := List.mem_of_getElem? h
  unfold partsD at this
  obtain ⟨q, hq, rfl⟩ := List.mem_map.mp this
  rw [List.mem_filter, List.mem_range, beq_iff_eq] at hq
  exact ⟨q, hq.1, hq.2, rfl⟩
theorem natD_inj {F G : List Nat} (h : natD F = natD G) : F = G := by
  have := congrArg intsOf h
  rw [intsOf_nat, intsOf_nat] at this
  have := Option.some.inj this
  exact (List.map_inj_right (f := Int.ofNat) (fun a b q => Int.ofNat.inj q)).1 this
theorem group_of_spec {n p : Nat} {E : List Edge} (hE : Eok n E) (hp : p < n) (S : Sto) :
    f_group_of [.tup (partsD n E (List.range n)), .int p] S = .ok (.tup (natD (groupOf n E (rep n E p)))) S := by
  have key := forGo_rt (items := partsD n E (List.range n)) (tg := .nm 2) (b := (sIf (bBin oIn (eVar 1) (eVar 2)) (sRet (eVar 2)) sNext))
    (fun j ρ S' => (∃ x2, ρ = [some (.tup (partsD n E (List.range n))), some (.int p), x2]) ∧ S' = S ∧ ∀ i, i < j → (partsD n E (List.range n))[i]? ≠ some (.tup (natD (groupOf n E (rep n E p)))))
    (fun v S' => v = .tup (natD (groupOf n E (rep n E p))) ∧ S' = S) (ρ := [some (.tup (partsD n E (List.range n))), some (.int p), none]) (S := S) ⟨⟨_, rfl⟩, rfl, fun i h => absurd h (Nat.not_lt_zero _)⟩ (by
    rintro j d ρ S' hd ⟨⟨x2, rfl⟩, rfl, hno⟩
    obtain ⟨q, hq, hr, rfl⟩ := partsD_get hd
    refine ⟨[some (.tup (partsD n E (List.range n))), some (.int p), some (.tup (natD (groupOf n E q)))], rfl, ?_⟩
    have t : (bBin oIn (eVar 1) (eVar 2)) [some (.tup (partsD n E (List.range n))), some (.int p), some (.tup (natD (groupOf n E q)))] S' = .ok (decide (p ∈ groupOf n E q)) S' := bBin_ok (eVar_ok rfl) (eVar_ok rfl) (oIn_nat seqOf_tup)
    by_cases h : p ∈ groupOf n E q
    · have hh := (mem_group.1 h).2
      refine .inr ⟨_, _, (sIf_t (t.trans (by rw [decide_eq_true h]))).trans (sRet_ok (eVar_ok rfl)), by rw [hh], rfl⟩
    · refine .inl ⟨_, _, .inl (sIf_fn (t.trans (by rw [decide_eq_false h]))), ⟨_, rfl⟩, rfl, fun i hi => ?_⟩
      rcases Nat.lt_or_ge i j with z | z
      · exact hno i z
      · have : i = j := by omega
        subst this
        rw [hd]
        intro e
        have e2 : D.tup (natD (groupOf n E q)) = .tup (natD (groupOf n E (rep n E p))) := Option.some.inj e
        injection e2 with e2
        rw [natD_inj e2] at h
        exact h (mem_group.2 ⟨hp, rfl⟩))
  have mm : .tup (natD (groupOf n E (rep n E p))) ∈ partsD n E (List.range n) := by
    unfold partsD
    refine List.mem_map.mpr ⟨rep n E p, ?_, rfl⟩
    rw [List.mem_filter, List.mem_range, beq_iff_eq]
    exact ⟨rep_lt hE hp, rep_rep hE hp⟩
  rcases key with ⟨ρ', S', h1, ⟨x2, rfl⟩, rfl, hno⟩ | ⟨v, S', h1, rfl, rfl⟩
  · obtain ⟨i, hi, e⟩ := List.getElem_of_mem mm
    exact absurd (by rw [List.getElem?_eq_getElem hi, e]) (hno i hi)
  · refine runF_rt (S1 := S') (d := .tup (natD (groupOf n E (rep n E p)))) ?_ (gc_same (okDs_nat _ _))
    show b_group_of [some (.tup (partsD n E (List.range n))), some (.int p), none] S' = _
    unfold b_group_of
    exact sSeq_rt (sFor_ok (iSeqD_tup (eVar_ok rfl)) h1)
end Ev

namespace Ev
open PySem PySem.Spec PyProof.Rows L2
/-! ### same -/
theorem isi_tt {S : Sto} {ρ : En} {i : Nat} {ds : List D} (h : ρ[i]? = some (some (.tup ds))) : eIsi "tuple" (eVar i) ρ S = .ok (.bl true) S := by
  unfold eIsi
  rw [eVar_ok h]
  rfl
theorem isi_ti {S : Sto} {ρ : En} {i : Nat} {j : Int} (h : ρ[i]? = some (some (.int j))) : eIsi "tuple" (eVar i) ρ S = .ok (.bl false) S := by
  unfold eIsi
  rw [eVar_ok h]
  rfl
theorem isi_si {S : Sto} {ρ : En} {i : Nat} {j : Int} (h : ρ[i]? = some (some (.int j))) : eIsi "str" (eVar i) ρ S = .ok (.bl false) S := by
  unfold eIsi
  rw [eVar_ok h]
  rfl
theorem isi_ii {S : Sto} {ρ : En} {i : Nat} {j : Int} (h : ρ[i]? = some (some (.int j))) : eIsi "int" (eVar i) ρ S = .ok (.bl true) S := by
  unfold eIsi
  rw [eVar_ok h]
  rfl
theorem isi_bi {S : Sto} {ρ : En} {i : Nat} {j : Int} (h : ρ[i]? = some (some (.int j))) : eIsi "bool" (eVar i) ρ S = .ok (.bl false) S := by
  unfold eIsi
  rw [eVar_ok h]
  rfl
theorem bVal_ok {fe : EF} {ρ : En} {S S1 : Sto} {b : Bool} (h : fe ρ S = .ok (.bl b) S1) : bVal fe ρ S = .ok b S1 := by
  unfold bVal
  rw [h]
  rfl
theorem bNot_ok {t : BF} {ρ : En} {S S1 : Sto} {b : Bool} (h : t ρ S = .ok b S1) : bNot t ρ S = .ok (!b) S1 := by
  unfold bNot
  rw [h]
  rfl
theorem same_int (k : Nat) (i : Int) (S : Sto) : f_law_sameN (k + 1) [.int i, .int i] S = .ok (.bl true) S := by
  refine runF_rt (S1 := S) (d := .bl true) ?_ (gc_same rfl)
  show b_law_same (f_law_sameN k) [some (.int i), some (.int i), none] S = _
  unfold b_law_same
  rw [sSeq_nx (sIf_fn (bVal_ok (isi_ti rfl)))]
  rw [sSeq_nx (sIf_fn (bBin_ok (c := false) (eVar_ok rfl) eC_ok rfl))]
  rw [sSeq_nx (sIf_fn (bVal_ok (isi_si rfl)))]
  refine sRet_ok ?_
  have e3 : (eBin oEq (eVar 0) (eVar 1)) [some (.int i), some (.int i), none] S = .ok (.bl true) S := eBin_ok (eVar_ok rfl) (eVar_ok rfl) (by rw [oEq_int, decide_eq_true rfl])
  unfold eAnd eNot
  rw [isi_ii rfl]
  simp only [liftG_some, R.bind, truD]
  rw [isi_bi rfl]
  simp only [liftG_some, R.bind, truD, Bool.not_false, if_true]
  exact e3
theorem same_tup (k : Nat) (ds : List D) (hl : ds.length ≤ 1000) (S : Sto) (h : ∀ d ∈ ds, f_law_sameN k [d, d] S = .ok (.bl true) S) : f_law_sameN (k + 1) [.tup ds, .tup ds] S = .ok (.bl true) S := by
  refine runF_rt (S1 := S) (d := .bl true) ?_ (gc_same rfl)
  show b_law_same (f_law_sameN k) [some (.tup ds), some (.tup ds), none] S = _
  unfold b_law_same
  refine sSeq_rt ?_
  refine (sIf_t (bVal_ok (isi_tt rfl))).trans ?_
  have gl : (eCb (pure1 gLen) (aCons (eVar 0) aNil)) [some (.tup ds), some (.tup ds), none] S = .ok (.int ds.length) S := eCb_ok (aCons_ok (eVar_ok rfl) aNil_ok) rfl
  have gl1 : (eCb (pure1 gLen) (aCons (eVar 1) aNil)) [some (.tup ds), some (.tup ds), none] S = .ok (.int ds.length) S := eCb_ok (aCons_ok (eVar_ok rfl) aNil_ok) rfl
  have ne : (bBin oNe (eCb (pure1 gLen) (aCons (eVar 0) aNil)) (eCb (pure1 gLen) (aCons (eVar 1) aNil))) [some (.tup ds), some (.tup ds), none] S = .ok false S := bBin_ok gl gl1 (by rw [oNe_int, decide_eq_true rfl]; rfl)
  have orr : (bOr (bNot (bVal (eIsi "tuple" (eVar 0)))) (bBin oNe (eCb (pure1 gLen) (aCons (eVar 0) aNil)) (eCb (pure1 gLen) (aCons (eVar 1) aNil)))) [some (.tup ds), some (.tup ds), none] S = .ok false S := by
    unfold bOr
    rw [bNot_ok (bVal_ok (isi_tt rfl))]
    exact ne
  rw [sSeq_nx (sIf_fn orr)]
  have lm : lcGo ⟨rngD 0 ds.length, none⟩ (.nm 2) (bNot (bVal (eCall 2 (f_law_sameN k) (aCons (eBin oIx (eVar 0) (eVar 2)) (aCons (eBin oIx (eVar 1) (eVar 2)) aNil))))) (eVar 2) [some (.tup ds), some (.tup ds), none] (natD (List.range ds.length)) S =
      .ok (((List.range ds.length).filter fun _ => false).map fun (x : Nat) => D.int (x : Int)) S := lcGo_filterN (List.range ds.length) fun x hx => by
    rw [List.mem_range] at hx
    refine ⟨[some (.tup ds), some (.tup ds), some (.int x)], rfl, ?_, fun z => by cases z⟩
    have ix : oIx (.tup ds) (.int x) S = some ds[x] := oIx_tup.trans (atI_ok (List.getElem?_eq_getElem hx))
    exact bNot_ok (b := true) (bVal_ok (eCall_ok (aCons_ok (eBin_ok (eVar_ok rfl) (eVar_ok rfl) ix) (aCons_ok (eBin_ok (eVar_ok rfl) (eVar_ok rfl) ix) aNil_ok)) rfl (h _ (List.getElem_mem hx))))
  have hf : (List.range ds.length).filter (fun _ => false) = [] := by simp
  rw [hf, List.map_nil, ← rngD_nat] at lm
  refine sRet_ok (eBin_ok (eCb_ok (aCons_ok (eLc_ok (k := ⟨rngD 0 ds.length, none⟩) (iRng1D_ok (aCons_ok gl1 aNil_ok) (by omega)) (by exact lm) (Nat.zero_le _)) aNil_ok) rfl) eC_ok ?_)
  rfl
theorem same_nats (k : Nat) (F : List Nat) (hl : F.length ≤ 1000) (S : Sto) : f_law_sameN (k + 2) [.tup (natD F), .tup (natD F)] S = .ok (.bl true) S :=
  same_tup (k + 1) _ (by rw [natD_len]; exact hl) S fun d hd => by
    obtain ⟨x, _, rfl⟩ := natD_mem hd
    exact same_int k _ S
theorem same_parts {n : Nat} {E : List Edge} (hn : n ≤ 1000) (S : Sto) : f_law_same [.tup (partsD n E (List.range n)), .tup (partsD n E (List.range n))] S = .ok (.bl true) S :=
  same_tup 6 _ (Nat.le_trans (partsD_len _ _ _) (by rw [List.length_range]; exact hn)) S fun d hd => by
    unfold partsD at hd
    obtain ⟨p, _, rfl⟩ := List.mem_map.mp hd
    exact same_nats 4 _ (Nat.le_trans (List.length_filter_le _ _) (by rw [List.length_range]; exact hn)) S
end Ev

namespace Ev
open PySem PySem.Spec PyProof.Rows L2
/-! ### joins -/
def joined (n : Nat) (E : List Edge) (p : Nat × Nat) : Bool := rep n E p.1 == rep n E p.2
def joinsB (N : Net) (c : List Nat) (ps : List (Nat × Nat)) : Bool := ps.all (joined N.n (edges N c))
/-- the first pair that is not joined -/
def firstAp (n : Nat) (E : List Edge) (ps : List (Nat × Nat)) : Option Nat := ps.findIdx? fun p => !joined n E p
def optD : Option Nat → D
  | none => .non
  | some i => .int i
theorem firstAp_none {N : Net} {c : List Nat} {ps : List (Nat × Nat)} : (firstAp N.n (edges N c) ps).isNone = joinsB N c ps := by
  unfold firstAp joinsB
  induction ps with
  | nil => rfl
  | cons p ps ih =>
    rw [List.findIdx?_cons, List.all_cons]
    cases h : joined N.n (edges N c) p with
    | true =>
      simp only [Bool.not_true, Bool.false_eq_true, if_false, Bool.true_and, ← ih]
      cases List.findIdx? (fun p => !joined N.n (edges N c) p) ps <;> rfl
    | false => rfl
theorem mem_rep {n a b : Nat} {E : List Edge} (hb : b < n) : decide (b ∈ groupOf n E (rep n E a)) = joined n E (a, b) := by
  unfold joined
  by_cases h : rep n E a = rep n E b
  · rw [decide_eq_true (mem_group.2 ⟨hb, h.symm⟩)]
    exact (beq_iff_eq.mpr h).symm
  · rw [decide_eq_false (fun q => h (mem_group.1 q).2.symm)]
    exact (beq_eq_false_iff_ne.mpr h).symm
theorem first_apart_spec {N : Net} {most W : Nat} {c : List Nat} {cd : D} {ps : List (Nat × Nat)} (S : Sto) (hcd : SeqC cd c) (hm : most ≤ 1000) (hN : N.Ok most W) (hc : ChOk N c) (hp : PrOk N.n ps) :
    f_first_apart [netD N, pairsD ps, cd] S = .ok (optD (firstAp N.n (edges N c) ps)) S := by
  have hE := edges_ok hN hc
  have key := forGo_rt (items := enumDs 0 (ps.map pairD)) (tg := (.tp [(.nm 4), (.tp [(.nm 5), (.nm 6)])])) (b := (sIf (bBin oNotIn (eVar 6) (eCall 2 f_group_of (aCons (eVar 3) (aCons (eVar 5) aNil)))) (sRet (eVar 4)) sNext))
    (fun j ρ S' => (∃ x4 x5 x6, ρ = [some (netD N), some (pairsD ps), some cd, some (.tup (partsD N.n (edges N c) (List.range N.n))), x4, x5, x6]) ∧ S' = S ∧ ∀ i p, i < j → ps[i]? = some p → joined N.n (edges N c) p = true)
    (fun v S' => S' = S ∧ ∃ i, v = .int (i : Nat) ∧ firstAp N.n (edges N c) ps = some i)
    (ρ := [some (netD N), some (pairsD ps), some cd, some (.tup (partsD N.n (edges N c) (List.range N.n))), none, none, none]) (S := S) ⟨⟨_, _, _, rfl⟩, rfl, fun i p h => absurd h (Nat.not_lt_zero _)⟩ (by
    rintro j d ρ S' hd ⟨⟨x4, x5, x6, rfl⟩, rfl, hno⟩
    rw [enumDs_get, Nat.zero_add, List.getElem?_map] at hd
    obtain ⟨d0, hd0, rfl⟩ := Option.map_eq_some_iff.mp hd
    obtain ⟨p, hpj, rfl⟩ := Option.map_eq_some_iff.mp hd0
    have hpo := hp p (List.mem_of_getElem? hpj)
    refine ⟨[some (netD N), some (pairsD ps), some cd, some (.tup (partsD N.n (edges N c) (List.range N.n))), some (.int j), some (.int p.1), some (.int p.2)], rfl, ?_⟩
    have t : (bBin oNotIn (eVar 6) (eCall 2 f_group_of (aCons (eVar 3) (aCons (eVar 5) aNil)))) [some (netD N), some (pairsD ps), some cd, some (.tup (partsD N.n (edges N c) (List.range N.n))), some (.int j), some (.int p.1), some (.int p.2)] S' = .ok (!joined N.n (edges N c) p) S' :=
      bBin_ok (eVar_ok rfl) (eCall_ok (aCons_ok (eVar_ok rfl) (aCons_ok (eVar_ok rfl) aNil_ok)) rfl (group_of_spec hE (Nat.lt_trans hpo.1 hpo.2) S')) (by rw [oNotIn_nat seqOf_tup, mem_rep hpo.2])
    cases h : joined N.n (edges N c) p with
    | true =>
      rw [h] at t
      refine .inl ⟨_, _, .inl (sIf_fn t), ⟨_, _, _, rfl⟩, rfl, fun i q hi hq => ?_⟩
      rcases Nat.lt_or_ge i j with z | z
      · exact hno i q z hq
      · have : i = j := by omega
        subst this
        rw [hpj] at hq
        cases hq
        exact h
    | false =>
      rw [h] at t
      refine .inr ⟨_, _, (sIf_t t).trans (sRet_ok (eVar_ok rfl)), rfl, j, rfl, ?_⟩
      unfold firstAp
      rw [List.findIdx?_eq_some_iff_getElem]
      obtain ⟨hj, e⟩ := List.getElem?_eq_some_iff.mp hpj
      refine ⟨hj, by rw [e, h]; rfl, fun i hi => ?_⟩
      rw [hno i ps[i] hi (List.getElem?_eq_getElem (by omega))]
      decide)
  have s1 : (sSet 3 (eCall 2 f_groups (aCons (eVar 0) (aCons (eVar 2) aNil)))) [some (netD N), some (pairsD ps), some cd, none, none, none, none] S = .nx [some (netD N), some (pairsD ps), some cd, some (.tup (partsD N.n (edges N c) (List.range N.n))), none, none, none] S :=
    sSet_ok (eCall_ok (aCons_ok (eVar_ok rfl) (aCons_ok (eVar_ok rfl) aNil_ok)) rfl (groups_specC S hcd hm hN hc))
  rcases key with ⟨ρ', S', h1, ⟨x4, x5, x6, rfl⟩, rfl, hno⟩ | ⟨v, S', h1, rfl, i, rfl, hi⟩
  · have hnone : firstAp N.n (edges N c) ps = none := by
      unfold firstAp
      rw [List.findIdx?_eq_none_iff]
      intro p hp'
      obtain ⟨i, hi, e⟩ := List.getElem_of_mem hp'
      rw [hno i p (by rw [enumDs_len, List.length_map]; exact hi) (by rw [List.getElem?_eq_getElem hi, e])]
      rfl
    rw [hnone]
    refine runF_rt (S1 := S') (d := .non) ?_ (gc_same rfl)
    show b_first_apart [some (netD N), some (pairsD ps), some cd, none, none, none, none] S' = _
    unfold b_first_apart
    exact sSeq_nxo s1 (sSeq_nxo (sFor_ok (iEnumD_tup (aCons_ok (eVar_ok rfl) aNil_ok)) h1) (sRet_ok eC_ok))
  · rw [hi]
    refine runF_rt (S1 := S') (d := .int (i : Nat)) ?_ (gc_same rfl)
    show b_first_apart [some (netD N), some (pairsD ps), some cd, none, none, none, none] S' = _
    unfold b_first_apart
    exact sSeq_nxo s1 (sSeq_rt (sFor_ok (iEnumD_tup (aCons_ok (eVar_ok rfl) aNil_ok)) h1))
theorem oIsN_opt {S : Sto} (x : Option Nat) : oIsN (optD x) .non S = some (.bl x.isNone) := by cases x <;> rfl
end Ev

namespace Ev
open PySem PySem.Spec PyProof.Rows L2
theorem filter_zero {N : Net} {c : List Nat} {ps : List (Nat × Nat)} : decide (((ps.filter fun p => !joined N.n (edges N c) p).length : Int) = 0) = joinsB N c ps := by
  unfold joinsB
  cases h : ps.all (joined N.n (edges N c)) with
  | true =>
    rw [List.all_eq_true] at h
    have : ps.filter (fun p => !joined N.n (edges N c) p) = [] := List.filter_eq_nil_iff.2 fun p hp => by rw [h p hp]; decide
    rw [this]
    rfl
  | false =>
    refine decide_eq_false fun q => ?_
    have q : (ps.filter fun p => !joined N.n (edges N c) p).length = 0 := by omega
    rw [List.length_eq_zero_iff, List.filter_eq_nil_iff] at q
    have : ps.all (joined N.n (edges N c)) = true := List.all_eq_true.2 fun p hp => by
      have := q p hp
      simpa using this
    rw [h] at this
    cases this
theorem law_joins_spec {N : Net} {most W : Nat} {c : List Nat} {cd : D} {ps : List (Nat × Nat)} (S : Sto) (hcd : SeqC cd c) (hm : most ≤ 1000) (hN : N.Ok most W) (hc : ChOk N c) (hp : PrOk N.n ps) (hl : ps.length ≤ 1000) :
    f_law_joins [netD N, pairsD ps, cd] S = .ok (.bl (joinsB N c ps)) S := by
  have lm : lcGo ⟨ps.map pairD, none⟩ (.nm 3) (bBin oNotIn (eBin oIx (eVar 3) (eC (.int 1))) (eCall 3 f_law_group (aCons (eVar 0) (aCons (eVar 2) (aCons (eBin oIx (eVar 3) (eC (.int 0))) aNil))))) (eVar 3) [some (netD N), some (pairsD ps), some cd, none] (ps.map pairD) S =
      .ok ((ps.filter fun p => !joined N.n (edges N c) p).map pairD) S := lcGo_filterN ps fun p hp' => by
    have hpo := hp p hp'
    refine ⟨[some (netD N), some (pairsD ps), some cd, some (pairD p)], rfl, ?_, fun _ => eVar_ok rfl⟩
    exact bBin_ok (eBin_ok (eVar_ok rfl) eC_ok (oIx_tup.trans atI_1)) (eCall_ok (aCons_ok (eVar_ok rfl) (aCons_ok (eVar_ok rfl) (aCons_ok (eBin_ok (eVar_ok rfl) eC_ok (oIx_tup.trans atI_0)) aNil_ok))) rfl (group_specC S hcd hm hN hc (Nat.lt_trans hpo.1 hpo.2))) (by rw [oNotIn_nat seqOf_tup, mem_rep hpo.2])
  refine runF_rt (S1 := S) (d := .bl (joinsB N c ps)) ?_ (gc_same rfl)
  show b_law_joins [some (netD N), some (pairsD ps), some cd, none] S = _
  unfold b_law_joins
  refine sRet_ok (eBin_ok (x := .int ((ps.filter fun p => !joined N.n (edges N c) p).length : Nat)) (eCb_ok (aCons_ok (eLc_ok (k := ⟨ps.map pairD, none⟩) (iSeqD_tup (eVar_ok rfl)) (by exact lm) (sizeLine_ok ?_)) aNil_ok) ?_) eC_ok ?_)
  · rw [List.length_map]
    exact Nat.le_trans (List.length_filter_le _ _) hl
  · show (gLen _ _).map _ = _
    rw [gLen_seq seqOf_lst, List.length_map]
    rfl
  · rw [oEq_int, filter_zero]
/-! ### spare -/
theorem chOk_filter {N : Net} {c : List Nat} {f : Nat → Bool} (h : ChOk N c) : ChOk N (c.filter f) := ⟨Nat.le_trans (List.length_filter_le _ _) h.1, fun k hk => h.2 k (List.mem_filter.mp hk).1⟩
theorem same_non (k : Nat) (S : Sto) : f_law_sameN (k + 1) [.non, .non] S = .ok (.bl true) S := by
  refine runF_rt (S1 := S) (d := .bl true) ?_ (gc_same rfl)
  show b_law_same (f_law_sameN k) [some .non, some .non, none] S = _
  unfold b_law_same
  have t0 : bVal (eIsi "tuple" (eVar 1)) [some .non, some .non, none] S = .ok false S := bVal_ok (by unfold eIsi; rw [eVar_ok rfl]; rfl)
  refine sSeq_nxo (sIf_fn t0) (sSeq_rt ((sIf_t (bBin_ok (c := true) (eVar_ok rfl) eC_ok rfl)).trans (sRet_ok (eBin_ok (eVar_ok rfl) eC_ok rfl))))
theorem same_opt (k : Nat) (x : Option Nat) (S : Sto) : f_law_sameN (k + 1) [optD x, optD x] S = .ok (.bl true) S := by
  cases x with
  | none => exact same_non k S
  | some i => exact same_int k _ S
end Ev

namespace Ev
open PySem PySem.Spec PyProof.Rows L2
/-! ### the law -/
theorem pool_spec (ns : List Int) : f_law_pool [.frz (ns.map D.int)] [] = .ok (.loc 0) [poolC ⟨ns, 0, 0, 0, 0⟩] := by
  refine runF_rt (S1 := [poolC ⟨ns, 0, 0, 0, 0⟩]) (d := .loc 0) ?_ ?_
  · show b_law_pool [some (.frz (ns.map D.int))] [] = _
    unfold b_law_pool
    refine sRet_ok ?_
    unfold eLstA
    rw [aCons_ok (eCb_ok (op := oList false) (d := .lst (ns.map D.int)) (S2 := []) (aCons_ok (eVar_ok rfl) aNil_ok) rfl) (aCons_ok eC_ok (aCons_ok eC_ok (aCons_ok eC_ok (aCons_ok eC_ok aNil_ok))))]
    have sl : (5 : Nat) ≤ sizeLine := sizeLine_ok (by omega)
    simp only [R.bind, List.length_cons, List.length_nil, Nat.reduceAdd, sl, if_true, List.nil_append]
    rfl
  · unfold gc
    rw [if_neg]
    rintro ⟨_, h, _⟩
    cases h
theorem pick2 {P : Pool} (a b : Nat) (h0 : 0 ≤ P.pos) : ∃ (v : Nat) (P' : Pool), (v = a ∨ v = b) ∧ 0 ≤ P'.pos ∧ f_law_pick [.loc 0, .lst [.int a, .int b]] [poolC P] = .ok (.int v) [poolC P'] := by
  obtain ⟨v, P', hv, p', e⟩ := pick1 (T := []) (ds := [.int a, .int b]) h0 (by simp) (by simp) rfl
  simp only [List.mem_cons, List.not_mem_nil, or_false] at hv
  rcases hv with rfl | rfl
  · exact ⟨a, P', .inl rfl, p', e⟩
  · exact ⟨b, P', .inr rfl, p', e⟩
theorem all_choice (N : Net) : ChOk N (List.range N.ways.length) := ⟨by rw [List.length_range]; exact Nat.le_refl _, fun k hk => List.mem_range.mp hk⟩
theorem no_choice (N : Net) : ChOk N [] := ⟨Nat.zero_le _, fun k hk => by simp at hk⟩
noncomputable def ltest (x y : EF) : SF := sIf (bNot (bVal (eCall 2 f_law_same (aCons x (aCons y aNil))))) (sRet (eC (.bl false))) sNext
theorem ltest_ok {x y : EF} {ρ : En} {S : Sto} {d : D} (hx : x ρ S = .ok d S) (hy : y ρ S = .ok d S) (h : f_law_same [d, d] S = .ok (.bl true) S) : ltest x y ρ S = .nx ρ S :=
  sIf_fn (bNot_ok (b := true) (bVal_ok (eCall_ok (aCons_ok hx (aCons_ok hy aNil_ok)) rfl h)))
end Ev

namespace Ev
open PySem PySem.Spec PyProof.Rows L2
/-! ### exact ratios -/
def rD (q : Rat) : D := .tup [.int q.num, .int q.den]
/-- a value that stands for a ratio -/
def isR (x : D) (q : Rat) : Prop := x = rD q ∨ x = .con [.int q.num, .int q.den]
theorem isR_rD (q : Rat) : isR (rD q) q := .inl rfl
theorem isR_zero : isR (.con (([0, 1] : List Int).map D.int)) 0 := .inr rfl
theorem isR.ix0 {x : D} {q : Rat} {S : Sto} (h : isR x q) : oIx x (.int 0) S = some (.int q.num) := by
  rcases h with rfl | rfl
  · exact oIx_tup.trans atI_0
  · exact oIx_con.trans atI_0
theorem isR.ix1 {x : D} {q : Rat} {S : Sto} (h : isR x q) : oIx x (.int 1) S = some (.int q.den) := by
  rcases h with rfl | rfl
  · exact oIx_tup.trans atI_1
  · exact oIx_con.trans atI_1
theorem okD_rD (n : Nat) (q : Rat) : okD n (rD q) = true := by unfold rD; simp only [okD, okDs, Bool.and_self]
theorem num_mk (n : Int) {d : Nat} (hd : 0 < d) : (mkRat n d).num = n / ((Nat.gcd n.natAbs d : Nat) : Int) := by
  rw [Rat.num_mkRat, if_neg (by omega), Nat.gcd_comm]
theorem den_mk (n : Int) {d : Nat} (hd : 0 < d) : (((mkRat n d).den : Nat) : Int) = (d : Int) / ((Nat.gcd n.natAbs d : Nat) : Int) := by
  rw [Rat.den_mkRat, if_neg (by omega), Nat.gcd_comm]
  exact Int.natCast_ediv _ _
theorem ratio_spec {S : Sto} {n : Int} {d : Nat} (hd : 0 < d) (hd2 : d < 18446744073709551616) : f_ratio [.int n, .int (d : Int)] S = .ok (rD (mkRat n d)) S := by
  have gp : 0 < Nat.gcd n.natAbs d := Nat.gcd_pos_of_pos_right _ hd
  have gl : Nat.gcd n.natAbs d ≤ d := Nat.gcd_le_right _ hd
  have cv : ∀ i : Int, CDv i ((Nat.gcd n.natAbs d : Nat) : Int) := fun i => ⟨by omega, by omega⟩
  have lt : oLt (.int (d : Int)) (.int 0) S = some (.bl false) := by rw [oLt_int, decide_eq_false (by omega)]
  unfold f_ratio
  refine runF_rt (S1 := S) (d := rD (mkRat n d)) ?_ (gc_same (okD_rD _ _))
  unfold b_ratio
  refine (sSeq_nx (sIf_fn (bBin_ok (eVar_ok rfl) eC_ok lt))).trans ?_
  have gg : pure1 gGcd [.int n, .int (d : Int)] S = some (.int ((Nat.gcd n.natAbs d : Nat) : Int), S) := by
    unfold pure1 gGcd
    simp only [Int.natAbs_natCast, Option.map_some]
  refine (sSeq_nx (S1 := S) (sSet_ok (eCb_ok (aCons_ok (eVar_ok rfl) (aCons_ok (eVar_ok rfl) aNil_ok)) gg))).trans ?_
  refine sRet_ok ?_
  unfold rD
  rw [num_mk n hd, den_mk n hd]
  refine eTup_ok (aCons_ok (eBin_ok (eVar_ok rfl) (eVar_ok rfl) (oDiv_int (cv _))) (aCons_ok (eBin_ok (eVar_ok rfl) (eVar_ok rfl) (oDiv_int (cv _))) aNil_ok)) (by show 2 ≤ 1000; decide)
/-- a ratio that stays small -/
def sml (q : Rat) : Prop := q.den < 1073741824
theorem cm_den {q : Rat} (h : sml q) (x : Int) : CMul x (q.den : Int) := CMul.r (by unfold sml at h; omega)
theorem dd {a b : Rat} (ha : sml a) (hb : sml b) : 0 < a.den * b.den ∧ a.den * b.den < 18446744073709551616 := by
  have h1 := a.den_pos
  have h2 := b.den_pos
  unfold sml at ha hb
  exact ⟨Nat.mul_pos h1 h2, Nat.lt_of_le_of_lt (Nat.mul_le_mul (Nat.le_of_lt ha) (Nat.le_of_lt hb)) (by decide)⟩
section
variable {S : Sto} {x y : D} {a b : Rat}
theorem plus_spec (hx : isR x a) (hy : isR y b) (ha : sml a) (hb : sml b) : f_plus [x, y] S = .ok (rD (a + b)) S := by
  unfold f_plus
  refine runF_rt (S1 := S) (d := rD (a + b)) ?_ (gc_same (okD_rD _ _))
  unfold b_plus
  have h := ratio_spec (S := S) (n := a.num * b.den + b.num * a.den) (dd ha hb).1 (dd ha hb).2
  rw [← Rat.add_def'] at h
  refine sRet_ok (eCall_ok (ds := [.int (a.num * b.den + b.num * a.den), .int ((a.den * b.den : Nat) : Int)]) (aCons_ok (eBin_ok (eBin_ok (eBin_ok (eVar_ok rfl) eC_ok hx.ix0) (eBin_ok (eVar_ok rfl) eC_ok hy.ix1) (oMul_int (cm_den hb _))) (eBin_ok (eBin_ok (eVar_ok rfl) eC_ok hy.ix0) (eBin_ok (eVar_ok rfl) eC_ok hx.ix1) (oMul_int (cm_den ha _))) oAdd_int) (aCons_ok ?_ aNil_ok)) rfl h)
  rw [Int.natCast_mul]
  exact eBin_ok (eBin_ok (eVar_ok rfl) eC_ok hx.ix1) (eBin_ok (eVar_ok rfl) eC_ok hy.ix1) (oMul_int (cm_den hb _))
theorem minus_spec (hx : isR x a) (hy : isR y b) (ha : sml a) (hb : sml b) : f_minus [x, y] S = .ok (rD (a - b)) S := by
  unfold f_minus
  refine runF_rt (S1 := S) (d := rD (a - b)) ?_ (gc_same (okD_rD _ _))
  unfold b_minus
  have h := ratio_spec (S := S) (n := a.num * b.den - b.num * a.den) (dd ha hb).1 (dd ha hb).2
  rw [← Rat.sub_def'] at h
  refine sRet_ok (eCall_ok (ds := [.int (a.num * b.den - b.num * a.den), .int ((a.den * b.den : Nat) : Int)]) (aCons_ok (eBin_ok (eBin_ok (eBin_ok (eVar_ok rfl) eC_ok hx.ix0) (eBin_ok (eVar_ok rfl) eC_ok hy.ix1) (oMul_int (cm_den hb _))) (eBin_ok (eBin_ok (eVar_ok rfl) eC_ok hy.ix0) (eBin_ok (eVar_ok rfl) eC_ok hx.ix1) (oMul_int (cm_den ha _))) oSub_int) (aCons_ok ?_ aNil_ok)) rfl h)
  rw [Int.natCast_mul]
  exact eBin_ok (eBin_ok (eVar_ok rfl) eC_ok hx.ix1) (eBin_ok (eVar_ok rfl) eC_ok hy.ix1) (oMul_int (cm_den hb _))
theorem times_spec (hx : isR x a) (hy : isR y b) (ha : sml a) (hb : sml b) (hm : CMul a.num b.num) : f_times [x, y] S = .ok (rD (a * b)) S := by
  unfold f_times
  refine runF_rt (S1 := S) (d := rD (a * b)) ?_ (gc_same (okD_rD _ _))
  unfold b_times
  have h := ratio_spec (S := S) (n := a.num * b.num) (dd ha hb).1 (dd ha hb).2
  rw [← Rat.mul_def'] at h
  refine sRet_ok (eCall_ok (ds := [.int (a.num * b.num), .int ((a.den * b.den : Nat) : Int)]) (aCons_ok (eBin_ok (eBin_ok (eVar_ok rfl) eC_ok hx.ix0) (eBin_ok (eVar_ok rfl) eC_ok hy.ix0) (oMul_int hm)) (aCons_ok ?_ aNil_ok)) rfl h)
  rw [Int.natCast_mul]
  exact eBin_ok (eBin_ok (eVar_ok rfl) eC_ok hx.ix1) (eBin_ok (eVar_ok rfl) eC_ok hy.ix1) (oMul_int (cm_den hb _))
theorem less_spec (hx : isR x a) (hy : isR y b) (ha : sml a) (hb : sml b) : f_less [x, y] S = .ok (.bl (decide (a < b))) S := by
  unfold f_less
  refine runF_rt (S1 := S) (d := .bl (decide (a < b))) ?_ (gc_same rfl)
  unfold b_less
  have e : decide (a < b) = decide (a.num * b.den < b.num * a.den) := decide_eq_decide.mpr (Rat.lt_iff a b)
  rw [e]
  exact sRet_ok (eBin_ok (eBin_ok (eBin_ok (eVar_ok rfl) eC_ok hx.ix0) (eBin_ok (eVar_ok rfl) eC_ok hy.ix1) (oMul_int (cm_den hb _))) (eBin_ok (eBin_ok (eVar_ok rfl) eC_ok hy.ix0) (eBin_ok (eVar_ok rfl) eC_ok hx.ix1) (oMul_int (cm_den ha _))) oLt_int)
/-- over a whole number -/
theorem over_spec {n : Nat} (hx : isR x a) (hy : isR y (n : Rat)) (hn : 0 < n) (hn2 : n < 1073741824) (ha : sml a) : f_over [x, y] S = .ok (rD (a / (n : Rat))) S := by
  unfold f_over
  refine runF_rt (S1 := S) (d := rD (a / (n : Rat))) ?_ (gc_same (okD_rD _ _))
  unfold b_over
  have e0 : (n : Rat).num = (n : Int) := Rat.num_natCast n
  have e1 : (n : Rat).den = 1 := Rat.den_natCast n
  have dp : 0 < a.den * n := Nat.mul_pos a.den_pos hn
  have dl : a.den * n < 18446744073709551616 := by unfold sml at ha; exact Nat.lt_of_le_of_lt (Nat.mul_le_mul (Nat.le_of_lt ha) (Nat.le_of_lt hn2)) (by decide)
  have h := ratio_spec (S := S) (n := a.num * 1) dp dl
  have er : mkRat (a.num * 1) (a.den * n) = a / (n : Rat) := by
    rw [Int.mul_one, Rat.mkRat_eq_div, Rat.natCast_mul]
    have := Rat.mkRat_eq_div a.num a.den
    rw [Rat.mkRat_self] at this
    have n0 : (n : Rat) ≠ 0 := by exact_mod_cast (by omega : n ≠ 0)
    have d0 : (a.den : Rat) ≠ 0 := by exact_mod_cast a.den_nz
    grind
  rw [er] at h
  have q1 := hy.ix1 (S := S)
  have q0 := hy.ix0 (S := S)
  rw [e1] at q1
  rw [e0] at q0
  refine sRet_ok (eCall_ok (S1 := S) (ds := [.int (a.num * 1), .int ((a.den * n : Nat) : Int)]) (aCons_ok (S1 := S) (eBin_ok (eBin_ok (eVar_ok rfl) eC_ok hx.ix0) (eBin_ok (eVar_ok rfl) eC_ok q1) (oMul_int (CMul.r (by decide)))) (aCons_ok (S1 := S) ?_ aNil_ok)) rfl h)
  rw [Int.natCast_mul]
  exact eBin_ok (eBin_ok (eVar_ok rfl) eC_ok hx.ix1) (eBin_ok (eVar_ok rfl) eC_ok q0) (oMul_int (CMul.r (by omega)))
end
end Ev

namespace Ev
open PySem PySem.Spec PyProof.Rows L2
/-! ### Euclid in the law's words -/
theorem two_mod {a b : Nat} (h : b ≤ a) (hb : 0 < b) : 2 * (a % b) ≤ a := by
  have h1 := Nat.mod_lt a hb
  have h2 := Nat.div_add_mod a b
  have h3 : 1 ≤ a / b := Nat.div_pos h hb
  have h4 : b * 1 ≤ b * (a / b) := Nat.mul_le_mul_left b h3
  omega
abbrev gBody : SF := sSeq (sIf (bBin oEq (eVar 1) (eC (.int 0))) (sRet (eVar 0)) sNext)
    (sPar 0 1 (aCons (eVar 1) (aCons (eBin oMod (eCb (pure1 gInt) (aCons (eVar 0) aNil)) (eVar 1)) aNil)))
theorem gBody_0 {a : Int} {S : Sto} {o : Option D} : gBody [some (.int a), some (.int 0), o] S = .rt (.int a) S := by
  simp only [eVar, eC, eBin, bBin, bVal, bAnd, bOr, bNot, eAnd, eOr, eNot, eIf, eNeg, eOrT, liftO_some, liftB_bl, liftG_some, liftP_some, R.bind, R.nox_ok, sB, aNil, aCons, sSeq, sSet, sIf, sRet, sRetN, sNext, sExpr, sAsg, sSub, sBrk, sCnt, eCb, pure1, eIsi, bYes, pNone, pSome, List.getElem?_cons_zero, List.getElem?_cons_succ, List.set_cons_zero, List.set_cons_succ, Option.map_some, Option.bind_some, List.map_cons, List.map_nil, List.length_cons, List.length_nil, List.nil_append, List.cons_append, List.replicate_succ, List.replicate_zero, Nat.reduceSub, Nat.reduceAdd, Nat.add_eq, Nat.zero_add, if_true, if_false, reduceIte, Bool.false_eq_true, Bool.not_true, Bool.not_false, Tg.asg, asgs, tupOf, decide_true, decide_false, ite_true, ite_false, oAdd_int, oSub_int, oLt_int, oLe_int, oGt_int, oGe_int, oEq_int, oNe_int, oEq_str, atI_0, atI_1, atI_2, atI_3, atI_4, ixN51, ixN52, ixN53, ixN54, gInt, gAbs, gMin, gMax, oIx_tup, oIx_lst, oIx_con, seqOf_tup, seqOf_lst, List.length_set]
theorem gBody_s {a b : Nat} {S : Sto} {o : Option D} (hb : 0 < b) : gBody [some (.int a), some (.int b), o] S = .nx [some (.int b), some (.int ((a % b : Nat) : Int)), o] S := by
  have h : decide ((b : Int) = 0) = false := decide_eq_false (by omega)
  have h1 : (0 : Int) < b := by omega
  simp only [eVar, eC, eBin, bBin, bVal, bAnd, bOr, bNot, eAnd, eOr, eNot, eIf, eNeg, eOrT, liftO_some, liftB_bl, liftG_some, liftP_some, R.bind, R.nox_ok, sB, aNil, aCons, sSeq, sSet, sIf, sRet, sRetN, sNext, sExpr, sAsg, sSub, sBrk, sCnt, eCb, pure1, eIsi, bYes, pNone, pSome, List.getElem?_cons_zero, List.getElem?_cons_succ, List.set_cons_zero, List.set_cons_succ, Option.map_some, Option.bind_some, List.map_cons, List.map_nil, List.length_cons, List.length_nil, List.nil_append, List.cons_append, List.replicate_succ, List.replicate_zero, Nat.reduceSub, Nat.reduceAdd, Nat.add_eq, Nat.zero_add, if_true, if_false, reduceIte, Bool.false_eq_true, Bool.not_true, Bool.not_false, Tg.asg, asgs, tupOf, decide_true, decide_false, ite_true, ite_false, oAdd_int, oSub_int, oLt_int, oLe_int, oGt_int, oGe_int, oEq_int, oNe_int, oEq_str, atI_0, atI_1, atI_2, atI_3, atI_4, ixN51, ixN52, ixN53, ixN54, gInt, gAbs, gMin, gMax, oIx_tup, oIx_lst, oIx_con, seqOf_tup, seqOf_lst, List.length_set, h, oMod_int h1, sPar, Int.natCast_emod]
theorem forGo_nx1 {it ds : List D} {d : D} {tg : Tg} {b : SF} {ρ ρ1 ρ2 : En} {S S2 : Sto} (h : tg.asg d ρ S = some ρ1) (h2 : b ρ1 S = .nx ρ2 S2) : forGo ⟨it, none⟩ tg b (d :: ds) ρ S = forGo ⟨it, none⟩ tg b ds ρ2 S2 := by
  rw [forGo, Wk.guard, if_pos (show Wk.ok ⟨it, none⟩ S from True.intro), h]
  dsimp only
  rw [h2]
theorem forGo_rt1 {it ds : List D} {d v : D} {tg : Tg} {b : SF} {ρ ρ1 : En} {S S2 : Sto} (h : tg.asg d ρ S = some ρ1) (h2 : b ρ1 S = .rt v S2) : forGo ⟨it, none⟩ tg b (d :: ds) ρ S = .rt v S2 := by
  rw [forGo, Wk.guard, if_pos (show Wk.ok ⟨it, none⟩ S from True.intro), h]
  dsimp only
  rw [h2]
theorem gcd_loop {it : List D} {S : Sto} : ∀ (k : Nat) (items : List D) (a b : Nat) (o : Option D), k < items.length → b ≤ a → a * b < 2 ^ k →
    forGo ⟨it, none⟩ (.nm 2) gBody items [some (.int a), some (.int b), o] S = .rt (.int ((Nat.gcd a b : Nat) : Int)) S
  | k, [], a, b, o, h, _, _ => by simp at h
  | k, d :: ds, a, b, o, h, hab, hk => by
    have e : Tg.asg (.nm 2) d [some (.int (a : Int)), some (.int (b : Int)), o] S = some [some (.int (a : Int)), some (.int (b : Int)), some d] := rfl
    by_cases hb : b = 0
    · subst hb
      rw [Nat.gcd_zero_right]
      exact forGo_rt1 e gBody_0
    · have hp : 0 < b := by omega
      rw [forGo_nx1 e (gBody_s hp)]
      cases k with
      | zero =>
        have : 0 < a * b := Nat.mul_pos (by omega) hp
        omega
      | succ k =>
        have hm : b * (a % b) < 2 ^ k := by
          have h1 := Nat.mul_le_mul_left b (two_mod hab hp)
          rw [Nat.mul_comm a b, Nat.pow_succ] at hk
          rw [← Nat.mul_assoc, Nat.mul_comm b 2, Nat.mul_assoc] at h1
          omega
        have ih := gcd_loop (it := it) (S := S) k ds b (a % b) (some d) (by simp at h; omega) (Nat.le_of_lt (Nat.mod_lt a hp)) hm
        rw [ih, Nat.gcd_comm a b, Nat.gcd_rec b a, Nat.gcd_comm]
theorem eucl {it : List D} {S : Sto} {a b : Nat} (items : List D) (hl : 1000 ≤ items.length) (ha : a < 2 ^ 100) (hb : b < 2 ^ 100) (hp : 0 < b) : forGo ⟨it, none⟩ (.nm 2) gBody items [some (.int a), some (.int b), none] S = .rt (.int ((Nat.gcd a b : Nat) : Int)) S := by
  have pw : 2 ^ 100 * 2 ^ 100 = 2 ^ 200 := by decide
  by_cases hab : b ≤ a
  · exact gcd_loop 200 _ a b none (by omega) hab (pw ▸ Nat.mul_lt_mul'' ha hb)
  · cases items with
    | nil => simp at hl
    | cons d ds =>
      rw [forGo_nx1 rfl (gBody_s hp), Nat.mod_eq_of_lt (by omega)]
      rw [gcd_loop 200 ds b a (some d) (by simp only [List.length_cons] at hl; omega) (by omega) (pw ▸ Nat.mul_lt_mul'' hb ha), Nat.gcd_comm]
theorem law_gcd_spec {a b : Nat} {S : Sto} (ha : a < 2 ^ 100) (hb : b < 2 ^ 100) (hp : 0 < b) : f_law_gcd [.int a, .int b] S = .ok (.int ((Nat.gcd a b : Nat) : Int)) S := by
  unfold f_law_gcd
  refine runF_rt (S1 := S) (d := .int ((Nat.gcd a b : Nat) : Int)) ?_ (gc_same rfl)
  unfold b_law_gcd
  refine sSeq_rt ?_
  have e : iRng1D (aCons (eC (.int 100000)) aNil) (List.map some [D.int (a : Int), .int (b : Int)] ++ List.replicate (3 - [D.int (a : Int), .int (b : Int)].length) none) S = .ok ⟨rngD 0 (Int.toNat 100000), none⟩ S := iRng1D_int (aCons_ok eC_ok aNil_ok) (by decide)
  refine sFor_ok e (eucl _ ?_ ha hb hp)
  unfold rngD
  rw [List.length_map, List.length_range]
  decide
def two40 : Nat := 1099511627776
end Ev

namespace Ev
open PySem PySem.Spec PyProof.Rows L2
/-! ### parts and ways: the plain words -/
def partD (p : List Nat) : D := .tup (natD p)
def inP (x : Nat) (p : List Nat) : Bool := decide (x ∈ p)
def cutW (w : Way) (p : List Nat) : Bool := inP w.a p != inP w.b p
def sidesF (w : Way) (ps : List (List Nat)) : List (List Nat) := ps.filter fun p => inP w.a p || inP w.b p
def sidesP (w : Way) (ps : List (List Nat)) : List (List Nat) := if (sidesF w ps).length = 2 then sidesF w ps else []
def openP (prs : List (Nat × Nat)) (p : List Nat) : Bool := prs.any fun q => inP q.1 p != inP q.2 p
def partsL (ps : List (List Nat)) : List D := ps.map partD
/-- a value that holds the parts -/
def SeqP (S : Sto) (d : D) (ps : List (List Nat)) : Prop := d = .tup (partsL ps) ∨ d = .lst (partsL ps)
theorem SeqP.iter {S : Sto} {d : D} {ps : List (List Nat)} (h : SeqP S d ps) {fe : EF} {ρ : En} {S' : Sto} (e : fe ρ S = .ok d S') : iSeqD fe ρ S = .ok ⟨partsL ps, none⟩ S' := by
  rcases h with rfl | rfl
  · exact iSeqD_tup e
  · exact iSeqD_lst e
theorem oIn_part {S : Sto} {a : Nat} {p : List Nat} : oIn (.int a) (partD p) S = some (.bl (inP a p)) := oIn_nat seqOf_tup
theorem oNe_bl {S : Sto} {a b : Bool} : oNe (.bl a) (.bl b) S = some (.bl (a != b)) := by cases a <;> cases b <;> rfl
theorem bOr_ok {f g : BF} {ρ : En} {S : Sto} {a b : Bool} (h : f ρ S = .ok a S) (h2 : g ρ S = .ok b S) : bOr f g ρ S = .ok (a || b) S := by
  unfold bOr
  rw [h]
  cases a with
  | true => rfl
  | false => simp only [R.bind, h2, Bool.false_or]; rfl
theorem partsL_len (ps : List (List Nat)) : (partsL ps).length = ps.length := List.length_map _
theorem SeqP.len {S : Sto} {d : D} {ps : List (List Nat)} (h : SeqP S d ps) : gLen [d] S = some (.int ps.length) := by
  rw [← partsL_len]
  rcases h with rfl | rfl
  · exact gLen_seq seqOf_tup
  · exact gLen_seq seqOf_lst
theorem eIf_ok {t : BF} {f g : EF} {ρ : En} {S S1 : Sto} {b : Bool} {x y : D} (h : t ρ S = .ok b S) (h2 : f ρ S = .ok x S1) (h3 : g ρ S = .ok y S1) : eIf t f g ρ S = .ok (if b = true then x else y) S1 := by
  unfold eIf
  rw [h]
  cases b with
  | true => exact h2
  | false => exact h3
theorem pure1_ok {g : List D → Sto → Option D} {ds : List D} {S : Sto} {d : D} (h : g ds S = some d) : pure1 g ds S = some (d, S) := by
  unfold pure1
  rw [h]
  rfl
end Ev

namespace Ev
open PySem PySem.Spec PyProof.Rows L2
/-! ### widths -/
def keyN (p : List Nat) : List Key := p.map fun (x : Nat) => Sum.inl (x : Int)
theorem keyN_D (p : List Nat) : keyD (keyN p) = partD p := by
  unfold keyD keyN partD natD
  rw [List.map_map]
  rfl
theorem keysOf_nat : ∀ p : List Nat, keysOf (natD p) = some (keyN p)
  | [] => rfl
  | x :: p => by
    have ih := keysOf_nat p
    unfold natD keyN at ih ⊢
    simp only [List.map_cons, keysOf, key1, ih]
theorem keyT_part (p : List Nat) : keyT (partD p) = some (keyN p) := keysOf_nat p
theorem keyN_inj {p q : List Nat} (h : keyN p = keyN q) : p = q :=
  (List.map_inj_right (f := fun (x : Nat) => (Sum.inl (x : Int) : Key)) (fun a b e => by injection e with e; exact Int.ofNat.inj e)).1 h
/-- a dict over parts -/
def dictL {α : Type} (f : α → D) (ws : List (List Nat × α)) : List (List Key × D) := ws.map fun e => (keyN e.1, f e.2)
def getW {α : Type} (p : List Nat) : List (List Nat × α) → Option α
  | [] => none
  | e :: ws => if e.1 = p then some e.2 else getW p ws
def putW {α : Type} (p : List Nat) (a : α) : List (List Nat × α) → List (List Nat × α)
  | [] => [(p, a)]
  | e :: ws => if e.1 = p then (p, a) :: ws else e :: putW p a ws
theorem valD_dict {α : Type} {f : α → D} {p : List Nat} : ∀ ws : List (List Nat × α), valD (keyN p) (dictL f ws) = (getW p ws).map f
  | [] => rfl
  | e :: ws => by
    have ih := valD_dict (f := f) (p := p) ws
    unfold dictL at ih ⊢
    simp only [List.map_cons, valD, getW, ih]
    by_cases h : e.1 = p
    · rw [if_pos h, if_pos (by rw [h])]; rfl
    · rw [if_neg h, if_neg (fun q => h (keyN_inj q))]
theorem lcGo_filterK {α : Type} {k : Wk} {tg : Tg} {tt : BF} {te : EF} {ρ0 : En} {S : Sto} {c : α → Bool} {f g : α → D} (hk : k.ok S) : ∀ (xs : List α), (∀ x ∈ xs, ∃ ρ1, tg.asg (f x) ρ0 S = some ρ1 ∧ tt ρ1 S = .ok (c x) S ∧ (c x = true → te ρ1 S = .ok (g x) S)) →
    lcGo k tg tt te ρ0 (xs.map f) S = .ok ((xs.filter c).map g) S
  | [], _ => by simp only [List.map_nil, List.filter_nil]; unfold lcGo Wk.guard; rw [if_pos hk]
  | x :: xs, h => by
    obtain ⟨ρ1, h1, h2, h3⟩ := h x List.mem_cons_self
    have ih := lcGo_filterK (g := g) hk xs fun d' hd => h d' (List.mem_cons_of_mem _ hd)
    simp only [List.map_cons]
    unfold lcGo Wk.guard
    rw [if_pos hk, h1]
    cases hc : c x with
    | true => simp only [R.nox, R.bind, h2, hc, h3 hc, ih, List.filter_cons, List.map_cons, if_true]
    | false => simp only [R.nox, R.bind, h2, hc, ih, List.filter_cons, Bool.false_eq_true, if_false]
end Ev

namespace Ev
open PySem PySem.Spec PyProof.Rows L2
def natV (u : Nat) : D := .int u
def loadW (w : Way) (ws : List (List Nat × Nat)) : Nat := ((ws.filter fun e => cutW w e.1).map fun e => e.2).sum
theorem getW_mem {α : Type} : ∀ {ws : List (List Nat × α)}, (ws.map (·.1)).Nodup → ∀ e ∈ ws, getW e.1 ws = some e.2
  | [], _, e, h => by simp at h
  | x :: ws, nd, e, h => by
    rw [List.map_cons, List.nodup_cons] at nd
    unfold getW
    rcases List.mem_cons.mp h with q | q
    · rw [q, if_pos rfl]
    · rw [if_neg (fun z => nd.1 (List.mem_map.mpr ⟨e, q, z.symm⟩))]
      exact getW_mem nd.2 e q
theorem dGet_dict {α : Type} {f : α → D} {S : Sto} {n : Nat} {p : List Nat} {ws : List (List Nat × α)} (h : S[n]? = some (.dT (dictL f ws)) ∨ S[n]? = some (.fT (dictL f ws))) : dGet S (.loc n) (partD p) = some ((getW p ws).map f) := by
  unfold dGet
  rcases h with h | h <;> simp only [h, keyT_part, Option.map_some, valD_dict]
theorem intsOf_natV (us : List Nat) : intsOf (us.map natV) = some (us.map Int.ofNat) := intsOf_nat us
theorem sum_ofNat : ∀ us : List Nat, (us.map Int.ofNat).sum = ((us.sum : Nat) : Int)
  | [] => rfl
  | u :: us => by
    rw [List.map_cons, List.sum_cons, List.sum_cons, sum_ofNat us, Int.natCast_add]
    rfl
theorem set_eq_of_get {S : Sto} {n : Nat} {c : Cel} (h : S[n]? = some c) : S.set n c = S := by
  obtain ⟨h1, h2⟩ := List.getElem?_eq_some_iff.mp h
  rw [← h2]
  exact List.set_getElem_self h1
end Ev

namespace Ev
open PySem PySem.Spec PyProof.Rows L2
/-- a for that returns at the first item that passes -/
theorem forGo_find {items : List D} {tg : Tg} {b : SF} {c : Nat → Bool} {v : Nat → D} {S : Sto} (I : En → Prop) {ρ : En} (h0 : I ρ)
    (step : ∀ j d ρ, items[j]? = some d → I ρ → ∃ ρ1, tg.asg d ρ S = some ρ1 ∧ I ρ1 ∧ (c j = false → b ρ1 S = .nx ρ1 S) ∧ (c j = true → b ρ1 S = .rt (v j) S)) :
    (∃ ρ', I ρ' ∧ forGo ⟨items, none⟩ tg b items ρ S = .nx ρ' S ∧ ∀ i, i < items.length → c i = false) ∨ ∃ j, j < items.length ∧ c j = true ∧ (∀ i, i < j → c i = false) ∧ forGo ⟨items, none⟩ tg b items ρ S = .rt (v j) S := by
  have key := forGo_rt (items := items) (tg := tg) (b := b) (fun j ρ S' => I ρ ∧ S' = S ∧ ∀ i, i < j → c i = false) (fun x S' => S' = S ∧ ∃ j, j < items.length ∧ x = v j ∧ c j = true ∧ ∀ i, i < j → c i = false) (ρ := ρ) (S := S) ⟨h0, rfl, fun i h => absurd h (Nat.not_lt_zero _)⟩ (by
    rintro j d ρ S' hd ⟨hI, rfl, hno⟩
    obtain ⟨ρ1, h1, h2, h3, h4⟩ := step j d ρ hd hI
    refine ⟨ρ1, h1, ?_⟩
    cases h : c j with
    | false =>
      refine .inl ⟨ρ1, S', .inl (h3 h), h2, rfl, fun i hi => ?_⟩
      rcases Nat.lt_or_ge i j with z | z
      · exact hno i z
      · have : i = j := by omega
        rw [this]; exact h
    | true => exact .inr ⟨_, _, h4 h, rfl, j, (List.getElem?_eq_some_iff.mp hd).1, rfl, h, hno⟩)
  rcases key with ⟨ρ', S', h1, h2, rfl, h3⟩ | ⟨x, S', h1, rfl, j, hj, rfl, h2, h3⟩
  · exact .inl ⟨ρ', h2, h1, h3⟩
  · exact .inr ⟨j, hj, h2, h3, h1⟩
theorem rngD_inv {n j : Nat} {d : D} (h : (rngD 0 n)[j]? = some d) : j < n ∧ d = .int (j : Int) := by
  have hj : j < n := by
    have := (List.getElem?_eq_some_iff.mp h).1
    unfold rngD at this
    rwa [List.length_map, List.length_range] at this
  rw [rngD_get' hj, Int.zero_add] at h
  exact ⟨hj, (Option.some.inj h).symm⟩
theorem rngD_len (n : Nat) : (rngD 0 n).length = n := by unfold rngD; rw [List.length_map, List.length_range]
def lackW (w : Way) (ws : List (List Nat × Nat)) : Int := (w.c : Int) * 1099511627776 - (loadW w ws : Int)
def fullB (ps : List (List Nat)) (ws : List (List Nat × Nat)) (w : Way) : Bool := decide (lackW w ws = 0) && decide ((sidesP w ps).length = 2)
def fullK (N : Net) (ps : List (List Nat)) (ws : List (List Nat × Nat)) : Option Nat := N.ways.findIdx? (fullB ps ws)
theorem netD_0 {N : Net} {S : Sto} : oIx (netD N) (.int 0) S = some (.int N.n) := oIx_tup.trans atI_0
theorem netD_1 {N : Net} {S : Sto} : oIx (netD N) (.int 1) S = some (.tup (N.ways.map wayD)) := oIx_tup.trans atI_1
theorem way_get {N : Net} {S : Sto} {k : Nat} {w : Way} (h : N.ways[k]? = some w) : oIx (.tup (N.ways.map wayD)) (.int (k : Int)) S = some (wayD w) := oIx_tup.trans (atI_ok (by rw [List.getElem?_map, h]; rfl))
theorem bAnd_ok {f g : BF} {ρ : En} {S : Sto} {a b : Bool} (h : f ρ S = .ok a S) (h2 : a = true → g ρ S = .ok b S) : bAnd f g ρ S = .ok (a && b) S := by
  unfold bAnd
  rw [h]
  cases a with
  | true => simp only [R.bind, h2 rfl, Bool.true_and]; rfl
  | false => rfl
end Ev

namespace Ev
open PySem PySem.Spec PyProof.Rows L2
theorem eqv_nats : ∀ p q : List Nat, PyData.eqvAll (pys (natD p)) (pys (natD q)) = decide (p = q)
  | [], [] => rfl
  | [], y :: q => rfl
  | x :: p, [] => rfl
  | x :: p, y :: q => by
    have ih := eqv_nats p q
    unfold natD at ih ⊢
    simp only [List.map_cons, pys, py, PyData.eqvAll, PyData.eqv, ih]
    rw [Bool.eq_iff_iff, Bool.and_eq_true, beq_iff_eq, decide_eq_true_iff, decide_eq_true_iff, List.cons.injEq]
    exact and_congr_left' (by omega)
theorem deq_part (p q : List Nat) : deq (partD p) (partD q) = decide (p = q) := by
  unfold deq partD
  simp only [py, PyData.eqv]
  exact eqv_nats p q
theorem part_flat (p : List Nat) : flat 1 (partD p) = true := by
  unfold partD natD
  simp only [flat]
  induction p with
  | nil => rfl
  | cons x p ih => simp only [List.map_cons, flats, flat, ih, Bool.and_self]
theorem any_part (p : List Nat) : ∀ ps : List (List Nat), ((partsL ps).any fun z => deq z (partD p)) = decide (p ∈ ps)
  | [] => rfl
  | q :: ps => by
    have ih := any_part p ps
    unfold partsL at ih ⊢
    rw [List.map_cons, List.any_cons, ih, deq_part, Bool.eq_iff_iff, Bool.or_eq_true, decide_eq_true_iff, decide_eq_true_iff, decide_eq_true_iff, List.mem_cons]
    exact or_congr_left eq_comm
theorem parts_flat (ps : List (List Nat)) : flats 1 (partsL ps) = true := flats_of fun d hd => by
  obtain ⟨p, _, rfl⟩ := List.mem_map.mp hd
  exact part_flat p
theorem oIn_parts {S : Sto} {d : D} {p : List Nat} {ps : List (List Nat)} (h : SeqP S d ps) : oIn (partD p) d S = some (.bl (decide (p ∈ ps))) := by
  have hs : seqOf S d = some (partsL ps) := by rcases h with rfl | rfl <;> rfl
  rw [← any_part p ps]
  exact oIn_flat (k := 1) hs (by omega) (show flat 2 (partD p) = true by
    unfold partD natD
    simp only [flat]
    induction p with
    | nil => rfl
    | cons x p ih => simp only [List.map_cons, flats, flat, ih, Bool.and_self]) (parts_flat ps)
theorem oNotIn_parts {S : Sto} {d : D} {p : List Nat} {ps : List (List Nat)} (h : SeqP S d ps) : oNotIn (partD p) d S = some (.bl (!decide (p ∈ ps))) := by
  have hs : seqOf S d = some (partsL ps) := by rcases h with rfl | rfl <;> rfl
  rw [← any_part p ps]
  exact oNotIn_flat (k := 1) hs (by omega) (show flat 2 (partD p) = true by
    unfold partD natD
    simp only [flat]
    induction p with
    | nil => rfl
    | cons x p ih => simp only [List.map_cons, flats, flat, ih, Bool.and_self]) (parts_flat ps)
end Ev

namespace Ev
open PySem PySem.Spec PyProof.Rows L2
/-! ### the growth, plain: wait, together -/
def rateW (w : Way) (ps still : List (List Nat)) : Nat := ((sidesP w ps).filter fun p => decide (p ∈ still)).length
def waitS (ps : List (List Nat)) (ws : List (List Nat × Nat)) (still : List (List Nat)) (b : Option Int) (w : Way) : Option Int :=
  if 0 < rateW w ps still ∧ (b = none ∨ ∃ x, b = some x ∧ lackW w ws / (rateW w ps still : Int) < x) then some (lackW w ws / (rateW w ps still : Int)) else b
def waitP (N : Net) (ps : List (List Nat)) (ws : List (List Nat × Nat)) (still : List (List Nat)) : Option Int := N.ways.foldl (waitS ps ws still) none
def optI : Option Int → D
  | none => .non
  | some i => .int i
theorem oIsN_optI {S : Sto} (x : Option Int) : oIsN (optI x) .non S = some (.bl x.isNone) := by cases x <;> rfl
theorem sidesP_len (w : Way) (ps : List (List Nat)) : (sidesP w ps).length ≤ 2 := by
  unfold sidesP
  split <;> simp_all
end Ev

namespace Ev
open PySem PySem.Spec PyProof.Rows L2
/-! ### sorted, of naturals and of parts; two groups become one -/
def sortN (l : List Nat) : List Nat := (isort (natI l)).map Int.toNat
def sortP (ps : List (List Nat)) : List (List Nat) := (isortL (ps.map natI)).map (List.map Int.toNat)
theorem toNat_natI (l : List Nat) : (natI l).map Int.toNat = l := by
  unfold natI
  rw [List.map_map]
  exact List.map_id'' (fun x => rfl) l
theorem sortN_perm (l : List Nat) : (sortN l).Perm l := by
  have := (isort_perm (natI l)).map Int.toNat
  rwa [toNat_natI] at this
theorem sortN_natI (l : List Nat) : natI (sortN l) = isort (natI l) := by
  unfold sortN natI
  rw [List.map_map]
  refine (List.map_congr_left (g := id) fun x hx => ?_).trans (List.map_id _)
  obtain ⟨y, _, rfl⟩ := List.mem_map.mp ((isort_perm _).mem_iff.mp hx)
  rfl
theorem sortP_perm (ps : List (List Nat)) : (sortP ps).Perm ps := by
  have := (isortL_perm (ps.map natI)).map (List.map Int.toNat)
  rw [List.map_map] at this
  refine this.trans (List.Perm.of_eq ?_)
  exact List.map_id'' (fun x => toNat_natI x) ps
theorem sortP_natI (ps : List (List Nat)) : (sortP ps).map natI = isortL (ps.map natI) := by
  unfold sortP
  rw [List.map_map]
  refine (List.map_congr_left (g := id) fun x hx => ?_).trans (List.map_id _)
  obtain ⟨y, _, rfl⟩ := List.mem_map.mp ((isortL_perm _).mem_iff.mp hx)
  show natI ((natI y).map Int.toNat) = natI y
  rw [toNat_natI]
theorem oSort_seq {S : Sto} {d : D} {l : List Nat} (h : seqOf S d = some (natD l)) : oSort false [d] S = some (.lst (natD (sortN l)), S) := by
  unfold oSort
  simp only [h, Option.bind_some, intsOf_nat, Option.map_some, Bool.false_eq_true, if_false]
  rw [natD_eq, show List.map Int.ofNat (sortN l) = natI (sortN l) from rfl, sortN_natI]
  rfl
theorem oSort_part {S : Sto} (p : List Nat) : oSort false [partD p] S = some (.lst (natD (sortN p)), S) := oSort_seq seqOf_tup
theorem oSort_natL {S : Sto} (l : List Nat) : oSort false [.lst (natD l)] S = some (.lst (natD (sortN l)), S) := oSort_seq seqOf_lst
theorem tupsD_natI (ps : List (List Nat)) : tupsD (ps.map natI) = partsL ps := by
  unfold tupsD partsL
  rw [List.map_map]
  exact List.map_congr_left fun p _ => congrArg D.tup (natD_eq p).symm
theorem intss_tupsD : ∀ iss : List (List Int), intss (tupsD iss) = some iss
  | [] => rfl
  | is :: iss => by
    have ih := intss_tupsD iss
    unfold tupsD at ih ⊢
    simp only [List.map_cons, intss, intsOf_map, ih]
theorem oSortT_parts {S : Sto} {ps : List (List Nat)} (h : ∀ p ∈ ps, p ≠ []) : oSortT [.lst (partsL ps)] S = some (.lst (partsL (sortP ps)), S) := by
  unfold oSortT
  simp only [lstOf, lstX, Option.bind_some]
  rw [← tupsD_natI, intss_tupsD]
  simp only [Option.bind_some]
  rw [if_pos, ← tupsD_natI, sortP_natI]
  rw [List.all_eq_true]
  intro is hi
  obtain ⟨p, hp, rfl⟩ := List.mem_map.mp hi
  have := h p hp
  cases p with
  | nil => exact absurd rfl this
  | cons x p => rfl
/-- two groups become one -/
def joinP (p q : List Nat) (ps : List (List Nat)) : List (List Nat) := sortP ((ps.filter fun r => !decide (r ∈ [p, q])) ++ [sortN (p ++ q)])
def mergeP (w : Way) (ps : List (List Nat)) : List (List Nat) := match sidesP w ps with
  | [p, q] => joinP p q ps
  | _ => ps
theorem partsL_app (ps qs : List (List Nat)) : partsL (ps ++ qs) = partsL ps ++ partsL qs := List.map_append
theorem okDs_partsL (n : Nat) (ps : List (List Nat)) : okDs n (partsL ps) = true := by
  unfold partsL
  induction ps with
  | nil => rfl
  | cons p l ih =>
    simp only [List.map_cons, okDs, ih, Bool.and_true]
    exact okDs_nat _ _
theorem oAdd_part {S : Sto} {p q : List Nat} (hp : p ≠ []) (hq : q ≠ []) (hl : p.length + q.length ≤ 1000) : oAdd (partD p) (partD q) S = some (partD (p ++ q)) := by
  unfold oAdd partD
  simp only [tupOf, natD_len, sizeLine_ok hl, if_true, natD_app]
  rw [if_neg, if_neg]
  · intro h
    have := congrArg List.length h
    rw [natD_len] at this
    exact hq (List.length_eq_zero_iff.mp this)
  · intro h
    have := congrArg List.length h
    rw [natD_len] at this
    exact hp (List.length_eq_zero_iff.mp this)
theorem filt_le {α : Type} {c : α → Bool} {xs : List α} {n : Nat} (h : xs.length ≤ n) : (xs.filter c).length ≤ n := Nat.le_trans (List.length_filter_le _ _) h
theorem parts2 {p q r : List Nat} {S : Sto} : oNotIn (partD r) (.tup [partD p, partD q]) S = some (.bl (!decide (r ∈ [p, q]))) := oNotIn_parts (ps := [p, q]) (.inl rfl)
end Ev

namespace Ev
open PySem PySem.Spec PyProof.Rows L2
/-! ### groups as a partition of the places -/
structure PartI (n : Nat) (ps : List (List Nat)) : Prop where
  cover : ∀ x, x < n → ∃ p ∈ ps, x ∈ p
  lt : ∀ p ∈ ps, ∀ x ∈ p, x < n
  disj : ps.Pairwise fun p q => ∀ x ∈ p, x ∉ q
  nd : ∀ p ∈ ps, p.Nodup
  ne : ∀ p ∈ ps, p ≠ []
theorem pw_uniq {α : Type} {R : α → α → Prop} {l : List α} (hs : ∀ x y, R x y → R y x) (h : l.Pairwise R) : ∀ x ∈ l, ∀ y ∈ l, x ≠ y → R x y := by
  induction l with
  | nil => intro x hx; simp at hx
  | cons a l ih =>
    obtain ⟨h1, h2⟩ := List.pairwise_cons.mp h
    intro x hx y hy hne
    rcases List.mem_cons.mp hx with e1 | hx1
    · rcases List.mem_cons.mp hy with e2 | hy1
      · exact absurd (e1.trans e2.symm) hne
      · rw [e1]; exact h1 y hy1
    · rcases List.mem_cons.mp hy with e2 | hy1
      · rw [e2]; exact hs _ _ (h1 x hx1)
      · exact ih h2 x hx1 y hy1 hne
theorem djs {p q : List Nat} (h : ∀ x ∈ p, x ∉ q) : ∀ x ∈ q, x ∉ p := fun x hq hp => h x hp hq
section
variable {n : Nat} {ps : List (List Nat)}
theorem PartI.uniq (h : PartI n ps) {p q : List Nat} {x : Nat} (hp : p ∈ ps) (hq : q ∈ ps) (xp : x ∈ p) (xq : x ∈ q) : p = q := by
  refine Decidable.byContradiction fun hne => ?_
  exact pw_uniq (fun _ _ => djs) h.disj p hp q hq hne x xp xq
theorem PartI.nodup (h : PartI n ps) : ps.Nodup := by
  refine List.Pairwise.imp_of_mem (R := fun p q => ∀ x ∈ p, x ∉ q) (fun {p q} hp hq hd e => ?_) h.disj
  subst e
  obtain ⟨x, hx⟩ := List.exists_mem_of_ne_nil _ (h.ne p hp)
  exact hd x hx hx
theorem PartI.plen (h : PartI n ps) {p : List Nat} (hp : p ∈ ps) : p.length ≤ n := found_len (h.nd p hp) (h.lt p hp)
theorem PartI.perm {qs : List (List Nat)} (h : PartI n ps) (hq : qs.Perm ps) : PartI n qs where
  cover x hx := let ⟨p, hp, hm⟩ := h.cover x hx; ⟨p, hq.mem_iff.mpr hp, hm⟩
  lt p hp := h.lt p (hq.mem_iff.mp hp)
  disj := (hq.pairwise_iff (fun {p q} => djs)).mpr h.disj
  nd p hp := h.nd p (hq.mem_iff.mp hp)
  ne p hp := h.ne p (hq.mem_iff.mp hp)
theorem mem_inP {x : Nat} {p : List Nat} : inP x p = true ↔ x ∈ p := by unfold inP; exact decide_eq_true_iff
theorem cut_iff {w : Way} {p : List Nat} : cutW w p = true ↔ ¬ (w.a ∈ p ↔ w.b ∈ p) := by
  unfold cutW inP
  by_cases h1 : w.a ∈ p <;> by_cases h2 : w.b ∈ p <;> simp [h1, h2]
theorem mem_sidesF {w : Way} {p : List Nat} : p ∈ sidesF w ps ↔ p ∈ ps ∧ (w.a ∈ p ∨ w.b ∈ p) := by
  unfold sidesF
  rw [List.mem_filter, Bool.or_eq_true, mem_inP, mem_inP]
/-- a list without doubles that holds just two things -/
theorem nodup_two {α : Type} {l : List α} {a b : α} (nd : l.Nodup) (hab : a ≠ b) (h : ∀ x, x ∈ l ↔ x = a ∨ x = b) : l = [a, b] ∨ l = [b, a] := by
  match l, nd, h with
  | [], _, h => exact absurd ((h a).mpr (.inl rfl)) (by simp)
  | [x], _, h =>
    have h1 := (h a).mpr (.inl rfl)
    have h2 := (h b).mpr (.inr rfl)
    simp at h1 h2
    exact absurd (h1.trans h2.symm) hab
  | [x, y], nd, h =>
    have hx := (h x).mp (by simp)
    have hy := (h y).mp (by simp)
    have hne : x ≠ y := by
      intro e
      rw [e] at nd
      simp at nd
    rcases hx with rfl | rfl <;> rcases hy with rfl | rfl
    · exact absurd rfl hne
    · exact .inl rfl
    · exact .inr rfl
    · exact absurd rfl hne
  | x :: y :: z :: l, nd, h =>
    have hx := (h x).mp (by simp)
    have hy := (h y).mp (by simp)
    have hz := (h z).mp (by simp)
    simp only [List.nodup_cons, List.mem_cons, not_or] at nd
    obtain ⟨⟨n1, n2, _⟩, ⟨n3, _⟩, _⟩ := nd
    rcases hx with rfl | rfl <;> rcases hy with rfl | rfl <;> rcases hz with rfl | rfl <;> contradiction
theorem nodup_one {α : Type} {l : List α} {a : α} (nd : l.Nodup) (h : ∀ x, x ∈ l ↔ x = a) : l = [a] := by
  match l, nd, h with
  | [], _, h => exact absurd ((h a).mpr rfl) (by simp)
  | [x], _, h => rw [(h x).mp (by simp)]
  | x :: y :: l, nd, h =>
    have hx := (h x).mp (by simp)
    have hy := (h y).mp (by simp)
    rw [hx, hy] at nd
    simp at nd
theorem nodup_filter {α : Type} {c : α → Bool} {l : List α} (h : l.Nodup) : (l.filter c).Nodup := List.Pairwise.filter _ h
/-- the groups at the two ends -/
theorem PartI.sides (h : PartI n ps) {w : Way} (ha : w.a < n) (hb : w.b < n) :
    (∃ p ∈ ps, w.a ∈ p ∧ w.b ∈ p ∧ sidesP w ps = []) ∨ ∃ p q, p ∈ ps ∧ q ∈ ps ∧ p ≠ q ∧ sidesP w ps = [p, q] ∧ ((w.a ∈ p ∧ w.b ∈ q) ∨ (w.b ∈ p ∧ w.a ∈ q)) ∧ (∀ r ∈ ps, r = p ∨ r = q ↔ cutW w r = true) := by
  obtain ⟨p, hp, ap⟩ := h.cover _ ha
  obtain ⟨q, hq, bq⟩ := h.cover _ hb
  have nd : (sidesF w ps).Nodup := nodup_filter h.nodup
  by_cases e : p = q
  · subst e
    refine .inl ⟨p, hp, ap, bq, ?_⟩
    have : sidesF w ps = [p] := nodup_one nd fun x => by
      rw [mem_sidesF]
      constructor
      · rintro ⟨hx, h1 | h1⟩
        · exact h.uniq hx hp h1 ap
        · exact h.uniq hx hp h1 bq
      · rintro rfl
        exact ⟨hp, .inl ap⟩
    unfold sidesP
    rw [this]
    rfl
  · right
    have nab : w.b ∉ p := fun z => e (h.uniq hp hq z bq)
    have naq : w.a ∉ q := fun z => e (h.uniq hp hq ap z)
    have hc : ∀ r ∈ ps, (r = p ∨ r = q) ↔ cutW w r = true := by
      intro r hr
      rw [cut_iff]
      constructor
      · rintro (rfl | rfl)
        · exact fun z => nab (z.mp ap)
        · exact fun z => naq (z.mpr bq)
      · intro z
        by_cases h1 : w.a ∈ r
        · exact .inl (h.uniq hr hp h1 ap)
        · by_cases h2 : w.b ∈ r
          · exact .inr (h.uniq hr hq h2 bq)
          · exact absurd ⟨fun y => absurd y h1, fun y => absurd y h2⟩ z
    have two := nodup_two nd e fun x => by
      rw [mem_sidesF]
      constructor
      · rintro ⟨hx, h1 | h1⟩
        · exact .inl (h.uniq hx hp h1 ap)
        · exact .inr (h.uniq hx hq h1 bq)
      · rintro (rfl | rfl)
        · exact ⟨hp, .inl ap⟩
        · exact ⟨hq, .inr bq⟩
    rcases two with t | t
    · exact ⟨p, q, hp, hq, e, by unfold sidesP; rw [t]; rfl, .inl ⟨ap, bq⟩, hc⟩
    · exact ⟨q, p, hq, hp, Ne.symm e, by unfold sidesP; rw [t]; rfl, .inr ⟨bq, ap⟩, fun r hr => (Or.comm).trans (hc r hr)⟩
/-- how fast a way fills: its cut open groups -/
theorem PartI.rate (h : PartI n ps) {w : Way} (ha : w.a < n) (hb : w.b < n) (c : List Nat → Bool) : rateW w ps (ps.filter c) = ((ps.filter c).filter (cutW w)).length := by
  unfold rateW
  rcases h.sides ha hb with ⟨p, hp, ap, bp, e⟩ | ⟨p, q, hp, hq, hne, e, _, hc⟩
  · rw [e]
    have : (ps.filter c).filter (cutW w) = [] := by
      rw [List.filter_eq_nil_iff]
      intro r hr
      have hr := (List.mem_filter.mp hr).1
      rw [cut_iff, Decidable.not_not]
      constructor
      · intro z
        rw [h.uniq hr hp z ap]; exact bp
      · intro z
        rw [h.uniq hr hp z bp]; exact ap
    rw [this]
    rfl
  · have nd : (ps.filter (fun r => cutW w r)).Nodup := nodup_filter h.nodup
    have two := nodup_two nd hne fun x => by
      rw [List.mem_filter]
      constructor
      · rintro ⟨hx, h1⟩
        exact (hc x hx).mpr h1
      · rintro (rfl | rfl)
        · exact ⟨hp, (hc _ hp).mp (.inl rfl)⟩
        · exact ⟨hq, (hc _ hq).mp (.inr rfl)⟩
    have e1 : ((ps.filter c).filter (cutW w)).length = ([p, q].filter c).length := by
      rw [List.filter_filter, show ps.filter (fun a => cutW w a && c a) = (ps.filter fun r => cutW w r).filter c by rw [List.filter_filter]; exact List.filter_congr fun x _ => Bool.and_comm _ _]
      rcases two with t | t
      · rw [t]
      · rw [t]
        exact ((List.Perm.swap _ _ _).filter c).length_eq
    rw [e, e1]
    congr 1
    refine List.filter_congr fun x hx => ?_
    have hx : x ∈ ps := by
      rcases List.mem_cons.mp hx with rfl | hx
      · exact hp
      · rw [List.mem_singleton.mp hx]; exact hq
    rw [Bool.eq_iff_iff, decide_eq_true_iff, List.mem_filter]
    exact ⟨fun z => z.2, fun z => ⟨hx, z⟩⟩
theorem perm_two {l : List (List Nat)} {p q : List Nat} (nd : l.Nodup) (hp : p ∈ l) (hq : q ∈ l) (hne : p ≠ q) : l.Perm (p :: q :: l.filter fun r => !decide (r ∈ [p, q])) := by
  have h1 := List.filter_append_perm (fun r => decide (r ∈ [p, q])) l
  have two := nodup_two (nodup_filter (c := fun r => decide (r ∈ [p, q])) nd) hne fun x => by
    rw [List.mem_filter, decide_eq_true_iff]
    simp only [List.mem_cons, List.not_mem_nil, or_false]
    exact ⟨fun z => z.2, fun z => ⟨by rcases z with rfl | rfl <;> assumption, z⟩⟩
  refine h1.symm.trans ?_
  rcases two with t | t
  · rw [t]; exact .refl _
  · rw [t]; exact .swap _ _ _
theorem joinP_perm (p q : List Nat) : (joinP p q ps).Perm (sortN (p ++ q) :: ps.filter fun r => !decide (r ∈ [p, q])) := (sortP_perm _).trans List.perm_append_comm
theorem PartI.join (h : PartI n ps) {p q : List Nat} (hp : p ∈ ps) (hq : q ∈ ps) (hne : p ≠ q) : PartI n (joinP p q ps) ∧ (joinP p q ps).length + 1 = ps.length := by
  have pm := perm_two h.nodup hp hq hne
  have h' := h.perm pm.symm
  constructor
  · refine PartI.perm (ps := sortN (p ++ q) :: ps.filter fun r => !decide (r ∈ [p, q])) ?_ (joinP_perm p q)
    have mm : ∀ x, x ∈ sortN (p ++ q) ↔ x ∈ p ∨ x ∈ q := fun x => ((sortN_perm _).mem_iff).trans List.mem_append
    have d1 := List.pairwise_cons.mp h'.disj
    have d2 := List.pairwise_cons.mp d1.2
    constructor
    · intro x hx
      obtain ⟨r, hr, xr⟩ := h'.cover x hx
      rcases List.mem_cons.mp hr with rfl | hr
      · exact ⟨_, List.mem_cons_self, (mm x).mpr (.inl xr)⟩
      · rcases List.mem_cons.mp hr with rfl | hr
        · exact ⟨_, List.mem_cons_self, (mm x).mpr (.inr xr)⟩
        · exact ⟨r, List.mem_cons_of_mem _ hr, xr⟩
    · intro r hr x hx
      rcases List.mem_cons.mp hr with rfl | hr
      · rcases (mm x).mp hx with z | z
        · exact h.lt p hp x z
        · exact h.lt q hq x z
      · exact h'.lt r (List.mem_cons_of_mem _ (List.mem_cons_of_mem _ hr)) x hx
    · refine List.pairwise_cons.mpr ⟨fun r hr x hx => ?_, d2.2⟩
      rcases (mm x).mp hx with z | z
      · exact d1.1 r (List.mem_cons_of_mem _ hr) x z
      · exact d2.1 r hr x z
    · intro r hr
      rcases List.mem_cons.mp hr with rfl | hr
      · refine (sortN_perm (p ++ q)).nodup_iff.mpr (List.nodup_append.mpr ⟨h.nd p hp, h.nd q hq, fun a ha b hb e => ?_⟩)
        subst e
        exact d1.1 q List.mem_cons_self a ha hb
      · exact h'.nd r (List.mem_cons_of_mem _ (List.mem_cons_of_mem _ hr))
    · intro r hr
      rcases List.mem_cons.mp hr with rfl | hr
      · intro z
        have := (sortN_perm (p ++ q)).length_eq
        rw [z, List.length_append] at this
        exact h.ne p hp (List.length_eq_zero_iff.mp (by simp at this; omega))
      · exact h'.ne r (List.mem_cons_of_mem _ (List.mem_cons_of_mem _ hr))
  · rw [(joinP_perm p q).length_eq, pm.length_eq]
    rfl
end
end Ev

namespace Ev
open PySem PySem.Spec PyProof.Rows L2
/-! ### the growth, plain -/
abbrev Wid := List (List Nat × Nat)
structure Gs where
  ps : List (List Nat)
  ws : Wid
  tk : List (Nat × Nat)
  t : Nat
  rows : List (Nat × List (List Nat) × List (List Nat))
def stillP (prs : List (Nat × Nat)) (ps : List (List Nat)) : List (List Nat) := ps.filter (openP prs)
def widenP (span : Nat) (still : List (List Nat)) (ws : Wid) : Wid := still.foldl (fun ws p => putW p ((getW p ws).getD 0 + span) ws) ws
def takeG (N : Net) : Nat → Gs → Gs
  | 0, g => g
  | k + 1, g => match fullK N g.ps g.ws with
    | none => takeG N k g
    | some i => takeG N k { g with ps := mergeP (wayAt N i) g.ps, tk := g.tk ++ [(g.t, i)] }
def spanG (N : Net) (prs : List (Nat × Nat)) (g : Gs) : Nat := ((waitP N g.ps g.ws (stillP prs g.ps)).getD 0).toNat
def passG (prs : List (Nat × Nat)) (span : Nat) (g : Gs) : Gs := { g with ws := widenP span (stillP prs g.ps) g.ws, t := g.t + span }
def rowG (prs : List (Nat × Nat)) (g : Gs) : Gs := { g with rows := g.rows ++ [(g.t, g.ps, stillP prs g.ps)] }
def turnG (N : Net) (prs : List (Nat × Nat)) (g : Gs) : Gs := rowG prs (takeG N N.n (passG prs (spanG N prs g) g))
def growG (N : Net) (prs : List (Nat × Nat)) : Nat → Gs → Gs
  | 0, g => g
  | k + 1, g => if stillP prs g.ps = [] then growG N prs k g else growG N prs k (turnG N prs g)
def onesP (n : Nat) : List (List Nat) := (List.range n).map fun x => [x]
def startG (N : Net) (prs : List (Nat × Nat)) : Gs := ⟨onesP N.n, [], [], 0, [(0, onesP N.n, stillP prs (onesP N.n))]⟩
/-! widths -/
theorem putW_keys {α : Type} (p : List Nat) (a : α) : ∀ ws : List (List Nat × α), (putW p a ws).map (·.1) = if p ∈ ws.map (·.1) then ws.map (·.1) else ws.map (·.1) ++ [p]
  | [] => rfl
  | e :: ws => by
    unfold putW
    by_cases h : e.1 = p
    · rw [if_pos h, if_pos (by rw [List.map_cons, h]; exact List.mem_cons_self), List.map_cons, List.map_cons, h]
    · rw [if_neg h, List.map_cons, putW_keys p a ws, List.map_cons]
      by_cases h2 : p ∈ ws.map (·.1)
      · rw [if_pos h2, if_pos (List.mem_cons_of_mem _ h2)]
      · rw [if_neg h2, if_neg (fun z => by
          rcases List.mem_cons.mp z with z | z
          · exact h z.symm
          · exact h2 z)]
        rfl
theorem putW_nd {α : Type} {p : List Nat} {a : α} {ws : List (List Nat × α)} (h : (ws.map (·.1)).Nodup) : ((putW p a ws).map (·.1)).Nodup := by
  rw [putW_keys]
  split
  · exact h
  · rename_i hp
    rw [List.nodup_append]
    exact ⟨h, by simp, fun x hx y hy e => hp (by rw [← List.mem_singleton.mp hy, ← e]; exact hx)⟩
theorem putW_len {α : Type} (p : List Nat) (a : α) : ∀ ws : List (List Nat × α), (putW p a ws).length ≤ ws.length + 1
  | [] => Nat.le_refl _
  | e :: ws => by
    unfold putW
    split
    · simp
    · simp [putW_len p a ws]
theorem getW_put {α : Type} {p q : List Nat} {a : α} : ∀ ws : List (List Nat × α), getW q (putW p a ws) = if q = p then some a else getW q ws
  | [] => by
    simp only [putW, getW]
    by_cases h : q = p
    · rw [if_pos h, if_pos h.symm]
    · rw [if_neg h, if_neg (Ne.symm h)]
  | e :: ws => by
    unfold putW
    by_cases h : e.1 = p
    · rw [if_pos h]
      simp only [getW]
      by_cases h2 : q = p
      · rw [if_pos h2, if_pos h2.symm]
      · rw [if_neg h2, if_neg (Ne.symm h2), if_neg (fun z => h2 (z.symm.trans h))]
    · rw [if_neg h]
      simp only [getW]
      rw [getW_put ws]
      by_cases h2 : e.1 = q
      · rw [if_pos h2, if_neg (fun z => h (h2.trans z)), if_pos h2]
      · rw [if_neg h2, if_neg h2]
theorem getW_none {α : Type} {p : List Nat} : ∀ {ws : List (List Nat × α)}, p ∉ ws.map (·.1) → getW p ws = none
  | [], _ => rfl
  | e :: ws, h => by
    rw [List.map_cons, List.mem_cons, not_or] at h
    unfold getW
    rw [if_neg (Ne.symm h.1)]
    exact getW_none h.2
/-- sums over the widths -/
def sumW (c : List Nat → Bool) (ws : Wid) : Nat := ((ws.filter fun e => c e.1).map fun e => e.2).sum
theorem sumW_cons (c : List Nat → Bool) (e : List Nat × Nat) (ws : Wid) : sumW c (e :: ws) = (if c e.1 = true then e.2 else 0) + sumW c ws := by
  unfold sumW
  rw [List.filter_cons]
  cases c e.1 with
  | true => simp
  | false => simp
theorem sumW_put (c : List Nat → Bool) (p : List Nat) (s : Nat) : ∀ ws : Wid, (ws.map (·.1)).Nodup → sumW c (putW p ((getW p ws).getD 0 + s) ws) = sumW c ws + if c p = true then s else 0
  | [], _ => by
    simp only [getW, putW, Option.getD_none, Nat.zero_add]
    rw [sumW_cons]
    exact Nat.add_comm _ _
  | e :: ws, nd => by
    rw [List.map_cons, List.nodup_cons] at nd
    simp only [getW, putW]
    by_cases h : e.1 = p
    · rw [if_pos h, if_pos h, sumW_cons, sumW_cons, Option.getD_some, h]
      dsimp only
      split <;> omega
    · rw [if_neg h, if_neg h, sumW_cons, sumW_cons, sumW_put c p s ws nd.2]
      omega
theorem widen_nd {s : Nat} : ∀ {still : List (List Nat)} {ws : Wid}, (ws.map (·.1)).Nodup → ((widenP s still ws).map (·.1)).Nodup
  | [], ws, h => h
  | p :: still, ws, h => by
    unfold widenP
    rw [List.foldl_cons]
    exact widen_nd (still := still) (putW_nd h)
theorem widen_len {s : Nat} : ∀ {still : List (List Nat)} {ws : Wid}, (widenP s still ws).length ≤ ws.length + still.length
  | [], ws => Nat.le_refl _
  | p :: still, ws => by
    unfold widenP
    rw [List.foldl_cons]
    have h1 := widen_len (s := s) (still := still) (ws := putW p ((getW p ws).getD 0 + s) ws)
    have h2 := putW_len p ((getW p ws).getD 0 + s) ws
    unfold widenP at h1
    rw [List.length_cons]
    omega
theorem sumW_widen (c : List Nat → Bool) (s : Nat) : ∀ {still : List (List Nat)} {ws : Wid}, (ws.map (·.1)).Nodup → sumW c (widenP s still ws) = sumW c ws + s * (still.filter c).length
  | [], ws, h => by simp [widenP]
  | p :: still, ws, h => by
    unfold widenP
    rw [List.foldl_cons]
    have := sumW_widen c s (still := still) (ws := putW p ((getW p ws).getD 0 + s) ws) (putW_nd h)
    unfold widenP at this
    rw [this, sumW_put c p s ws h, List.filter_cons]
    cases c p with
    | true => simp [Nat.mul_add]; omega
    | false => simp
theorem loadW_sum (w : Way) (ws : Wid) : loadW w ws = sumW (cutW w) ws := rfl
theorem putW_all {α : Type} {P : α → Prop} {p : List Nat} {a : α} : ∀ {ws : List (List Nat × α)}, (∀ e ∈ ws, P e.2) → P a → ∀ e ∈ putW p a ws, P e.2
  | [], _, ha, e, he => by
    rw [show putW p a [] = [(p, a)] from rfl, List.mem_singleton] at he
    rw [he]; exact ha
  | x :: ws, h, ha, e, he => by
    unfold putW at he
    split at he
    · rcases List.mem_cons.mp he with z | z
      · rw [z]; exact ha
      · exact h e (List.mem_cons_of_mem _ z)
    · rcases List.mem_cons.mp he with z | z
      · rw [z]; exact h x List.mem_cons_self
      · exact putW_all (fun y hy => h y (List.mem_cons_of_mem _ hy)) ha e z
theorem getW_all {α : Type} {P : α → Prop} {p : List Nat} : ∀ {ws : List (List Nat × α)} {a : α}, (∀ e ∈ ws, P e.2) → getW p ws = some a → P a
  | [], a, _, h => by cases h
  | x :: ws, a, h, g => by
    unfold getW at g
    split at g
    · cases g; exact h x List.mem_cons_self
    · exact getW_all (fun y hy => h y (List.mem_cons_of_mem _ hy)) g
theorem widen_dvd {s d : Nat} (hs : d ∣ s) : ∀ {still : List (List Nat)} {ws : Wid}, (∀ e ∈ ws, d ∣ e.2) → ∀ e ∈ widenP s still ws, d ∣ e.2
  | [], ws, h => h
  | p :: still, ws, h => by
    unfold widenP
    rw [List.foldl_cons]
    refine widen_dvd hs (still := still) (putW_all (P := fun x => d ∣ x) h ?_)
    refine Nat.dvd_add ?_ hs
    cases hg : getW p ws with
    | none => exact Nat.dvd_zero d
    | some a => exact getW_all (P := fun x => d ∣ x) h hg
theorem sum_dvd {c : List Nat → Bool} {d : Nat} : ∀ {ws : Wid}, (∀ e ∈ ws, d ∣ e.2) → d ∣ sumW c ws
  | [], _ => Nat.dvd_zero d
  | e :: ws, h => by
    rw [sumW_cons]
    refine Nat.dvd_add ?_ (sum_dvd fun x hx => h x (List.mem_cons_of_mem _ hx))
    split
    · exact h e List.mem_cons_self
    · exact Nat.dvd_zero d
/-! the wait -/
section
variable {ps still : List (List Nat)} {ws : Wid}
theorem wait_fold : ∀ (l : List Way) (b : Option Int), (∀ w ∈ l, rateW w ps still = 0) ∧ l.foldl (waitS ps ws still) b = b ∨
    ∃ x, l.foldl (waitS ps ws still) b = some x ∧ ((∃ w ∈ l, 0 < rateW w ps still ∧ x = lackW w ws / (rateW w ps still : Int)) ∨ b = some x) ∧ (∀ w ∈ l, 0 < rateW w ps still → x ≤ lackW w ws / (rateW w ps still : Int)) ∧ ∀ y, b = some y → x ≤ y
  | [], b => .inl ⟨fun w h => by simp at h, rfl⟩
  | w :: l, b => by
    rw [List.foldl_cons]
    by_cases hr : 0 < rateW w ps still
    · right
      have hw : ∃ y, waitS ps ws still b w = some y ∧ y ≤ lackW w ws / (rateW w ps still : Int) ∧ (y = lackW w ws / (rateW w ps still : Int) ∨ b = some y) ∧ ∀ z, b = some z → y ≤ z := by
        unfold waitS
        split
        · rename_i h
          refine ⟨_, rfl, Int.le_refl _, .inl rfl, fun z hz => ?_⟩
          rcases h.2 with h | ⟨x, h1, h2⟩
          · rw [h] at hz; cases hz
          · rw [h1] at hz; cases hz; omega
        · rename_i h
          cases hb : b with
          | none => exact absurd ⟨hr, .inl hb⟩ h
          | some z =>
            refine ⟨z, rfl, ?_, .inr rfl, fun z' hz => by cases hz; exact Int.le_refl _⟩
            refine Int.not_lt.mp fun hlt => h ⟨hr, .inr ⟨z, hb, hlt⟩⟩
      obtain ⟨y, e1, e2, e3, e4⟩ := hw
      rw [e1]
      rcases wait_fold l (some y) with ⟨h1, h2⟩ | ⟨x, h1, h2, h3, h4⟩
      · refine ⟨y, h2, ?_, fun v hv hp => ?_, e4⟩
        · rcases e3 with e3 | e3
          · exact .inl ⟨w, List.mem_cons_self, hr, e3⟩
          · exact .inr e3
        · rcases List.mem_cons.mp hv with rfl | hv
          · exact e2
          · rw [h1 v hv] at hp; exact absurd hp (Nat.lt_irrefl _)
      · have hxy := h4 y rfl
        refine ⟨x, h1, ?_, fun v hv hp => ?_, fun z hz => Int.le_trans hxy (e4 z hz)⟩
        · rcases h2 with ⟨v, hv, a, b⟩ | h2
          · exact .inl ⟨v, List.mem_cons_of_mem _ hv, a, b⟩
          · cases h2
            rcases e3 with e3 | e3
            · exact .inl ⟨w, List.mem_cons_self, hr, e3⟩
            · exact .inr e3
        · rcases List.mem_cons.mp hv with rfl | hv
          · exact Int.le_trans hxy e2
          · exact h3 v hv hp
    · have e : waitS ps ws still b w = b := by
        unfold waitS
        rw [if_neg (fun h => hr h.1)]
      rw [e]
      rcases wait_fold l b with ⟨h1, h2⟩ | ⟨x, h1, h2, h3, h4⟩
      · refine .inl ⟨fun v hv => ?_, h2⟩
        rcases List.mem_cons.mp hv with rfl | hv
        · omega
        · exact h1 v hv
      · refine .inr ⟨x, h1, ?_, fun v hv hp => ?_, h4⟩
        · rcases h2 with ⟨v, hv, a, b⟩ | h2
          · exact .inl ⟨v, List.mem_cons_of_mem _ hv, a, b⟩
          · exact .inr h2
        · rcases List.mem_cons.mp hv with rfl | hv
          · exact absurd hp hr
          · exact h3 v hv hp
theorem wait_spec {N : Net} (h : ∃ w ∈ N.ways, 0 < rateW w ps still) : ∃ x w, waitP N ps ws still = some x ∧ w ∈ N.ways ∧ 0 < rateW w ps still ∧ x = lackW w ws / (rateW w ps still : Int) ∧ ∀ v ∈ N.ways, 0 < rateW v ps still → x ≤ lackW v ws / (rateW v ps still : Int) := by
  rcases wait_fold (ps := ps) (still := still) (ws := ws) N.ways none with ⟨h1, _⟩ | ⟨x, h1, h2, h3, _⟩
  · obtain ⟨w, hw, hr⟩ := h
    rw [h1 w hw] at hr
    exact absurd hr (Nat.lt_irrefl _)
  · rcases h2 with ⟨w, hw, a, b⟩ | h2
    · exact ⟨x, w, h1, hw, a, b, h3⟩
    · cases h2
end
end Ev

namespace Ev
open PySem PySem.Spec PyProof.Rows L2
/-! ### the growth's invariant -/
structure GInv (N : Net) (k : Nat) (g : Gs) : Prop where
  part : PartI N.n g.ps
  nd : (g.ws.map (·.1)).Nodup
  load : ∀ w ∈ N.ways, loadW w g.ws ≤ w.c * two40
  dv : ∀ e ∈ g.ws, 2 ^ (40 - k) ∣ e.2
  dt : 2 ^ (40 - k) ∣ g.t
  kn : k + g.ps.length ≤ N.n
  wl : g.ws.length ≤ 12 * k
  tb : g.t ≤ k * (10000 * two40)
  tl : g.tk.length + g.ps.length = N.n
  rl : g.rows.length = k + 1
def WaysOk (N : Net) : Prop := ∀ w ∈ N.ways, w.Ok N.n
def allW (N : Net) : List Nat := List.range N.ways.length
/-- the pairs that all ways join -/
def JoinAll (N : Net) (prs : List (Nat × Nat)) : Prop := ∀ q ∈ prs, Con (edges N (allW N)) q.1 q.2
theorem wayAt_mem {N : Net} {w : Way} (h : w ∈ N.ways) : ∃ i, i < N.ways.length ∧ wayAt N i = w := by
  obtain ⟨i, hi, e⟩ := List.getElem_of_mem h
  refine ⟨i, hi, ?_⟩
  unfold wayAt
  rw [List.getD_eq_getElem?_getD, List.getElem?_eq_getElem hi]
  exact e
theorem wayAt_in {N : Net} {i : Nat} (h : i < N.ways.length) : wayAt N i ∈ N.ways := List.mem_of_getElem? (ways_at h)
theorem openP_iff {prs : List (Nat × Nat)} {p : List Nat} : openP prs p = true ↔ ∃ q ∈ prs, ¬ (q.1 ∈ p ↔ q.2 ∈ p) := by
  unfold openP
  rw [List.any_eq_true]
  refine exists_congr fun q => and_congr_right fun _ => ?_
  unfold inP
  by_cases h1 : q.1 ∈ p <;> by_cases h2 : q.2 ∈ p <;> simp [h1, h2]
theorem open_cut {N : Net} {prs : List (Nat × Nat)} {p : List Nat} (hj : JoinAll N prs) (h : openP prs p = true) : ∃ w ∈ N.ways, cutW w p = true := by
  obtain ⟨q, hq, hn⟩ := openP_iff.mp h
  refine Classical.byContradiction fun hc => hn ?_
  have := hj q hq (fun x => if x ∈ p then 1 else 0) fun e he => by
    unfold edges at he
    obtain ⟨i, hi, rfl⟩ := List.mem_map.mp he
    have hw := wayAt_in (List.mem_range.mp hi)
    have : ¬ cutW (wayAt N i) p = true := fun z => hc ⟨_, hw, z⟩
    rw [cut_iff, Decidable.not_not] at this
    show (if (wayAt N i).a ∈ p then 1 else 0) = if (wayAt N i).b ∈ p then 1 else 0
    by_cases h1 : (wayAt N i).a ∈ p
    · rw [if_pos h1, if_pos (this.mp h1)]
    · rw [if_neg h1, if_neg (fun z => h1 (this.mpr z))]
  constructor
  · intro z
    rw [if_pos z] at this
    refine Decidable.byContradiction fun y => ?_
    rw [if_neg y] at this
    cases this
  · intro z
    rw [if_pos z] at this
    refine Decidable.byContradiction fun y => ?_
    rw [if_neg y] at this
    cases this
theorem WaysOk.ab {N : Net} (h : WaysOk N) {w : Way} (hw : w ∈ N.ways) : w.a < N.n ∧ w.b < N.n := ⟨Nat.lt_trans (h w hw).1 (h w hw).2.1, (h w hw).2.1⟩
theorem still_rate {N : Net} {prs : List (Nat × Nat)} {ps : List (List Nat)} (hw : WaysOk N) (hj : JoinAll N prs) (hp : PartI N.n ps) (h : stillP prs ps ≠ []) : ∃ w ∈ N.ways, 0 < rateW w ps (stillP prs ps) := by
  obtain ⟨p, hm⟩ := List.exists_mem_of_ne_nil _ h
  obtain ⟨w, hwm, hc⟩ := open_cut hj (List.mem_filter.mp hm).2
  refine ⟨w, hwm, ?_⟩
  unfold stillP at hm ⊢
  rw [hp.rate (hw.ab hwm).1 (hw.ab hwm).2]
  exact List.length_pos_iff_exists_mem.mpr ⟨p, List.mem_filter.mpr ⟨hm, hc⟩⟩
theorem rate_le (w : Way) (ps still : List (List Nat)) : rateW w ps still ≤ 2 := Nat.le_trans (List.length_filter_le _ _) (sidesP_len _ _)
theorem rate_two {w : Way} {ps still : List (List Nat)} (h : 0 < rateW w ps still) : (sidesP w ps).length = 2 := by
  unfold sidesP
  split
  · assumption
  · rename_i hn
    have : rateW w ps still = 0 := by
      unfold rateW sidesP
      rw [if_neg hn]
      rfl
    omega
theorem load_widen {N : Net} {prs : List (Nat × Nat)} {ps : List (List Nat)} {ws : Wid} {w : Way} {s : Nat} (hw : WaysOk N) (hp : PartI N.n ps) (hm : w ∈ N.ways) (nd : (ws.map (·.1)).Nodup) : loadW w (widenP s (stillP prs ps) ws) = loadW w ws + s * rateW w ps (stillP prs ps) := by
  rw [loadW_sum, sumW_widen _ _ nd]
  unfold stillP
  rw [hp.rate (hw.ab hm).1 (hw.ab hm).2]
  rfl
/-! ways are taken -/
theorem full_some {N : Net} {ps : List (List Nat)} {ws : Wid} {i : Nat} (h : fullK N ps ws = some i) : i < N.ways.length ∧ lackW (wayAt N i) ws = 0 ∧ (sidesP (wayAt N i) ps).length = 2 := by
  unfold fullK at h
  rw [List.findIdx?_eq_some_iff_getElem] at h
  obtain ⟨hi, h1, _⟩ := h
  have e : wayAt N i = N.ways[i] := by
    unfold wayAt
    rw [List.getD_eq_getElem?_getD, List.getElem?_eq_getElem hi]
    rfl
  unfold fullB at h1
  rw [Bool.and_eq_true, decide_eq_true_iff, decide_eq_true_iff] at h1
  rw [e]
  exact ⟨hi, h1.1, h1.2⟩
theorem full_none {N : Net} {ps : List (List Nat)} {ws : Wid} (h : fullK N ps ws = none) {w : Way} (hw : w ∈ N.ways) : ¬ (lackW w ws = 0 ∧ (sidesP w ps).length = 2) := by
  unfold fullK at h
  rw [List.findIdx?_eq_none_iff] at h
  have := h w hw
  unfold fullB at this
  intro z
  rw [decide_eq_true z.1, decide_eq_true z.2] at this
  cases this
theorem PartI.two (h : PartI n ps) {w : Way} (ha : w.a < n) (hb : w.b < n) (h2 : (sidesP w ps).length = 2) : ∃ p q, p ∈ ps ∧ q ∈ ps ∧ p ≠ q ∧ sidesP w ps = [p, q] ∧ ((w.a ∈ p ∧ w.b ∈ q) ∨ (w.b ∈ p ∧ w.a ∈ q)) ∧ (∀ r ∈ ps, r = p ∨ r = q ↔ cutW w r = true) := by
  rcases h.sides ha hb with ⟨p, _, _, _, e⟩ | h
  · rw [e] at h2; cases h2
  · exact h
theorem PartI.merge {N : Net} {ps : List (List Nat)} {ws : Wid} {i : Nat} (h : PartI N.n ps) (hw : WaysOk N) (hf : fullK N ps ws = some i) : PartI N.n (mergeP (wayAt N i) ps) ∧ (mergeP (wayAt N i) ps).length + 1 = ps.length := by
  obtain ⟨hi, _, h2⟩ := full_some hf
  obtain ⟨p, q, hp, hq, hne, e, _⟩ := h.two (hw.ab (wayAt_in hi)).1 (hw.ab (wayAt_in hi)).2 h2
  unfold mergeP
  rw [e]
  exact h.join hp hq hne
theorem take_none {N : Net} {g : Gs} (h : fullK N g.ps g.ws = none) : ∀ m, takeG N m g = g
  | 0 => rfl
  | m + 1 => by
    unfold takeG
    rw [h]
    exact take_none h m
structure TakeI (N : Net) (m : Nat) (g g' : Gs) : Prop where
  part : PartI N.n g'.ps
  len : g'.ps.length ≤ g.ps.length
  ws : g'.ws = g.ws
  t : g'.t = g.t
  rows : g'.rows = g.rows
  tl : g'.tk.length + g'.ps.length = g.tk.length + g.ps.length
  less : 0 < m → fullK N g.ps g.ws ≠ none → g'.ps.length < g.ps.length
  no : g.ps.length ≤ m → fullK N g'.ps g'.ws = none
theorem take_spec {N : Net} (hw : WaysOk N) (hn : 0 < N.n) : ∀ (m : Nat) (g : Gs), PartI N.n g.ps → TakeI N m g (takeG N m g)
  | 0, g, h => ⟨h, Nat.le_refl _, rfl, rfl, rfl, rfl, fun z => absurd z (Nat.lt_irrefl _), fun z => by
    obtain ⟨p, hp, _⟩ := h.cover 0 hn
    have := List.length_pos_iff_exists_mem.mpr ⟨p, hp⟩
    omega⟩
  | m + 1, g, h => by
    unfold takeG
    cases hf : fullK N g.ps g.ws with
    | none =>
      dsimp only
      rw [take_none hf]
      exact ⟨h, Nat.le_refl _, rfl, rfl, rfl, rfl, fun _ z => absurd hf z, fun _ => hf⟩
    | some i =>
      dsimp only
      obtain ⟨h1, h2⟩ := h.merge hw hf
      have ih := take_spec hw hn m { g with ps := mergeP (wayAt N i) g.ps, tk := g.tk ++ [(g.t, i)] } h1
      refine ⟨ih.part, ?_, ih.ws, ih.t, ih.rows, ?_, fun _ _ => ?_, fun z => ih.no ?_⟩
      · have := ih.len
        dsimp only at this
        omega
      · have := ih.tl
        dsimp only at this
        rw [List.length_append] at this
        simp only [List.length_cons, List.length_nil] at this
        omega
      · have := ih.len
        dsimp only at this
        omega
      · dsimp only
        omega
/-! a turn -/
structure SpanI (N : Net) (prs : List (Nat × Nat)) (k : Nat) (g : Gs) (s : Nat) : Prop where
  wait : waitP N g.ps g.ws (stillP prs g.ps) = some (s : Int)
  dv : 2 ^ (40 - (k + 1)) ∣ s
  le : s ≤ 10000 * two40
  load : ∀ w ∈ N.ways, loadW w (widenP s (stillP prs g.ps) g.ws) ≤ w.c * two40
  full : ∃ w ∈ N.ways, lackW w (widenP s (stillP prs g.ps) g.ws) = 0 ∧ (sidesP w g.ps).length = 2 ∧ 0 < rateW w g.ps (stillP prs g.ps)
  each : ∀ w ∈ N.ways, 0 < rateW w g.ps (stillP prs g.ps) → (lackW w g.ws).toNat % rateW w g.ps (stillP prs g.ps) = 0 ∧ 0 ≤ lackW w g.ws ∧ 2 ^ (40 - (k + 1)) ∣ (lackW w g.ws).toNat / rateW w g.ps (stillP prs g.ps)
theorem two40_eq : two40 = 2 ^ 40 := by decide
theorem lackW_two (w : Way) (ws : Wid) : lackW w ws = ((w.c * two40 : Nat) : Int) - (loadW w ws : Int) := by
  unfold lackW two40
  omega
theorem span_spec {N : Net} {prs : List (Nat × Nat)} {k : Nat} {g : Gs} (hw : WaysOk N) (hj : JoinAll N prs) (hk : k + 1 ≤ 39) (h : GInv N k g) (hs : stillP prs g.ps ≠ []) : ∃ s, spanG N prs g = s ∧ SpanI N prs k g s := by
  obtain ⟨x, w, e1, hm, hr, hx, hall⟩ := wait_spec (ws := g.ws) (still_rate hw hj h.part hs)
  have nn : ∀ v ∈ N.ways, 0 ≤ lackW v g.ws := fun v hv => by
    rw [lackW_two]
    have := h.load v hv
    omega
  have pw : (2 : Nat) ^ (40 - k) = 2 * 2 ^ (40 - (k + 1)) := by
    rw [show 40 - k = (40 - (k + 1)) + 1 by omega, Nat.pow_succ, Nat.mul_comm]
  have dl : ∀ v ∈ N.ways, (2 : Nat) ^ (40 - k) ∣ (lackW v g.ws).toNat := fun v hv => by
    have h1 : (lackW v g.ws).toNat = v.c * two40 - loadW v g.ws := by
      rw [lackW_two]
      omega
    rw [h1]
    refine Nat.dvd_sub (Nat.dvd_trans ?_ (Nat.dvd_mul_left _ _)) (sum_dvd h.dv)
    rw [two40_eq]
    exact Nat.pow_dvd_pow 2 (by omega)
  have rm : ∀ v ∈ N.ways, 0 < rateW v g.ps (stillP prs g.ps) → (lackW v g.ws).toNat % rateW v g.ps (stillP prs g.ps) = 0 := fun v hv hp => by
    have h1 := rate_le v g.ps (stillP prs g.ps)
    obtain ⟨m, hm⟩ := dl v hv
    rw [hm, pw, Nat.mul_assoc]
    rcases (by omega : rateW v g.ps (stillP prs g.ps) = 1 ∨ rateW v g.ps (stillP prs g.ps) = 2) with e | e
    · rw [e]; exact Nat.mod_one _
    · rw [e]; exact Nat.mul_mod_right _ _
  have dd : ∀ v ∈ N.ways, 0 < rateW v g.ps (stillP prs g.ps) → 2 ^ (40 - (k + 1)) ∣ (lackW v g.ws).toNat / rateW v g.ps (stillP prs g.ps) := fun v hv hp => by
    have h1 := rate_le v g.ps (stillP prs g.ps)
    obtain ⟨m, hm⟩ := dl v hv
    rw [hm, pw]
    rcases (by omega : rateW v g.ps (stillP prs g.ps) = 1 ∨ rateW v g.ps (stillP prs g.ps) = 2) with e | e
    · rw [e, Nat.div_one]
      exact ⟨2 * m, by rw [Nat.mul_comm 2, Nat.mul_assoc]⟩
    · rw [e, Nat.mul_assoc, Nat.mul_div_cancel_left _ (by omega)]
      exact ⟨m, rfl⟩
  obtain ⟨r, hre⟩ : ∃ r, r = rateW w g.ps (stillP prs g.ps) := ⟨_, rfl⟩
  obtain ⟨l, hle⟩ : ∃ l, l = (lackW w g.ws).toNat := ⟨_, rfl⟩
  have hli : lackW w g.ws = (l : Int) := by rw [hle]; exact (Int.toNat_of_nonneg (nn w hm)).symm
  have hmod := rm w hm hr
  rw [← hle, ← hre] at hmod
  rw [hli, ← hre] at hx
  have hxs : x = ((l / r : Nat) : Int) := by rw [hx]; rfl
  have hlr : l / r * r = l := Nat.div_mul_cancel (Nat.dvd_of_mod_eq_zero hmod)
  refine ⟨l / r, ?_, ?_, ?_, ?_, ?_, ?_, ?_⟩
  · unfold spanG
    rw [e1, hxs]
    rfl
  · rw [e1, hxs]
  · have := dd w hm hr
    rw [← hle, ← hre] at this
    exact this
  · refine Nat.le_trans (Nat.div_le_self _ _) ?_
    have h1 : (l : Int) ≤ ((w.c * two40 : Nat) : Int) := by
      rw [← hli, lackW_two]
      omega
    have h2 : w.c * two40 ≤ 10000 * two40 := Nat.mul_le_mul_right _ (hw w hm).2.2.2
    omega
  · intro v hv
    rw [load_widen hw h.part hv h.nd]
    by_cases hp : 0 < rateW v g.ps (stillP prs g.ps)
    · have h1 := hall v hv hp
      rw [hxs] at h1
      have h2 := (Int.le_ediv_iff_mul_le (by omega)).mp h1
      rw [lackW_two, ← Int.natCast_mul] at h2
      omega
    · rw [show rateW v g.ps (stillP prs g.ps) = 0 by omega, Nat.mul_zero]
      exact h.load v hv
  · refine ⟨w, hm, ?_, rate_two hr, hr⟩
    rw [lackW_two, load_widen hw h.part hm h.nd, ← hre, hlr]
    rw [lackW_two] at hli
    omega
  · intro v hv hp
    exact ⟨rm v hv hp, nn v hv, dd v hv hp⟩
theorem len_le_n {N : Net} {g : Gs} {k : Nat} (h : GInv N k g) : g.ps.length ≤ N.n := by have := h.kn; omega
theorem pass_inv {N : Net} {prs : List (Nat × Nat)} {k : Nat} {g : Gs} {s : Nat} (h : GInv N k g) (hs : SpanI N prs k g s) (hn : N.n ≤ 12) :
    PartI N.n (passG prs s g).ps ∧ ((passG prs s g).ws.map (·.1)).Nodup ∧ (∀ w ∈ N.ways, loadW w (passG prs s g).ws ≤ w.c * two40) ∧ (∀ e ∈ (passG prs s g).ws, 2 ^ (40 - (k + 1)) ∣ e.2) ∧ 2 ^ (40 - (k + 1)) ∣ (passG prs s g).t ∧ (passG prs s g).ws.length ≤ 12 * (k + 1) ∧ (passG prs s g).t ≤ (k + 1) * (10000 * two40) := by
  have pd : (2 : Nat) ^ (40 - (k + 1)) ∣ 2 ^ (40 - k) := Nat.pow_dvd_pow 2 (by omega)
  refine ⟨h.part, widen_nd h.nd, hs.load, widen_dvd hs.dv fun e he => Nat.dvd_trans pd (h.dv e he), Nat.dvd_add (Nat.dvd_trans pd h.dt) hs.dv, ?_, ?_⟩
  · have h1 := widen_len (s := s) (still := stillP prs g.ps) (ws := g.ws)
    have h2 : (stillP prs g.ps).length ≤ g.ps.length := List.length_filter_le _ _
    have h3 := h.wl
    have h4 := len_le_n h
    show (widenP s (stillP prs g.ps) g.ws).length ≤ _
    omega
  · show g.t + s ≤ _
    have h1 := h.tb
    have h2 := hs.le
    rw [Nat.add_mul, Nat.one_mul]
    omega
theorem turn_inv {N : Net} {prs : List (Nat × Nat)} {k : Nat} {g : Gs} (hw : WaysOk N) (hj : JoinAll N prs) (h0 : 0 < N.n) (hn : N.n ≤ 12) (hk : k + 1 ≤ 39) (h : GInv N k g) (hs : stillP prs g.ps ≠ []) : GInv N (k + 1) (turnG N prs g) := by
  obtain ⟨s, es, hsp⟩ := span_spec hw hj hk h hs
  obtain ⟨p1, p2, p3, p4, p5, p6, p7⟩ := pass_inv h hsp hn
  have tk := take_spec hw h0 N.n (passG prs s g) p1
  unfold turnG
  rw [es]
  have hf : fullK N (passG prs s g).ps (passG prs s g).ws ≠ none := by
    obtain ⟨w, hm, h1, h2, _⟩ := hsp.full
    exact fun z => full_none z hm ⟨h1, h2⟩
  have hl := tk.less h0 hf
  refine ⟨tk.part, ?_, fun w hm => ?_, fun e he => ?_, ?_, ?_, ?_, ?_, ?_, ?_⟩
  · show ((takeG N N.n (passG prs s g)).ws.map (·.1)).Nodup
    rw [tk.ws]; exact p2
  · show loadW w (takeG N N.n (passG prs s g)).ws ≤ _
    rw [tk.ws]; exact p3 w hm
  · have he : e ∈ (takeG N N.n (passG prs s g)).ws := he
    rw [tk.ws] at he; exact p4 e he
  · show _ ∣ (takeG N N.n (passG prs s g)).t
    rw [tk.t]; exact p5
  · show _ + (takeG N N.n (passG prs s g)).ps.length ≤ _
    have h1 := h.kn
    have h2 : (passG prs s g).ps.length = g.ps.length := rfl
    omega
  · show (takeG N N.n (passG prs s g)).ws.length ≤ _
    rw [tk.ws]; exact p6
  · show (takeG N N.n (passG prs s g)).t ≤ _
    rw [tk.t]; exact p7
  · show (takeG N N.n (passG prs s g)).tk.length + (takeG N N.n (passG prs s g)).ps.length = _
    rw [tk.tl]; exact h.tl
  · show ((takeG N N.n (passG prs s g)).rows ++ [_]).length = _
    rw [tk.rows, List.length_append]
    have := h.rl
    show g.rows.length + 1 = _
    omega
theorem ones_part (n : Nat) : PartI n (onesP n) where
  cover x hx := ⟨[x], List.mem_map.mpr ⟨x, List.mem_range.mpr hx, rfl⟩, by simp⟩
  lt p hp x hx := by
    obtain ⟨y, hy, rfl⟩ := List.mem_map.mp hp
    rw [List.mem_singleton.mp hx]
    exact List.mem_range.mp hy
  disj := by
    unfold onesP
    rw [List.pairwise_map]
    refine List.Pairwise.imp (fun {a b} h x hx => ?_) List.nodup_range
    rw [List.mem_singleton.mp hx, List.mem_singleton]
    exact h
  nd p hp := by
    obtain ⟨y, hy, rfl⟩ := List.mem_map.mp hp
    simp
  ne p hp := by
    obtain ⟨y, hy, rfl⟩ := List.mem_map.mp hp
    simp
theorem ones_len (n : Nat) : (onesP n).length = n := by unfold onesP; rw [List.length_map, List.length_range]
theorem start_inv {N : Net} {prs : List (Nat × Nat)} (hw : WaysOk N) : GInv N 0 (startG N prs) where
  part := ones_part N.n
  nd := List.nodup_nil
  load w hw := Nat.zero_le _
  dv e he := by cases he
  dt := Nat.dvd_zero _
  kn := by show 0 + (onesP N.n).length ≤ N.n; rw [ones_len]; omega
  wl := Nat.le_refl _
  tb := Nat.zero_le _
  tl := by show 0 + (onesP N.n).length = N.n; rw [ones_len]; omega
  rl := rfl
theorem grow_inv {N : Net} {prs : List (Nat × Nat)} (hw : WaysOk N) (hj : JoinAll N prs) (h0 : 0 < N.n) (hn : N.n ≤ 12) : ∀ (m k : Nat) (g : Gs), GInv N k g → N.n ≤ k + m → ∃ k', GInv N k' (growG N prs m g) ∧ stillP prs (growG N prs m g).ps = []
  | 0, k, g, h, hm => by
    have h1 := h.kn
    have : g.ps.length = 0 := by omega
    refine ⟨k, h, ?_⟩
    show stillP prs g.ps = []
    rw [List.length_eq_zero_iff.mp this]
    rfl
  | m + 1, k, g, h, hm => by
    unfold growG
    by_cases hs : stillP prs g.ps = []
    · rw [if_pos hs]
      have : ∀ m, growG N prs m g = g := by
        intro m
        induction m with
        | zero => rfl
        | succ m ih => unfold growG; rw [if_pos hs, ih]
      rw [this]
      exact ⟨k, h, hs⟩
    · rw [if_neg hs]
      have hk : k + 1 ≤ 39 := by have := h.kn; omega
      exact grow_inv hw hj h0 hn m (k + 1) _ (turn_inv hw hj h0 hn hk h hs) (by omega)
def stepG (N : Net) (prs : List (Nat × Nat)) (g : Gs) : Gs := if stillP prs g.ps = [] then g else turnG N prs g
theorem grow_eq {N : Net} {prs : List (Nat × Nat)} (m : Nat) (g : Gs) : growG N prs (m + 1) g = growG N prs m (stepG N prs g) := by
  by_cases hs : stillP prs g.ps = []
  · simp only [growG, stepG, hs, if_true]
  · simp only [growG, stepG, hs, if_false]
theorem grow_succ {N : Net} {prs : List (Nat × Nat)} : ∀ (m : Nat) (g : Gs), growG N prs (m + 1) g = stepG N prs (growG N prs m g)
  | 0, g => by rw [grow_eq]; rfl
  | m + 1, g => by rw [grow_eq, grow_succ m, grow_eq]
def oneG (N : Net) (g : Gs) : Gs := match fullK N g.ps g.ws with
  | none => g
  | some i => { g with ps := mergeP (wayAt N i) g.ps, tk := g.tk ++ [(g.t, i)] }
theorem take_eq {N : Net} (m : Nat) (g : Gs) : takeG N (m + 1) g = takeG N m (oneG N g) := by
  cases hf : fullK N g.ps g.ws with
  | none => simp only [takeG, oneG, hf]
  | some i => simp only [takeG, oneG, hf]
theorem take_succ {N : Net} : ∀ (m : Nat) (g : Gs), takeG N (m + 1) g = oneG N (takeG N m g)
  | 0, g => by rw [take_eq]; rfl
  | m + 1, g => by rw [take_eq, take_succ m, take_eq]
end Ev

namespace Ev
open PySem PySem.Spec PyProof.Rows L2
/-! ### _law_grown -/
def exD (u : Nat) : D := rD (mkRat u two40)
def tkD (e : Nat × Nat) : D := .tup [exD e.1, .int (e.2 : Nat)]
def rowD (e : Nat × List (List Nat) × List (List Nat)) : D := .tup [exD e.1, .tup (partsL e.2.1), .tup (partsL e.2.2)]
theorem exD_zero : exD 0 = .tup [.int 0, .int 1] := by
  unfold exD rD
  rw [show mkRat ((0 : Nat) : Int) two40 = 0 from Rat.zero_mkRat _]
  rfl
/-! stores with some cells behind -/
theorem app_get {S l : Sto} {i : Nat} : (S ++ l)[S.length + i]? = l[i]? := by
  rw [List.getElem?_append_right (Nat.le_add_right _ _), Nat.add_sub_cancel_left]
theorem app_get0 {S l : Sto} : (S ++ l)[S.length]? = l[0]? := app_get (i := 0)
theorem app_set {S l : Sto} {i : Nat} {c : Cel} : (S ++ l).set (S.length + i) c = S ++ l.set i c := by
  rw [List.set_append_right _ _ (Nat.le_add_right _ _), Nat.add_sub_cancel_left]
theorem app_set0 {S l : Sto} {c : Cel} : (S ++ l).set S.length c = S ++ l.set 0 c := app_set (i := 0)
theorem iRng1D_nat {fa : AF} {ρ : En} {S S1 : Sto} {j : Nat} (h : fa ρ S = .ok [.int j] S1) (hj : j < 1000000) : iRng1D fa ρ S = .ok ⟨natD (List.range j), none⟩ S1 := by
  rw [← rngD_nat]
  exact iRng1D_ok h hj
/-! a dict over parts is written -/
theorem hasD_dict {α : Type} {f : α → D} {p : List Nat} : ∀ ws : List (List Nat × α), hasD (keyN p) (dictL f ws) = decide (p ∈ ws.map (·.1))
  | [] => rfl
  | e :: ws => by
    have ih := hasD_dict (f := f) (p := p) ws
    unfold dictL at ih ⊢
    simp only [List.map_cons, hasD, ih]
    rw [Bool.eq_iff_iff, Bool.or_eq_true, decide_eq_true_iff, decide_eq_true_iff, decide_eq_true_iff, List.mem_cons]
    exact or_congr_left ⟨fun h => (keyN_inj h).symm, fun h => by rw [h]⟩
theorem setD_dict {α : Type} {f : α → D} {p : List Nat} {a : α} : ∀ ws : List (List Nat × α), (ws.map (·.1)).Nodup → p ∈ ws.map (·.1) → setD (keyN p) (f a) (dictL f ws) = dictL f (putW p a ws)
  | [], _, h => by simp at h
  | e :: ws, nd, h => by
    rw [List.map_cons, List.nodup_cons] at nd
    have no : p ∉ ws.map (·.1) → ∀ l : List (List Nat × α), (∀ x ∈ l, x ∈ ws) → setD (keyN p) (f a) (dictL f l) = dictL f l := by
      intro hp l hl
      induction l with
      | nil => rfl
      | cons x l ih =>
        have ih := ih fun y hy => hl y (List.mem_cons_of_mem _ hy)
        unfold dictL at ih ⊢
        simp only [List.map_cons, setD, ih]
        rw [if_neg]
        intro z
        refine hp (List.mem_map.mpr ⟨x, hl x List.mem_cons_self, keyN_inj z⟩)
    unfold putW
    by_cases h1 : e.1 = p
    · rw [if_pos h1]
      have := no (by rw [← h1]; exact nd.1) ws fun _ h => h
      unfold dictL at this ⊢
      simp only [List.map_cons, setD, this]
      rw [if_pos (by rw [h1]), h1]
    · rw [if_neg h1]
      have h2 : p ∈ ws.map (·.1) := by
        rcases List.mem_cons.mp h with z | z
        · exact absurd z.symm h1
        · exact z
      have ih := setD_dict (f := f) (a := a) ws nd.2 h2
      unfold dictL at ih ⊢
      simp only [List.map_cons, setD, ih]
      rw [if_neg (fun z => h1 (keyN_inj z))]
theorem putW_new {α : Type} {p : List Nat} {a : α} : ∀ {ws : List (List Nat × α)}, p ∉ ws.map (·.1) → putW p a ws = ws ++ [(p, a)]
  | [], _ => rfl
  | e :: ws, h => by
    rw [List.map_cons, List.mem_cons, not_or] at h
    unfold putW
    rw [if_neg (Ne.symm h.1), putW_new h.2]
    rfl
theorem insD_dict {α : Type} {f : α → D} {p : List Nat} {a : α} {ws : List (List Nat × α)} (nd : (ws.map (·.1)).Nodup) : insD (keyN p) (f a) (dictL f ws) = dictL f (putW p a ws) := by
  unfold insD
  rw [hasD_dict]
  by_cases h : p ∈ ws.map (·.1)
  · rw [if_pos (decide_eq_true h), setD_dict ws nd h]
  · rw [if_neg (by rw [decide_eq_false h]; decide), putW_new h]
    unfold dictL
    rw [List.map_append]
    rfl
theorem dPut_dict {α : Type} {f : α → D} {S : Sto} {n : Nat} {p : List Nat} {a : α} {ws : List (List Nat × α)} (h : S[n]? = some (.dT (dictL f ws))) (nd : (ws.map (·.1)).Nodup) (hl : ws.length < 1000) : dPut S (.loc n) (partD p) (f a) = some (S.set n (.dT (dictL f (putW p a ws)))) := by
  unfold dPut
  simp only [h, keyT_part, Option.bind_some]
  rw [if_pos, insD_dict nd]
  unfold dictL
  rw [List.length_map]
  exact Nat.lt_of_lt_of_le hl (sizeLine_ok (Nat.le_refl _))
theorem isDct_dict {S : Sto} {n : Nat} {kvs : List (List Key × D)} (h : S[n]? = some (.dT kvs)) : isDct S (.loc n) = true := by
  unfold isDct
  simp only [h]
theorem oNotN_opt {S : Sto} (x : Option Nat) : oNotN (optD x) .non S = some (.bl x.isSome) := by cases x <;> rfl
theorem okDs_tk (n : Nat) (l : List (Nat × Nat)) : okDs n (l.map tkD) = true := by
  induction l with
  | nil => rfl
  | cons x l ih =>
    rw [List.map_cons]
    unfold okDs
    rw [ih, Bool.and_true]
    unfold tkD exD
    simp only [okD, okDs, okD_rD, Bool.and_self]
theorem map_snoc {α β : Type} (f : α → β) (l : List α) (x : α) : l.map f ++ [f x] = (l ++ [x]).map f := by rw [List.map_append]; rfl
theorem gc_no {S S' : Sto} {d : D} (h : okD S.length d = false) : gc S d S' = .ok d S' := by
  unfold gc
  rw [if_neg (fun z => by rw [z.2.1] at h; cases h)]
def lgS (S0 : Sto) (g : Gs) : Sto := S0 ++ [.dT (dictL natV g.ws), .lst (g.tk.map tkD), .lst (g.rows.map rowD)]
section
variable {N : Net} {prs : List (Nat × Nat)} {S0 : Sto} {g : Gs}
theorem lgS0 : (lgS S0 g)[S0.length]? = some (.dT (dictL natV g.ws)) := app_get0
theorem lgS1 : (lgS S0 g)[S0.length + 1]? = some (.lst (g.tk.map tkD)) := app_get
theorem lgS2 : (lgS S0 g)[S0.length + 2]? = some (.lst (g.rows.map rowD)) := app_get
theorem dGet_get {α : Type} {f : α → D} {S : Sto} {n : Nat} {p : List Nat} {ws : List (List Nat × α)} (h : S[n]? = some (.dT (dictL f ws))) : dGet S (.loc n) (partD p) = some ((getW p ws).map f) := dGet_dict (.inl h)
theorem gw_nat {ws : Wid} {p : List Nat} : (((getW p ws).map natV).getD (.int 0)) = natV ((getW p ws).getD 0) := by cases getW p ws <;> rfl
/-- the widths grow -/
theorem lg_widen {s : Nat} {x7 x8 x10 x11 x12 x13 : Option D} {x2 : Option D} {t : Int} {still : List (List Nat)} {ws : Wid} {c1 c2 : Cel} (nd : (ws.map (·.1)).Nodup) (wl : ws.length + still.length ≤ 500) (sl : still.length ≤ 500) :
    ∃ y10, sFor (iSeqD (eVar 8)) (.nm 10) (sDPut (eVar 3) (eVar 10) (eBin oAdd (eDGet2 (eVar 3) (eVar 10) (eC (.int 0))) (eVar 9))) [some (netD N), some (pairsD prs), x2, some (.loc S0.length), some (.loc (S0.length + 1)), some (.int t), some (.loc (S0.length + 2)), x7, some (.lst (partsL still)), some (natV s), x10, x11, x12, x13] (S0 ++ [.dT (dictL natV ws), c1, c2]) =
      .nx [some (netD N), some (pairsD prs), x2, some (.loc S0.length), some (.loc (S0.length + 1)), some (.int t), some (.loc (S0.length + 2)), x7, some (.lst (partsL still)), some (natV s), y10, x11, x12, x13] (S0 ++ [.dT (dictL natV (widenP s still ws)), c1, c2]) := by
  obtain ⟨ρ', S', e, ⟨y10, rfl⟩, rfl⟩ := forI (f := sDPut (eVar 3) (eVar 10) (eBin oAdd (eDGet2 (eVar 3) (eVar 10) (eC (.int 0))) (eVar 9))) (fi := iSeqD (eVar 8)) (tg := .nm 10) (items := partsL still)
    (ρ := [some (netD N), some (pairsD prs), x2, some (.loc S0.length), some (.loc (S0.length + 1)), some (.int t), some (.loc (S0.length + 2)), x7, some (.lst (partsL still)), some (natV s), x10, x11, x12, x13]) (S := S0 ++ [.dT (dictL natV ws), c1, c2]) (S1 := S0 ++ [.dT (dictL natV ws), c1, c2])
    (fun j ρ S => (∃ y10, ρ = [some (netD N), some (pairsD prs), x2, some (.loc S0.length), some (.loc (S0.length + 1)), some (.int t), some (.loc (S0.length + 2)), x7, some (.lst (partsL still)), some (natV s), y10, x11, x12, x13]) ∧ S = S0 ++ [.dT (dictL natV (widenP s (still.take j) ws)), c1, c2])
    (iSeqD_lst (eVar_ok rfl)) ⟨⟨_, rfl⟩, rfl⟩ (by
      rintro j d ρ S hd ⟨⟨y10, rfl⟩, rfl⟩
      unfold partsL at hd
      rw [List.getElem?_map, Option.map_eq_some_iff] at hd
      obtain ⟨p, hp, rfl⟩ := hd
      have h0 : (S0 ++ [.dT (dictL natV (widenP s (still.take j) ws)), c1, c2])[S0.length]? = some (.dT (dictL natV (widenP s (still.take j) ws))) := app_get0
      have wl2 := widen_len (s := s) (still := still.take j) (ws := ws)
      have tl := List.length_take_le' j still
      refine ⟨_, rfl, _, _, .inl (sDPut_ok (d := natV ((getW p (widenP s (still.take j) ws)).getD 0 + s)) (eBin_ok (eDGet2_ok (x := .loc S0.length) (eVar_ok rfl) (isDct_dict h0) (eVar_ok rfl) eC_ok (dGet_get h0)) (eVar_ok rfl) ?_) (eVar_ok rfl) (eVar_ok rfl) (dPut_dict h0 (widen_nd nd) (by omega))), ⟨_, rfl⟩, ?_⟩
      · rw [gw_nat]; rfl
      · rw [app_set0, take_get hp]
        unfold widenP
        rw [List.foldl_append]
        rfl)
  refine ⟨y10, e.trans ?_⟩
  rw [partsL_len, List.take_length]
def lgE (N : Net) (prs : List (Nat × Nat)) (S0 : Sto) (g : Gs) (x7 x8 x9 x10 x11 x12 : Option D) : En := [some (netD N), some (pairsD prs), some (.lst (partsL g.ps)), some (.loc S0.length), some (.loc (S0.length + 1)), some (.int g.t), some (.loc (S0.length + 2)), x7, x8, x9, x10, x11, x12, none]
theorem oGt_len {S : Sto} {n : Nat} : oGt (.int (n : Int)) (.int 0) S = some (.bl (decide (0 < n))) := by
  rw [oGt_int]
  congr 2
  exact decide_eq_decide.mpr (by omega)
theorem tb_ok {k t : Nat} (h : t ≤ k * (10000 * two40)) (hk : k ≤ 13) : t < 2 ^ 100 := by
  have : k * (10000 * two40) ≤ 13 * (10000 * two40) := Nat.mul_le_mul_right _ hk
  have h2 : 13 * (10000 * two40) < 2 ^ 100 := by decide
  omega
end
end Ev

namespace Ev
open PySem PySem.Spec PyProof.Rows L2
/-! ### ratios, in units of 2^-40 -/
def ratQ (u : Nat) : Rat := mkRat (u : Int) two40
def gr : Nat := 268435456
def isU (x : D) (u : Nat) : Prop := isR x (ratQ u) ∧ gr ∣ u
theorem exD_ratQ (u : Nat) : exD u = rD (ratQ u) := rfl
theorem isU_ex {u : Nat} (h : gr ∣ u) : isU (exD u) u := ⟨.inl rfl, h⟩
theorem ratQ_zero : ratQ 0 = 0 := Rat.zero_mkRat _
theorem isU_zero : isU (.con (([0, 1] : List Int).map D.int)) 0 := ⟨by rw [ratQ_zero]; exact isR_zero, Nat.dvd_zero _⟩
theorem two40_pos : (0 : Rat) < (two40 : Nat) := by unfold two40; decide
theorem ratQ_div (u : Nat) : ratQ u = (u : Rat) / (two40 : Nat) := by
  unfold ratQ
  rw [Rat.mkRat_eq_div]
  rfl
theorem ratQ_add (a b : Nat) : ratQ (a + b) = ratQ a + ratQ b := by
  rw [ratQ_div, ratQ_div, ratQ_div]
  have : ((a + b : Nat) : Rat) = (a : Rat) + (b : Rat) := by exact_mod_cast rfl
  rw [this]
  grind
theorem ratQ_sub {a b : Nat} (h : b ≤ a) : ratQ (a - b) = ratQ a - ratQ b := by
  have := ratQ_add (a - b) b
  rw [Nat.sub_add_cancel h] at this
  rw [this]
  grind
theorem ratQ_mul (a r : Nat) : ratQ (a * r) = ratQ a * (r : Rat) := by
  rw [ratQ_div, ratQ_div]
  have : ((a * r : Nat) : Rat) = (a : Rat) * (r : Rat) := by exact_mod_cast rfl
  rw [this]
  grind
theorem ratQ_over {a r : Nat} (hr : 0 < r) (h : r ∣ a) : ratQ (a / r) = ratQ a / (r : Rat) := by
  have h1 := ratQ_mul (a / r) r
  rw [Nat.div_mul_cancel h] at h1
  have h2 : (r : Rat) ≠ 0 := by exact_mod_cast (by omega : r ≠ 0)
  rw [h1]
  grind
theorem ratQ_nat (c : Nat) : ratQ (c * two40) = (c : Rat) := by
  rw [ratQ_div]
  have : ((c * two40 : Nat) : Rat) = (c : Rat) * (two40 : Nat) := by exact_mod_cast rfl
  have h2 := two40_pos
  rw [this]
  grind
theorem ratQ_lt {a b : Nat} : ratQ a < ratQ b ↔ a < b := by
  rw [ratQ_div, ratQ_div]
  have h2 := two40_pos
  have h3 : (b : Rat) / (two40 : Nat) * (two40 : Nat) = (b : Rat) := by grind
  rw [Rat.div_lt_iff h2, h3]
  exact_mod_cast Iff.rfl
theorem ratQ_inj {a b : Nat} : ratQ a = ratQ b ↔ a = b := by
  constructor
  · intro h
    refine Nat.le_antisymm (Nat.not_lt.mp fun z => ?_) (Nat.not_lt.mp fun z => ?_)
    · have := ratQ_lt.mpr z
      rw [h] at this
      exact absurd this (Rat.lt_irrefl)
    · have := ratQ_lt.mpr z
      rw [h] at this
      exact absurd this (Rat.lt_irrefl)
  · rintro rfl; rfl
theorem sml_u {u : Nat} (h : gr ∣ u) : sml (ratQ u) := by
  unfold sml ratQ
  rw [Rat.den_mkRat, if_neg (by decide)]
  have h1 : gr ∣ Nat.gcd two40 (Int.natAbs (u : Int)) := Nat.dvd_gcd (by decide) (by rw [Int.natAbs_natCast]; exact h)
  have h2 := Nat.le_of_dvd (Nat.gcd_pos_of_pos_left _ (by decide)) h1
  refine Nat.lt_of_le_of_lt (Nat.div_le_div_left h2 (by decide)) (by decide)
section
variable {S : Sto} {x y : D} {a b r : Nat}
theorem plus_u (hx : isU x a) (hy : isU y b) : f_plus [x, y] S = .ok (exD (a + b)) S := by
  rw [plus_spec hx.1 hy.1 (sml_u hx.2) (sml_u hy.2), exD_ratQ, ratQ_add]
theorem minus_u (hx : isU x a) (hy : isU y b) (h : b ≤ a) : f_minus [x, y] S = .ok (exD (a - b)) S := by
  rw [minus_spec hx.1 hy.1 (sml_u hx.2) (sml_u hy.2), exD_ratQ, ratQ_sub h]
theorem over_u (hx : isU x a) (hy : isR y (r : Rat)) (hr : 0 < r) (hr2 : r < 1000) (h : r ∣ a) : f_over [x, y] S = .ok (exD (a / r)) S := by
  rw [over_spec hx.1 hy hr (by omega) (sml_u hx.2), exD_ratQ, ratQ_over hr h]
theorem sml_nat (r : Nat) : sml (r : Rat) := by
  unfold sml
  rw [show ((r : Rat)).den = 1 from rfl]
  decide
theorem times_u (hx : isU x a) (hy : isR y (r : Rat)) (hr2 : r < 1000) : f_times [x, y] S = .ok (exD (a * r)) S := by
  rw [times_spec hx.1 hy (sml_u hx.2) (sml_nat r) (CMul.r (by rw [show ((r : Rat)).num = (r : Int) from rfl]; omega)), exD_ratQ, ratQ_mul]
theorem less_u (hx : isU x a) (hy : isU y b) : f_less [x, y] S = .ok (.bl (decide (a < b))) S := by
  rw [less_spec hx.1 hy.1 (sml_u hx.2) (sml_u hy.2)]
  congr 2
  exact decide_eq_decide.mpr ratQ_lt
theorem ratio_nat (c : Nat) : f_ratio ([.int (c : Int)] ++ ([1] : List Int).map D.int) S = .ok (rD (c : Rat)) S := by
  have := ratio_spec (S := S) (n := (c : Int)) (d := 1) (by decide) (by decide)
  rw [show mkRat (c : Int) 1 = ((c : Int) : Rat) from Rat.mkRat_one _] at this
  exact this
theorem isR_nat (c : Nat) : isR (rD (c : Rat)) (c : Rat) := .inl rfl
theorem isU_nat (c : Nat) : isU (rD (c : Rat)) (c * two40) := ⟨by rw [ratQ_nat]; exact .inl rfl, Nat.dvd_trans (by decide) (Nat.dvd_mul_left _ _)⟩
theorem rD_inj {p q : Rat} (h : rD p = rD q) : p = q := by
  unfold rD at h
  injection h with h
  injection h with h1 h2
  injection h2 with h2 _
  injection h1 with h1
  injection h2 with h2
  exact Rat.ext h1 (by omega)
theorem eqv_rat (p q : Rat) : PyData.eqv (py (rD p)) (py (rD q)) = decide (p = q) := by
  unfold rD
  simp only [py, pys, PyData.eqv, PyData.eqvAll, Bool.and_true]
  rw [Bool.eq_iff_iff, Bool.and_eq_true, beq_iff_eq, beq_iff_eq, decide_eq_true_iff]
  constructor
  · rintro ⟨h1, h2⟩
    exact Rat.ext h1 (by omega)
  · rintro rfl
    exact ⟨rfl, rfl⟩
theorem isR.py {p : Rat} (h : isR x p) : eqOk (deref S x) = true ∧ py (deref S x) = Ev.py (rD p) := by
  have e : eqOk (rD p) = true := eqOk_flat (k := 1) (by unfold rD; simp only [flat, flats, Bool.and_self]) (by omega)
  rcases h with rfl | rfl
  · exact ⟨e, rfl⟩
  · have e2 : Ev.py (.con [.int p.num, .int p.den]) = Ev.py (rD p) := by unfold rD; simp only [Ev.py]
    refine ⟨?_, e2⟩
    unfold eqOk at e ⊢
    rw [show deref S (.con [.int p.num, .int p.den]) = .con [.int p.num, .int p.den] from rfl, e2]
    exact e
theorem oEq_py (h : ¬ (∃ i, x = .int i) ∧ ¬ (∃ i, x = .str i) ∧ ¬ ∃ i, x = .bl i) (e1 : eqOk (deref S x) = true) (e2 : eqOk (deref S y) = true) : oEq x y S = some (.bl (deq (deref S x) (deref S y))) := by
  unfold oEq
  split
  · exact absurd ⟨_, rfl⟩ h.1
  · exact absurd ⟨_, rfl⟩ h.2.1
  · exact absurd ⟨_, rfl⟩ h.2.2
  · rw [e1, e2]; rfl
theorem eq_u (hx : isU x a) (hy : isU y b) : oEq x y S = some (.bl (decide (a = b))) := by
  obtain ⟨x1, x2⟩ := hx.1.py (S := S)
  obtain ⟨y1, y2⟩ := hy.1.py (S := S)
  have hh : ¬ (∃ i, x = .int i) ∧ ¬ (∃ i, x = .str i) ∧ ¬ ∃ i, x = .bl i := by
    rcases hx.1 with rfl | rfl
    · unfold rD
      refine ⟨?_, ?_, ?_⟩ <;> (rintro ⟨i, h⟩; cases h)
    · refine ⟨?_, ?_, ?_⟩ <;> (rintro ⟨i, h⟩; cases h)
  rw [oEq_py hh x1 y1]
  unfold deq
  rw [x2, y2, eqv_rat]
  congr 2
  exact decide_eq_decide.mpr ratQ_inj
end
end Ev

namespace Ev
open PySem PySem.Spec PyProof.Rows L2
/-! ### the growth's methods that only look -/
def pgF (N : Net) (prs : List (Nat × Nat)) (b : Nat) (tm : D) (ps : List (List Nat)) : List (Str × D) :=
  [("net", netD N), ("ways", .tup (N.ways.map wayD)), ("time", tm), ("parts", .tup (partsL ps)), ("filled", .loc (b + 1)), ("widths", .loc (b + 2)), ("taken", .loc (b + 3)), ("rows", .loc (b + 4)), ("pairs", pairsD prs)]
structure PgAt (S : Sto) (b : Nat) (N : Net) (prs : List (Nat × Nat)) (tm : D) (ps : List (List Nat)) : Prop where
  h0 : S[b]? = some (.ins "PairGrowth" (pgF N prs b tm ps))
theorem get_left {S T : Sto} {i : Nat} {c : Cel} (h : S[i]? = some c) : (S ++ T)[i]? = some c := by
  rw [List.getElem?_append_left (List.getElem?_eq_some_iff.mp h).1]
  exact h
theorem PgAt.app {S T : Sto} {b : Nat} {N : Net} {prs : List (Nat × Nat)} {tm : D} {ps : List (List Nat)} (h : PgAt S b N prs tm ps) : PgAt (S ++ T) b N prs tm ps := ⟨get_left h.h0⟩
theorem gAny_bl {S : Sto} {bs : List Bool} : gAny [.lst (bs.map D.bl)] S = some (.bl (bs.any id)) := by
  unfold gAny
  simp only [lstOf, lstX, Option.bind_some, blsOf_map, Option.map_some]
section
variable {S : Sto} {b : Nat} {N : Net} {prs : List (Nat × Nat)} {tm : D} {ps : List (List Nat)}
theorem is_open_spec {p : List Nat} (h : PgAt S b N prs tm ps) (hp : prs.length ≤ 1000) : f_PairGrowth_is_open [.loc b, partD p] S = .ok (.bl (openP prs p)) S := by
  refine runF_rt (S1 := S) (d := .bl (openP prs p)) ?_ (gc_same rfl)
  show b_PairGrowth_is_open [some (.loc b), some (partD p), none, none] S = _
  unfold b_PairGrowth_is_open
  have lc : eLc (iSeqD (eFld "PairGrowth" (eVar 0) "pairs")) (.tp [(.nm 2), (.nm 3)]) bYes (eBin oNe (eBin oIn (eVar 2) (eVar 1)) (eBin oIn (eVar 3) (eVar 1))) [2, 3] [some (.loc b), some (partD p), none, none] S = .ok (.lst ((prs.map fun q => inP q.1 p != inP q.2 p).map D.bl)) S := by
    rw [List.map_map]
    exact eLc_m (xs := prs) (F := pairD) (G := fun q => .bl (inP q.1 p != inP q.2 p)) (iSeqD_tup (ds := prs.map pairD) (by (repeat' first | ((with_reducible apply eVar_ok) <;> rfl) | (with_reducible exact eC_ok) | (with_reducible exact aNil_ok) | (with_reducible exact bYes_ok) | (with_reducible exact h.h0) | (with_reducible apply aCons_ok) | (with_reducible apply eBin_ok) | (with_reducible apply bBin_ok) | (with_reducible apply eCb_ok) | (with_reducible apply eCall_ok) | (with_reducible apply eCallD_ok) | (with_reducible apply bVal_ok) | (with_reducible apply bNot_ok) | (with_reducible apply eTup_ok) | (with_reducible apply eLst_ok) | (with_reducible apply eFld_ok) | (with_reducible apply eMeth_ok) | (with_reducible apply eIx_loc) | (with_reducible apply pure1_ok) | (with_reducible apply bOr_ok) | (with_reducible apply bAnd_ok) | (with_reducible apply eDGet2_ok) | (with_reducible apply eDGet_ok) | (exact (rfl : (_ : Nat) = _)) | (exact (rfl : lookD _ _ = _)) | ((with_reducible show (List.length _) ≤ 1000); simp only [List.length_cons, List.length_nil]; decide) | (exact oIx_tup.trans atI_0) | (exact oIx_tup.trans atI_1) | (exact oIx_tup.trans atI_2) | (exact oIn_part) | (exact oIn_parts (.inl rfl)) | (exact oIn_parts (.inr rfl)) | (exact oNotIn_parts (.inl rfl)) | (exact oNotIn_parts (.inr rfl)) | (exact oNe_bl) | (exact oAdd_int) | (exact oSub_int) | (exact oLt_int) | (exact oGt_int) | (exact oLe_int) | (exact oGe_int) | (exact oEq_int) | (exact oNe_int) | (exact gLen_seq seqOf_tup) | (exact gLen_seq seqOf_lst) | ((with_reducible show _ = _); with_reducible assumption)))) True.intro rfl hp fun q _ => ⟨_, rfl, by (repeat' first | ((with_reducible apply eVar_ok) <;> rfl) | (with_reducible exact eC_ok) | (with_reducible exact aNil_ok) | (with_reducible exact bYes_ok) | (with_reducible apply aCons_ok) | (with_reducible apply eBin_ok) | (with_reducible apply bBin_ok) | (with_reducible apply eCb_ok) | (with_reducible apply eCall_ok) | (with_reducible apply eCallD_ok) | (with_reducible apply bVal_ok) | (with_reducible apply bNot_ok) | (with_reducible apply eTup_ok) | (with_reducible apply eLst_ok) | (with_reducible apply eFld_ok) | (with_reducible apply eMeth_ok) | (with_reducible apply eIx_loc) | (with_reducible apply pure1_ok) | (with_reducible apply bOr_ok) | (with_reducible apply bAnd_ok) | (with_reducible apply eDGet2_ok) | (with_reducible apply eDGet_ok) | (exact (rfl : (_ : Nat) = _)) | (exact (rfl : lookD _ _ = _)) | ((with_reducible show (List.length _) ≤ 1000); simp only [List.length_cons, List.length_nil]; decide) | (exact oIx_tup.trans atI_0) | (exact oIx_tup.trans atI_1) | (exact oIx_tup.trans atI_2) | (exact oIn_part) | (exact oIn_parts (.inl rfl)) | (exact oIn_parts (.inr rfl)) | (exact oNotIn_parts (.inl rfl)) | (exact oNotIn_parts (.inr rfl)) | (exact oNe_bl) | (exact oAdd_int) | (exact oSub_int) | (exact oLt_int) | (exact oGt_int) | (exact oLe_int) | (exact oGe_int) | (exact oEq_int) | (exact oNe_int) | (exact gLen_seq seqOf_tup) | (exact gLen_seq seqOf_lst) | ((with_reducible show _ = _); with_reducible assumption))⟩
  refine sRet_ok (eCb_ok (aCons_ok lc aNil_ok) (pure1_ok (gAny_bl.trans ?_)))
  unfold openP
  rw [List.any_map]
  rfl
theorem still_open_spec (h : PgAt S b N prs tm ps) (hp : prs.length ≤ 1000) (hl : ps.length ≤ 1000) : f_PairGrowth_still_open [.loc b] S = .ok (.tup (partsL (stillP prs ps))) S := by
  refine runF_rt (S1 := S) (d := .tup (partsL (stillP prs ps))) ?_ (gc_same (by simp only [okD]; exact okDs_partsL _ _))
  show b_PairGrowth_still_open [some (.loc b), none] S = _
  unfold b_PairGrowth_still_open
  have lc : eLc (iSeqD (eFld "PairGrowth" (eVar 0) "parts")) (.nm 1) (bVal (eMeth "PairGrowth" "is_open" 2 f_PairGrowth_is_open (eVar 0) (aCons (eVar 1) aNil))) (eVar 1) [1] [some (.loc b), none] S = .ok (.lst (partsL (stillP prs ps))) S :=
    eLc_f (xs := ps) (F := partD) (c := openP prs) (G := partD) (iSeqD_tup (ds := partsL ps) (by (repeat' first | ((with_reducible apply eVar_ok) <;> rfl) | (with_reducible exact eC_ok) | (with_reducible exact aNil_ok) | (with_reducible exact bYes_ok) | (with_reducible exact h.h0) | (with_reducible apply aCons_ok) | (with_reducible apply eBin_ok) | (with_reducible apply bBin_ok) | (with_reducible apply eCb_ok) | (with_reducible apply eCall_ok) | (with_reducible apply eCallD_ok) | (with_reducible apply bVal_ok) | (with_reducible apply bNot_ok) | (with_reducible apply eTup_ok) | (with_reducible apply eLst_ok) | (with_reducible apply eFld_ok) | (with_reducible apply eMeth_ok) | (with_reducible apply eIx_loc) | (with_reducible apply pure1_ok) | (with_reducible apply bOr_ok) | (with_reducible apply bAnd_ok) | (with_reducible apply eDGet2_ok) | (with_reducible apply eDGet_ok) | (exact (rfl : (_ : Nat) = _)) | (exact (rfl : lookD _ _ = _)) | ((with_reducible show (List.length _) ≤ 1000); simp only [List.length_cons, List.length_nil]; decide) | (exact oIx_tup.trans atI_0) | (exact oIx_tup.trans atI_1) | (exact oIx_tup.trans atI_2) | (exact oIn_part) | (exact oIn_parts (.inl rfl)) | (exact oIn_parts (.inr rfl)) | (exact oNotIn_parts (.inl rfl)) | (exact oNotIn_parts (.inr rfl)) | (exact oNe_bl) | (exact oAdd_int) | (exact oSub_int) | (exact oLt_int) | (exact oGt_int) | (exact oLe_int) | (exact oGe_int) | (exact oEq_int) | (exact oNe_int) | (exact gLen_seq seqOf_tup) | (exact gLen_seq seqOf_lst) | ((with_reducible show _ = _); with_reducible assumption)))) True.intro rfl hl fun p _ => ⟨_, rfl, by (repeat' first | ((with_reducible apply eVar_ok) <;> rfl) | (with_reducible exact eC_ok) | (with_reducible exact aNil_ok) | (with_reducible exact bYes_ok) | (with_reducible exact h.h0) | (with_reducible exact is_open_spec h hp) | (with_reducible apply aCons_ok) | (with_reducible apply eBin_ok) | (with_reducible apply bBin_ok) | (with_reducible apply eCb_ok) | (with_reducible apply eCall_ok) | (with_reducible apply eCallD_ok) | (with_reducible apply bVal_ok) | (with_reducible apply bNot_ok) | (with_reducible apply eTup_ok) | (with_reducible apply eLst_ok) | (with_reducible apply eFld_ok) | (with_reducible apply eMeth_ok) | (with_reducible apply eIx_loc) | (with_reducible apply pure1_ok) | (with_reducible apply bOr_ok) | (with_reducible apply bAnd_ok) | (with_reducible apply eDGet2_ok) | (with_reducible apply eDGet_ok) | (exact (rfl : (_ : Nat) = _)) | (exact (rfl : lookD _ _ = _)) | ((with_reducible show (List.length _) ≤ 1000); simp only [List.length_cons, List.length_nil]; decide) | (exact oIx_tup.trans atI_0) | (exact oIx_tup.trans atI_1) | (exact oIx_tup.trans atI_2) | (exact oIn_part) | (exact oIn_parts (.inl rfl)) | (exact oIn_parts (.inr rfl)) | (exact oNotIn_parts (.inl rfl)) | (exact oNotIn_parts (.inr rfl)) | (exact oNe_bl) | (exact oAdd_int) | (exact oSub_int) | (exact oLt_int) | (exact oGt_int) | (exact oLe_int) | (exact oGe_int) | (exact oEq_int) | (exact oNe_int) | (exact gLen_seq seqOf_tup) | (exact gLen_seq seqOf_lst) | ((with_reducible show _ = _); with_reducible assumption)), fun _ => by (repeat' first | ((with_reducible apply eVar_ok) <;> rfl) | (with_reducible exact eC_ok) | (with_reducible exact aNil_ok) | (with_reducible exact bYes_ok) | (with_reducible apply aCons_ok) | (with_reducible apply eBin_ok) | (with_reducible apply bBin_ok) | (with_reducible apply eCb_ok) | (with_reducible apply eCall_ok) | (with_reducible apply eCallD_ok) | (with_reducible apply bVal_ok) | (with_reducible apply bNot_ok) | (with_reducible apply eTup_ok) | (with_reducible apply eLst_ok) | (with_reducible apply eFld_ok) | (with_reducible apply eMeth_ok) | (with_reducible apply eIx_loc) | (with_reducible apply pure1_ok) | (with_reducible apply bOr_ok) | (with_reducible apply bAnd_ok) | (with_reducible apply eDGet2_ok) | (with_reducible apply eDGet_ok) | (exact (rfl : (_ : Nat) = _)) | (exact (rfl : lookD _ _ = _)) | ((with_reducible show (List.length _) ≤ 1000); simp only [List.length_cons, List.length_nil]; decide) | (exact oIx_tup.trans atI_0) | (exact oIx_tup.trans atI_1) | (exact oIx_tup.trans atI_2) | (exact oIn_part) | (exact oIn_parts (.inl rfl)) | (exact oIn_parts (.inr rfl)) | (exact oNotIn_parts (.inl rfl)) | (exact oNotIn_parts (.inr rfl)) | (exact oNe_bl) | (exact oAdd_int) | (exact oSub_int) | (exact oLt_int) | (exact oGt_int) | (exact oLe_int) | (exact oGe_int) | (exact oEq_int) | (exact oNe_int) | (exact gLen_seq seqOf_tup) | (exact gLen_seq seqOf_lst) | ((with_reducible show _ = _); with_reducible assumption))⟩
  exact sRet_ok (eCb_ok (aCons_ok lc aNil_ok) (pure1_ok rfl))
def btwD (w : Way) (ps : List (List Nat)) : D := if (sidesF w ps).length = 2 then .lst (partsL (sidesF w ps)) else .non
theorem btw_okD (n : Nat) (w : Way) : okD n (btwD w ps) = true := by
  unfold btwD
  split
  · simp only [okD]; exact okDs_partsL _ _
  · rfl
theorem btw_non {S : Sto} {w : Way} : oNotN (btwD w ps) .non S = some (.bl (decide ((sidesP w ps).length = 2))) := by
  unfold btwD sidesP
  split
  · rename_i h; rw [decide_eq_true h]; rfl
  · rfl
theorem btw_two {w : Way} (h : (sidesP w ps).length = 2) : btwD w ps = .lst (partsL (sidesP w ps)) := by
  unfold sidesP at h ⊢
  unfold btwD
  split
  · rfl
  · rename_i h2; rw [if_neg h2] at h; cases h
theorem between_spec {i : Nat} (h : PgAt S b N prs tm ps) (hi : i < N.ways.length) (hl : ps.length ≤ 1000) : f_PairGrowth_between [.loc b, .int (i : Nat)] S = .ok (btwD (wayAt N i) ps) S := by
  refine runF_rt (S1 := S) (d := btwD (wayAt N i) ps) ?_ (gc_same (btw_okD _ _))
  show b_PairGrowth_between [some (.loc b), some (.int (i : Nat)), none, none, none, none, none] S = _
  unfold b_PairGrowth_between
  refine q_asg (d := wayD (wayAt N i)) (by (repeat' first | ((with_reducible apply eVar_ok) <;> rfl) | (with_reducible exact eC_ok) | (with_reducible exact aNil_ok) | (with_reducible exact bYes_ok) | (with_reducible exact h.h0) | (with_reducible exact way_get (ways_at hi)) | (with_reducible apply aCons_ok) | (with_reducible apply eBin_ok) | (with_reducible apply bBin_ok) | (with_reducible apply eCb_ok) | (with_reducible apply eCall_ok) | (with_reducible apply eCallD_ok) | (with_reducible apply bVal_ok) | (with_reducible apply bNot_ok) | (with_reducible apply eTup_ok) | (with_reducible apply eLst_ok) | (with_reducible apply eFld_ok) | (with_reducible apply eMeth_ok) | (with_reducible apply eIx_loc) | (with_reducible apply pure1_ok) | (with_reducible apply bOr_ok) | (with_reducible apply bAnd_ok) | (with_reducible apply eDGet2_ok) | (with_reducible apply eDGet_ok) | (exact (rfl : (_ : Nat) = _)) | (exact (rfl : lookD _ _ = _)) | ((with_reducible show (List.length _) ≤ 1000); simp only [List.length_cons, List.length_nil]; decide) | (exact oIx_tup.trans atI_0) | (exact oIx_tup.trans atI_1) | (exact oIx_tup.trans atI_2) | (exact oIn_part) | (exact oIn_parts (.inl rfl)) | (exact oIn_parts (.inr rfl)) | (exact oNotIn_parts (.inl rfl)) | (exact oNotIn_parts (.inr rfl)) | (exact oNe_bl) | (exact oAdd_int) | (exact oSub_int) | (exact oLt_int) | (exact oGt_int) | (exact oLe_int) | (exact oGe_int) | (exact oEq_int) | (exact oNe_int) | (exact gLen_seq seqOf_tup) | (exact gLen_seq seqOf_lst) | ((with_reducible show _ = _); with_reducible assumption))) way_asg ?_
  refine q_set (eLc_f (xs := ps) (F := partD) (c := fun p => inP (wayAt N i).a p || inP (wayAt N i).b p) (G := partD) (iSeqD_tup (ds := partsL ps) (by (repeat' first | ((with_reducible apply eVar_ok) <;> rfl) | (with_reducible exact eC_ok) | (with_reducible exact aNil_ok) | (with_reducible exact bYes_ok) | (with_reducible exact h.h0) | (with_reducible apply aCons_ok) | (with_reducible apply eBin_ok) | (with_reducible apply bBin_ok) | (with_reducible apply eCb_ok) | (with_reducible apply eCall_ok) | (with_reducible apply eCallD_ok) | (with_reducible apply bVal_ok) | (with_reducible apply bNot_ok) | (with_reducible apply eTup_ok) | (with_reducible apply eLst_ok) | (with_reducible apply eFld_ok) | (with_reducible apply eMeth_ok) | (with_reducible apply eIx_loc) | (with_reducible apply pure1_ok) | (with_reducible apply bOr_ok) | (with_reducible apply bAnd_ok) | (with_reducible apply eDGet2_ok) | (with_reducible apply eDGet_ok) | (exact (rfl : (_ : Nat) = _)) | (exact (rfl : lookD _ _ = _)) | ((with_reducible show (List.length _) ≤ 1000); simp only [List.length_cons, List.length_nil]; decide) | (exact oIx_tup.trans atI_0) | (exact oIx_tup.trans atI_1) | (exact oIx_tup.trans atI_2) | (exact oIn_part) | (exact oIn_parts (.inl rfl)) | (exact oIn_parts (.inr rfl)) | (exact oNotIn_parts (.inl rfl)) | (exact oNotIn_parts (.inr rfl)) | (exact oNe_bl) | (exact oAdd_int) | (exact oSub_int) | (exact oLt_int) | (exact oGt_int) | (exact oLe_int) | (exact oGe_int) | (exact oEq_int) | (exact oNe_int) | (exact gLen_seq seqOf_tup) | (exact gLen_seq seqOf_lst) | ((with_reducible show _ = _); with_reducible assumption)))) True.intro rfl hl fun p _ => ⟨_, rfl, by (repeat' first | ((with_reducible apply eVar_ok) <;> rfl) | (with_reducible exact eC_ok) | (with_reducible exact aNil_ok) | (with_reducible exact bYes_ok) | (with_reducible apply aCons_ok) | (with_reducible apply eBin_ok) | (with_reducible apply bBin_ok) | (with_reducible apply eCb_ok) | (with_reducible apply eCall_ok) | (with_reducible apply eCallD_ok) | (with_reducible apply bVal_ok) | (with_reducible apply bNot_ok) | (with_reducible apply eTup_ok) | (with_reducible apply eLst_ok) | (with_reducible apply eFld_ok) | (with_reducible apply eMeth_ok) | (with_reducible apply eIx_loc) | (with_reducible apply pure1_ok) | (with_reducible apply bOr_ok) | (with_reducible apply bAnd_ok) | (with_reducible apply eDGet2_ok) | (with_reducible apply eDGet_ok) | (exact (rfl : (_ : Nat) = _)) | (exact (rfl : lookD _ _ = _)) | ((with_reducible show (List.length _) ≤ 1000); simp only [List.length_cons, List.length_nil]; decide) | (exact oIx_tup.trans atI_0) | (exact oIx_tup.trans atI_1) | (exact oIx_tup.trans atI_2) | (exact oIn_part) | (exact oIn_parts (.inl rfl)) | (exact oIn_parts (.inr rfl)) | (exact oNotIn_parts (.inl rfl)) | (exact oNotIn_parts (.inr rfl)) | (exact oNe_bl) | (exact oAdd_int) | (exact oSub_int) | (exact oLt_int) | (exact oGt_int) | (exact oLe_int) | (exact oGe_int) | (exact oEq_int) | (exact oNe_int) | (exact gLen_seq seqOf_tup) | (exact gLen_seq seqOf_lst) | ((with_reducible show _ = _); with_reducible assumption)), fun _ => by (repeat' first | ((with_reducible apply eVar_ok) <;> rfl) | (with_reducible exact eC_ok) | (with_reducible exact aNil_ok) | (with_reducible exact bYes_ok) | (with_reducible apply aCons_ok) | (with_reducible apply eBin_ok) | (with_reducible apply bBin_ok) | (with_reducible apply eCb_ok) | (with_reducible apply eCall_ok) | (with_reducible apply eCallD_ok) | (with_reducible apply bVal_ok) | (with_reducible apply bNot_ok) | (with_reducible apply eTup_ok) | (with_reducible apply eLst_ok) | (with_reducible apply eFld_ok) | (with_reducible apply eMeth_ok) | (with_reducible apply eIx_loc) | (with_reducible apply pure1_ok) | (with_reducible apply bOr_ok) | (with_reducible apply bAnd_ok) | (with_reducible apply eDGet2_ok) | (with_reducible apply eDGet_ok) | (exact (rfl : (_ : Nat) = _)) | (exact (rfl : lookD _ _ = _)) | ((with_reducible show (List.length _) ≤ 1000); simp only [List.length_cons, List.length_nil]; decide) | (exact oIx_tup.trans atI_0) | (exact oIx_tup.trans atI_1) | (exact oIx_tup.trans atI_2) | (exact oIn_part) | (exact oIn_parts (.inl rfl)) | (exact oIn_parts (.inr rfl)) | (exact oNotIn_parts (.inl rfl)) | (exact oNotIn_parts (.inr rfl)) | (exact oNe_bl) | (exact oAdd_int) | (exact oSub_int) | (exact oLt_int) | (exact oGt_int) | (exact oLe_int) | (exact oGe_int) | (exact oEq_int) | (exact oNe_int) | (exact gLen_seq seqOf_tup) | (exact gLen_seq seqOf_lst) | ((with_reducible show _ = _); with_reducible assumption))⟩) ?_
  have t : bBin oEq (eCb (pure1 gLen) (aCons (eVar 5) aNil)) (eC (.int 2)) [some (.loc b), some (.int (i : Nat)), some (.int (wayAt N i).a), some (.int (wayAt N i).b), some (.int (wayAt N i).c), some (.lst (partsL (sidesF (wayAt N i) ps))), none] S = .ok (decide ((((partsL (sidesF (wayAt N i) ps)).length : Nat) : Int) = 2)) S := by (repeat' first | ((with_reducible apply eVar_ok) <;> rfl) | (with_reducible exact eC_ok) | (with_reducible exact aNil_ok) | (with_reducible exact bYes_ok) | (with_reducible apply aCons_ok) | (with_reducible apply eBin_ok) | (with_reducible apply bBin_ok) | (with_reducible apply eCb_ok) | (with_reducible apply eCall_ok) | (with_reducible apply eCallD_ok) | (with_reducible apply bVal_ok) | (with_reducible apply bNot_ok) | (with_reducible apply eTup_ok) | (with_reducible apply eLst_ok) | (with_reducible apply eFld_ok) | (with_reducible apply eMeth_ok) | (with_reducible apply eIx_loc) | (with_reducible apply pure1_ok) | (with_reducible apply bOr_ok) | (with_reducible apply bAnd_ok) | (with_reducible apply eDGet2_ok) | (with_reducible apply eDGet_ok) | (exact (rfl : (_ : Nat) = _)) | (exact (rfl : lookD _ _ = _)) | ((with_reducible show (List.length _) ≤ 1000); simp only [List.length_cons, List.length_nil]; decide) | (exact oIx_tup.trans atI_0) | (exact oIx_tup.trans atI_1) | (exact oIx_tup.trans atI_2) | (exact oIn_part) | (exact oIn_parts (.inl rfl)) | (exact oIn_parts (.inr rfl)) | (exact oNotIn_parts (.inl rfl)) | (exact oNotIn_parts (.inr rfl)) | (exact oNe_bl) | (exact oAdd_int) | (exact oSub_int) | (exact oLt_int) | (exact oGt_int) | (exact oLe_int) | (exact oGe_int) | (exact oEq_int) | (exact oNe_int) | (exact gLen_seq seqOf_tup) | (exact gLen_seq seqOf_lst) | ((with_reducible show _ = _); with_reducible assumption))
  refine sRet_ok ((eIf_ok t (eVar_ok rfl) eC_ok).trans ?_)
  congr 1
  unfold btwD
  rw [partsL_len]
  by_cases h : (sidesF (wayAt N i) ps).length = 2
  · rw [if_pos h, h]; rfl
  · rw [if_neg h, decide_eq_false (by omega)]; rfl
end
end Ev

namespace Ev
open PySem PySem.Spec PyProof.Rows L2
/-! ### rates, full_way, step -/
theorem enum_inv {α : Type} {F : α → D} {xs : List α} {j : Nat} {d : D} (h : (enumDs 0 (xs.map F))[j]? = some d) : ∃ x, xs[j]? = some x ∧ d = .tup [.int (j : Nat), F x] := by
  rw [enumDs_get, List.getElem?_map] at h
  cases e : xs[j]? with
  | none => rw [e] at h; cases h
  | some x =>
    rw [e] at h
    refine ⟨x, rfl, ?_⟩
    rw [← Option.some.inj h, Nat.zero_add]
theorem wayAt_get {N : Net} {j : Nat} {w : Way} (h : N.ways[j]? = some w) : wayAt N j = w ∧ j < N.ways.length := by
  have hj := (List.getElem?_eq_some_iff.mp h).1
  have := ways_at hj
  rw [h] at this
  exact ⟨(Option.some.inj this).symm, hj⟩
theorem gcL_app {S : Sto} {es : List D} (h : okDs S.length es = true) : gcL S (.loc S.length) (S ++ [.lst es]) = .ok (.lst es) S := by
  unfold gcL
  dsimp only
  rw [get_app]
  dsimp only
  rw [if_pos, List.take_left']
  · rfl
  · refine ⟨Nat.le_refl _, by simp, by simp only [okD]; exact h, fun i hi => .inl (List.getElem?_append_left hi)⟩
section
variable {S : Sto} {b : Nat} {N : Net} {prs : List (Nat × Nat)} {tm : D} {ps still : List (List Nat)}
theorem btw_or {ρ : En} {i : Nat} {e1 e2 : EF} (h : PgAt S b N prs tm ps) (hi : i < N.ways.length) (hl : ps.length ≤ 1000) (h1 : e1 ρ S = .ok (.loc b) S) (h2 : e2 ρ S = .ok (.int (i : Nat)) S) :
    eOrT (eMeth "PairGrowth" "between" 2 f_PairGrowth_between e1 (aCons e2 aNil)) (eLst aNil) ρ S = .ok (.lst (partsL (sidesP (wayAt N i) ps))) S := by
  have hb : eMeth "PairGrowth" "between" 2 f_PairGrowth_between e1 (aCons e2 aNil) ρ S = .ok (btwD (wayAt N i) ps) S := eMeth_ok h1 h.h0 rfl (aCons_ok h2 aNil_ok) rfl (between_spec h hi hl)
  by_cases h2 : (sidesP (wayAt N i) ps).length = 2
  · rw [← btw_two h2]
    refine eOrT_t hb ?_
    rw [btw_two h2]
    unfold truD
    cases hs : sidesP (wayAt N i) ps with
    | nil => rw [hs] at h2; cases h2
    | cons x l => rfl
  · have e : btwD (wayAt N i) ps = .non ∧ sidesP (wayAt N i) ps = [] := by
      unfold sidesP at h2 ⊢
      unfold btwD
      split
      · rename_i h3; rw [if_pos h3] at h2; exact absurd h3 h2
      · exact ⟨rfl, rfl⟩
    rw [e.1] at hb
    rw [e.2]
    exact (eOrT_f hb rfl).trans (eLst_ok aNil_ok (by decide))
def ratesL (N : Net) (ps still : List (List Nat)) : List Nat := N.ways.map fun w => rateW w ps still
theorem rates_spec (h : PgAt S b N prs tm ps) (hl : ps.length ≤ 1000) (hw : N.ways.length ≤ 900) : f_PairGrowth_rates [.loc b, .tup (partsL still)] S = .ok (.lst (natD (ratesL N ps still))) S := by
  have key : b_PairGrowth_rates [some (.loc b), some (.tup (partsL still)), none, none, none, none, none] S = .rt (.loc S.length) (S ++ [.lst (natD (ratesL N ps still))]) := by
    unfold b_PairGrowth_rates
    refine q_set eLstA_nil ?_
    refine q_for (items := enumDs 0 (N.ways.map wayD)) (fun j ρ S' => (∃ x3 x4 x5, ρ = [some (.loc b), some (.tup (partsL still)), some (.loc S.length), x3, x4, x5, none]) ∧ S' = S ++ [.lst (natD ((N.ways.take j).map fun w => rateW w ps still))])
      (iEnumD_tup (aCons_ok (eFld_ok (eVar_ok rfl) h.app.h0 rfl) aNil_ok)) ⟨⟨_, _, _, rfl⟩, rfl⟩ ?_ ?_
    · rintro j d ρ S' hd ⟨⟨x3, x4, x5, rfl⟩, rfl⟩
      obtain ⟨w, hw', rfl⟩ := enum_inv hd
      obtain ⟨ew, hj⟩ := wayAt_get hw'
      refine ⟨_, rfl, ?_⟩
      refine ⟨_, _, .inl (q_set (btw_or (i := j) h.app hj hl (eVar_ok rfl) (eVar_ok rfl)) ?_), ⟨some (.int (j : Nat)), some (wayD w), some (.lst (partsL (sidesP (wayAt N j) ps))), rfl⟩, rfl⟩
      simp only [List.set_cons_succ, List.set_cons_zero]
      have lc : ∀ T, eLc (iSeqD (eVar 5)) (.nm 6) (bBin oIn (eVar 6) (eVar 1)) (eVar 6) [6] [some (.loc b), some (.tup (partsL still)), some (.loc S.length), some (.int (j : Nat)), some (wayD w), some (.lst (partsL (sidesP (wayAt N j) ps))), none] T = .ok (.lst (partsL ((sidesP (wayAt N j) ps).filter fun p => decide (p ∈ still)))) T := fun T =>
        eLc_f (xs := sidesP (wayAt N j) ps) (F := partD) (c := fun p => decide (p ∈ still)) (G := partD) (iSeqD_lst (eVar_ok rfl)) True.intro rfl (Nat.le_trans (sidesP_len _ _) (by omega)) fun p _ => ⟨_, rfl, by (repeat' first | ((with_reducible apply eVar_ok) <;> rfl) | (with_reducible exact eC_ok) | (with_reducible exact aNil_ok) | (with_reducible exact bYes_ok) | (with_reducible apply aCons_ok) | (with_reducible apply eBin_ok) | (with_reducible apply bBin_ok) | (with_reducible apply eCb_ok) | (with_reducible apply eCall_ok) | (with_reducible apply eCallD_ok) | (with_reducible apply bVal_ok) | (with_reducible apply bNot_ok) | (with_reducible apply eTup_ok) | (with_reducible apply eLst_ok) | (with_reducible apply eFld_ok) | (with_reducible apply eMeth_ok) | (with_reducible apply eIx_loc) | (with_reducible apply pure1_ok) | (with_reducible apply bOr_ok) | (with_reducible apply bAnd_ok) | (with_reducible apply eDGet2_ok) | (with_reducible apply eDGet_ok) | (exact (rfl : (_ : Nat) = _)) | (exact (rfl : lookD _ _ = _)) | ((with_reducible show (List.length _) ≤ 1000); simp only [List.length_cons, List.length_nil]; decide) | (exact oIx_tup.trans atI_0) | (exact oIx_tup.trans atI_1) | (exact oIx_tup.trans atI_2) | (exact oIn_part) | (exact oIn_parts (.inl rfl)) | (exact oIn_parts (.inr rfl)) | (exact oNotIn_parts (.inl rfl)) | (exact oNotIn_parts (.inr rfl)) | (exact oNe_bl) | (exact oAdd_int) | (exact oSub_int) | (exact oLt_int) | (exact oGt_int) | (exact oLe_int) | (exact oGe_int) | (exact oEq_int) | (exact oNe_int) | (exact gLen_seq seqOf_tup) | (exact gLen_seq seqOf_lst) | ((with_reducible show _ = _); with_reducible assumption)), fun _ => by (repeat' first | ((with_reducible apply eVar_ok) <;> rfl) | (with_reducible exact eC_ok) | (with_reducible exact aNil_ok) | (with_reducible exact bYes_ok) | (with_reducible apply aCons_ok) | (with_reducible apply eBin_ok) | (with_reducible apply bBin_ok) | (with_reducible apply eCb_ok) | (with_reducible apply eCall_ok) | (with_reducible apply eCallD_ok) | (with_reducible apply bVal_ok) | (with_reducible apply bNot_ok) | (with_reducible apply eTup_ok) | (with_reducible apply eLst_ok) | (with_reducible apply eFld_ok) | (with_reducible apply eMeth_ok) | (with_reducible apply eIx_loc) | (with_reducible apply pure1_ok) | (with_reducible apply bOr_ok) | (with_reducible apply bAnd_ok) | (with_reducible apply eDGet2_ok) | (with_reducible apply eDGet_ok) | (exact (rfl : (_ : Nat) = _)) | (exact (rfl : lookD _ _ = _)) | ((with_reducible show (List.length _) ≤ 1000); simp only [List.length_cons, List.length_nil]; decide) | (exact oIx_tup.trans atI_0) | (exact oIx_tup.trans atI_1) | (exact oIx_tup.trans atI_2) | (exact oIn_part) | (exact oIn_parts (.inl rfl)) | (exact oIn_parts (.inr rfl)) | (exact oNotIn_parts (.inl rfl)) | (exact oNotIn_parts (.inr rfl)) | (exact oNe_bl) | (exact oAdd_int) | (exact oSub_int) | (exact oLt_int) | (exact oGt_int) | (exact oLe_int) | (exact oGe_int) | (exact oEq_int) | (exact oNe_int) | (exact gLen_seq seqOf_tup) | (exact gLen_seq seqOf_lst) | ((with_reducible show _ = _); with_reducible assumption))⟩
      refine (sExpr_ok (eApp_ok (n := S.length) (es := natD ((N.ways.take j).map fun w => rateW w ps still)) (d := .int (rateW w ps still : Nat)) (eVar_ok rfl) get_app ?_ get_app ?_)).trans ?_
      · refine aCons_ok (eCb_ok (aCons_ok (lc _) aNil_ok) (pure1_ok ?_)) aNil_ok
        rw [gLen_seq seqOf_lst, partsL_len, ew]
        rfl
      · rw [natD_len, List.length_map]
        have := List.length_take_le' j N.ways
        omega
      · rw [set_app, take_get hw', List.map_append, natD_app]
        rfl
    · rintro ρ' S' ⟨⟨x3, x4, x5, rfl⟩, rfl⟩
      rw [enumDs_len, List.length_map, List.take_length]
      exact sRet_ok (eVar_ok rfl)
  unfold f_PairGrowth_rates runL
  have key' : b_PairGrowth_rates ([D.loc b, .tup (partsL still)].map some ++ List.replicate (7 - [D.loc b, .tup (partsL still)].length) none) S = .rt (.loc S.length) (S ++ [.lst (natD (ratesL N ps still))]) := key
  rw [key']
  exact gcL_app (okDs_nat _ _)
/-- what the ways are filled with -/
structure FlAt (S : Sto) (b : Nat) (N : Net) (ws : Wid) (fl : List D) : Prop where
  h1 : S[b + 1]? = some (.lst fl)
  u : ∀ i, i < N.ways.length → ∃ x, fl[i]? = some x ∧ isU x (loadW (wayAt N i) ws)
theorem FlAt.app {ws : Wid} {fl : List D} {T : Sto} (h : FlAt S b N ws fl) : FlAt (S ++ T) b N ws fl := ⟨get_left h.h1, h.u⟩
theorem fl_ix {ws : Wid} {fl : List D} {i : Nat} {x : D} (h : FlAt S b N ws fl) (hx : fl[i]? = some x) : oIx (.loc (b + 1)) (.int (i : Nat)) S = some x := (oIx_loc h.h1).trans (atI_ok hx)
theorem full_way_spec {ws : Wid} {fl : List D} (h : PgAt S b N prs tm ps) (hf : FlAt S b N ws fl) (hl : ps.length ≤ 1000) (hw : N.ways.length ≤ 900) : f_PairGrowth_full_way [.loc b] S = .ok (optD (fullK N ps ws)) S := by
  have key := forGo_find (items := enumDs 0 (N.ways.map wayD)) (tg := .tp [(.nm 1), (.nm 2)]) (b := (sIf (bAnd (bBin oEq (eBin oIx (eFld "PairGrowth" (eVar 0) "filled") (eVar 1)) (eCallD 2 [1] f_ratio (aCons (eBin oIx (eVar 2) (eC (.int 2))) aNil))) (bBin oNotN (eMeth "PairGrowth" "between" 2 f_PairGrowth_between (eVar 0) (aCons (eVar 1) aNil)) (eC .non))) (sRet (eVar 1)) sNext))
    (c := fun j => fullB ps ws (wayAt N j)) (v := fun j => .int (j : Int)) (S := S) (fun ρ => ∃ x1 x2, ρ = [some (.loc b), x1, x2]) (ρ := [some (.loc b), none, none]) ⟨_, _, rfl⟩ (by
    rintro j e ρ he ⟨x1, x2, rfl⟩
    obtain ⟨w, hw', rfl⟩ := enum_inv he
    obtain ⟨ew, hj⟩ := wayAt_get hw'
    obtain ⟨x, hx, ux⟩ := hf.u j hj
    rw [ew] at ux
    have t : (bAnd (bBin oEq (eBin oIx (eFld "PairGrowth" (eVar 0) "filled") (eVar 1)) (eCallD 2 [1] f_ratio (aCons (eBin oIx (eVar 2) (eC (.int 2))) aNil))) (bBin oNotN (eMeth "PairGrowth" "between" 2 f_PairGrowth_between (eVar 0) (aCons (eVar 1) aNil)) (eC .non))) [some (.loc b), some (.int (j : Nat)), some (wayD w)] S = .ok (fullB ps ws (wayAt N j)) S := by
      have e1 : fullB ps ws (wayAt N j) = (decide (loadW w ws = w.c * two40) && decide ((sidesP w ps).length = 2)) := by
        unfold fullB
        rw [ew, lackW_two]
        congr 1
        exact decide_eq_decide.mpr (by omega)
      have r2 : f_ratio ([.int (w.c : Int)] ++ ([1] : List Int).map D.int) S = .ok (rD (w.c : Rat)) S := ratio_nat w.c
      have bs := between_spec h hj hl
      rw [ew] at bs
      have e2 := eq_u (S := S) ux (isU_nat w.c)
      have e3 := fl_ix hf hx
      rw [e1]
      exact bAnd_ok (by (repeat' first | ((with_reducible apply eVar_ok) <;> rfl) | (with_reducible exact eC_ok) | (with_reducible exact aNil_ok) | (with_reducible exact bYes_ok) | (with_reducible exact h.h0) | (with_reducible exact e3) | (with_reducible exact r2) | (with_reducible exact e2) | (with_reducible apply aCons_ok) | (with_reducible apply eBin_ok) | (with_reducible apply bBin_ok) | (with_reducible apply eCb_ok) | (with_reducible apply eCall_ok) | (with_reducible apply eCallD_ok) | (with_reducible apply bVal_ok) | (with_reducible apply bNot_ok) | (with_reducible apply eTup_ok) | (with_reducible apply eLst_ok) | (with_reducible apply eFld_ok) | (with_reducible apply eMeth_ok) | (with_reducible apply eIx_loc) | (with_reducible apply pure1_ok) | (with_reducible apply bOr_ok) | (with_reducible apply bAnd_ok) | (with_reducible apply eDGet2_ok) | (with_reducible apply eDGet_ok) | (exact (rfl : (_ : Nat) = _)) | (exact (rfl : lookD _ _ = _)) | ((with_reducible show (List.length _) ≤ 1000); simp only [List.length_cons, List.length_nil]; decide) | (exact oIx_tup.trans atI_0) | (exact oIx_tup.trans atI_1) | (exact oIx_tup.trans atI_2) | (exact oIn_part) | (exact oIn_parts (.inl rfl)) | (exact oIn_parts (.inr rfl)) | (exact oNotIn_parts (.inl rfl)) | (exact oNotIn_parts (.inr rfl)) | (exact oNe_bl) | (exact oAdd_int) | (exact oSub_int) | (exact oLt_int) | (exact oGt_int) | (exact oLe_int) | (exact oGe_int) | (exact oEq_int) | (exact oNe_int) | (exact gLen_seq seqOf_tup) | (exact gLen_seq seqOf_lst) | ((with_reducible show _ = _); with_reducible assumption))) fun _ => by (repeat' first | ((with_reducible apply eVar_ok) <;> rfl) | (with_reducible exact eC_ok) | (with_reducible exact aNil_ok) | (with_reducible exact bYes_ok) | (with_reducible exact h.h0) | (with_reducible exact bs) | (with_reducible exact btw_non) | (with_reducible apply aCons_ok) | (with_reducible apply eBin_ok) | (with_reducible apply bBin_ok) | (with_reducible apply eCb_ok) | (with_reducible apply eCall_ok) | (with_reducible apply eCallD_ok) | (with_reducible apply bVal_ok) | (with_reducible apply bNot_ok) | (with_reducible apply eTup_ok) | (with_reducible apply eLst_ok) | (with_reducible apply eFld_ok) | (with_reducible apply eMeth_ok) | (with_reducible apply eIx_loc) | (with_reducible apply pure1_ok) | (with_reducible apply bOr_ok) | (with_reducible apply bAnd_ok) | (with_reducible apply eDGet2_ok) | (with_reducible apply eDGet_ok) | (exact (rfl : (_ : Nat) = _)) | (exact (rfl : lookD _ _ = _)) | ((with_reducible show (List.length _) ≤ 1000); simp only [List.length_cons, List.length_nil]; decide) | (exact oIx_tup.trans atI_0) | (exact oIx_tup.trans atI_1) | (exact oIx_tup.trans atI_2) | (exact oIn_part) | (exact oIn_parts (.inl rfl)) | (exact oIn_parts (.inr rfl)) | (exact oNotIn_parts (.inl rfl)) | (exact oNotIn_parts (.inr rfl)) | (exact oNe_bl) | (exact oAdd_int) | (exact oSub_int) | (exact oLt_int) | (exact oGt_int) | (exact oLe_int) | (exact oGe_int) | (exact oEq_int) | (exact oNe_int) | (exact gLen_seq seqOf_tup) | (exact gLen_seq seqOf_lst) | ((with_reducible show _ = _); with_reducible assumption))
    exact ⟨_, rfl, ⟨_, _, rfl⟩, fun h => sIf_fn (t.trans (by rw [h])), fun h => (sIf_t (t.trans (by rw [h]))).trans (sRet_ok (eVar_ok rfl))⟩)
  have it : iEnumD (aCons (eFld "PairGrowth" (eVar 0) "ways") aNil) [some (.loc b), none, none] S = .ok ⟨enumDs 0 (N.ways.map wayD), none⟩ S := iEnumD_tup (aCons_ok (eFld_ok (eVar_ok rfl) h.h0 rfl) aNil_ok)
  rw [enumDs_len, List.length_map] at key
  unfold f_PairGrowth_full_way
  rcases key with ⟨ρ', ⟨x1, x2, rfl⟩, h1, h2⟩ | ⟨j, hj, h1, h2, h3⟩
  · have e : fullK N ps ws = none := by
      unfold fullK
      rw [List.findIdx?_eq_none_iff]
      intro w hw'
      obtain ⟨i, hi, e⟩ := wayAt_mem hw'
      rw [← e]
      exact h2 i hi
    rw [e]
    refine runF_rt (S1 := S) (d := .non) ?_ (gc_same rfl)
    exact sSeq_nxo (sFor_ok it h1) (sRet_ok eC_ok)
  · have wa : ∀ j (h : j < N.ways.length), N.ways[j] = wayAt N j := fun j h => by
      have := ways_at h
      rw [List.getElem?_eq_getElem h] at this
      exact Option.some.inj this
    have e : fullK N ps ws = some j := by
      unfold fullK
      rw [List.findIdx?_eq_some_iff_getElem]
      refine ⟨hj, by rw [wa j hj]; exact h1, fun i hi => ?_⟩
      rw [wa i (by omega), h2 i hi]
      decide
    rw [e]
    refine runF_rt (S1 := S) (d := .int (j : Int)) ?_ (gc_same rfl)
    exact sSeq_rt (sFor_ok it h3)
end
end Ev

namespace Ev
open PySem PySem.Spec PyProof.Rows L2
/-! ### step -/
theorem iEnumD_lst {fa : AF} {ρ : En} {S S1 : Sto} {ds : List D} (h : fa ρ S = .ok [.lst ds] S1) : iEnumD fa ρ S = .ok ⟨enumDs 0 ds, none⟩ S1 := by
  unfold iEnumD
  rw [h]
  rfl
def leftU (ps still : List (List Nat)) (ws : Wid) (w : Way) : Nat := (w.c * two40 - loadW w ws) / rateW w ps still
def leftL (ps still : List (List Nat)) (ws : Wid) (l : List Way) : List Nat := (l.filter fun w => decide (0 < rateW w ps still)).map (leftU ps still ws)
def minU (b : Nat) (l : List Nat) : Nat := l.foldl (fun b x => if x < b then x else b) b
theorem minU_spec : ∀ (l : List Nat) (b : Nat), (minU b l = b ∨ minU b l ∈ l) ∧ minU b l ≤ b ∧ ∀ x ∈ l, minU b l ≤ x
  | [], b => ⟨.inl rfl, Nat.le_refl _, fun x h => by cases h⟩
  | x :: l, b => by
    unfold minU
    rw [List.foldl_cons]
    obtain ⟨h1, h2, h3⟩ := minU_spec l (if x < b then x else b)
    unfold minU at h1 h2 h3
    refine ⟨?_, ?_, fun y hy => ?_⟩
    · rcases h1 with h1 | h1
      · rw [h1]
        split
        · exact .inr List.mem_cons_self
        · exact .inl rfl
      · exact .inr (List.mem_cons_of_mem _ h1)
    · refine Nat.le_trans h2 ?_
      split <;> omega
    · rcases List.mem_cons.mp hy with rfl | hy
      · refine Nat.le_trans h2 ?_
        split <;> omega
      · exact h3 y hy
theorem ratesL_get {N : Net} {ps still : List (List Nat)} {j : Nat} {d : D} (h : (enumDs 0 (natD (ratesL N ps still)))[j]? = some d) : ∃ w, N.ways[j]? = some w ∧ d = .tup [.int (j : Nat), .int (rateW w ps still : Nat)] := by
  unfold natD at h
  obtain ⟨r, hr, rfl⟩ := enum_inv h
  unfold ratesL at hr
  rw [List.getElem?_map, Option.map_eq_some_iff] at hr
  obtain ⟨w, hw, rfl⟩ := hr
  exact ⟨w, hw, rfl⟩
section
variable {S : Sto} {b : Nat} {N : Net} {prs : List (Nat × Nat)} {tm : D} {ps still : List (List Nat)} {ws : Wid} {fl : List D}
/-- the first minimum of a list of ratios in the store -/
theorem min_loop {L : List Nat} {b0 : Nat} {x0 x1 x2 x3 x4 x5 x7 : Option D} {n : Nat} {g : SF} {o : O} (hg : ∀ x ∈ L, gr ∣ x) (hb : gr ∣ b0) (hS : S[n]? = some (.lst (L.map exD))) (x2e : x2 = some (.loc n))
    (k : ∀ x7, g [x0, x1, x2, x3, x4, x5, some (exD (minU b0 L)), x7] S = o) : sSeq (sFor (iSeqD (eVar 2)) (.nm 7) (sIf (bVal (eCall 2 f_less (aCons (eVar 7) (aCons (eVar 6) aNil)))) (sSet 6 (eVar 7)) sNext)) g [x0, x1, x2, x3, x4, x5, some (exD b0), x7] S = o := by
  subst x2e
  refine q_forL (w := ⟨L.map exD, some (n, .lst (L.map exD))⟩) (fun j ρ S' => S' = S ∧ ∃ x7, ρ = [x0, x1, some (.loc n), x3, x4, x5, some (exD (minU b0 (L.take j))), x7]) (iSeqD_loc (eVar_ok rfl) hS) (fun i ρ S' h => by rw [h.1]; exact hS) ⟨rfl, x7, rfl⟩ ?_ ?_
  · rintro j d ρ S' hd ⟨rfl, x7, rfl⟩
    dsimp only at hd
    rw [List.getElem?_map, Option.map_eq_some_iff] at hd
    obtain ⟨u, hu, rfl⟩ := hd
    have um := List.mem_of_getElem? hu
    have gm : gr ∣ minU b0 (L.take j) := by
      rcases (minU_spec (L.take j) b0).1 with e | e
      · rw [e]; exact hb
      · exact hg _ (List.mem_of_mem_take e)
    have em : minU b0 (L.take (j + 1)) = if u < minU b0 (L.take j) then u else minU b0 (L.take j) := by
      rw [take_get hu]
      unfold minU
      rw [List.foldl_append]
      rfl
    have ls := less_u (S := S') (isU_ex (hg u um)) (isU_ex gm)
    refine ⟨_, rfl, [x0, x1, some (.loc n), x3, x4, x5, some (exD (minU b0 (L.take (j + 1)))), some (exD u)], S', .inl ?_, rfl, _, rfl⟩
    refine sIf_b (q := decide (u < minU b0 (L.take j))) (by (repeat' first | ((with_reducible apply eVar_ok) <;> rfl) | (with_reducible exact eC_ok) | (with_reducible exact aNil_ok) | (with_reducible exact bYes_ok) | (with_reducible exact ls) | (with_reducible apply aCons_ok) | (with_reducible apply eBin_ok) | (with_reducible apply bBin_ok) | (with_reducible apply eCb_ok) | (with_reducible apply eCall_ok) | (with_reducible apply eCallD_ok) | (with_reducible apply bVal_ok) | (with_reducible apply bNot_ok) | (with_reducible apply eTup_ok) | (with_reducible apply eLst_ok) | (with_reducible apply eFld_ok) | (with_reducible apply eMeth_ok) | (with_reducible apply eIx_loc) | (with_reducible apply pure1_ok) | (with_reducible apply bOr_ok) | (with_reducible apply bAnd_ok) | (with_reducible apply eDGet2_ok) | (with_reducible apply eDGet_ok) | (exact (rfl : (_ : Nat) = _)) | (exact (rfl : lookD _ _ = _)) | ((with_reducible show (List.length _) ≤ 1000); simp only [List.length_cons, List.length_nil]; decide) | (exact oIx_tup.trans atI_0) | (exact oIx_tup.trans atI_1) | (exact oIx_tup.trans atI_2) | (exact oIn_part) | (exact oIn_parts (.inl rfl)) | (exact oIn_parts (.inr rfl)) | (exact oNotIn_parts (.inl rfl)) | (exact oNotIn_parts (.inr rfl)) | (exact oNe_bl) | (exact oAdd_int) | (exact oSub_int) | (exact oLt_int) | (exact oGt_int) | (exact oLe_int) | (exact oGe_int) | (exact oEq_int) | (exact oNe_int) | (exact gLen_seq seqOf_tup) | (exact gLen_seq seqOf_lst) | ((with_reducible show _ = _); with_reducible assumption))) (fun h => ?_) fun h => ?_
    · rw [em, if_pos (of_decide_eq_true h)]
      exact sSet_ok (eVar_ok rfl)
    · rw [em, if_neg (of_decide_eq_false h)]
      rfl
  · rintro ρ' S' ⟨rfl, x7, rfl⟩
    dsimp only
    rw [List.length_map, List.take_length]
    exact k x7
theorem waits_spec {d : D} : f_PairGrowth_waits [.loc b, d] S = .ok (.loc S.length) (S ++ [.lst []]) := by
  refine runF_rt (S1 := S ++ [.lst []]) (d := .loc S.length) ?_ (gc_no (by simp [okD]))
  exact sRet_ok eLstA_nil
theorem step_spec (h : PgAt S b N prs tm ps) (hf : FlAt S b N ws fl) (hl : ps.length ≤ 900) (hw : N.ways.length ≤ 900) (ld : ∀ w ∈ N.ways, loadW w ws ≤ w.c * two40)
    (hd : ∀ w ∈ N.ways, 0 < rateW w ps still → rateW w ps still ∣ w.c * two40 - loadW w ws ∧ gr ∣ leftU ps still ws w) (hne : ∃ w ∈ N.ways, 0 < rateW w ps still) :
    ∃ s, f_PairGrowth_step [.loc b, .tup (partsL still)] S = .ok (exD s) S ∧ s ∈ leftL ps still ws N.ways ∧ ∀ x ∈ leftL ps still ws N.ways, s ≤ x := by
  obtain ⟨L, hL⟩ : ∃ L, L = leftL ps still ws N.ways := ⟨_, rfl⟩
  have hg : ∀ x ∈ L, gr ∣ x := fun x hx => by
    rw [hL] at hx
    obtain ⟨w, hm, rfl⟩ := List.mem_map.mp hx
    obtain ⟨h1, h2⟩ := List.mem_filter.mp hm
    exact (hd w h1 (of_decide_eq_true h2)).2
  have hLl : L.length ≤ N.ways.length := by
    rw [hL]
    unfold leftL
    rw [List.length_map]
    exact List.length_filter_le _ _
  obtain ⟨x0, l0, hx0⟩ : ∃ x l, L = x :: l := by
    obtain ⟨w, hm, hr⟩ := hne
    have : leftU ps still ws w ∈ L := by
      rw [hL]
      exact List.mem_map.mpr ⟨w, List.mem_filter.mpr ⟨hm, decide_eq_true hr⟩, rfl⟩
    cases L with
    | nil => cases this
    | cons x l => exact ⟨x, l, rfl⟩
  have h0 : gr ∣ x0 := hg x0 (by rw [hx0]; exact List.mem_cons_self)
  refine ⟨minU x0 L, ?_, ?_⟩
  · have hS0 : ∀ l : List D, (S ++ [Cel.lst l])[S.length]? = some (.lst l) := fun l => get_app
    have key : b_PairGrowth_step [some (.loc b), some (.tup (partsL still)), none, none, none, none, none, none] S = .rt (exD (minU x0 L)) (S ++ [.lst (L.map exD)]) := by
      unfold b_PairGrowth_step
      refine q_set (d := .loc S.length) (S1 := S ++ [.lst []]) (by (repeat' first | ((with_reducible apply eVar_ok) <;> rfl) | (with_reducible exact eC_ok) | (with_reducible exact aNil_ok) | (with_reducible exact bYes_ok) | (with_reducible exact h.h0) | (with_reducible exact waits_spec) | (with_reducible apply aCons_ok) | (with_reducible apply eBin_ok) | (with_reducible apply bBin_ok) | (with_reducible apply eCb_ok) | (with_reducible apply eCall_ok) | (with_reducible apply eCallD_ok) | (with_reducible apply bVal_ok) | (with_reducible apply bNot_ok) | (with_reducible apply eTup_ok) | (with_reducible apply eLst_ok) | (with_reducible apply eFld_ok) | (with_reducible apply eMeth_ok) | (with_reducible apply eIx_loc) | (with_reducible apply pure1_ok) | (with_reducible apply bOr_ok) | (with_reducible apply bAnd_ok) | (with_reducible apply eDGet2_ok) | (with_reducible apply eDGet_ok) | (exact (rfl : (_ : Nat) = _)) | (exact (rfl : lookD _ _ = _)) | ((with_reducible show (List.length _) ≤ 1000); simp only [List.length_cons, List.length_nil]; decide) | (exact oIx_tup.trans atI_0) | (exact oIx_tup.trans atI_1) | (exact oIx_tup.trans atI_2) | (exact oIn_part) | (exact oIn_parts (.inl rfl)) | (exact oIn_parts (.inr rfl)) | (exact oNotIn_parts (.inl rfl)) | (exact oNotIn_parts (.inr rfl)) | (exact oNe_bl) | (exact oAdd_int) | (exact oSub_int) | (exact oLt_int) | (exact oGt_int) | (exact oLe_int) | (exact oGe_int) | (exact oEq_int) | (exact oNe_int) | (exact gLen_seq seqOf_tup) | (exact gLen_seq seqOf_lst) | ((with_reducible show _ = _); with_reducible assumption))) ?_
      have it : iEnumD (aCons (eMeth "PairGrowth" "rates" 2 f_PairGrowth_rates (eVar 0) (aCons (eVar 1) aNil)) aNil) [some (.loc b), some (.tup (partsL still)), some (.loc S.length), none, none, none, none, none] (S ++ [.lst []]) = .ok ⟨enumDs 0 (natD (ratesL N ps still)), none⟩ (S ++ [.lst []]) :=
        iEnumD_lst (aCons_ok (eMeth_ok (eVar_ok rfl) h.app.h0 rfl (aCons_ok (eVar_ok rfl) aNil_ok) rfl (rates_spec h.app (by omega) hw)) aNil_ok)
      refine q_for (items := enumDs 0 (natD (ratesL N ps still))) (fun j ρ S' => (∃ x3 x4 x5, ρ = [some (.loc b), some (.tup (partsL still)), some (.loc S.length), x3, x4, x5, none, none]) ∧ S' = S ++ [.lst ((leftL ps still ws (N.ways.take j)).map exD)]) it ⟨⟨_, _, _, rfl⟩, rfl⟩ ?_ ?_
      · rintro j d ρ S' hd' ⟨⟨x3, x4, x5, rfl⟩, rfl⟩
        obtain ⟨w, hw', rfl⟩ := ratesL_get hd'
        obtain ⟨ew, hj⟩ := wayAt_get hw'
        have hm := List.mem_of_getElem? hw'
        obtain ⟨x, hx, ux⟩ := hf.u j hj
        rw [ew] at ux
        have el : leftL ps still ws (N.ways.take (j + 1)) = if 0 < rateW w ps still then leftL ps still ws (N.ways.take j) ++ [leftU ps still ws w] else leftL ps still ws (N.ways.take j) := by
          rw [take_get hw']
          unfold leftL
          rw [List.filter_append, List.map_append, List.filter_cons]
          split
          · rename_i h1; rw [if_pos (of_decide_eq_true h1)]; rfl
          · rename_i h1; rw [if_neg (by simpa using h1)]; simp
        refine ⟨_, rfl, ?_⟩
        by_cases hr : 0 < rateW w ps still
        · obtain ⟨hd1, hd2⟩ := hd w hm hr
          have rl := rate_le w ps still
          rw [el, if_pos hr]
          refine ⟨[some (.loc b), some (.tup (partsL still)), some (.loc S.length), some (.int (j : Nat)), some (.int (rateW w ps still : Nat)), some (exD (w.c * two40 - loadW w ws)), none, none], _, .inl ((sIf_t (S1 := S ++ [.lst ((leftL ps still ws (N.ways.take j)).map exD)]) ((bBin_ok (eVar_ok rfl) eC_ok oGt_len).trans (by rw [decide_eq_true hr]))).trans ?_), ⟨_, _, _, rfl⟩, rfl⟩
          have r2 : ∀ T, f_ratio ([.int (w.c : Int)] ++ ([1] : List Int).map D.int) T = .ok (rD (w.c : Rat)) T := fun T => ratio_nat w.c
          have r3 : ∀ T, f_ratio ([.int (rateW w ps still : Int)] ++ ([1] : List Int).map D.int) T = .ok (rD (rateW w ps still : Rat)) T := fun T => ratio_nat _
          have m1 : ∀ T, f_minus [rD (w.c : Rat), x] T = .ok (exD (w.c * two40 - loadW w ws)) T := fun T => minus_u (isU_nat w.c) ux (ld w hm)
          have ge : gr ∣ w.c * two40 - loadW w ws := Nat.dvd_sub (isU_nat w.c).2 ux.2
          have m2 : ∀ T, f_over [exD (w.c * two40 - loadW w ws), rD (rateW w ps still : Rat)] T = .ok (exD (leftU ps still ws w)) T := fun T => over_u (isU_ex ge) (isR_nat _) hr (by omega) hd1
          have e3 : ∀ l, oIx (.loc (b + 1)) (.int (j : Nat)) (S ++ [.lst l]) = some x := fun l => fl_ix hf.app hx
          refine q_set (d := exD (w.c * two40 - loadW w ws)) (by (repeat' first | ((with_reducible apply eVar_ok) <;> rfl) | (with_reducible exact eC_ok) | (with_reducible exact aNil_ok) | (with_reducible exact bYes_ok) | (with_reducible exact h.app.h0) | (with_reducible exact e3 _) | (with_reducible exact r2 _) | (with_reducible exact m1 _) | (with_reducible exact way_get hw') | (with_reducible apply aCons_ok) | (with_reducible apply eBin_ok) | (with_reducible apply bBin_ok) | (with_reducible apply eCb_ok) | (with_reducible apply eCall_ok) | (with_reducible apply eCallD_ok) | (with_reducible apply bVal_ok) | (with_reducible apply bNot_ok) | (with_reducible apply eTup_ok) | (with_reducible apply eLst_ok) | (with_reducible apply eFld_ok) | (with_reducible apply eMeth_ok) | (with_reducible apply eIx_loc) | (with_reducible apply pure1_ok) | (with_reducible apply bOr_ok) | (with_reducible apply bAnd_ok) | (with_reducible apply eDGet2_ok) | (with_reducible apply eDGet_ok) | (exact (rfl : (_ : Nat) = _)) | (exact (rfl : lookD _ _ = _)) | ((with_reducible show (List.length _) ≤ 1000); simp only [List.length_cons, List.length_nil]; decide) | (exact oIx_tup.trans atI_0) | (exact oIx_tup.trans atI_1) | (exact oIx_tup.trans atI_2) | (exact oIn_part) | (exact oIn_parts (.inl rfl)) | (exact oIn_parts (.inr rfl)) | (exact oNotIn_parts (.inl rfl)) | (exact oNotIn_parts (.inr rfl)) | (exact oNe_bl) | (exact oAdd_int) | (exact oSub_int) | (exact oLt_int) | (exact oGt_int) | (exact oLe_int) | (exact oGe_int) | (exact oEq_int) | (exact oNe_int) | (exact gLen_seq seqOf_tup) | (exact gLen_seq seqOf_lst) | ((with_reducible show _ = _); with_reducible assumption))) ?_
          refine (sExpr_ok (eApp_ok (n := S.length) (d := exD (leftU ps still ws w)) (eVar_ok rfl) get_app (by (repeat' first | ((with_reducible apply eVar_ok) <;> rfl) | (with_reducible exact eC_ok) | (with_reducible exact aNil_ok) | (with_reducible exact bYes_ok) | (with_reducible exact r3 _) | (with_reducible exact m2 _) | (with_reducible apply aCons_ok) | (with_reducible apply eBin_ok) | (with_reducible apply bBin_ok) | (with_reducible apply eCb_ok) | (with_reducible apply eCall_ok) | (with_reducible apply eCallD_ok) | (with_reducible apply bVal_ok) | (with_reducible apply bNot_ok) | (with_reducible apply eTup_ok) | (with_reducible apply eLst_ok) | (with_reducible apply eFld_ok) | (with_reducible apply eMeth_ok) | (with_reducible apply eIx_loc) | (with_reducible apply pure1_ok) | (with_reducible apply bOr_ok) | (with_reducible apply bAnd_ok) | (with_reducible apply eDGet2_ok) | (with_reducible apply eDGet_ok) | (exact (rfl : (_ : Nat) = _)) | (exact (rfl : lookD _ _ = _)) | ((with_reducible show (List.length _) ≤ 1000); simp only [List.length_cons, List.length_nil]; decide) | (exact oIx_tup.trans atI_0) | (exact oIx_tup.trans atI_1) | (exact oIx_tup.trans atI_2) | (exact oIn_part) | (exact oIn_parts (.inl rfl)) | (exact oIn_parts (.inr rfl)) | (exact oNotIn_parts (.inl rfl)) | (exact oNotIn_parts (.inr rfl)) | (exact oNe_bl) | (exact oAdd_int) | (exact oSub_int) | (exact oLt_int) | (exact oGt_int) | (exact oLe_int) | (exact oGe_int) | (exact oEq_int) | (exact oNe_int) | (exact gLen_seq seqOf_tup) | (exact gLen_seq seqOf_lst) | ((with_reducible show _ = _); with_reducible assumption))) get_app ?_)).trans ?_
          · rw [List.length_map]
            unfold leftL
            rw [List.length_map]
            have h1 := List.length_filter_le (fun w => decide (0 < rateW w ps still)) (N.ways.take j)
            have h2 := List.length_take_le' j N.ways
            omega
          · rw [set_app, map_snoc]
            rfl
        · rw [el, if_neg hr]
          refine ⟨[some (.loc b), some (.tup (partsL still)), some (.loc S.length), some (.int (j : Nat)), some (.int (rateW w ps still : Nat)), x5, none, none], _, .inl (sIf_fn ((bBin_ok (eVar_ok rfl) eC_ok oGt_len).trans (by rw [decide_eq_false hr]))), ⟨_, _, _, rfl⟩, rfl⟩
      · rintro ρ' S' ⟨⟨x3, x4, x5, rfl⟩, rfl⟩
        rw [enumDs_len, natD_len]
        unfold ratesL
        rw [List.length_map, List.take_length, ← hL]
        refine q_set (d := exD x0) (eBin_ok (eVar_ok rfl) eC_ok ((oIx_loc get_app).trans ?_)) ?_
        · rw [hx0]; exact atI_0
        · exact min_loop hg h0 get_app rfl fun x7 => sRet_ok (eVar_ok rfl)
    exact runF_rt (S1 := S ++ [Cel.lst (L.map exD)]) (d := exD (minU x0 L)) key (gc_app (T := [Cel.lst (L.map exD)]) (okD_rD _ _))
  · rw [← hL]
    obtain ⟨h1, h2, h3⟩ := minU_spec L x0
    refine ⟨?_, h3⟩
    rcases h1 with e | e
    · rw [e, hx0]; exact List.mem_cons_self
    · exact e
end
end Ev

namespace Ev
open PySem PySem.Spec PyProof.Rows L2
/-! ### the growth's methods that change it -/
def pgL (b : Nat) (N : Net) (prs : List (Nat × Nat)) (tm : D) (ps : List (List Nat)) (fl : List D) (ws : Wid) (tk : List (Nat × Nat)) (rw : List D) : Sto :=
  [.ins "PairGrowth" (pgF N prs b tm ps), .lst fl, .dT (dictL exD ws), .lst (tk.map tkD), .lst rw]
def pgS (S0 : Sto) (N : Net) (prs : List (Nat × Nat)) (tm : D) (ps : List (List Nat)) (fl : List D) (ws : Wid) (tk : List (Nat × Nat)) (rw : List D) : Sto := S0 ++ pgL S0.length N prs tm ps fl ws tk rw
theorem isU.okD {x : D} {u : Nat} (h : isU x u) (n : Nat) : okD n x = true := by
  rcases h.1 with rfl | rfl
  · exact okD_rD _ _
  · simp only [Ev.okD, okDs, Bool.and_self]
theorem okDs_of {n : Nat} : ∀ {l : List D}, (∀ x ∈ l, okD n x = true) → okDs n l = true
  | [], _ => rfl
  | x :: l, h => by
    unfold okDs
    rw [h x List.mem_cons_self, okDs_of fun y hy => h y (List.mem_cons_of_mem _ hy)]
    rfl
theorem okD_way (n : Nat) (w : Way) : okD n (wayD w) = true := rfl
theorem okD_ways (n : Nat) (l : List Way) : okDs n (l.map wayD) = true := okDs_of fun x hx => by
  obtain ⟨w, _, rfl⟩ := List.mem_map.mp hx
  rfl
theorem okC_pg {b n : Nat} {N : Net} {prs : List (Nat × Nat)} {tm : D} {ps : List (List Nat)} {fl : List D} {ws : Wid} {tk : List (Nat × Nat)} {rw : List D} (hn : b + 5 ≤ n) (ht : okD n tm = true) (hf : okDs n fl = true) (hr : okDs n rw = true) :
    ∀ c ∈ pgL b N prs tm ps fl ws tk rw, okC n c = true := by
  intro c hc
  unfold pgL at hc
  simp only [List.mem_cons, List.not_mem_nil, or_false] at hc
  rcases hc with rfl | rfl | rfl | rfl | rfl
  · unfold okC pgF
    simp only [List.map_cons, List.map_nil, okDs, okD, ht, Bool.true_and, Bool.and_true, netD, okD_ways, okDs_partsL, pairsD, okDs_pairs]
    simp only [Bool.and_eq_true, decide_eq_true_iff]
    omega
  · exact hf
  · show okDs n ((dictL exD ws).map (·.2)) = true
    unfold dictL
    rw [List.map_map]
    refine okDs_of fun x hx => ?_
    obtain ⟨e, _, rfl⟩ := List.mem_map.mp hx
    exact okD_rD _ _
  · exact okDs_tk _ _
  · exact hr
theorem gc_two {S0 l l' : Sto} {d : D} (hl : l'.length = l.length) (h : okD (S0 ++ l).length d = true) (hc : ∀ c ∈ l', okC (S0 ++ l).length c = true) : gc (S0 ++ l) d (S0 ++ l') = .ok d (S0 ++ l') := by
  refine gc_len (by simp [hl]) h fun i hi => ?_
  by_cases h1 : i < S0.length
  · left
    rw [List.getElem?_append_left h1, List.getElem?_append_left h1]
  · right
    have h2 : i - S0.length < l'.length := by
      rw [List.length_append] at hi
      omega
    refine ⟨l'[i - S0.length], ?_, hc _ (List.getElem_mem h2)⟩
    rw [List.getElem?_append_right (Nat.le_of_not_lt h1)]
    exact List.getElem?_eq_getElem h2
section
variable {S0 : Sto} {N : Net} {prs : List (Nat × Nat)} {tm : D} {ps still : List (List Nat)} {fl : List D} {ws : Wid} {tk : List (Nat × Nat)} {rw : List D}
theorem pgS_len : (pgS S0 N prs tm ps fl ws tk rw).length = S0.length + 5 := List.length_append
theorem pg0 : PgAt (pgS S0 N prs tm ps fl ws tk rw) S0.length N prs tm ps := ⟨app_get0⟩
theorem pg1 : (pgS S0 N prs tm ps fl ws tk rw)[S0.length + 1]? = some (.lst fl) := app_get
theorem pg2 : (pgS S0 N prs tm ps fl ws tk rw)[S0.length + 2]? = some (.dT (dictL exD ws)) := app_get
theorem pg3 : (pgS S0 N prs tm ps fl ws tk rw)[S0.length + 3]? = some (.lst (tk.map tkD)) := app_get
theorem pg4 : (pgS S0 N prs tm ps fl ws tk rw)[S0.length + 4]? = some (.lst rw) := app_get
theorem pg_set1 {fl' : List D} : (pgS S0 N prs tm ps fl ws tk rw).set (S0.length + 1) (.lst fl') = pgS S0 N prs tm ps fl' ws tk rw := app_set
theorem pg_set2 {ws' : Wid} : (pgS S0 N prs tm ps fl ws tk rw).set (S0.length + 2) (.dT (dictL exD ws')) = pgS S0 N prs tm ps fl ws' tk rw := app_set
theorem pg_set3 {tk' : List (Nat × Nat)} : (pgS S0 N prs tm ps fl ws tk rw).set (S0.length + 3) (.lst (tk'.map tkD)) = pgS S0 N prs tm ps fl ws tk' rw := app_set
theorem pg_set4 {rw' : List D} : (pgS S0 N prs tm ps fl ws tk rw).set (S0.length + 4) (.lst rw') = pgS S0 N prs tm ps fl ws tk rw' := app_set
theorem pg_time {tm' : D} : (pgS S0 N prs tm ps fl ws tk rw).set S0.length (.ins "PairGrowth" (putD "time" tm' (pgF N prs S0.length tm ps))) = pgS S0 N prs tm' ps fl ws tk rw := app_set0
theorem pg_parts {ps' : List (List Nat)} : (pgS S0 N prs tm ps fl ws tk rw).set S0.length (.ins "PairGrowth" (putD "parts" (.tup (partsL ps')) (pgF N prs S0.length tm ps))) = pgS S0 N prs tm ps' fl ws tk rw := app_set0
/-- what the ways are filled with, in units -/
structure FlU (N : Net) (fl : List D) (f : Nat → Nat) : Prop where
  len : fl.length = N.ways.length
  u : ∀ i, i < N.ways.length → ∃ x, fl[i]? = some x ∧ isU x (f i)
theorem FlU.okD {f : Nat → Nat} (h : FlU N fl f) (n : Nat) : okDs n fl = true := okDs_of fun x hx => by
  obtain ⟨i, hi, rfl⟩ := List.getElem_of_mem hx
  obtain ⟨y, e, u⟩ := h.u i (by rw [← h.len]; exact hi)
  rw [List.getElem?_eq_getElem hi] at e
  cases e
  exact u.okD n
theorem FlU.at (h : FlU N fl fun i => loadW (wayAt N i) ws) : FlAt (pgS S0 N prs tm ps fl ws tk rw) S0.length N ws fl := ⟨pg1, h.u⟩
theorem gz {p : List Nat} (hg : ∀ e ∈ ws, gr ∣ e.2) : isU (((getW p ws).map exD).getD (.con (([0, 1] : List Int).map D.int))) ((getW p ws).getD 0) := by
  cases h : getW p ws with
  | none => exact isU_zero
  | some u => exact isU_ex (getW_all (P := fun u => gr ∣ u) hg h)
theorem pass_spec {s t : Nat} (hw : N.ways.length ≤ 900) (hl : ps.length ≤ 900) (nd : (ws.map (·.1)).Nodup) (wl : ws.length + still.length ≤ 500) (hf : FlU N fl fun i => loadW (wayAt N i) ws) (gs : gr ∣ s) (gw : ∀ e ∈ ws, gr ∣ e.2) (ht : isU tm t) (hr : okDs (S0.length + 5) rw = true) :
    ∃ fl', f_PairGrowth_pass_time [.loc S0.length, exD s, .tup (partsL still)] (pgS S0 N prs tm ps fl ws tk rw) = .ok .non (pgS S0 N prs (exD (t + s)) ps fl' (widenP s still ws) tk rw) ∧ FlU N fl' fun i => loadW (wayAt N i) ws + s * rateW (wayAt N i) ps still := by
  have us : isU (exD s) s := isU_ex gs
  have it : iEnumD (aCons (eMeth "PairGrowth" "rates" 2 f_PairGrowth_rates (eVar 0) (aCons (eVar 2) aNil)) aNil) [some (.loc S0.length), some (exD s), some (.tup (partsL still)), none, none, none] (pgS S0 N prs tm ps fl ws tk rw) = .ok ⟨enumDs 0 (natD (ratesL N ps still)), none⟩ (pgS S0 N prs tm ps fl ws tk rw) :=
    iEnumD_lst (aCons_ok (eMeth_ok (eVar_ok rfl) pg0.h0 rfl (aCons_ok (eVar_ok rfl) aNil_ok) rfl (rates_spec pg0 (by omega) hw)) aNil_ok)
  obtain ⟨ρ1, S1, e1, ⟨x3, x4, rfl⟩, fl1, rfl, hf1⟩ := forI (f := (sSub (eFld "PairGrowth" (eVar 0) "filled") (eVar 3) (eCall 2 f_plus (aCons (eBin oIx (eFld "PairGrowth" (eVar 0) "filled") (eVar 3)) (aCons (eCall 2 f_times (aCons (eVar 1) (aCons (eCallD 2 [1] f_ratio (aCons (eVar 4) aNil)) aNil))) aNil))))) (tg := .tp [(.nm 3), (.nm 4)]) (items := enumDs 0 (natD (ratesL N ps still)))
    (fun j ρ S => (∃ x3 x4, ρ = [some (.loc S0.length), some (exD s), some (.tup (partsL still)), x3, x4, none]) ∧ ∃ fl1, S = pgS S0 N prs tm ps fl1 ws tk rw ∧ FlU N fl1 fun i => loadW (wayAt N i) ws + if i < j then s * rateW (wayAt N i) ps still else 0)
    it ⟨⟨_, _, rfl⟩, fl, rfl, hf⟩ (by
      rintro j d ρ S hd ⟨⟨x3, x4, rfl⟩, fl1, rfl, hf1⟩
      obtain ⟨w, hw', rfl⟩ := ratesL_get hd
      obtain ⟨ew, hj⟩ := wayAt_get hw'
      obtain ⟨x, hx, ux⟩ := hf1.u j hj
      have rl := rate_le w ps still
      simp only [Nat.lt_irrefl, if_false, Nat.add_zero, ew] at ux
      have e3 : oIx (.loc (S0.length + 1)) (.int (j : Nat)) (pgS S0 N prs tm ps fl1 ws tk rw) = some x := (oIx_loc pg1).trans (atI_ok hx)
      have r3 : ∀ T, f_ratio ([.int (rateW w ps still : Int)] ++ ([1] : List Int).map D.int) T = .ok (rD (rateW w ps still : Rat)) T := fun T => ratio_nat _
      have m1 : ∀ T, f_times [exD s, rD (rateW w ps still : Rat)] T = .ok (exD (s * rateW w ps still)) T := fun T => times_u us (isR_nat _) (by omega)
      have m2 : ∀ T, f_plus [x, exD (s * rateW w ps still)] T = .ok (exD (loadW w ws + s * rateW w ps still)) T := fun T => plus_u ux (isU_ex (Nat.dvd_trans gs (Nat.dvd_mul_right _ _)))
      refine ⟨_, rfl, _, _, .inl (sSub_ok (d := exD (loadW w ws + s * rateW w ps still)) (j := j) (by (repeat' first | ((with_reducible apply eVar_ok) <;> rfl) | (with_reducible exact eC_ok) | (with_reducible exact aNil_ok) | (with_reducible exact bYes_ok) | (with_reducible exact pg0.h0) | (with_reducible exact e3) | (with_reducible exact r3 _) | (with_reducible exact m1 _) | (with_reducible exact m2 _) | (with_reducible apply aCons_ok) | (with_reducible apply eBin_ok) | (with_reducible apply bBin_ok) | (with_reducible apply eCb_ok) | (with_reducible apply eCall_ok) | (with_reducible apply eCallD_ok) | (with_reducible apply bVal_ok) | (with_reducible apply bNot_ok) | (with_reducible apply eTup_ok) | (with_reducible apply eLst_ok) | (with_reducible apply eFld_ok) | (with_reducible apply eMeth_ok) | (with_reducible apply eIx_loc) | (with_reducible apply pure1_ok) | (with_reducible apply bOr_ok) | (with_reducible apply bAnd_ok) | (with_reducible apply eDGet2_ok) | (with_reducible apply eDGet_ok) | (exact (rfl : (_ : Nat) = _)) | (exact (rfl : lookD _ _ = _)) | ((with_reducible show (List.length _) ≤ 1000); simp only [List.length_cons, List.length_nil]; decide) | (exact oIx_tup.trans atI_0) | (exact oIx_tup.trans atI_1) | (exact oIx_tup.trans atI_2) | (exact oIn_part) | (exact oIn_parts (.inl rfl)) | (exact oIn_parts (.inr rfl)) | (exact oNotIn_parts (.inl rfl)) | (exact oNotIn_parts (.inr rfl)) | (exact oNe_bl) | (exact oAdd_int) | (exact oSub_int) | (exact oLt_int) | (exact oGt_int) | (exact oLe_int) | (exact oGe_int) | (exact oEq_int) | (exact oNe_int) | (exact gLen_seq seqOf_tup) | (exact gLen_seq seqOf_lst) | ((with_reducible show _ = _); with_reducible assumption))) (eFld_ok (eVar_ok rfl) pg0.h0 rfl) (eVar_ok rfl) pg1 (ixN_ok (by rw [hf1.len]; exact hj))), ⟨_, _, rfl⟩, _, pg_set1, ⟨by rw [List.length_set]; exact hf1.len, fun i hi => ?_⟩⟩
      by_cases hij : i = j
      · subst hij
        refine ⟨exD (loadW w ws + s * rateW w ps still), List.getElem?_set_self (by rw [hf1.len]; exact hj), ?_⟩
        rw [ew, if_pos (Nat.lt_succ_self _)]
        exact isU_ex (Nat.dvd_add ux.2 (Nat.dvd_trans gs (Nat.dvd_mul_right _ _)))
      · obtain ⟨y, hy, uy⟩ := hf1.u i hi
        refine ⟨y, by rw [List.getElem?_set_ne (Ne.symm hij)]; exact hy, ?_⟩
        simp only [show (i < j + 1) = (i < j) from propext (by omega)]
        exact uy)
  have hf2 : FlU N fl1 fun i => loadW (wayAt N i) ws + s * rateW (wayAt N i) ps still := by
    refine ⟨hf1.len, fun i hi => ?_⟩
    obtain ⟨y, hy, uy⟩ := hf1.u i hi
    refine ⟨y, hy, ?_⟩
    rw [enumDs_len, natD_len] at uy
    unfold ratesL at uy
    rw [List.length_map, if_pos hi] at uy
    exact uy
  obtain ⟨ρ2, S2, e2, ⟨x5, rfl⟩, rfl⟩ := forI (f := (sDPut (eFld "PairGrowth" (eVar 0) "widths") (eVar 5) (eCall 2 f_plus (aCons (eDGet2 (eFld "PairGrowth" (eVar 0) "widths") (eVar 5) (eC (.con (([0, 1] : List Int).map D.int)))) (aCons (eVar 1) aNil))))) (tg := .nm 5) (items := partsL still)
    (fi := iSeqD (eVar 2)) (ρ := [some (.loc S0.length), some (exD s), some (.tup (partsL still)), x3, x4, none]) (S := pgS S0 N prs tm ps fl1 ws tk rw) (S1 := pgS S0 N prs tm ps fl1 ws tk rw)
    (fun j ρ S => (∃ x5, ρ = [some (.loc S0.length), some (exD s), some (.tup (partsL still)), x3, x4, x5]) ∧ S = pgS S0 N prs tm ps fl1 (widenP s (still.take j) ws) tk rw)
    (iSeqD_tup (eVar_ok rfl)) ⟨⟨_, rfl⟩, rfl⟩ (by
      rintro j d ρ S hd ⟨⟨x5, rfl⟩, rfl⟩
      unfold partsL at hd
      rw [List.getElem?_map, Option.map_eq_some_iff] at hd
      obtain ⟨p, hp, rfl⟩ := hd
      have wl2 := widen_len (s := s) (still := still.take j) (ws := ws)
      have tl := List.length_take_le' j still
      have gw2 := widen_dvd gs (still := still.take j) gw
      have m2 : ∀ T, f_plus [((getW p (widenP s (still.take j) ws)).map exD).getD (.con (([0, 1] : List Int).map D.int)), exD s] T = .ok (exD ((getW p (widenP s (still.take j) ws)).getD 0 + s)) T := fun T => plus_u (gz gw2) us
      refine ⟨_, rfl, _, _, .inl (sDPut_ok (d := exD ((getW p (widenP s (still.take j) ws)).getD 0 + s)) (eCall_ok (aCons_ok (eDGet2_ok (x := .loc (S0.length + 2)) (eFld_ok (eVar_ok rfl) pg0.h0 rfl) (isDct_dict pg2) (eVar_ok rfl) eC_ok (dGet_get pg2)) (aCons_ok (eVar_ok rfl) aNil_ok)) rfl (m2 _)) (eFld_ok (eVar_ok rfl) pg0.h0 rfl) (eVar_ok rfl) (dPut_dict pg2 (widen_nd nd) (by omega))), ⟨_, rfl⟩, ?_⟩
      rw [pg_set2, take_get hp]
      unfold widenP
      rw [List.foldl_append]
      rfl)
  rw [partsL_len, List.take_length] at e2
  refine ⟨fl1, ?_, hf2⟩
  have m3 : ∀ T, f_plus [tm, exD s] T = .ok (exD (t + s)) T := fun T => plus_u ht us
  have key : b_PairGrowth_pass_time [some (.loc S0.length), some (exD s), some (.tup (partsL still)), none, none, none] (pgS S0 N prs tm ps fl ws tk rw) = .nx [some (.loc S0.length), some (exD s), some (.tup (partsL still)), x3, x4, x5] (pgS S0 N prs (exD (t + s)) ps fl1 (widenP s still ws) tk rw) := by
    unfold b_PairGrowth_pass_time
    refine q_nx e1 (q_nx e2 ?_)
    refine (sFld_ok (d := exD (t + s)) (by (repeat' first | ((with_reducible apply eVar_ok) <;> rfl) | (with_reducible exact eC_ok) | (with_reducible exact aNil_ok) | (with_reducible exact bYes_ok) | (with_reducible exact pg0.h0) | (with_reducible exact m3 _) | (with_reducible apply aCons_ok) | (with_reducible apply eBin_ok) | (with_reducible apply bBin_ok) | (with_reducible apply eCb_ok) | (with_reducible apply eCall_ok) | (with_reducible apply eCallD_ok) | (with_reducible apply bVal_ok) | (with_reducible apply bNot_ok) | (with_reducible apply eTup_ok) | (with_reducible apply eLst_ok) | (with_reducible apply eFld_ok) | (with_reducible apply eMeth_ok) | (with_reducible apply eIx_loc) | (with_reducible apply pure1_ok) | (with_reducible apply bOr_ok) | (with_reducible apply bAnd_ok) | (with_reducible apply eDGet2_ok) | (with_reducible apply eDGet_ok) | (exact (rfl : (_ : Nat) = _)) | (exact (rfl : lookD _ _ = _)) | ((with_reducible show (List.length _) ≤ 1000); simp only [List.length_cons, List.length_nil]; decide) | (exact oIx_tup.trans atI_0) | (exact oIx_tup.trans atI_1) | (exact oIx_tup.trans atI_2) | (exact oIn_part) | (exact oIn_parts (.inl rfl)) | (exact oIn_parts (.inr rfl)) | (exact oNotIn_parts (.inl rfl)) | (exact oNotIn_parts (.inr rfl)) | (exact oNe_bl) | (exact oAdd_int) | (exact oSub_int) | (exact oLt_int) | (exact oGt_int) | (exact oLe_int) | (exact oGe_int) | (exact oEq_int) | (exact oNe_int) | (exact gLen_seq seqOf_tup) | (exact gLen_seq seqOf_lst) | ((with_reducible show _ = _); with_reducible assumption))) (eVar_ok rfl) pg0.h0 (by show 9 < 1000; decide)).trans ?_
    rw [pg_time]
  refine runF_nx key ?_
  have L : (pgS S0 N prs tm ps fl ws tk rw).length = S0.length + 5 := pgS_len
  unfold pgS at L ⊢
  refine gc_two rfl rfl ?_
  rw [L]
  exact okC_pg (Nat.le_refl _) (okD_rD _ _) (hf2.okD _) hr
end
end Ev

namespace Ev
open PySem PySem.Spec PyProof.Rows L2
/-! ### take_full_ways, grow -/
/-- a while by a measure -/
theorem while_inv {t : BF} {f : SF} (I : Nat → En → Sto → Prop) (Q : En → Sto → Prop) (step : ∀ m ρ S, I m ρ S → (t ρ S = .ok false S ∧ Q ρ S) ∨ ∃ ρ2 S2 m', t ρ S = .ok true S ∧ f ρ S = .nx ρ2 S2 ∧ m' < m ∧ I m' ρ2 S2) :
    ∀ (m n : Nat) (ρ : En) (S : Sto), I m ρ S → m < n → ∃ ρ' S', whGo t f n ρ S = .nx ρ' S' ∧ Q ρ' S'
  | m, 0, ρ, S, _, h => absurd h (Nat.not_lt_zero _)
  | m, n + 1, ρ, S, hI, hn => by
    unfold whGo
    rcases step m ρ S hI with ⟨h1, h2⟩ | ⟨ρ2, S2, m', h1, h2, h3, h4⟩
    · refine ⟨ρ, S, ?_, h2⟩
      rw [h1]
      simp only [sB, Bool.false_eq_true, if_false]
    · obtain ⟨ρ', S', e, q⟩ := while_inv I Q step m' n ρ2 S2 h4 (by omega)
      refine ⟨ρ', S', ?_, q⟩
      rw [h1]
      simp only [sB, if_true, h2]
      exact e
  termination_by m n => n
theorem big_ok {n : Nat} (h : n ≤ 1000) : n < bigW := Nat.lt_of_le_of_lt h (by decide)
section
variable {S0 : Sto} {N : Net} {prs : List (Nat × Nat)} {tm : D} {fl rw : List D} {g : Gs}
theorem came_spec {S : Sto} {x y : D} : f_PairGrowth_came [x, y] S = .ok .non S := runF_nx (b := b_PairGrowth_came) rfl (gc_same rfl)
theorem rested_spec {S : Sto} {x : D} : f_PairGrowth_rested [x] S = .ok .non S := runF_nx (b := b_PairGrowth_rested) rfl (gc_same rfl)
def pgG (S0 : Sto) (N : Net) (prs : List (Nat × Nat)) (g : Gs) (fl rw : List D) : Sto := pgS S0 N prs (exD g.t) g.ps fl g.ws g.tk rw
theorem take_full_spec (hw : WaysOk N) (h0 : 0 < N.n) (hn : N.n ≤ 12) (hl : N.ways.length ≤ 900) (hp : PartI N.n g.ps) (pl : g.ps.length ≤ N.n) (tl : g.tk.length + g.ps.length ≤ 500) (hf : FlU N fl fun i => loadW (wayAt N i) g.ws) (hr : okDs (S0.length + 5) rw = true) :
    f_PairGrowth_take_full_ways [.loc S0.length] (pgG S0 N prs g fl rw) = .ok .non (pgG S0 N prs (takeG N N.n g) fl rw) := by
  obtain ⟨ρ', S', e, ⟨hq, _⟩⟩ := while_inv (t := (bBin oNotN (eVar 1) (eC .non))) (f := (sSeq (sAsg (.ls [(.nm 2), (.nm 3)]) (eMeth "PairGrowth" "between" 2 f_PairGrowth_between (eVar 0) (aCons (eVar 1) aNil)))
    (sSeq (sSet 4 (eCb (pure1 gTuple) (aCons (eCb (oSort false) (aCons (eBin oAdd (eVar 2) (eVar 3)) aNil)) aNil)))
    (sSeq (sFld "PairGrowth" (eVar 0) "parts" (eCb (pure1 gTuple) (aCons (eCb oSortT (aCons (eBin oAdd (eLc (iSeqD (eFld "PairGrowth" (eVar 0) "parts")) (.nm 5) (bBin oNotIn (eVar 5) (eTup (aCons (eVar 2) (aCons (eVar 3) aNil)))) (eVar 5) [5]) (eLst (aCons (eVar 4) aNil))) aNil)) aNil)))
    (sSeq (sExpr (eLm mAppend (eFld "PairGrowth" (eVar 0) "taken") (aCons (eTup (aCons (eFld "PairGrowth" (eVar 0) "time") (aCons (eVar 1) aNil))) aNil)))
    (sSeq (sExpr (eMeth "PairGrowth" "came" 2 f_PairGrowth_came (eVar 0) (aCons (eVar 4) aNil)))
    (sSet 1 (eMeth "PairGrowth" "full_way" 1 f_PairGrowth_full_way (eVar 0) aNil))))))))
    (fun m ρ S => ∃ g' x2 x3 x4, S = pgG S0 N prs g' fl rw ∧ ρ = [some (.loc S0.length), some (optD (fullK N g'.ps g'.ws)), x2, x3, x4, none] ∧ PartI N.n g'.ps ∧ g'.ps.length ≤ m ∧ m ≤ 12 ∧ g'.tk.length + g'.ps.length ≤ 500 ∧ g'.ws = g.ws ∧ takeG N m g' = takeG N N.n g)
    (fun ρ S => S = pgG S0 N prs (takeG N N.n g) fl rw ∧ True) (by
      rintro m ρ S ⟨g', x2, x3, x4, rfl, rfl, hp', pl', m12, tl', we, te⟩
      cases hf2 : fullK N g'.ps g'.ws with
      | none =>
        left
        refine ⟨by (repeat' first | ((with_reducible apply eVar_ok) <;> rfl) | (with_reducible exact eC_ok) | (with_reducible exact aNil_ok) | (with_reducible exact bYes_ok) | (exact oNotN_opt none) | (with_reducible apply aCons_ok) | (with_reducible apply eBin_ok) | (with_reducible apply bBin_ok) | (with_reducible apply eCb_ok) | (with_reducible apply eCall_ok) | (with_reducible apply eCallD_ok) | (with_reducible apply bVal_ok) | (with_reducible apply bNot_ok) | (with_reducible apply eTup_ok) | (with_reducible apply eLst_ok) | (with_reducible apply eFld_ok) | (with_reducible apply eMeth_ok) | (with_reducible apply eIx_loc) | (with_reducible apply pure1_ok) | (with_reducible apply bOr_ok) | (with_reducible apply bAnd_ok) | (with_reducible apply eDGet2_ok) | (with_reducible apply eDGet_ok) | (exact (rfl : (_ : Nat) = _)) | (exact (rfl : lookD _ _ = _)) | ((with_reducible show (List.length _) ≤ 1000); simp only [List.length_cons, List.length_nil]; decide) | (exact oIx_tup.trans atI_0) | (exact oIx_tup.trans atI_1) | (exact oIx_tup.trans atI_2) | (exact oIn_part) | (exact oIn_parts (.inl rfl)) | (exact oIn_parts (.inr rfl)) | (exact oNotIn_parts (.inl rfl)) | (exact oNotIn_parts (.inr rfl)) | (exact oNe_bl) | (exact oAdd_int) | (exact oSub_int) | (exact oLt_int) | (exact oGt_int) | (exact oLe_int) | (exact oGe_int) | (exact oEq_int) | (exact oNe_int) | (exact gLen_seq seqOf_tup) | (exact gLen_seq seqOf_lst) | ((with_reducible show _ = _); with_reducible assumption)), ?_, True.intro⟩
        rw [take_none hf2] at te
        rw [te]
      | some i =>
        right
        obtain ⟨hi1, _, hi2⟩ := full_some hf2
        obtain ⟨p, q, hpm, hqm, hne, es, _⟩ := hp'.two (hw.ab (wayAt_in hi1)).1 (hw.ab (wayAt_in hi1)).2 hi2
        obtain ⟨hm1, hm2⟩ := hp'.merge hw hf2
        have l1 := hp'.plen hpm
        have l2 := hp'.plen hqm
        have hpn := hp'.ne p hpm
        have hqn := hp'.ne q hqm
        obtain ⟨m', rfl⟩ : ∃ m', m = m' + 1 := ⟨m - 1, by omega⟩
        have eo : oneG N g' = { g' with ps := mergeP (wayAt N i) g'.ps, tk := g'.tk ++ [(g'.t, i)] } := by unfold oneG; rw [hf2]
        have em : mergeP (wayAt N i) g'.ps = joinP p q g'.ps := by unfold mergeP; rw [es]
        have te' : takeG N m' (oneG N g') = takeG N N.n g := by rw [← take_eq]; exact te
        have hf' : FlU N fl fun i => loadW (wayAt N i) (oneG N g').ws := by rw [eo]; dsimp only; rw [we]; exact hf
        have bs : f_PairGrowth_between [.loc S0.length, .int (i : Nat)] (pgG S0 N prs g' fl rw) = .ok (.lst (partsL [p, q])) (pgG S0 N prs g' fl rw) := by
          rw [← es, ← btw_two hi2]
          exact between_spec pg0 hi1 (by omega)
        have mt : ∀ ρ : En, ρ[0]? = some (some (.loc S0.length)) → ρ[1]? = some (some (.int (i : Nat))) → (eMeth "PairGrowth" "between" 2 f_PairGrowth_between (eVar 0) (aCons (eVar 1) aNil)) ρ (pgG S0 N prs g' fl rw) = .ok (.lst (partsL [p, q])) (pgG S0 N prs g' fl rw) := fun ρ h1 h2 =>
          eMeth_ok (eVar_ok h1) pg0.h0 rfl (aCons_ok (eVar_ok h2) aNil_ok) rfl bs
        have lc : ∀ (ρ : En), ρ = [some (.loc S0.length), some (.int (i : Nat)), some (partD p), some (partD q), some (partD (sortN (p ++ q))), none] → eLc (iSeqD (eFld "PairGrowth" (eVar 0) "parts")) (.nm 5) (bBin oNotIn (eVar 5) (eTup (aCons (eVar 2) (aCons (eVar 3) aNil)))) (eVar 5) [5] ρ (pgG S0 N prs g' fl rw) = .ok (.lst (partsL (g'.ps.filter fun r => !decide (r ∈ [p, q])))) (pgG S0 N prs g' fl rw) := by
          rintro ρ rfl
          exact eLc_f (xs := g'.ps) (F := partD) (c := fun r => !decide (r ∈ [p, q])) (G := partD) (iSeqD_tup (ds := partsL g'.ps) (eFld_ok (eVar_ok rfl) pg0.h0 rfl)) True.intro rfl (by omega) fun r _ => ⟨_, rfl, by (repeat' first | ((with_reducible apply eVar_ok) <;> rfl) | (with_reducible exact eC_ok) | (with_reducible exact aNil_ok) | (with_reducible exact bYes_ok) | (with_reducible exact parts2) | (with_reducible apply aCons_ok) | (with_reducible apply eBin_ok) | (with_reducible apply bBin_ok) | (with_reducible apply eCb_ok) | (with_reducible apply eCall_ok) | (with_reducible apply eCallD_ok) | (with_reducible apply bVal_ok) | (with_reducible apply bNot_ok) | (with_reducible apply eTup_ok) | (with_reducible apply eLst_ok) | (with_reducible apply eFld_ok) | (with_reducible apply eMeth_ok) | (with_reducible apply eIx_loc) | (with_reducible apply pure1_ok) | (with_reducible apply bOr_ok) | (with_reducible apply bAnd_ok) | (with_reducible apply eDGet2_ok) | (with_reducible apply eDGet_ok) | (exact (rfl : (_ : Nat) = _)) | (exact (rfl : lookD _ _ = _)) | ((with_reducible show (List.length _) ≤ 1000); simp only [List.length_cons, List.length_nil]; decide) | (exact oIx_tup.trans atI_0) | (exact oIx_tup.trans atI_1) | (exact oIx_tup.trans atI_2) | (exact oIn_part) | (exact oIn_parts (.inl rfl)) | (exact oIn_parts (.inr rfl)) | (exact oNotIn_parts (.inl rfl)) | (exact oNotIn_parts (.inr rfl)) | (exact oNe_bl) | (exact oAdd_int) | (exact oSub_int) | (exact oLt_int) | (exact oGt_int) | (exact oLe_int) | (exact oGe_int) | (exact oEq_int) | (exact oNe_int) | (exact gLen_seq seqOf_tup) | (exact gLen_seq seqOf_lst) | ((with_reducible show _ = _); with_reducible assumption)), fun _ => by (repeat' first | ((with_reducible apply eVar_ok) <;> rfl) | (with_reducible exact eC_ok) | (with_reducible exact aNil_ok) | (with_reducible exact bYes_ok) | (with_reducible apply aCons_ok) | (with_reducible apply eBin_ok) | (with_reducible apply bBin_ok) | (with_reducible apply eCb_ok) | (with_reducible apply eCall_ok) | (with_reducible apply eCallD_ok) | (with_reducible apply bVal_ok) | (with_reducible apply bNot_ok) | (with_reducible apply eTup_ok) | (with_reducible apply eLst_ok) | (with_reducible apply eFld_ok) | (with_reducible apply eMeth_ok) | (with_reducible apply eIx_loc) | (with_reducible apply pure1_ok) | (with_reducible apply bOr_ok) | (with_reducible apply bAnd_ok) | (with_reducible apply eDGet2_ok) | (with_reducible apply eDGet_ok) | (exact (rfl : (_ : Nat) = _)) | (exact (rfl : lookD _ _ = _)) | ((with_reducible show (List.length _) ≤ 1000); simp only [List.length_cons, List.length_nil]; decide) | (exact oIx_tup.trans atI_0) | (exact oIx_tup.trans atI_1) | (exact oIx_tup.trans atI_2) | (exact oIn_part) | (exact oIn_parts (.inl rfl)) | (exact oIn_parts (.inr rfl)) | (exact oNotIn_parts (.inl rfl)) | (exact oNotIn_parts (.inr rfl)) | (exact oNe_bl) | (exact oAdd_int) | (exact oSub_int) | (exact oLt_int) | (exact oGt_int) | (exact oLe_int) | (exact oGe_int) | (exact oEq_int) | (exact oNe_int) | (exact gLen_seq seqOf_tup) | (exact gLen_seq seqOf_lst) | ((with_reducible show _ = _); with_reducible assumption))⟩
        have st := oSortT_parts (S := pgG S0 N prs g' fl rw) (ps := g'.ps.filter (fun r => !decide (r ∈ [p, q])) ++ [sortN (p ++ q)]) fun r hr => by
          rcases List.mem_append.mp hr with h | h
          · exact hp'.ne r (List.mem_filter.mp h).1
          · rw [List.mem_singleton.mp h]
            intro z
            have := (sortN_perm (p ++ q)).length_eq
            rw [z, List.length_append] at this
            exact hpn (List.length_eq_zero_iff.mp (by simp at this; omega))
        rw [partsL_app] at st
        refine ⟨[some (.loc S0.length), some (optD (fullK N (oneG N g').ps (oneG N g').ws)), some (partD p), some (partD q), some (partD (sortN (p ++ q))), none], pgG S0 N prs (oneG N g') fl rw, m', by (repeat' first | ((with_reducible apply eVar_ok) <;> rfl) | (with_reducible exact eC_ok) | (with_reducible exact aNil_ok) | (with_reducible exact bYes_ok) | (exact oNotN_opt (some i)) | (with_reducible apply aCons_ok) | (with_reducible apply eBin_ok) | (with_reducible apply bBin_ok) | (with_reducible apply eCb_ok) | (with_reducible apply eCall_ok) | (with_reducible apply eCallD_ok) | (with_reducible apply bVal_ok) | (with_reducible apply bNot_ok) | (with_reducible apply eTup_ok) | (with_reducible apply eLst_ok) | (with_reducible apply eFld_ok) | (with_reducible apply eMeth_ok) | (with_reducible apply eIx_loc) | (with_reducible apply pure1_ok) | (with_reducible apply bOr_ok) | (with_reducible apply bAnd_ok) | (with_reducible apply eDGet2_ok) | (with_reducible apply eDGet_ok) | (exact (rfl : (_ : Nat) = _)) | (exact (rfl : lookD _ _ = _)) | ((with_reducible show (List.length _) ≤ 1000); simp only [List.length_cons, List.length_nil]; decide) | (exact oIx_tup.trans atI_0) | (exact oIx_tup.trans atI_1) | (exact oIx_tup.trans atI_2) | (exact oIn_part) | (exact oIn_parts (.inl rfl)) | (exact oIn_parts (.inr rfl)) | (exact oNotIn_parts (.inl rfl)) | (exact oNotIn_parts (.inr rfl)) | (exact oNe_bl) | (exact oAdd_int) | (exact oSub_int) | (exact oLt_int) | (exact oGt_int) | (exact oLe_int) | (exact oGe_int) | (exact oEq_int) | (exact oNe_int) | (exact gLen_seq seqOf_tup) | (exact gLen_seq seqOf_lst) | ((with_reducible show _ = _); with_reducible assumption)), ?_, by omega, oneG N g', _, _, _, rfl, rfl, by rw [eo]; exact hm1, by rw [eo]; dsimp only; omega, by omega, by rw [eo]; dsimp only; rw [List.length_append]; simp only [List.length_cons, List.length_nil]; omega, by rw [eo]; exact we, te'⟩
        refine q_asg (d := .lst (partsL [p, q])) (mt _ rfl rfl) rfl ?_
        refine q_set (d := partD (sortN (p ++ q))) (eCb_ok (aCons_ok (eCb_ok (aCons_ok (eBin_ok (eVar_ok rfl) (eVar_ok rfl) (oAdd_part hpn hqn (by omega))) aNil_ok) (oSort_part _)) aNil_ok) (pure1_ok rfl)) ?_
        refine q_nx (sFld_ok (d := .tup (partsL (joinP p q g'.ps))) (eCb_ok (aCons_ok (eCb_ok (aCons_ok (eBin_ok (lc _ rfl) (eLst_ok (aCons_ok (eVar_ok rfl) aNil_ok) (by decide : (1 : Nat) ≤ 1000)) (oAdd_lst (S := pgG S0 N prs g' fl rw) ?_)) aNil_ok) st) aNil_ok) (pure1_ok rfl)) (eVar_ok rfl) pg0.h0 (by show 9 < 1000; decide)) ?_
        · refine sizeLine_ok ?_
          rw [List.length_append, partsL_len]
          have := filt_le (c := fun r => !decide (r ∈ [p, q])) pl'
          simp only [List.length_cons, List.length_nil]
          omega
        have s1 : (pgG S0 N prs g' fl rw).set S0.length (.ins "PairGrowth" (putD "parts" (.tup (partsL (joinP p q g'.ps))) (pgF N prs S0.length (exD g'.t) g'.ps))) = pgS S0 N prs (exD g'.t) (joinP p q g'.ps) fl g'.ws g'.tk rw := pg_parts
        rw [s1]
        refine q_expr (eApp_ok (n := S0.length + 3) (d := .tup [exD g'.t, optD (some i)]) (eFld_ok (eVar_ok rfl) pg0.h0 rfl) pg3 (by (repeat' first | ((with_reducible apply eVar_ok) <;> rfl) | (with_reducible exact eC_ok) | (with_reducible exact aNil_ok) | (with_reducible exact bYes_ok) | (with_reducible exact pg0.h0) | (with_reducible apply aCons_ok) | (with_reducible apply eBin_ok) | (with_reducible apply bBin_ok) | (with_reducible apply eCb_ok) | (with_reducible apply eCall_ok) | (with_reducible apply eCallD_ok) | (with_reducible apply bVal_ok) | (with_reducible apply bNot_ok) | (with_reducible apply eTup_ok) | (with_reducible apply eLst_ok) | (with_reducible apply eFld_ok) | (with_reducible apply eMeth_ok) | (with_reducible apply eIx_loc) | (with_reducible apply pure1_ok) | (with_reducible apply bOr_ok) | (with_reducible apply bAnd_ok) | (with_reducible apply eDGet2_ok) | (with_reducible apply eDGet_ok) | (exact (rfl : (_ : Nat) = _)) | (exact (rfl : lookD _ _ = _)) | ((with_reducible show (List.length _) ≤ 1000); simp only [List.length_cons, List.length_nil]; decide) | (exact oIx_tup.trans atI_0) | (exact oIx_tup.trans atI_1) | (exact oIx_tup.trans atI_2) | (exact oIn_part) | (exact oIn_parts (.inl rfl)) | (exact oIn_parts (.inr rfl)) | (exact oNotIn_parts (.inl rfl)) | (exact oNotIn_parts (.inr rfl)) | (exact oNe_bl) | (exact oAdd_int) | (exact oSub_int) | (exact oLt_int) | (exact oGt_int) | (exact oLe_int) | (exact oGe_int) | (exact oEq_int) | (exact oNe_int) | (exact gLen_seq seqOf_tup) | (exact gLen_seq seqOf_lst) | ((with_reducible show _ = _); with_reducible assumption))) pg3 (by rw [List.length_map]; omega)) ?_
        rw [show D.tup [exD g'.t, optD (some i)] = tkD (g'.t, i) from rfl, map_snoc, pg_set3]
        have eg : pgS S0 N prs (exD g'.t) (joinP p q g'.ps) fl g'.ws (g'.tk ++ [(g'.t, i)]) rw = pgG S0 N prs (oneG N g') fl rw := by
          rw [eo]
          unfold pgG
          dsimp only
          rw [em]
        rw [eg]
        refine q_expr (d := .non) (eMeth_ok (eVar_ok rfl) pg0.h0 rfl (aCons_ok (eVar_ok rfl) aNil_ok) rfl came_spec) ?_
        exact sSet_ok (eMeth_ok (eVar_ok rfl) pg0.h0 rfl aNil_ok rfl (full_way_spec pg0 hf'.at (by rw [eo]; dsimp only; omega) hl)))
    N.n bigW [some (.loc S0.length), some (optD (fullK N g.ps g.ws)), none, none, none, none] (pgG S0 N prs g fl rw) ⟨g, none, none, none, rfl, rfl, hp, pl, hn, tl, rfl, rfl⟩ (big_ok (by omega))
  rw [hq] at e
  have key : b_PairGrowth_take_full_ways [some (.loc S0.length), none, none, none, none, none] (pgG S0 N prs g fl rw) = .nx ρ' (pgG S0 N prs (takeG N N.n g) fl rw) := by
    unfold b_PairGrowth_take_full_ways
    refine q_set (d := optD (fullK N g.ps g.ws)) (eMeth_ok (eVar_ok rfl) pg0.h0 rfl aNil_ok rfl (full_way_spec pg0 hf.at (by omega) hl)) ?_
    exact e
  refine runF_nx key ?_
  have L : (pgG S0 N prs g fl rw).length = S0.length + 5 := pgS_len
  unfold pgG pgS at L ⊢
  refine gc_two rfl rfl ?_
  rw [L]
  exact okC_pg (Nat.le_refl _) (okD_rD _ _) (hf.okD _) hr
end
end Ev

namespace Ev
open PySem PySem.Spec PyProof.Rows L2
/-! ### grow -/
def zeroC : D := .con (([0, 1] : List Int).map D.int)
def row0 (e : Nat × List (List Nat) × List (List Nat)) : D := .tup [zeroC, .tup (partsL e.2.1), .tup (partsL e.2.2)]
def rwD : List (Nat × List (List Nat) × List (List Nat)) → List D
  | [] => []
  | r :: l => row0 r :: l.map rowD
theorem rwD_snoc {l : List (Nat × List (List Nat) × List (List Nat))} {x : Nat × List (List Nat) × List (List Nat)} (h : l ≠ []) : rwD l ++ [rowD x] = rwD (l ++ [x]) := by
  cases l with
  | nil => exact absurd rfl h
  | cons r l =>
    unfold rwD
    rw [List.cons_append, map_snoc]
    rfl
theorem rwD_len : ∀ l : List (Nat × List (List Nat) × List (List Nat)), (rwD l).length = l.length
  | [] => rfl
  | r :: l => by unfold rwD; rw [List.length_cons, List.length_map]; rfl
theorem okDs_rw (n : Nat) : ∀ l : List (Nat × List (List Nat) × List (List Nat)), okDs n (rwD l) = true
  | [] => rfl
  | r :: l => okDs_of fun x hx => by
    unfold rwD at hx
    rcases List.mem_cons.mp hx with rfl | hx
    · unfold row0 zeroC
      simp only [okD, okDs, okDs_partsL, List.map_cons, List.map_nil, Bool.and_self]
    · obtain ⟨e, _, rfl⟩ := List.mem_map.mp hx
      unfold rowD exD
      simp only [okD, okDs, okDs_partsL, okD_rD, Bool.and_self]
theorem gr_pow {k : Nat} (h : k ≤ 12) : gr ∣ 2 ^ (40 - k) := by
  rw [show gr = 2 ^ 28 by decide]
  exact Nat.pow_dvd_pow 2 (by omega)
theorem fix_grow {N : Net} {prs : List (Nat × Nat)} {g : Gs} (h : stillP prs g.ps = []) : ∀ m, growG N prs m g = g
  | 0 => rfl
  | m + 1 => by unfold growG; rw [if_pos h, fix_grow h m]
theorem truD_still {S : Sto} {l : List (List Nat)} : truD (.tup (partsL l)) S = some (!l.isEmpty) := by
  unfold truD partsL
  cases l <;> rfl
section
variable {S0 : Sto} {N : Net} {prs : List (Nat × Nat)} {fl rw : List D} {g : Gs}
/-- step gives the span -/
theorem step_span {k s : Nat} {tm : D} {S : Sto} {b : Nat} (hw : WaysOk N) (hl : N.ways.length ≤ 900) (hn : N.n ≤ 12) (hj : JoinAll N prs) (hk : k + 1 ≤ 12) (gi : GInv N k g) (hs : stillP prs g.ps ≠ []) (sp : SpanI N prs k g s) (h : PgAt S b N prs tm g.ps) (hf : FlAt S b N g.ws fl) :
    f_PairGrowth_step [.loc b, .tup (partsL (stillP prs g.ps))] S = .ok (exD s) S := by
  have pl := len_le_n gi
  have lk : ∀ w ∈ N.ways, (lackW w g.ws).toNat = w.c * two40 - loadW w g.ws := fun w hm => by rw [lackW_two]; omega
  obtain ⟨s', e, h1, h2⟩ := step_spec (still := stillP prs g.ps) (ws := g.ws) (fl := fl) h hf (by omega) hl gi.load (fun w hm hr => by
    obtain ⟨a1, a2, a3⟩ := sp.each w hm hr
    rw [lk w hm] at a1 a3
    exact ⟨Nat.dvd_of_mod_eq_zero a1, Nat.dvd_trans (gr_pow hk) a3⟩) (still_rate hw hj gi.part hs)
  have : s' = s := by
    obtain ⟨x, w, e1, hm, hr, hx, hall⟩ := wait_spec (ws := g.ws) (still_rate hw hj gi.part hs)
    rw [sp.wait] at e1
    cases e1
    have cast : ∀ v ∈ N.ways, 0 < rateW v g.ps (stillP prs g.ps) → lackW v g.ws / (rateW v g.ps (stillP prs g.ps) : Int) = ((leftU g.ps (stillP prs g.ps) g.ws v : Nat) : Int) := fun v hv hp => by
      have := gi.load v hv
      unfold leftU
      rw [lackW_two, Int.natCast_ediv]
      congr 1
      omega
    rw [cast w hm hr] at hx
    have hx : s = leftU g.ps (stillP prs g.ps) g.ws w := Int.ofNat.inj hx
    refine Nat.le_antisymm ?_ ?_
    · rw [hx]
      exact h2 _ (List.mem_map.mpr ⟨w, List.mem_filter.mpr ⟨hm, decide_eq_true hr⟩, rfl⟩)
    · obtain ⟨v, hv, e2⟩ := List.mem_map.mp h1
      obtain ⟨hv1, hv2⟩ := List.mem_filter.mp hv
      have := hall v hv1 (of_decide_eq_true hv2)
      rw [cast v hv1 (of_decide_eq_true hv2), e2] at this
      omega
  rw [← this]
  exact e
noncomputable def growB : SF := (sSeq (sSet 1 (eMeth "PairGrowth" "still_open" 1 f_PairGrowth_still_open (eVar 0) aNil))
    (sSeq (sExpr (eMeth "PairGrowth" "pass_time" 3 f_PairGrowth_pass_time (eVar 0) (aCons (eMeth "PairGrowth" "step" 2 f_PairGrowth_step (eVar 0) (aCons (eVar 1) aNil)) (aCons (eVar 1) aNil))))
    (sSeq (sSet 2 (eCb (pure1 gLen) (aCons (eFld "PairGrowth" (eVar 0) "taken") aNil)))
    (sSeq (sExpr (eMeth "PairGrowth" "take_full_ways" 1 f_PairGrowth_take_full_ways (eVar 0) aNil))
    (sSeq (sExpr (eMeth "PairGrowth" "rested" 1 f_PairGrowth_rested (eVar 0) aNil))
    (sIf (bBin oGt (eCb (pure1 gLen) (aCons (eFld "PairGrowth" (eVar 0) "taken") aNil)) (eVar 2)) (sExpr (eLm mAppend (eFld "PairGrowth" (eVar 0) "rows") (aCons (eTup (aCons (eFld "PairGrowth" (eVar 0) "time") (aCons (eFld "PairGrowth" (eVar 0) "parts") (aCons (eMeth "PairGrowth" "still_open" 1 f_PairGrowth_still_open (eVar 0) aNil) aNil)))) aNil))) sNext))))))
/-- one turn of the program -/
theorem grow_turn {k : Nat} {tm : D} {x1 x2 : Option D} (hw : WaysOk N) (h0 : 0 < N.n) (hn : N.n ≤ 12) (hl : N.ways.length ≤ 900) (hp : prs.length ≤ 1000) (hj : JoinAll N prs) (gi : GInv N k g) (hs : stillP prs g.ps ≠ []) (ht : isU tm g.t) (hf : FlU N fl fun i => loadW (wayAt N i) g.ws) :
    ∃ y1 y2 fl', growB [some (.loc S0.length), x1, x2] (pgS S0 N prs tm g.ps fl g.ws g.tk (rwD g.rows)) = .nx [some (.loc S0.length), y1, y2] (pgG S0 N prs (turnG N prs g) fl' (rwD (turnG N prs g).rows)) ∧ FlU N fl' fun i => loadW (wayAt N i) (turnG N prs g).ws := by
  have pl := len_le_n gi
  have ppos : 0 < g.ps.length := by
    obtain ⟨p, hm⟩ := List.exists_mem_of_ne_nil _ hs
    exact List.length_pos_iff_exists_mem.mpr ⟨p, (List.mem_filter.mp hm).1⟩
  have hk : k + 1 ≤ 12 := by have := gi.kn; omega
  have hst : (stillP prs g.ps).length ≤ g.ps.length := List.length_filter_le _ _
  obtain ⟨s, es, sp⟩ := span_spec hw hj (by omega) gi hs
  obtain ⟨p1, p2, p3, p4, p5, p6, p7⟩ := pass_inv gi sp hn
  have stp := step_span (fl := fl) (S := pgS S0 N prs tm g.ps fl g.ws g.tk (rwD g.rows)) hw hl hn hj hk gi hs sp pg0 hf.at
  have gs : gr ∣ s := Nat.dvd_trans (gr_pow hk) sp.dv
  obtain ⟨fl', ep, hf'⟩ := pass_spec (S0 := S0) (prs := prs) (tm := tm) (ps := g.ps) (still := stillP prs g.ps) (fl := fl) (ws := g.ws) (tk := g.tk) (rw := rwD g.rows) (s := s) (t := g.t) hl (by omega) gi.nd (by have := gi.wl; omega) hf gs (fun e he => Nat.dvd_trans (gr_pow (by omega)) (gi.dv e he)) ht (okDs_rw _ _)
  have hf2 : FlU N fl' fun i => loadW (wayAt N i) (passG prs s g).ws := by
    refine ⟨hf'.len, fun i hi => ?_⟩
    obtain ⟨x, hx, ux⟩ := hf'.u i hi
    refine ⟨x, hx, ?_⟩
    show isU x (loadW (wayAt N i) (widenP s (stillP prs g.ps) g.ws))
    rw [load_widen hw gi.part (wayAt_in hi) gi.nd]
    exact ux
  have tk := take_spec hw h0 N.n (passG prs s g) p1
  have et := take_full_spec (S0 := S0) (prs := prs) (g := passG prs s g) (fl := fl') (rw := rwD g.rows) hw h0 hn hl p1 pl (by show g.tk.length + g.ps.length ≤ 500; have := gi.tl; omega) hf2 (okDs_rw _ _)
  have hfull : fullK N (passG prs s g).ps (passG prs s g).ws ≠ none := by
    obtain ⟨w, hm, h1, h2, _⟩ := sp.full
    exact fun z => full_none z hm ⟨h1, h2⟩
  have hless := tk.less h0 hfull
  obtain ⟨g', hg'⟩ : ∃ g', g' = takeG N N.n (passG prs s g) := ⟨_, rfl⟩
  have se : turnG N prs g = rowG prs g' := by unfold turnG; rw [es, hg']
  rw [← hg'] at tk et hless
  have hps : (passG prs s g).ps.length = g.ps.length := rfl
  have htk : (passG prs s g).tk.length = g.tk.length := rfl
  have more : g.tk.length < g'.tk.length := by have := tk.tl; omega
  have tkl : g'.tk.length ≤ 500 := by have := tk.tl; have := gi.tl; omega
  have rl : g.rows.length = k + 1 := gi.rl
  have rne : g.rows ≠ [] := fun z => by rw [z] at rl; cases rl
  have pl' : g'.ps.length ≤ 12 := by omega
  refine ⟨some (.tup (partsL (stillP prs g.ps))), some (.int g.tk.length), fl', ?_, ?_⟩
  · unfold growB
    refine q_set (d := .tup (partsL (stillP prs g.ps))) (eMeth_ok (eVar_ok rfl) pg0.h0 rfl aNil_ok rfl (still_open_spec pg0 hp (by omega))) ?_
    refine q_expr (d := .non) (eMeth_ok (eVar_ok rfl) pg0.h0 rfl (aCons_ok (eMeth_ok (eVar_ok rfl) pg0.h0 rfl (aCons_ok (eVar_ok rfl) aNil_ok) rfl stp) (aCons_ok (eVar_ok rfl) aNil_ok)) rfl ep) ?_
    have ln : ∀ (T : List (Nat × Nat)) (a : D) (b : List (List Nat)) (c : List D) (d : Wid) (e : List D) (y1 y2 : Option D), (eCb (pure1 gLen) (aCons (eFld "PairGrowth" (eVar 0) "taken") aNil)) [some (.loc S0.length), y1, y2] (pgS S0 N prs a b c d T e) = .ok (.int T.length) (pgS S0 N prs a b c d T e) := by
      intro T a b c d e y1 y2
      have : gLen [.loc (S0.length + 3)] (pgS S0 N prs a b c d T e) = some (.int ((T.map tkD).length : Nat)) := gLen_seq (seqOf_loc pg3)
      rw [List.length_map] at this
      exact eCb_ok (aCons_ok (eFld_ok (eVar_ok rfl) pg0.h0 rfl) aNil_ok) (pure1_ok this)
    refine q_set (ln _ _ _ _ _ _ _ _) ?_
    refine q_expr (d := .non) (eMeth_ok (eVar_ok rfl) pg0.h0 rfl aNil_ok rfl et) ?_
    refine q_expr (d := .non) (eMeth_ok (eVar_ok rfl) pg0.h0 rfl aNil_ok rfl rested_spec) ?_
    have tt : (bBin oGt (eCb (pure1 gLen) (aCons (eFld "PairGrowth" (eVar 0) "taken") aNil)) (eVar 2)) [some (.loc S0.length), some (.tup (partsL (stillP prs g.ps))), some (.int g.tk.length)] (pgG S0 N prs g' fl' (rwD g.rows)) = .ok true (pgG S0 N prs g' fl' (rwD g.rows)) := by
      refine bBin_ok (ln _ _ _ _ _ _ _ _) (eVar_ok rfl) ?_
      rw [oGt_int, decide_eq_true (by omega)]
    refine (sIf_t tt).trans ?_
    have rw1 : D.tup [exD g'.t, .tup (partsL g'.ps), .tup (partsL (stillP prs g'.ps))] = rowD (g'.t, g'.ps, stillP prs g'.ps) := rfl
    refine (sExpr_ok (eApp_ok (n := S0.length + 4) (d := rowD (g'.t, g'.ps, stillP prs g'.ps)) (S1 := pgG S0 N prs g' fl' (rwD g.rows)) (S2 := pgG S0 N prs g' fl' (rwD g.rows)) (eFld_ok (eVar_ok rfl) pg0.h0 rfl) pg4 ?_ pg4 (by rw [rwD_len]; omega))).trans ?_
    · rw [← rw1]
      exact aCons_ok (eTup_ok (aCons_ok (eFld_ok (eVar_ok rfl) pg0.h0 rfl) (aCons_ok (eFld_ok (eVar_ok rfl) pg0.h0 rfl) (aCons_ok (eMeth_ok (eVar_ok rfl) pg0.h0 rfl aNil_ok rfl (still_open_spec pg0 hp (by omega))) aNil_ok))) (by simp only [List.length_cons, List.length_nil]; decide)) aNil_ok
    · have er : g'.rows = g.rows := by rw [tk.rows]; rfl
      rw [rwD_snoc rne, se]
      unfold rowG pgG
      rw [pg_set4, er]
  · rw [se]
    show FlU N fl' fun i => loadW (wayAt N i) g'.ws
    rw [tk.ws]
    exact hf2
theorem grow_spec {tm : D} (hw : WaysOk N) (h0 : 0 < N.n) (hn : N.n ≤ 12) (hl : N.ways.length ≤ 900) (hp : prs.length ≤ 1000) (hj : JoinAll N prs) (hf : FlU N fl fun i => loadW (wayAt N i) []) :
    ∃ tm' fl', f_PairGrowth_grow [.loc S0.length] (pgS S0 N prs zeroC (onesP N.n) fl [] [] []) = .ok .non (pgS S0 N prs tm' (growG N prs N.n (startG N prs)).ps fl' (growG N prs N.n (startG N prs)).ws (growG N prs N.n (startG N prs)).tk (rwD (growG N prs N.n (startG N prs)).rows)) ∧ isU tm' (growG N prs N.n (startG N prs)).t ∧ FlU N fl' fun i => loadW (wayAt N i) (growG N prs N.n (startG N prs)).ws := by
  have ol : (onesP N.n).length ≤ 1000 := by rw [ones_len]; omega
  obtain ⟨ρ', S', e, tm', fl', rfl, ht', hf'⟩ := while_inv (t := (bVal (eMeth "PairGrowth" "still_open" 1 f_PairGrowth_still_open (eVar 0) aNil))) (f := growB)
    (fun m ρ S => ∃ k g tm fl x1 x2, ρ = [some (.loc S0.length), x1, x2] ∧ S = pgS S0 N prs tm g.ps fl g.ws g.tk (rwD g.rows) ∧ GInv N k g ∧ isU tm g.t ∧ (FlU N fl fun i => loadW (wayAt N i) g.ws) ∧ N.n ≤ k + m ∧ growG N prs m g = growG N prs N.n (startG N prs))
    (fun ρ S => ∃ tm' fl', S = pgS S0 N prs tm' (growG N prs N.n (startG N prs)).ps fl' (growG N prs N.n (startG N prs)).ws (growG N prs N.n (startG N prs)).tk (rwD (growG N prs N.n (startG N prs)).rows) ∧ isU tm' (growG N prs N.n (startG N prs)).t ∧ FlU N fl' fun i => loadW (wayAt N i) (growG N prs N.n (startG N prs)).ws) (by
      rintro m ρ S ⟨k, g, tm, fl, x1, x2, rfl, rfl, gi, ht, hf, hm, he⟩
      have pl := len_le_n gi
      have tv : (bVal (eMeth "PairGrowth" "still_open" 1 f_PairGrowth_still_open (eVar 0) aNil)) [some (.loc S0.length), x1, x2] (pgS S0 N prs tm g.ps fl g.ws g.tk (rwD g.rows)) = .ok (!(stillP prs g.ps).isEmpty) (pgS S0 N prs tm g.ps fl g.ws g.tk (rwD g.rows)) :=
        bVal_tru (eMeth_ok (eVar_ok rfl) pg0.h0 rfl aNil_ok rfl (still_open_spec pg0 hp (by omega))) truD_still
      by_cases hs : stillP prs g.ps = []
      · left
        refine ⟨tv.trans (by rw [hs]; rfl), tm, fl, ?_, ?_, ?_⟩
        · rw [← he, fix_grow hs]
        · rw [← he, fix_grow hs]; exact ht
        · rw [← he, fix_grow hs]; exact hf
      · right
        have ppos : 0 < g.ps.length := by
          obtain ⟨p, hm⟩ := List.exists_mem_of_ne_nil _ hs
          exact List.length_pos_iff_exists_mem.mpr ⟨p, (List.mem_filter.mp hm).1⟩
        obtain ⟨m', rfl⟩ : ∃ m', m = m' + 1 := ⟨m - 1, by have := gi.kn; omega⟩
        obtain ⟨y1, y2, fl', e1, hf1⟩ := grow_turn (S0 := S0) (x1 := x1) (x2 := x2) hw h0 hn hl hp hj gi hs ht hf
        have gt := turn_inv hw hj h0 hn (by have := gi.kn; omega) gi hs
        refine ⟨_, _, m', tv.trans ?_, e1, by omega, k + 1, turnG N prs g, _, fl', y1, y2, rfl, rfl, gt, ?_, hf1, by omega, ?_⟩
        · rw [show (stillP prs g.ps).isEmpty = false from by cases h : stillP prs g.ps with | nil => exact absurd h hs | cons a l => rfl]
          rfl
        · exact isU_ex (Nat.dvd_trans (gr_pow (by have := gi.kn; omega)) gt.dt)
        · rw [← he]
          unfold growG
          rw [if_neg hs]
          cases m' <;> rfl)
    N.n bigW [some (.loc S0.length), none, none] (pgS S0 N prs zeroC (onesP N.n) fl [] [] (rwD (startG N prs).rows)) ⟨0, startG N prs, zeroC, fl, none, none, rfl, rfl, start_inv hw, isU_zero, hf, by omega, rfl⟩ (big_ok (by omega))
  refine ⟨tm', fl', ?_, ht', hf'⟩
  have key : b_PairGrowth_grow [some (.loc S0.length), none, none] (pgS S0 N prs zeroC (onesP N.n) fl [] [] []) = .nx ρ' (pgS S0 N prs tm' (growG N prs N.n (startG N prs)).ps fl' (growG N prs N.n (startG N prs)).ws (growG N prs N.n (startG N prs)).tk (rwD (growG N prs N.n (startG N prs)).rows)) := by
    unfold b_PairGrowth_grow
    refine q_expr (eApp_ok (n := S0.length + 4) (d := row0 (0, onesP N.n, stillP prs (onesP N.n))) (S1 := pgS S0 N prs zeroC (onesP N.n) fl [] [] []) (S2 := pgS S0 N prs zeroC (onesP N.n) fl [] [] []) (eFld_ok (eVar_ok rfl) pg0.h0 rfl) pg4 ?_ pg4 (by decide)) ?_
    · exact aCons_ok (eTup_ok (aCons_ok (eFld_ok (eVar_ok rfl) pg0.h0 rfl) (aCons_ok (eFld_ok (eVar_ok rfl) pg0.h0 rfl) (aCons_ok (eMeth_ok (eVar_ok rfl) pg0.h0 rfl aNil_ok rfl (still_open_spec pg0 hp ol)) aNil_ok))) (by simp only [List.length_cons, List.length_nil]; decide)) aNil_ok
    · rw [pg_set4]
      exact e
  refine runF_nx key ?_
  have L : (pgS S0 N prs zeroC (onesP N.n) fl [] [] []).length = S0.length + 5 := pgS_len
  unfold pgS at L ⊢
  refine gc_two rfl rfl ?_
  rw [L]
  exact okC_pg (Nat.le_refl _) (ht'.okD _) (hf'.okD _) (okDs_rw _ _)
end
end Ev

namespace Ev
open PySem PySem.Spec PyProof.Rows L2
/-! ### a growth is made -/
theorem rep_nil {n x : Nat} (h : x < n) : rep n [] x = x := by
  unfold rep markOf
  simp only [List.foldl_nil]
  rw [List.getD_eq_getElem?_getD, List.getElem?_range h]
  rfl
theorem filter_eq_one {n p : Nat} (h : p < n) : (List.range n).filter (fun x => x == p) = [p] := by
  refine nodup_one (nodup_filter List.nodup_range) fun x => ?_
  rw [List.mem_filter, List.mem_range, beq_iff_eq]
  exact ⟨fun z => z.2, fun z => ⟨by rw [z]; exact h, z⟩⟩
theorem partsD_nil (n : Nat) : partsD n [] (List.range n) = partsL (onesP n) := by
  unfold partsD partsL onesP
  rw [List.map_map, List.filter_eq_self.mpr]
  · refine List.map_congr_left fun p hp => ?_
    have hp := List.mem_range.mp hp
    have : groupOf n [] p = [p] := by
      unfold groupOf
      rw [← filter_eq_one hp]
      refine List.filter_congr fun x hx => ?_
      rw [rep_nil (List.mem_range.mp hx)]
    rw [this]
    rfl
  · intro p hp
    rw [rep_nil (List.mem_range.mp hp)]
    exact beq_self_eq_true p
theorem gc_no2 {S S' : Sto} {d : D} {i : Nat} {c : Cel} (hi : i < S.length) (h1 : S'[i]? = some c) (h2 : S[i]? ≠ some c) (h3 : okC S.length c = false) : gc S d S' = .ok d S' := by
  unfold gc
  rw [if_neg]
  rintro ⟨_, _, z⟩
  rcases z i hi with z | ⟨c', z1, z2⟩
  · exact h2 (z.symm.trans h1)
  · rw [h1] at z1
    cases z1
    rw [h3] at z2
    cases z2
theorem eLstA_at {ρ : En} {S l : Sto} : eLstA aNil ρ (S ++ l) = .ok (.loc (S.length + l.length)) (S ++ (l ++ [.lst []])) := by rw [eLstA_nil, List.length_append, List.append_assoc]
theorem eDNew_at {ρ : En} {S l : Sto} : eDNew true ρ (S ++ l) = .ok (.loc (S.length + l.length)) (S ++ (l ++ [.dT []])) := by rw [eDNew_t, List.length_append, List.append_assoc]
theorem eLcA_at {ρ : En} {S l : Sto} {fi : IF} {tg : Tg} {tt : BF} {te : EF} {vs : List Nat} {k : Wk} {ds : List D} (h : fi ρ (S ++ l) = .ok k (S ++ l)) (h2 : lcGo k tg tt te (wipeD ρ vs) k.ds (S ++ l) = .ok ds (S ++ l)) (hl : ds.length ≤ sizeLine) : eLcA fi tg tt te vs ρ (S ++ l) = .ok (.loc (S.length + l.length)) (S ++ (l ++ [.lst ds])) := by
  rw [eLcA_ok h h2 hl, List.length_append, List.append_assoc]
section
variable {S0 S : Sto} {N : Net} {prs : List (Nat × Nat)} {most W : Nat}
theorem all_ways_spec (hl : N.ways.length ≤ 900) : f_all_ways [netD N] S = .ok (.tup (natD (allW N))) S := by
  refine runF_rt (S1 := S) (d := .tup (natD (allW N))) ?_ (gc_same (by simp only [okD]; exact okDs_nat _ _))
  show b_all_ways [some (netD N)] S = _
  unfold b_all_ways
  have ln : (eCb (pure1 gLen) (aCons (eBin oIx (eVar 0) (eC (.int 1))) aNil)) [some (netD N)] S = .ok (.int N.ways.length) S := by
    have : (eCb (pure1 gLen) (aCons (eBin oIx (eVar 0) (eC (.int 1))) aNil)) [some (netD N)] S = .ok (.int ((N.ways.map wayD).length : Nat)) S := eCb_ok (aCons_ok (eBin_ok (eVar_ok rfl) eC_ok netD_1) aNil_ok) (pure1_ok (gLen_seq seqOf_tup))
    rw [List.length_map] at this
    exact this
  exact sRet_ok (eCb_ok (aCons_ok (eLr1_ok ln (by omega)) aNil_ok) (pure1_ok rfl))
theorem Net.Ok.waysOk (h : N.Ok most W) : WaysOk N := h.ways
def fl0 (N : Net) : List D := N.ways.map fun _ => zeroC
theorem fl0_ok (N : Net) : FlU N (fl0 N) fun i => loadW (wayAt N i) [] := by
  refine ⟨List.length_map _, fun i hi => ⟨zeroC, ?_, isU_zero⟩⟩
  unfold fl0
  rw [List.getElem?_map, ways_at hi]
  rfl
def pgF0 (N : Net) (b : Nat) : List (Str × D) :=
  [("net", netD N), ("ways", .tup (N.ways.map wayD)), ("time", zeroC), ("parts", .tup (partsL (onesP N.n))), ("filled", .loc (b + 1)), ("widths", .loc (b + 2)), ("taken", .loc (b + 3)), ("rows", .loc (b + 4))]
theorem ginit_spec (hm : most ≤ 1000) (hN : N.Ok most W) (hl : N.ways.length ≤ 900) :
    f_PairGrowth_Growth_init [.loc S0.length, netD N] (S0 ++ [.ins "PairGrowth" []]) = .ok .non (S0 ++ [.ins "PairGrowth" (pgF0 N S0.length), .lst (fl0 N), .dT [], .lst [], .lst []]) := by
  have gs : ∀ S, f_groups [netD N, .tup []] S = .ok (.tup (partsL (onesP N.n))) S := fun S => by
    have := groups_specC (c := []) (cd := .tup []) S (.inl rfl) hm hN (no_choice N)
    rw [show edges N [] = [] from rfl, partsD_nil] at this
    exact this
  have key : b_PairGrowth_Growth_init [some (.loc S0.length), some (netD N), none] (S0 ++ [.ins "PairGrowth" []]) = .nx [some (.loc S0.length), some (netD N), none] (S0 ++ [.ins "PairGrowth" (pgF0 N S0.length), .lst (fl0 N), .dT [], .lst [], .lst []]) := by
    unfold b_PairGrowth_Growth_init
    refine q_nx (sFld_ok (d := netD N) (eVar_ok rfl) (eVar_ok rfl) app_get0 (by decide)) ?_
    rw [app_set0]
    refine q_nx (sFld_ok (d := .tup (N.ways.map wayD)) (eBin_ok (eVar_ok rfl) eC_ok netD_1) (eVar_ok rfl) app_get0 (by show 1 < 1000; decide)) ?_
    rw [app_set0]
    refine q_nx (sFld_ok (d := zeroC) eC_ok (eVar_ok rfl) app_get0 (by show 2 < 1000; decide)) ?_
    rw [app_set0]
    refine q_nx (sFld_ok (d := .tup (partsL (onesP N.n))) (eCall_ok (aCons_ok (eVar_ok rfl) (aCons_ok (eTup_ok aNil_ok (by decide)) aNil_ok)) rfl (gs _)) (eVar_ok rfl) app_get0 (by show 3 < 1000; decide)) ?_
    rw [app_set0]
    refine q_nx (sFld_ok (d := .loc (S0.length + 1)) (S1 := S0 ++ [_, .lst (fl0 N)]) (eLcA_at (k := ⟨N.ways.map wayD, none⟩) (iSeqD_tup (eFld_ok (eVar_ok rfl) app_get0 rfl)) (lcGo_mapN (f := wayD) (g := fun _ => zeroC) N.ways fun w _ => ⟨_, rfl, eC_ok⟩) (by rw [List.length_map]; exact sizeLine_ok (by omega))) (eVar_ok rfl) app_get0 (by show 4 < 1000; decide)) ?_
    rw [app_set0]
    refine q_nx (sFld_ok (d := .loc (S0.length + 2)) (S1 := S0 ++ [_, .lst (fl0 N), .dT []]) eDNew_at (eVar_ok rfl) app_get0 (by show 5 < 1000; decide)) ?_
    rw [app_set0]
    refine q_nx (sFld_ok (d := .loc (S0.length + 3)) (S1 := S0 ++ [_, .lst (fl0 N), .dT [], .lst []]) eLstA_at (eVar_ok rfl) app_get0 (by show 6 < 1000; decide)) ?_
    rw [app_set0]
    refine (sFld_ok (d := .loc (S0.length + 4)) (S1 := S0 ++ [_, .lst (fl0 N), .dT [], .lst [], .lst []]) eLstA_at (eVar_ok rfl) app_get0 (by show 7 < 1000; decide)).trans ?_
    rw [app_set0]
    rfl
  refine runF_nx key ?_
  refine gc_no2 (i := S0.length) (c := .ins "PairGrowth" (pgF0 N S0.length)) (by simp) app_get0 ?_ ?_
  · rw [app_get0]
    unfold pgF0
    simp
  · unfold okC pgF0
    simp [okD, okDs]
theorem sSup_ok {c : Str} {n i : Nat} {F : List D → Sto → R D} {fa : AF} {ρ : En} {S S1 S2 : Sto} {fs : List (Str × D)} {ds : List D} {d : D} (h : ρ[0]? = some (some (.loc i))) (h2 : S[i]? = some (.ins c fs)) (ha : fa ρ S = .ok ds S1) (hn : ds.length + 1 = n) (hF : F (.loc i :: ds) S1 = .ok d S2) : sSup c n F fa ρ S = .nx ρ S2 := by
  unfold sSup
  rw [h]
  simp only [h2, if_true]
  rw [ha]
  simp only [sB, hn, if_true]
  rw [hF]
theorem joinAll_firstAp {N : Net} {most W : Nat} {prs : List (Nat × Nat)} (hN : N.Ok most W) (hp : PrOk N.n prs) (hj : JoinAll N prs) : firstAp N.n (edges N (allW N)) prs = none := by
  unfold firstAp
  rw [List.findIdx?_eq_none_iff]
  intro q hq
  have hE := edges_ok hN (all_choice N)
  have h1 := hp q hq
  have : rep N.n (edges N (allW N)) q.1 = rep N.n (edges N (allW N)) q.2 := (rep_iff hE (by omega) h1.2).mpr (hj q hq)
  unfold joined
  rw [this, beq_self_eq_true]
  rfl
/-- what a growth leaves -/
structure PgEnd (S0 S : Sto) (N : Net) (prs : List (Nat × Nat)) (g : Gs) : Prop where
  ex : ∃ tm fl, S = pgS S0 N prs tm g.ps fl g.ws g.tk (rwD g.rows) ∧ isU tm g.t
theorem init_spec (hm : most ≤ 1000) (hN : N.Ok most W) (hn : N.n ≤ 12) (hl : N.ways.length ≤ 900) (hp : PrOk N.n prs) (pl : prs.length ≤ 1000) (hj : JoinAll N prs) :
    ∃ S, f_PairGrowth_init [.loc S0.length, netD N, pairsD prs] (S0 ++ [.ins "PairGrowth" []]) = .ok .non S ∧ PgEnd S0 S N prs (growG N prs N.n (startG N prs)) := by
  obtain ⟨tm, fl, eg, ht, hf⟩ := grow_spec (S0 := S0) (fl := fl0 N) (tm := zeroC) hN.ways hN.n1 hn hl pl hj (fl0_ok N)
  refine ⟨_, ?_, tm, fl, rfl, ht⟩
  have key : b_PairGrowth_init [some (.loc S0.length), some (netD N), some (pairsD prs), none, none] (S0 ++ [.ins "PairGrowth" []]) = .nx [some (.loc S0.length), some (netD N), some (pairsD prs), none, some .non] (pgS S0 N prs tm (growG N prs N.n (startG N prs)).ps fl (growG N prs N.n (startG N prs)).ws (growG N prs N.n (startG N prs)).tk (rwD (growG N prs N.n (startG N prs)).rows)) := by
    unfold b_PairGrowth_init
    refine q_nx (sSup_ok rfl app_get0 (aCons_ok (eVar_ok rfl) aNil_ok) rfl (ginit_spec hm hN hl)) ?_
    refine q_nx (sFld_ok (d := pairsD prs) (eVar_ok rfl) (eVar_ok rfl) app_get0 (by show 8 < 1000; decide)) ?_
    rw [app_set0]
    have s1 : S0 ++ [Cel.ins "PairGrowth" (pgF0 N S0.length), .lst (fl0 N), .dT [], .lst [], .lst []].set 0 (.ins "PairGrowth" (putD "pairs" (pairsD prs) (pgF0 N S0.length))) = pgS S0 N prs zeroC (onesP N.n) (fl0 N) [] [] [] := rfl
    rw [s1]
    have fa := first_apart_spec (c := allW N) (cd := .tup (natD (allW N))) (ps := prs) (pgS S0 N prs zeroC (onesP N.n) (fl0 N) [] [] []) (.inl rfl) hm hN (all_choice N) hp
    rw [joinAll_firstAp hN hp hj] at fa
    refine q_set (d := .non) (eCall_ok (aCons_ok (eVar_ok rfl) (aCons_ok (eVar_ok rfl) (aCons_ok (eCall_ok (aCons_ok (eVar_ok rfl) aNil_ok) rfl (all_ways_spec hl)) aNil_ok))) rfl fa) ?_
    refine q_nx (sIf_fn (bBin_ok (eVar_ok rfl) eC_ok rfl)) ?_
    exact sExpr_ok (eMeth_ok (eVar_ok rfl) pg0.h0 rfl aNil_ok rfl eg)
  refine runF_nx key (gc_no2 (i := S0.length) (c := .ins "PairGrowth" (pgF N prs S0.length tm (growG N prs N.n (startG N prs)).ps)) (by simp) app_get0 ?_ ?_)
  · rw [app_get0]
    unfold pgF
    simp
  · unfold okC pgF
    simp [okD, okDs]
theorem make_spec {fa : AF} {ρ : En} {S1 : Sto} (hm : most ≤ 1000) (hN : N.Ok most W) (hn : N.n ≤ 12) (hl : N.ways.length ≤ 900) (hp : PrOk N.n prs) (pl : prs.length ≤ 1000) (hj : JoinAll N prs) (ha : fa ρ S1 = .ok [netD N, pairsD prs] S0) :
    ∃ S, eMake "PairGrowth" 3 f_PairGrowth_init fa ρ S1 = .ok (.loc S0.length) S ∧ PgEnd S0 S N prs (growG N prs N.n (startG N prs)) := by
  obtain ⟨S, e, h⟩ := init_spec (S0 := S0) hm hN hn hl hp pl hj
  exact ⟨S, eMake_ok ha rfl e, h⟩
end
end Ev

namespace Ev
open PySem PySem.Spec PyProof.Rows L2
/-! ### tasks that are drawn -/
theorem pick3 {P : Pool} (a b c : Nat) (h0 : 0 ≤ P.pos) : ∃ (v : Nat) (P' : Pool), (v = a ∨ v = b ∨ v = c) ∧ 0 ≤ P'.pos ∧ f_law_pick [.loc 0, .lst [.int a, .int b, .int c]] [poolC P] = .ok (.int v) [poolC P'] := by
  obtain ⟨r, P', r0, r1, p', e⟩ := draw_spec (S := [poolC P]) (p := 0) (n := 3) rfl h0 (by omega) (by omega)
  have ln : (eCb (pure1 gLen) (aCons (eVar 1) aNil)) [some (.loc 0), some (.lst [.int a, .int b, .int c])] [poolC P] = .ok (.int 3) [poolC P] := by (repeat' first | ((with_reducible apply eVar_ok) <;> rfl) | (with_reducible exact eC_ok) | (with_reducible exact aNil_ok) | (with_reducible exact bYes_ok) | (with_reducible apply aCons_ok) | (with_reducible apply eBin_ok) | (with_reducible apply bBin_ok) | (with_reducible apply eCb_ok) | (with_reducible apply eCall_ok) | (with_reducible apply eCallD_ok) | (with_reducible apply bVal_ok) | (with_reducible apply bNot_ok) | (with_reducible apply eTup_ok) | (with_reducible apply eLst_ok) | (with_reducible apply eFld_ok) | (with_reducible apply eMeth_ok) | (with_reducible apply eIx_loc) | (with_reducible apply pure1_ok) | (with_reducible apply bOr_ok) | (with_reducible apply bAnd_ok) | (with_reducible apply eDGet2_ok) | (with_reducible apply eDGet_ok) | (exact (rfl : (_ : Nat) = _)) | (exact (rfl : lookD _ _ = _)) | ((with_reducible show (List.length _) ≤ 1000); simp only [List.length_cons, List.length_nil]; decide) | (exact oIx_tup.trans atI_0) | (exact oIx_tup.trans atI_1) | (exact oIx_tup.trans atI_2) | (exact oIn_part) | (exact oIn_parts (.inl rfl)) | (exact oIn_parts (.inr rfl)) | (exact oNotIn_parts (.inl rfl)) | (exact oNotIn_parts (.inr rfl)) | (exact oNe_bl) | (exact oAdd_int) | (exact oSub_int) | (exact oLt_int) | (exact oGt_int) | (exact oLe_int) | (exact oGe_int) | (exact oEq_int) | (exact oNe_int) | (exact gLen_seq seqOf_tup) | (exact gLen_seq seqOf_lst) | ((with_reducible show _ = _); with_reducible assumption))
  have key : ∀ v, oIx (.lst [.int a, .int b, .int c]) (.int r) [poolC P'] = some (.int v) → f_law_pick [.loc 0, .lst [.int a, .int b, .int c]] [poolC P] = .ok (.int v) [poolC P'] := fun v hv => by
    refine runF_rt (S1 := [poolC P']) (d := .int v) ?_ (gc_put (S := [poolC P]) (p := 0) rfl (okC_pool _ P'))
    show b_law_pick [some (.loc 0), some (.lst [.int a, .int b, .int c])] [poolC P] = _
    unfold b_law_pick
    exact sRet_ok (eBin_ok (eVar_ok rfl) (eCall_ok (aCons_ok (eVar_ok rfl) (aCons_ok ln aNil_ok)) rfl e) hv)
  rcases (by omega : r = 0 ∨ r = 1 ∨ r = 2) with rfl | rfl | rfl
  · exact ⟨a, P', .inl rfl, p', key a (oIx_lst.trans atI_0)⟩
  · exact ⟨b, P', .inr (.inl rfl), p', key b (oIx_lst.trans atI_1)⟩
  · exact ⟨c, P', .inr (.inr rfl), p', key c (oIx_lst.trans atI_2)⟩
theorem joins_one {N : Net} {most W : Nat} {q : Nat × Nat} (hN : N.Ok most W) (h : q.1 < N.n ∧ q.2 < N.n) (hj : joinsB N (allW N) [q] = true) : Con (edges N (allW N)) q.1 q.2 := by
  unfold joinsB at hj
  rw [List.all_cons, List.all_nil, Bool.and_true] at hj
  unfold joined at hj
  exact (rep_iff (edges_ok hN (all_choice N)) h.1 h.2).mp (beq_iff_eq.mp hj)
theorem task_spec {most W : Nat} (hm : 1 ≤ most) (hm2 : most ≤ 12) (hW : W ≤ 24) {P : Pool} (h0 : 0 ≤ P.pos) :
    ∃ (N : Net) (prs : List (Nat × Nat)) (P' : Pool), N.Ok most W ∧ PrOk N.n prs ∧ prs.length ≤ 6 ∧ JoinAll N prs ∧ 0 ≤ P'.pos ∧ f_law_task [.loc 0, .int most, .int W] [poolC P] = .ok (.tup [netD N, pairsD prs]) [poolC P'] := by
  obtain ⟨N, P1, hN, p1, e1⟩ := net_spec hm hm2 hW h0
  have hn := hN.n2
  have hwl := hN.len
  obtain ⟨qs, P2, hq, ql, p2, e2⟩ := pairs_spec (n := N.n) (most := 6) (by omega) (by omega) p1
  have e2 : f_law_pairs [.loc 0, .int N.n, .int 6] [poolC P1] = .ok (pairsD qs) [poolC P2] := e2
  have hp : PrOk N.n (qs.filter fun q => joinsB N (allW N) [q]) := fun q h => hq q (List.mem_filter.mp h).1
  refine ⟨N, qs.filter fun q => joinsB N (allW N) [q], P2, hN, hp, Nat.le_trans (List.length_filter_le _ _) ql, fun q h => ?_, p2, ?_⟩
  · have h1 := hp q h
    exact joins_one hN (by omega) (List.mem_filter.mp h).2
  · have key : b_law_task [some (.loc 0), some (.int most), some (.int W), none, none, none, none, none] [poolC P] = .rt (.tup [netD N, pairsD (qs.filter fun q => joinsB N (allW N) [q])]) [poolC P2] := by
      unfold b_law_task
      refine q_set (d := netD N) (by (repeat' first | ((with_reducible apply eVar_ok) <;> rfl) | (with_reducible exact eC_ok) | (with_reducible exact aNil_ok) | (with_reducible exact bYes_ok) | (with_reducible exact e1) | (with_reducible apply aCons_ok) | (with_reducible apply eBin_ok) | (with_reducible apply bBin_ok) | (with_reducible apply eCb_ok) | (with_reducible apply eCall_ok) | (with_reducible apply eCallD_ok) | (with_reducible apply bVal_ok) | (with_reducible apply bNot_ok) | (with_reducible apply eTup_ok) | (with_reducible apply eLst_ok) | (with_reducible apply eFld_ok) | (with_reducible apply eMeth_ok) | (with_reducible apply eIx_loc) | (with_reducible apply pure1_ok) | (with_reducible apply bOr_ok) | (with_reducible apply bAnd_ok) | (with_reducible apply eDGet2_ok) | (with_reducible apply eDGet_ok) | (exact (rfl : (_ : Nat) = _)) | (exact (rfl : lookD _ _ = _)) | ((with_reducible show (List.length _) ≤ 1000); simp only [List.length_cons, List.length_nil]; decide) | (exact oIx_tup.trans atI_0) | (exact oIx_tup.trans atI_1) | (exact oIx_tup.trans atI_2) | (exact oIn_part) | (exact oIn_parts (.inl rfl)) | (exact oIn_parts (.inr rfl)) | (exact oNotIn_parts (.inl rfl)) | (exact oNotIn_parts (.inr rfl)) | (exact oNe_bl) | (exact oAdd_int) | (exact oSub_int) | (exact oLt_int) | (exact oGt_int) | (exact oLe_int) | (exact oGe_int) | (exact oEq_int) | (exact oNe_int) | (exact gLen_seq seqOf_tup) | (exact gLen_seq seqOf_lst) | ((with_reducible show _ = _); with_reducible assumption))) ?_
      refine q_set (d := pairsD qs) (by (repeat' first | ((with_reducible apply eVar_ok) <;> rfl) | (with_reducible exact eC_ok) | (with_reducible exact aNil_ok) | (with_reducible exact bYes_ok) | (with_reducible exact netD_0) | (with_reducible exact e2) | (with_reducible apply aCons_ok) | (with_reducible apply eBin_ok) | (with_reducible apply bBin_ok) | (with_reducible apply eCb_ok) | (with_reducible apply eCall_ok) | (with_reducible apply eCallD_ok) | (with_reducible apply bVal_ok) | (with_reducible apply bNot_ok) | (with_reducible apply eTup_ok) | (with_reducible apply eLst_ok) | (with_reducible apply eFld_ok) | (with_reducible apply eMeth_ok) | (with_reducible apply eIx_loc) | (with_reducible apply pure1_ok) | (with_reducible apply bOr_ok) | (with_reducible apply bAnd_ok) | (with_reducible apply eDGet2_ok) | (with_reducible apply eDGet_ok) | (exact (rfl : (_ : Nat) = _)) | (exact (rfl : lookD _ _ = _)) | ((with_reducible show (List.length _) ≤ 1000); simp only [List.length_cons, List.length_nil]; decide) | (exact oIx_tup.trans atI_0) | (exact oIx_tup.trans atI_1) | (exact oIx_tup.trans atI_2) | (exact oIn_part) | (exact oIn_parts (.inl rfl)) | (exact oIn_parts (.inr rfl)) | (exact oNotIn_parts (.inl rfl)) | (exact oNotIn_parts (.inr rfl)) | (exact oNe_bl) | (exact oAdd_int) | (exact oSub_int) | (exact oLt_int) | (exact oGt_int) | (exact oLe_int) | (exact oGe_int) | (exact oEq_int) | (exact oNe_int) | (exact gLen_seq seqOf_tup) | (exact gLen_seq seqOf_lst) | ((with_reducible show _ = _); with_reducible assumption))) ?_
      have ln : (eCb (pure1 gLen) (aCons (eBin oIx (eVar 3) (eC (.int 1))) aNil)) [some (.loc 0), some (.int most), some (.int W), some (netD N), some (pairsD qs), none, none, none] [poolC P2] = .ok (.int N.ways.length) [poolC P2] := by
        have : (eCb (pure1 gLen) (aCons (eBin oIx (eVar 3) (eC (.int 1))) aNil)) [some (.loc 0), some (.int most), some (.int W), some (netD N), some (pairsD qs), none, none, none] [poolC P2] = .ok (.int ((N.ways.map wayD).length : Nat)) [poolC P2] := eCb_ok (aCons_ok (eBin_ok (eVar_ok rfl) eC_ok netD_1) aNil_ok) (pure1_ok (gLen_seq seqOf_tup))
        rw [List.length_map] at this
        exact this
      refine q_set (d := .lst (natD (allW N))) (eLc_m (xs := allW N) (F := fun (x : Nat) => D.int x) (G := fun (x : Nat) => D.int x) (k := ⟨natD (List.range N.ways.length), none⟩) (iRng1D_nat (aCons_ok ln aNil_ok) (by omega)) True.intro rfl (by unfold allW; rw [List.length_range]; omega) fun x _ => ⟨_, rfl, eVar_ok rfl⟩) ?_
      have lj : ∀ q ∈ qs, f_law_joins [netD N, .tup [pairD q], .lst (natD (allW N))] [poolC P2] = .ok (.bl (joinsB N (allW N) [q])) [poolC P2] := fun q hm => law_joins_spec (ps := [q]) _ (.inr rfl) (by omega) hN (all_choice N) (fun x hx => by rw [List.mem_singleton.mp hx]; exact hq q hm) (by simp only [List.length_cons, List.length_nil]; decide)
      have lc : ∀ ρ, ρ = [some (.loc 0), some (.int most), some (.int W), some (netD N), some (pairsD qs), some (.lst (natD (allW N))), none, none] → (eLc (iSeqD (eVar 4)) (.nm 7) (bVal (eCall 3 f_law_joins (aCons (eVar 3) (aCons (eTup (aCons (eVar 7) aNil)) (aCons (eVar 5) aNil))))) (eVar 7) [7]) ρ [poolC P2] = .ok (.lst ((qs.filter fun q => joinsB N (allW N) [q]).map pairD)) [poolC P2] := by
        rintro ρ rfl
        exact eLc_f (xs := qs) (F := pairD) (c := fun q => joinsB N (allW N) [q]) (G := pairD) (iSeqD_tup (eVar_ok rfl)) True.intro rfl (by omega) fun q hm => ⟨_, rfl, by (repeat' first | ((with_reducible apply eVar_ok) <;> rfl) | (with_reducible exact eC_ok) | (with_reducible exact aNil_ok) | (with_reducible exact bYes_ok) | (with_reducible exact lj q hm) | (with_reducible apply aCons_ok) | (with_reducible apply eBin_ok) | (with_reducible apply bBin_ok) | (with_reducible apply eCb_ok) | (with_reducible apply eCall_ok) | (with_reducible apply eCallD_ok) | (with_reducible apply bVal_ok) | (with_reducible apply bNot_ok) | (with_reducible apply eTup_ok) | (with_reducible apply eLst_ok) | (with_reducible apply eFld_ok) | (with_reducible apply eMeth_ok) | (with_reducible apply eIx_loc) | (with_reducible apply pure1_ok) | (with_reducible apply bOr_ok) | (with_reducible apply bAnd_ok) | (with_reducible apply eDGet2_ok) | (with_reducible apply eDGet_ok) | (exact (rfl : (_ : Nat) = _)) | (exact (rfl : lookD _ _ = _)) | ((with_reducible show (List.length _) ≤ 1000); simp only [List.length_cons, List.length_nil]; decide) | (exact oIx_tup.trans atI_0) | (exact oIx_tup.trans atI_1) | (exact oIx_tup.trans atI_2) | (exact oIn_part) | (exact oIn_parts (.inl rfl)) | (exact oIn_parts (.inr rfl)) | (exact oNotIn_parts (.inl rfl)) | (exact oNotIn_parts (.inr rfl)) | (exact oNe_bl) | (exact oAdd_int) | (exact oSub_int) | (exact oLt_int) | (exact oGt_int) | (exact oLe_int) | (exact oGe_int) | (exact oEq_int) | (exact oNe_int) | (exact gLen_seq seqOf_tup) | (exact gLen_seq seqOf_lst) | ((with_reducible show _ = _); with_reducible assumption)), fun _ => by (repeat' first | ((with_reducible apply eVar_ok) <;> rfl) | (with_reducible exact eC_ok) | (with_reducible exact aNil_ok) | (with_reducible exact bYes_ok) | (with_reducible apply aCons_ok) | (with_reducible apply eBin_ok) | (with_reducible apply bBin_ok) | (with_reducible apply eCb_ok) | (with_reducible apply eCall_ok) | (with_reducible apply eCallD_ok) | (with_reducible apply bVal_ok) | (with_reducible apply bNot_ok) | (with_reducible apply eTup_ok) | (with_reducible apply eLst_ok) | (with_reducible apply eFld_ok) | (with_reducible apply eMeth_ok) | (with_reducible apply eIx_loc) | (with_reducible apply pure1_ok) | (with_reducible apply bOr_ok) | (with_reducible apply bAnd_ok) | (with_reducible apply eDGet2_ok) | (with_reducible apply eDGet_ok) | (exact (rfl : (_ : Nat) = _)) | (exact (rfl : lookD _ _ = _)) | ((with_reducible show (List.length _) ≤ 1000); simp only [List.length_cons, List.length_nil]; decide) | (exact oIx_tup.trans atI_0) | (exact oIx_tup.trans atI_1) | (exact oIx_tup.trans atI_2) | (exact oIn_part) | (exact oIn_parts (.inl rfl)) | (exact oIn_parts (.inr rfl)) | (exact oNotIn_parts (.inl rfl)) | (exact oNotIn_parts (.inr rfl)) | (exact oNe_bl) | (exact oAdd_int) | (exact oSub_int) | (exact oLt_int) | (exact oGt_int) | (exact oLe_int) | (exact oGe_int) | (exact oEq_int) | (exact oNe_int) | (exact gLen_seq seqOf_tup) | (exact gLen_seq seqOf_lst) | ((with_reducible show _ = _); with_reducible assumption))⟩
      exact sRet_ok (eTup_ok (aCons_ok (eVar_ok rfl) (aCons_ok (eCb_ok (aCons_ok (lc _ rfl) aNil_ok) (pure1_ok rfl)) aNil_ok)) (by simp only [List.length_cons, List.length_nil]; decide))
    exact runF_rt (S1 := [poolC P2]) key (gc_put (S := [poolC P]) (p := 0) (by unfold netD pairsD; simp only [okD, okDs, okD_ways, okDs_pairs, Bool.and_self]) (okC_pool _ P2))
theorem any_task_spec {P : Pool} (h0 : 0 ≤ P.pos) :
    ∃ (N : Net) (prs : List (Nat × Nat)) (P' : Pool), N.Ok 12 24 ∧ PrOk N.n prs ∧ prs.length ≤ 6 ∧ JoinAll N prs ∧ 0 ≤ P'.pos ∧ f_law_any_task [.loc 0] [poolC P] = .ok (.tup [netD N, pairsD prs]) [poolC P'] := by
  obtain ⟨m, P1, hm, p1, e1⟩ := pick3 6 10 12 h0
  obtain ⟨W, P2, hW, p2, e2⟩ := pick3 9 18 24 p1
  obtain ⟨N, prs, P3, hN, hp, hl, hj, p3, e3⟩ := task_spec (most := m) (W := W) (by omega) (by omega) (by omega) p2
  have e1 : f_law_pick [.loc 0, .lst [.int 6, .int 10, .int 12]] [poolC P] = .ok (.int m) [poolC P1] := e1
  have e2 : f_law_pick [.loc 0, .lst [.int 9, .int 18, .int 24]] [poolC P1] = .ok (.int W) [poolC P2] := e2
  refine ⟨N, prs, P3, ⟨hN.n1, by have := hN.n2; omega, by have := hN.len; omega, hN.ways⟩, hp, hl, hj, p3, ?_⟩
  have key : b_law_any_task [some (.loc 0)] [poolC P] = .rt (.tup [netD N, pairsD prs]) [poolC P3] := by
    unfold b_law_any_task
    exact sRet_ok (by (repeat' first | ((with_reducible apply eVar_ok) <;> rfl) | (with_reducible exact eC_ok) | (with_reducible exact aNil_ok) | (with_reducible exact bYes_ok) | (with_reducible exact e1) | (with_reducible exact e2) | (with_reducible exact e3) | (with_reducible apply aCons_ok) | (with_reducible apply eBin_ok) | (with_reducible apply bBin_ok) | (with_reducible apply eCb_ok) | (with_reducible apply eCall_ok) | (with_reducible apply eCallD_ok) | (with_reducible apply bVal_ok) | (with_reducible apply bNot_ok) | (with_reducible apply eTup_ok) | (with_reducible apply eLst_ok) | (with_reducible apply eFld_ok) | (with_reducible apply eMeth_ok) | (with_reducible apply eIx_loc) | (with_reducible apply pure1_ok) | (with_reducible apply bOr_ok) | (with_reducible apply bAnd_ok) | (with_reducible apply eDGet2_ok) | (with_reducible apply eDGet_ok) | (exact (rfl : (_ : Nat) = _)) | (exact (rfl : lookD _ _ = _)) | ((with_reducible show (List.length _) ≤ 1000); simp only [List.length_cons, List.length_nil]; decide) | (exact oIx_tup.trans atI_0) | (exact oIx_tup.trans atI_1) | (exact oIx_tup.trans atI_2) | (exact oIn_part) | (exact oIn_parts (.inl rfl)) | (exact oIn_parts (.inr rfl)) | (exact oNotIn_parts (.inl rfl)) | (exact oNotIn_parts (.inr rfl)) | (exact oNe_bl) | (exact oAdd_int) | (exact oSub_int) | (exact oLt_int) | (exact oGt_int) | (exact oLe_int) | (exact oGe_int) | (exact oEq_int) | (exact oNe_int) | (exact gLen_seq seqOf_tup) | (exact gLen_seq seqOf_lst) | ((with_reducible show _ = _); with_reducible assumption)))
  exact runF_rt (S1 := [poolC P3]) key (gc_put (S := [poolC P]) (p := 0) (by unfold netD pairsD; simp only [okD, okDs, okD_ways, okDs_pairs, Bool.and_self]) (okC_pool _ P3))
/-! equal answers -/
theorem same_rat (k : Nat) (u : Nat) (S : Sto) : f_law_sameN (k + 2) [exD u, exD u] S = .ok (.bl true) S := by
  unfold exD rD
  refine same_tup (k + 1) _ (by simp) S fun d hd => ?_
  rcases List.mem_cons.mp hd with rfl | hd
  · exact same_int k _ S
  · rw [List.mem_singleton.mp hd]
    exact same_int k _ S
theorem same_tk (k : Nat) (e : Nat × Nat) (S : Sto) : f_law_sameN (k + 3) [tkD e, tkD e] S = .ok (.bl true) S := by
  unfold tkD
  refine same_tup (k + 2) _ (by simp) S fun d hd => ?_
  rcases List.mem_cons.mp hd with rfl | hd
  · exact same_rat k _ S
  · rw [List.mem_singleton.mp hd]
    exact same_int (k + 1) _ S
theorem grow_tk_len {N : Net} {prs : List (Nat × Nat)} {m : Nat} (hw : WaysOk N) (hj : JoinAll N prs) (h0 : 0 < N.n) (hn : N.n ≤ 12) : (growG N prs N.n (startG N prs)).tk.length ≤ 12 := by
  obtain ⟨k, gi, _⟩ := grow_inv hw hj h0 hn N.n 0 (startG N prs) (start_inv hw) (by omega)
  have := gi.tl
  omega
end Ev

namespace Ev
open PySem PySem.Spec PyProof.Rows L2
/-! ### forests -/
theorem con_split {n : Nat} {E : List Edge} {e : Edge} {x y : Nat} (hE : Eok n E) (he : e.1 < n ∧ e.2 < n) (hx : x < n) (hy : y < n) (h : Con (e :: E) x y) : Con E x y ∨ (Con E x e.1 ∧ Con E e.2 y) ∨ (Con E x e.2 ∧ Con E e.1 y) := by
  classical
  have g := h (fun z => if Con E z e.2 then rep n E e.1 else rep n E z) fun d hd => by
    rcases List.mem_cons.mp hd with rfl | hd
    · rw [if_pos (Con.refl E d.2)]
      split <;> rfl
    · have hc : Con E d.1 d.2 := Con.edge hd
      have hr : rep n E d.1 = rep n E d.2 := (rep_iff hE (hE d hd).1 (hE d hd).2).mpr hc
      by_cases h1 : Con E d.1 e.2
      · rw [if_pos h1, if_pos (hc.symm.trans h1)]
      · rw [if_neg h1, if_neg (fun z => h1 (hc.trans z)), hr]
  by_cases h1 : Con E x e.2
  · rw [if_pos h1] at g
    by_cases h2 : Con E y e.2
    · exact .inl (h1.trans h2.symm)
    · rw [if_neg h2] at g
      exact .inr (.inr ⟨h1, (rep_iff hE he.1 hy).mp g⟩)
  · rw [if_neg h1] at g
    by_cases h2 : Con E y e.2
    · rw [if_pos h2] at g
      exact .inr (.inl ⟨(rep_iff hE hx he.1).mp g, h2.symm⟩)
    · rw [if_neg h2] at g
      exact .inl ((rep_iff hE hx hy).mp g)
def without (F : List Nat) (w : Nat) : List Nat := F.filter fun k => decide (k ≠ w)
theorem mem_without {F : List Nat} {w k : Nat} : k ∈ without F w ↔ k ∈ F ∧ k ≠ w := by
  unfold without
  rw [List.mem_filter, decide_eq_true_iff]
theorem edges_mono {N : Net} {F G : List Nat} (h : ∀ k ∈ F, k ∈ G) : ∀ e ∈ edges N F, e ∈ edges N G := fun e he => by
  obtain ⟨k, hk, rfl⟩ := List.mem_map.mp he
  exact List.mem_map.mpr ⟨k, h k hk, rfl⟩
def cn (N : Net) (F : List Nat) (x y : Nat) : Prop := Con (edges N F) x y
theorem cn.mono {N : Net} {F G : List Nat} {x y : Nat} (h : cn N F x y) (s : ∀ k ∈ F, k ∈ G) : cn N G x y := Con.mono h (edges_mono s)
theorem cn.way {N : Net} {F : List Nat} {w : Nat} (h : w ∈ F) : cn N F (wayAt N w).a (wayAt N w).b := Con.edge (List.mem_map.mpr ⟨w, h, rfl⟩)
theorem eok_edges {N : Net} {F : List Nat} (hw : WaysOk N) (hF : ∀ k ∈ F, k < N.ways.length) : Eok N.n (edges N F) := fun e he => by
  obtain ⟨k, hk, rfl⟩ := List.mem_map.mp he
  exact hw.ab (wayAt_in (hF k hk))
/-- a way that is taken out, or put in -/
theorem cn_split {N : Net} {F : List Nat} {w x y : Nat} (hw : WaysOk N) (hF : ∀ k ∈ F, k < N.ways.length) (hwl : w < N.ways.length) (hx : x < N.n) (hy : y < N.n) {G : List Nat} (hG : ∀ k ∈ G, k = w ∨ k ∈ F) (h : cn N G x y) :
    cn N F x y ∨ (cn N F x (wayAt N w).a ∧ cn N F (wayAt N w).b y) ∨ (cn N F x (wayAt N w).b ∧ cn N F (wayAt N w).a y) := by
  refine con_split (e := edgeAt N w) (eok_edges hw hF) (hw.ab (wayAt_in hwl)) hx hy ?_
  refine Con.mono h fun e he => ?_
  obtain ⟨k, hk, rfl⟩ := List.mem_map.mp he
  rcases hG k hk with rfl | h2
  · exact List.mem_cons_self
  · exact List.mem_cons_of_mem _ (List.mem_map.mpr ⟨k, h2, rfl⟩)
/-- no way is in a ring -/
def Forest (N : Net) (F : List Nat) : Prop := ∀ w ∈ F, ¬ cn N (without F w) (wayAt N w).a (wayAt N w).b
theorem Forest.sub {N : Net} {F G : List Nat} (h : Forest N F) (s : ∀ k ∈ G, k ∈ F) : Forest N G := fun w hw hc =>
  h w (s w hw) (hc.mono fun k hk => mem_without.mpr ⟨s k (mem_without.mp hk).1, (mem_without.mp hk).2⟩)
theorem Forest.snoc {N : Net} {F : List Nat} {w : Nat} (hw : WaysOk N) (hF : ∀ k ∈ F, k < N.ways.length) (hwl : w < N.ways.length) (h : Forest N F) (hn : ¬ cn N F (wayAt N w).a (wayAt N w).b) : Forest N (F ++ [w]) := by
  have hwF : w ∉ F := fun z => hn (cn.way z)
  intro v hv hc
  have ab := hw.ab (wayAt_in hwl)
  rcases List.mem_append.mp hv with hv | hv
  · have vl := hF v hv
    have vb := hw.ab (wayAt_in vl)
    have sub : ∀ k ∈ without F v, k ∈ F := fun k hk => (mem_without.mp hk).1
    rcases cn_split (F := without F v) (w := w) hw (fun k hk => hF k (sub k hk)) hwl vb.1 vb.2 (fun k hk => by
      obtain ⟨h1, h2⟩ := mem_without.mp hk
      rcases List.mem_append.mp h1 with h1 | h1
      · exact .inr (mem_without.mpr ⟨h1, h2⟩)
      · exact .inl (List.mem_singleton.mp h1)) hc with z | ⟨z1, z2⟩ | ⟨z1, z2⟩
    · exact h v hv z
    · exact hn (((z1.mono sub).symm.trans (cn.way hv)).trans (z2.mono sub).symm)
    · exact hn ((z2.mono sub).trans (Con.trans (Con.symm (cn.way hv)) (z1.mono sub)))
  · rw [List.mem_singleton.mp hv] at hc
    refine hn (hc.mono fun k hk => ?_)
    obtain ⟨h1, h2⟩ := mem_without.mp hk
    rcases List.mem_append.mp h1 with h1 | h1
    · exact h1
    · exact absurd (List.mem_singleton.mp h1) h2
/-! ### what the growth has taken -/
def wys (g : Gs) : List Nat := g.tk.map (·.2)
structure FInv (N : Net) (g : Gs) : Prop where
  part : PartI N.n g.ps
  comp : ∀ x y, x < N.n → y < N.n → (cn N (wys g) x y ↔ ∃ p ∈ g.ps, x ∈ p ∧ y ∈ p)
  lt : ∀ k ∈ wys g, k < N.ways.length
  nd : (wys g).Nodup
  forest : Forest N (wys g)
  full : ∀ k ∈ wys g, lackW (wayAt N k) g.ws = 0
theorem one_finv {N : Net} {g : Gs} (hw : WaysOk N) (h : FInv N g) : FInv N (oneG N g) := by
  cases hf : fullK N g.ps g.ws with
  | none =>
    have : oneG N g = g := by simp only [oneG, hf]
    rw [this]; exact h
  | some i =>
    have eo : oneG N g = { g with ps := mergeP (wayAt N i) g.ps, tk := g.tk ++ [(g.t, i)] } := by simp only [oneG, hf]
    obtain ⟨hi1, hi0, hi2⟩ := full_some hf
    have ab := hw.ab (wayAt_in hi1)
    obtain ⟨p, q, hp, hq, hne, es, hpq, hc⟩ := h.part.two ab.1 ab.2 hi2
    have em : mergeP (wayAt N i) g.ps = joinP p q g.ps := by unfold mergeP; rw [es]
    have ew : wys (oneG N g) = wys g ++ [i] := by rw [eo]; unfold wys; rw [List.map_append]; rfl
    have hn : ¬ cn N (wys g) (wayAt N i).a (wayAt N i).b := fun z => by
      obtain ⟨r, hr, h1, h2⟩ := (h.comp _ _ ab.1 ab.2).mp z
      rcases hpq with ⟨h3, h4⟩ | ⟨h3, h4⟩
      · exact hne ((h.part.uniq hp hr h3 h1).trans (h.part.uniq hq hr h4 h2).symm)
      · exact hne ((h.part.uniq hp hr h3 h2).trans (h.part.uniq hq hr h4 h1).symm)
    have psE : (oneG N g).ps = joinP p q g.ps := by rw [eo]; exact em
    have pm := joinP_perm (ps := g.ps) p q
    have mm : ∀ x, x ∈ sortN (p ++ q) ↔ x ∈ p ∨ x ∈ q := fun x => ((sortN_perm _).mem_iff).trans List.mem_append
    have ip : ∀ x y, x < N.n → y < N.n → (∃ r ∈ g.ps, x ∈ r ∧ y ∈ r) → cn N (wys g ++ [i]) x y := fun x y hx hy hr => ((h.comp x y hx hy).mpr hr).mono fun k hk => List.mem_append_left _ hk
    have wi : cn N (wys g ++ [i]) (wayAt N i).a (wayAt N i).b := cn.way (List.mem_append_right _ (List.mem_singleton.mpr rfl))
    refine ⟨?_, ?_, ?_, ?_, ?_, ?_⟩
    · rw [psE]; exact (h.part.join hp hq hne).1
    · intro x y hx hy
      rw [ew, psE]
      constructor
      · intro hxy
        rcases cn_split (F := wys g) (w := i) hw h.lt hi1 hx hy (fun k hk => by
          rcases List.mem_append.mp hk with z | z
          · exact .inr z
          · exact .inl (List.mem_singleton.mp z)) hxy with z | ⟨z1, z2⟩ | ⟨z1, z2⟩
        · obtain ⟨r, hr, h1, h2⟩ := (h.comp x y hx hy).mp z
          by_cases hr2 : r ∈ [p, q]
          · refine ⟨_, pm.mem_iff.mpr List.mem_cons_self, ?_⟩
            simp only [List.mem_cons, List.not_mem_nil, or_false] at hr2
            rcases hr2 with rfl | rfl
            · exact ⟨(mm x).mpr (.inl h1), (mm y).mpr (.inl h2)⟩
            · exact ⟨(mm x).mpr (.inr h1), (mm y).mpr (.inr h2)⟩
          · exact ⟨r, pm.mem_iff.mpr (List.mem_cons_of_mem _ (List.mem_filter.mpr ⟨hr, by simpa using hr2⟩)), h1, h2⟩
        · obtain ⟨r1, hr1, a1, a2⟩ := (h.comp _ _ hx ab.1).mp z1
          obtain ⟨r2, hr2, b1, b2⟩ := (h.comp _ _ ab.2 hy).mp z2
          refine ⟨_, pm.mem_iff.mpr List.mem_cons_self, ?_⟩
          rcases hpq with ⟨h3, h4⟩ | ⟨h3, h4⟩
          · have e1 := h.part.uniq hr1 hp a2 h3
            have e2 := h.part.uniq hr2 hq b1 h4
            subst e1 e2
            exact ⟨(mm x).mpr (.inl a1), (mm y).mpr (.inr b2)⟩
          · have e1 := h.part.uniq hr1 hq a2 h4
            have e2 := h.part.uniq hr2 hp b1 h3
            subst e1 e2
            exact ⟨(mm x).mpr (.inr a1), (mm y).mpr (.inl b2)⟩
        · obtain ⟨r1, hr1, a1, a2⟩ := (h.comp _ _ hx ab.2).mp z1
          obtain ⟨r2, hr2, b1, b2⟩ := (h.comp _ _ ab.1 hy).mp z2
          refine ⟨_, pm.mem_iff.mpr List.mem_cons_self, ?_⟩
          rcases hpq with ⟨h3, h4⟩ | ⟨h3, h4⟩
          · have e1 := h.part.uniq hr1 hq a2 h4
            have e2 := h.part.uniq hr2 hp b1 h3
            subst e1 e2
            exact ⟨(mm x).mpr (.inr a1), (mm y).mpr (.inl b2)⟩
          · have e1 := h.part.uniq hr1 hp a2 h3
            have e2 := h.part.uniq hr2 hq b1 h4
            subst e1 e2
            exact ⟨(mm x).mpr (.inl a1), (mm y).mpr (.inr b2)⟩
      · rintro ⟨r, hr, h1, h2⟩
        rcases List.mem_cons.mp (pm.mem_iff.mp hr) with rfl | hr
        · have ta : ∀ z, z < N.n → z ∈ sortN (p ++ q) → cn N (wys g ++ [i]) z (wayAt N i).a := fun z hz hm => by
            rcases (mm z).mp hm with zp | zq
            · rcases hpq with ⟨h3, h4⟩ | ⟨h3, h4⟩
              · exact ip z _ hz ab.1 ⟨p, hp, zp, h3⟩
              · exact (ip z _ hz ab.2 ⟨p, hp, zp, h3⟩).trans wi.symm
            · rcases hpq with ⟨h3, h4⟩ | ⟨h3, h4⟩
              · exact (ip z _ hz ab.2 ⟨q, hq, zq, h4⟩).trans wi.symm
              · exact ip z _ hz ab.1 ⟨q, hq, zq, h4⟩
          exact (ta x hx h1).trans (ta y hy h2).symm
        · exact ip x y hx hy ⟨r, (List.mem_filter.mp hr).1, h1, h2⟩
    · intro k hk
      rw [ew] at hk
      rcases List.mem_append.mp hk with z | z
      · exact h.lt k z
      · rw [List.mem_singleton.mp z]; exact hi1
    · rw [ew, List.nodup_append]
      refine ⟨h.nd, by simp, fun a ha b hb e => ?_⟩
      rw [e, List.mem_singleton.mp hb] at ha
      exact hn (cn.way ha)
    · rw [ew]; exact h.forest.snoc hw h.lt hi1 hn
    · intro k hk
      rw [ew] at hk
      rw [eo]
      rcases List.mem_append.mp hk with z | z
      · exact h.full k z
      · rw [List.mem_singleton.mp z]; exact hi0
theorem take_finv {N : Net} (hw : WaysOk N) : ∀ (m : Nat) (g : Gs), FInv N g → FInv N (takeG N m g)
  | 0, g, h => h
  | m + 1, g, h => by rw [take_eq]; exact take_finv hw m _ (one_finv hw h)
theorem in_rate {N : Net} {g : Gs} {still : List (List Nat)} {k : Nat} (hw : WaysOk N) (h : FInv N g) (hk : k ∈ wys g) : rateW (wayAt N k) g.ps still = 0 := by
  have ab := hw.ab (wayAt_in (h.lt k hk))
  obtain ⟨r, hr, h1, h2⟩ := (h.comp _ _ ab.1 ab.2).mp (cn.way hk)
  have : sidesP (wayAt N k) g.ps = [] := by
    rcases h.part.sides ab.1 ab.2 with ⟨p, _, _, _, e⟩ | ⟨p, q, hp, hq, hne, _, hpq, _⟩
    · exact e
    · rcases hpq with ⟨h3, h4⟩ | ⟨h3, h4⟩
      · exact absurd ((h.part.uniq hp hr h3 h1).trans (h.part.uniq hq hr h4 h2).symm) hne
      · exact absurd ((h.part.uniq hp hr h3 h2).trans (h.part.uniq hq hr h4 h1).symm) hne
  unfold rateW
  rw [this]
  rfl
theorem pass_finv {N : Net} {prs : List (Nat × Nat)} {g : Gs} {s : Nat} (hw : WaysOk N) (nd : (g.ws.map (·.1)).Nodup) (h : FInv N g) : FInv N (passG prs s g) where
  part := h.part
  comp := h.comp
  lt := h.lt
  nd := h.nd
  forest := h.forest
  full k hk := by
    have h0 := h.full k hk
    show lackW (wayAt N k) (widenP s (stillP prs g.ps) g.ws) = 0
    rw [lackW_two] at h0 ⊢
    rw [load_widen hw h.part (wayAt_in (h.lt k hk)) nd, in_rate hw h hk, Nat.mul_zero]
    exact h0
theorem turn_finv {N : Net} {prs : List (Nat × Nat)} {g : Gs} (hw : WaysOk N) (nd : (g.ws.map (·.1)).Nodup) (h : FInv N g) : FInv N (turnG N prs g) := by
  have := take_finv hw N.n _ (pass_finv (prs := prs) (s := spanG N prs g) hw nd h)
  exact ⟨this.part, this.comp, this.lt, this.nd, this.forest, this.full⟩
theorem start_finv {N : Net} {prs : List (Nat × Nat)} (hw : WaysOk N) : FInv N (startG N prs) where
  part := ones_part N.n
  comp x y hx hy := by
    constructor
    · intro h
      have : x = y := by
        have := h (fun z => z) fun e he => by cases he
        exact this
      subst this
      exact ⟨[x], List.mem_map.mpr ⟨x, List.mem_range.mpr hx, rfl⟩, by simp, by simp⟩
    · rintro ⟨p, hp, h1, h2⟩
      obtain ⟨z, _, rfl⟩ := List.mem_map.mp hp
      rw [List.mem_singleton.mp h1, List.mem_singleton.mp h2]
      exact Con.refl _ _
  lt k hk := by cases hk
  nd := List.nodup_nil
  forest k hk := by cases hk
  full k hk := by cases hk
theorem grow_finv {N : Net} {prs : List (Nat × Nat)} (hw : WaysOk N) (hj : JoinAll N prs) (h0 : 0 < N.n) (hn : N.n ≤ 12) : ∀ (m k : Nat) (g : Gs), GInv N k g → FInv N g → FInv N (growG N prs m g)
  | 0, k, g, _, h => h
  | m + 1, k, g, gi, h => by
    rw [grow_eq]
    by_cases hs : stillP prs g.ps = []
    · have : stepG N prs g = g := by simp only [stepG, hs, if_true]
      rw [this]
      exact grow_finv hw hj h0 hn m k g gi h
    · have e : stepG N prs g = turnG N prs g := by simp only [stepG, hs, if_false]
      have ppos : 0 < g.ps.length := by
        obtain ⟨p, hm⟩ := List.exists_mem_of_ne_nil _ hs
        exact List.length_pos_iff_exists_mem.mpr ⟨p, (List.mem_filter.mp hm).1⟩
      rw [e]
      exact grow_finv hw hj h0 hn m (k + 1) _ (turn_inv hw hj h0 hn (by have := gi.kn; omega) gi hs) (turn_finv hw gi.nd h)
end Ev

namespace Ev
open PySem PySem.Spec PyProof.Rows L2
/-! ### the told ways, plain -/
def JoinC (N : Net) (c : List Nat) (prs : List (Nat × Nat)) : Prop := ∀ q ∈ prs, cn N c q.1 q.2
theorem JoinC.mono {N : Net} {c d : List Nat} {prs : List (Nat × Nat)} (h : JoinC N c prs) (s : ∀ k ∈ c, k ∈ d) : JoinC N d prs := fun q hq => (h q hq).mono s
theorem joinsB_iff {N : Net} {c : List Nat} {prs : List (Nat × Nat)} (hw : WaysOk N) (hc : ∀ k ∈ c, k < N.ways.length) (hp : PrOk N.n prs) : joinsB N c prs = true ↔ JoinC N c prs := by
  unfold joinsB JoinC joined
  rw [List.all_eq_true]
  refine forall_congr' fun q => forall_congr' fun hq => ?_
  have h1 := hp q hq
  rw [beq_iff_eq]
  exact rep_iff (eok_edges hw hc) (by omega) h1.2
def delP (N : Net) (prs : List (Nat × Nat)) (K : List Nat) (w : Nat) : List Nat := if joinsB N (without K w) prs = true then without K w else K
def needW (N : Net) (prs : List (Nat × Nat)) (F : List Nat) (w : Nat) : Bool := !joinsB N (without F w) prs
def toldL (N : Net) (prs : List (Nat × Nat)) (F : List Nat) : List Nat := F.filter (needW N prs F)
section
variable {N : Net} {prs : List (Nat × Nat)} {F : List Nat}
theorem spare_iff {K : List Nat} {w : Nat} (hw : WaysOk N) (hF : ∀ k ∈ F, k < N.ways.length) (hp : PrOk N.n prs) (ff : Forest N F) (hK : ∀ k ∈ K, k ∈ F) (hj : JoinC N K prs) (hm : w ∈ K) : JoinC N (without K w) prs ↔ JoinC N (without F w) prs := by
  constructor
  · intro h
    exact h.mono fun k hk => mem_without.mpr ⟨hK k (mem_without.mp hk).1, (mem_without.mp hk).2⟩
  · intro h q hq
    have h1 := hp q hq
    have sub : ∀ k ∈ without K w, k ∈ without F w := fun k hk => mem_without.mpr ⟨hK k (mem_without.mp hk).1, (mem_without.mp hk).2⟩
    rcases cn_split (F := without K w) (w := w) hw (fun k hk => hF k (hK k (mem_without.mp hk).1)) (hF w (hK w hm)) (by omega) h1.2 (fun k hk => by
      by_cases e : k = w
      · exact .inl e
      · exact .inr (mem_without.mpr ⟨hk, e⟩)) (hj q hq) with z | ⟨z1, z2⟩ | ⟨z1, z2⟩
    · exact z
    · exact absurd (((z1.mono sub).symm.trans (h q hq)).trans (z2.mono sub).symm) (ff w (hK w hm))
    · exact absurd ((z2.mono sub).trans ((Con.symm (h q hq)).trans (z1.mono sub))) (ff w (hK w hm))
/-- from the last to the first, each that is spare is left out -/
theorem told_fold (hw : WaysOk N) (hF : ∀ k ∈ F, k < N.ways.length) (hp : PrOk N.n prs) (ff : Forest N F) : ∀ (L K : List Nat), L.Nodup → (∀ k ∈ L, k ∈ K) → (∀ k ∈ K, k ∈ F) → JoinC N K prs → (∀ k ∈ K, k ∈ L ∨ needW N prs F k = true) → L.foldl (delP N prs) K = K.filter (needW N prs F) ∧ JoinC N (K.filter (needW N prs F)) prs
  | [], K, _, _, _, hj, hK => by
    have : K.filter (needW N prs F) = K := List.filter_eq_self.mpr fun k hk => by
      rcases hK k hk with z | z
      · cases z
      · exact z
    rw [this]
    exact ⟨rfl, hj⟩
  | w :: L, K, nd, hL, hKF, hj, hK => by
    rw [List.nodup_cons] at nd
    have hm := hL w List.mem_cons_self
    have hwl := hF w (hKF w hm)
    have c1 : joinsB N (without K w) prs = true ↔ joinsB N (without F w) prs = true := by
      rw [joinsB_iff hw (fun k hk => hF k (hKF k (mem_without.mp hk).1)) hp, joinsB_iff hw (fun k hk => hF k (mem_without.mp hk).1) hp]
      exact spare_iff hw hF hp ff hKF hj hm
    rw [List.foldl_cons]
    unfold delP
    by_cases h : joinsB N (without K w) prs = true
    · rw [if_pos h]
      have hnw : needW N prs F w = false := by unfold needW; rw [c1.mp h]; rfl
      have ih := told_fold hw hF hp ff L (without K w) nd.2 (fun k hk => mem_without.mpr ⟨hL k (List.mem_cons_of_mem _ hk), fun e => nd.1 (e ▸ hk)⟩) (fun k hk => hKF k (mem_without.mp hk).1) ((joinsB_iff hw (fun k hk => hF k (hKF k (mem_without.mp hk).1)) hp).mp h) (fun k hk => by
        obtain ⟨h1, h2⟩ := mem_without.mp hk
        rcases hK k h1 with z | z
        · rcases List.mem_cons.mp z with z | z
          · exact absurd z h2
          · exact .inl z
        · exact .inr z)
      have e : (without K w).filter (needW N prs F) = K.filter (needW N prs F) := by
        unfold without
        rw [List.filter_filter]
        refine List.filter_congr fun k _ => ?_
        by_cases e : k = w
        · rw [e, hnw]; rfl
        · rw [decide_eq_true e, Bool.and_true]
      unfold delP at ih
      rw [e] at ih
      exact ih
    · rw [if_neg h]
      have hnw : needW N prs F w = true := by
        unfold needW
        rw [Bool.not_eq_true']
        exact Bool.eq_false_iff.mpr fun z => h (c1.mpr z)
      exact told_fold hw hF hp ff L K nd.2 (fun k hk => hL k (List.mem_cons_of_mem _ hk)) hKF hj fun k hk => by
        rcases hK k hk with z | z
        · rcases List.mem_cons.mp z with z | z
          · rw [z]; exact .inr hnw
          · exact .inl z
        · exact .inr z
structure ToldI (N : Net) (prs : List (Nat × Nat)) (F : List Nat) : Prop where
  fold : F.reverse.foldl (delP N prs) F = toldL N prs F
  join : JoinC N (toldL N prs F) prs
  need : ∀ w ∈ toldL N prs F, ¬ JoinC N (without (toldL N prs F) w) prs
  sub : ∀ w ∈ toldL N prs F, w ∈ F
theorem told_inv (hw : WaysOk N) (hF : ∀ k ∈ F, k < N.ways.length) (hp : PrOk N.n prs) (ff : Forest N F) (nd : F.Nodup) (hj : JoinC N F prs) : ToldI N prs F := by
  obtain ⟨h1, h2⟩ := told_fold hw hF hp ff F.reverse F ((List.reverse_perm F).nodup_iff.mpr nd) (fun k hk => List.mem_reverse.mp hk) (fun k hk => hk) hj (fun k hk => .inl (List.mem_reverse.mpr hk))
  have sub : ∀ w ∈ toldL N prs F, w ∈ F := fun w hm => (List.mem_filter.mp hm).1
  refine ⟨h1, h2, fun w hm hjw => ?_, sub⟩
  have := (List.mem_filter.mp hm).2
  unfold needW at this
  rw [Bool.not_eq_true'] at this
  have h3 := (spare_iff hw hF hp ff sub h2 hm).mp hjw
  rw [(joinsB_iff hw (fun k hk => hF k (mem_without.mp hk).1) hp).mpr h3] at this
  cases this
/-- the growth joins the pairs in the end -/
theorem grown_joins {g : Gs} (hp : PrOk N.n prs) (h : FInv N g) (hs : stillP prs g.ps = []) : JoinC N (wys g) prs := by
  intro q hq
  have h1 := hp q hq
  obtain ⟨r, hr, h2⟩ := h.part.cover q.1 (by omega)
  refine (h.comp _ _ (by omega) h1.2).mpr ⟨r, hr, h2, ?_⟩
  have : openP prs r = false := by
    have := List.filter_eq_nil_iff.mp hs r hr
    simpa using this
  refine Decidable.byContradiction fun z => ?_
  have := openP_iff.mpr ⟨q, hq, fun e => z (e.mp h2)⟩
  simp_all
end
end Ev

namespace Ev
open PySem PySem.Spec PyProof.Rows L2
theorem joins_spec {N : Net} {most W : Nat} {c : List Nat} {cd : D} {ps : List (Nat × Nat)} (S : Sto) (hcd : SeqC cd c) (hm : most ≤ 1000) (hN : N.Ok most W) (hc : ChOk N c) (hp : PrOk N.n ps) :
    f_joins [netD N, pairsD ps, cd] S = .ok (.bl (joinsB N c ps)) S := by
  refine runF_rt (S1 := S) (d := .bl (joinsB N c ps)) ?_ (gc_same rfl)
  show b_joins [some (netD N), some (pairsD ps), some cd] S = _
  unfold b_joins
  refine sRet_ok (eBin_ok (eCall_ok (aCons_ok (eVar_ok rfl) (aCons_ok (eVar_ok rfl) (aCons_ok (eVar_ok rfl) aNil_ok))) rfl (first_apart_spec S hcd hm hN hc hp)) eC_ok ?_)
  rw [oIsN_opt, firstAp_none]
end Ev

namespace Ev
open PySem PySem.Spec PyProof.Rows L2
/-! ### told -/
theorem chOk_of {N : Net} {F K : List Nat} (hF : ∀ k ∈ F, k < N.ways.length) (nd : K.Nodup) (h : ∀ k ∈ K, k ∈ F) : ChOk N K := ⟨found_len nd fun k hk => hF k (h k hk), fun k hk => hF k (h k hk)⟩
theorem nodup_without {K : List Nat} {w : Nat} (h : K.Nodup) : (without K w).Nodup := nodup_filter h
theorem oNe_nat {S : Sto} {a b : Nat} : oNe (.int (a : Nat)) (.int (b : Nat)) S = some (.bl (decide (a ≠ b))) := by
  rw [oNe_int]
  congr 2
  by_cases h : a = b
  · rw [decide_eq_true (by omega), decide_eq_false (by omega)]; rfl
  · rw [decide_eq_false (by omega), decide_eq_true h]; rfl
section
variable {S0 : Sto} {N : Net} {prs : List (Nat × Nat)} {most W : Nat}
theorem told_loop {F : List Nat} {S : Sto} {x3 x4 : Option D} {g : SF} {o : O} (hm : most ≤ 1000) (hN : N.Ok most W) (hl : N.ways.length ≤ 900) (hp : PrOk N.n prs) (hF : ∀ k ∈ F, k < N.ways.length) (nd : F.Nodup)
    (k : ∀ x3 x4, g [some (netD N), some (pairsD prs), some (.lst (natD (F.reverse.foldl (delP N prs) F))), x3, x4, none, none] S = o) :
    sSeq (sFor (iRevD (aCons (eCb (oList false) (aCons (eVar 2) aNil)) aNil)) (.nm 3) (sSeq (sSet 4 (eLc (iSeqD (eVar 2)) (.nm 6) (bBin oNe (eVar 6) (eVar 3)) (eVar 6) [6]))
    (sIf (bVal (eCall 3 f_joins (aCons (eVar 0) (aCons (eVar 1) (aCons (eVar 4) aNil))))) (sSet 2 (eVar 4)) sNext))) g [some (netD N), some (pairsD prs), some (.lst (natD F)), x3, x4, none, none] S = o := by
  have it : iRevD (aCons (eCb (oList false) (aCons (eVar 2) aNil)) aNil) [some (netD N), some (pairsD prs), some (.lst (natD F)), x3, x4, none, none] S = .ok ⟨natD F.reverse, none⟩ S := by
    unfold iRevD
    rw [aCons_ok (eCb_ok (d := .lst (natD F)) (S2 := S) (aCons_ok (eVar_ok rfl) aNil_ok) rfl) aNil_ok]
    simp only [R.bind]
    unfold natD
    rw [List.map_reverse]
  refine q_for (items := natD F.reverse) (fun j ρ S' => S' = S ∧ ∃ K x3 x4, K = (F.reverse.take j).foldl (delP N prs) F ∧ K.Nodup ∧ (∀ k ∈ K, k ∈ F) ∧ ρ = [some (netD N), some (pairsD prs), some (.lst (natD K)), x3, x4, none, none]) it ⟨rfl, F, x3, x4, rfl, nd, fun _ h => h, rfl⟩ ?_ ?_
  · rintro j d ρ S' hd ⟨rfl, K, x3, x4, hK, ndK, sub, rfl⟩
    obtain ⟨w, hw, rfl⟩ := natD_inv hd
    have ek : (F.reverse.take (j + 1)).foldl (delP N prs) F = delP N prs K w := by rw [take_get hw, List.foldl_append, ← hK]; rfl
    have kl : K.length ≤ 900 := Nat.le_trans (chOk_of hF ndK sub).1 hl
    have ch : ChOk N (without K w) := chOk_of hF (nodup_without ndK) fun k hk => sub k (mem_without.mp hk).1
    have js := joins_spec (c := without K w) (cd := .lst (natD (without K w))) (ps := prs) S' (.inr rfl) hm hN ch hp
    refine ⟨_, rfl, [some (netD N), some (pairsD prs), some (.lst (natD (delP N prs K w))), some (.int (w : Nat)), some (.lst (natD (without K w))), none, none], S', .inl ?_, rfl, _, _, _, ek.symm, ?_, ?_, rfl⟩
    · refine q_set (eLc_f (xs := K) (F := fun (x : Nat) => D.int x) (c := fun k => decide (k ≠ w)) (G := fun (x : Nat) => D.int x) (iSeqD_lst (eVar_ok rfl)) True.intro rfl (by omega) fun k _ => ⟨_, rfl, by (repeat' first | ((with_reducible apply eVar_ok) <;> rfl) | (with_reducible exact eC_ok) | (with_reducible exact aNil_ok) | (with_reducible exact bYes_ok) | (with_reducible exact oNe_nat) | (with_reducible apply aCons_ok) | (with_reducible apply eBin_ok) | (with_reducible apply bBin_ok) | (with_reducible apply eCb_ok) | (with_reducible apply eCall_ok) | (with_reducible apply eCallD_ok) | (with_reducible apply bVal_ok) | (with_reducible apply bNot_ok) | (with_reducible apply eTup_ok) | (with_reducible apply eLst_ok) | (with_reducible apply eFld_ok) | (with_reducible apply eMeth_ok) | (with_reducible apply eIx_loc) | (with_reducible apply pure1_ok) | (with_reducible apply bOr_ok) | (with_reducible apply bAnd_ok) | (with_reducible apply eDGet2_ok) | (with_reducible apply eDGet_ok) | (exact (rfl : (_ : Nat) = _)) | (exact (rfl : lookD _ _ = _)) | ((with_reducible show (List.length _) ≤ 1000); simp only [List.length_cons, List.length_nil]; decide) | (exact oIx_tup.trans atI_0) | (exact oIx_tup.trans atI_1) | (exact oIx_tup.trans atI_2) | (exact oIn_part) | (exact oIn_parts (.inl rfl)) | (exact oIn_parts (.inr rfl)) | (exact oNotIn_parts (.inl rfl)) | (exact oNotIn_parts (.inr rfl)) | (exact oNe_bl) | (exact oAdd_int) | (exact oSub_int) | (exact oLt_int) | (exact oGt_int) | (exact oLe_int) | (exact oGe_int) | (exact oEq_int) | (exact oNe_int) | (exact gLen_seq seqOf_tup) | (exact gLen_seq seqOf_lst) | ((with_reducible show _ = _); with_reducible assumption)), fun _ => by (repeat' first | ((with_reducible apply eVar_ok) <;> rfl) | (with_reducible exact eC_ok) | (with_reducible exact aNil_ok) | (with_reducible exact bYes_ok) | (with_reducible apply aCons_ok) | (with_reducible apply eBin_ok) | (with_reducible apply bBin_ok) | (with_reducible apply eCb_ok) | (with_reducible apply eCall_ok) | (with_reducible apply eCallD_ok) | (with_reducible apply bVal_ok) | (with_reducible apply bNot_ok) | (with_reducible apply eTup_ok) | (with_reducible apply eLst_ok) | (with_reducible apply eFld_ok) | (with_reducible apply eMeth_ok) | (with_reducible apply eIx_loc) | (with_reducible apply pure1_ok) | (with_reducible apply bOr_ok) | (with_reducible apply bAnd_ok) | (with_reducible apply eDGet2_ok) | (with_reducible apply eDGet_ok) | (exact (rfl : (_ : Nat) = _)) | (exact (rfl : lookD _ _ = _)) | ((with_reducible show (List.length _) ≤ 1000); simp only [List.length_cons, List.length_nil]; decide) | (exact oIx_tup.trans atI_0) | (exact oIx_tup.trans atI_1) | (exact oIx_tup.trans atI_2) | (exact oIn_part) | (exact oIn_parts (.inl rfl)) | (exact oIn_parts (.inr rfl)) | (exact oNotIn_parts (.inl rfl)) | (exact oNotIn_parts (.inr rfl)) | (exact oNe_bl) | (exact oAdd_int) | (exact oSub_int) | (exact oLt_int) | (exact oGt_int) | (exact oLe_int) | (exact oGe_int) | (exact oEq_int) | (exact oNe_int) | (exact gLen_seq seqOf_tup) | (exact gLen_seq seqOf_lst) | ((with_reducible show _ = _); with_reducible assumption))⟩) ?_
      refine sIf_b (q := joinsB N (without K w) prs) (bVal_ok (eCall_ok (aCons_ok (eVar_ok rfl) (aCons_ok (eVar_ok rfl) (aCons_ok (eVar_ok rfl) aNil_ok))) rfl js)) (fun h => ?_) fun h => ?_
      · unfold delP
        rw [if_pos h]
        exact sSet_ok (eVar_ok rfl)
      · unfold delP
        rw [if_neg (by rw [h]; decide)]
        rfl
    · unfold delP
      split
      · exact nodup_without ndK
      · exact ndK
    · unfold delP
      split
      · exact fun k hk => sub k (mem_without.mp hk).1
      · exact sub
  · rintro ρ' S' ⟨rfl, K, x3, x4, hK, ndK, sub, rfl⟩
    rw [natD_len, List.take_length] at hK
    rw [hK]
    exact k x3 x4
/-- all that is known of the growth in the end -/
theorem grow_all (hN : N.Ok most W) (hn : N.n ≤ 12) (hp : PrOk N.n prs) (hj : JoinAll N prs) : ∃ g k, g = growG N prs N.n (startG N prs) ∧ GInv N k g ∧ FInv N g ∧ stillP prs g.ps = [] ∧ ToldI N prs (wys g) := by
  obtain ⟨k, gi, hs⟩ := grow_inv hN.ways hj hN.n1 hn N.n 0 (startG N prs) (start_inv hN.ways) (by omega)
  have fi := grow_finv hN.ways hj hN.n1 hn N.n 0 (startG N prs) (start_inv hN.ways) (start_finv hN.ways)
  exact ⟨_, k, rfl, gi, fi, hs, told_inv hN.ways fi.lt hp fi.forest fi.nd (grown_joins hp fi hs)⟩
theorem told_spec (hm : most ≤ 1000) (hN : N.Ok most W) (hn : N.n ≤ 12) (hl : N.ways.length ≤ 900) (hp : PrOk N.n prs) (pl : prs.length ≤ 1000) (hj : JoinAll N prs) :
    f_told [netD N, pairsD prs] S0 = .ok (.tup (natD (sortN (toldL N prs (wys (growG N prs N.n (startG N prs))))))) S0 := by
  obtain ⟨S, e, tm, fl, hS, ht⟩ := make_spec (S0 := S0) (fa := (aCons (eVar 0) (aCons (eVar 1) aNil))) (ρ := [some (netD N), some (pairsD prs), none, none, none, none, none]) (S1 := S0) hm hN hn hl hp pl hj (aCons_ok (eVar_ok rfl) (aCons_ok (eVar_ok rfl) aNil_ok))
  obtain ⟨g, k, hg, gi, fi, hs, ti⟩ := grow_all hN hn hp hj
  rw [← hg] at hS ⊢
  have p0 : S[S0.length]? = some (.ins "PairGrowth" (pgF N prs S0.length tm g.ps)) := by rw [hS]; exact pg0.h0
  have p3 : S[S0.length + 3]? = some (.lst (g.tk.map tkD)) := by rw [hS]; exact pg3
  have tl : g.tk.length ≤ 1000 := by have := gi.tl; omega
  have key : b_told [some (netD N), some (pairsD prs), none, none, none, none, none] S0 = .rt (.tup (natD (sortN (toldL N prs (wys g))))) S := by
    unfold b_told
    have lc := eLc_m (xs := g.tk) (F := tkD) (G := fun e => .int (e.2 : Nat)) (te := eVar 6) (tg := .tp [(.nm 5), (.nm 6)]) (vs := [5, 6]) (ρ := [some (netD N), some (pairsD prs), none, none, none, none, none]) (S := S0) (S1 := S) (fi := iSeqD (eFld "PairGrowth" (eMake "PairGrowth" 3 f_PairGrowth_init (aCons (eVar 0) (aCons (eVar 1) aNil))) "taken")) (k := ⟨g.tk.map tkD, some (S0.length + 3, .lst (g.tk.map tkD))⟩) (iSeqD_loc (eFld_ok e p0 rfl) p3) p3 rfl tl fun x _ => ⟨_, rfl, eVar_ok rfl⟩
    have ew : (g.tk.map fun e => D.int (e.2 : Nat)) = natD (wys g) := by
      unfold natD wys
      rw [List.map_map]
      rfl
    rw [ew] at lc
    refine q_set lc ?_
    refine told_loop hm hN hl hp fi.lt fi.nd fun x3 x4 => ?_
    rw [ti.fold]
    exact sRet_ok (eCb_ok (aCons_ok (eCb_ok (aCons_ok (eVar_ok rfl) aNil_ok) (oSort_natL _)) aNil_ok) (pure1_ok rfl))
  rw [hS] at key
  exact runF_rt key (gc_app (by simp only [okD]; exact okDs_nat _ _))
end
end Ev

namespace Ev
open PySem PySem.Spec PyProof.Rows L2
/-! ### the told ways around open groups -/
theorem nodup_le {α : Type} [DecidableEq α] : ∀ {l m : List α}, l.Nodup → (∀ x ∈ l, x ∈ m) → l.length ≤ m.length
  | [], m, _, _ => Nat.zero_le _
  | x :: l, m, nd, h => by
    rw [List.nodup_cons] at nd
    have hx := h x List.mem_cons_self
    have p := List.perm_cons_erase hx
    rw [p.length_eq]
    have := nodup_le (m := m.erase x) nd.2 fun y hy => by
      have := p.mem_iff.mp (h y (List.mem_cons_of_mem _ hy))
      rcases List.mem_cons.mp this with z | z
      · rw [z] at hy; exact absurd hy nd.1
      · exact z
    simp only [List.length_cons]
    omega
def CompOf (N : Net) (G : List Nat) (qs : List (List Nat)) : Prop := ∀ x y, x < N.n → y < N.n → (cn N G x y ↔ ∃ p ∈ qs, x ∈ p ∧ y ∈ p)
theorem comp_snoc {N : Net} {G : List Nat} {qs : List (List Nat)} {i : Nat} {p q : List Nat} (hw : WaysOk N) (hG : ∀ k ∈ G, k < N.ways.length) (hi : i < N.ways.length) (hp' : PartI N.n qs) (h : CompOf N G qs) (hp : p ∈ qs) (hq : q ∈ qs) (h3 : (wayAt N i).a ∈ p) (h4 : (wayAt N i).b ∈ q) : CompOf N (G ++ [i]) (joinP p q qs) := by
  have ab := hw.ab (wayAt_in hi)
  have pm := joinP_perm (ps := qs) p q
  have mm : ∀ x, x ∈ sortN (p ++ q) ↔ x ∈ p ∨ x ∈ q := fun x => ((sortN_perm _).mem_iff).trans List.mem_append
  have ip : ∀ x y, x < N.n → y < N.n → (∃ r ∈ qs, x ∈ r ∧ y ∈ r) → cn N (G ++ [i]) x y := fun x y hx hy hr => ((h x y hx hy).mpr hr).mono fun k hk => List.mem_append_left _ hk
  have wi : cn N (G ++ [i]) (wayAt N i).a (wayAt N i).b := cn.way (List.mem_append_right _ (List.mem_singleton.mpr rfl))
  intro x y hx hy
  constructor
  · intro hxy
    rcases cn_split (F := G) (w := i) hw hG hi hx hy (fun k hk => by
      rcases List.mem_append.mp hk with z | z
      · exact .inr z
      · exact .inl (List.mem_singleton.mp z)) hxy with z | ⟨z1, z2⟩ | ⟨z1, z2⟩
    · obtain ⟨r, hr, h1, h2⟩ := (h x y hx hy).mp z
      by_cases hr2 : r ∈ [p, q]
      · refine ⟨_, pm.mem_iff.mpr List.mem_cons_self, ?_⟩
        simp only [List.mem_cons, List.not_mem_nil, or_false] at hr2
        rcases hr2 with rfl | rfl
        · exact ⟨(mm x).mpr (.inl h1), (mm y).mpr (.inl h2)⟩
        · exact ⟨(mm x).mpr (.inr h1), (mm y).mpr (.inr h2)⟩
      · exact ⟨r, pm.mem_iff.mpr (List.mem_cons_of_mem _ (List.mem_filter.mpr ⟨hr, by simpa using hr2⟩)), h1, h2⟩
    · obtain ⟨r1, hr1, a1, a2⟩ := (h _ _ hx ab.1).mp z1
      obtain ⟨r2, hr2, b1, b2⟩ := (h _ _ ab.2 hy).mp z2
      refine ⟨_, pm.mem_iff.mpr List.mem_cons_self, ?_⟩
      have e1 := hp'.uniq hr1 hp a2 h3
      have e2 := hp'.uniq hr2 hq b1 h4
      rw [e1] at a1
      rw [e2] at b2
      exact ⟨(mm x).mpr (.inl a1), (mm y).mpr (.inr b2)⟩
    · obtain ⟨r1, hr1, a1, a2⟩ := (h _ _ hx ab.2).mp z1
      obtain ⟨r2, hr2, b1, b2⟩ := (h _ _ ab.1 hy).mp z2
      refine ⟨_, pm.mem_iff.mpr List.mem_cons_self, ?_⟩
      have e1 := hp'.uniq hr1 hq a2 h4
      have e2 := hp'.uniq hr2 hp b1 h3
      rw [e1] at a1
      rw [e2] at b2
      exact ⟨(mm x).mpr (.inr a1), (mm y).mpr (.inl b2)⟩
  · rintro ⟨r, hr, h1, h2⟩
    rcases List.mem_cons.mp (pm.mem_iff.mp hr) with rfl | hr
    · have ta : ∀ z, z < N.n → z ∈ sortN (p ++ q) → cn N (G ++ [i]) z (wayAt N i).a := fun z hz hm => by
        rcases (mm z).mp hm with zp | zq
        · exact ip z _ hz ab.1 ⟨p, hp, zp, h3⟩
        · exact (ip z _ hz ab.2 ⟨q, hq, zq, h4⟩).trans wi.symm
      exact (ta x hx h1).trans (ta y hy h2).symm
    · exact ip x y hx hy ⟨r, (List.mem_filter.mp hr).1, h1, h2⟩
/-- ways that close no ring join groups, one after the other; groups that none leaves stay -/
theorem merge_all {N : Net} (hw : WaysOk N) (Z : List (List Nat)) : ∀ (X G : List Nat) (qs : List (List Nat)), (∀ k ∈ G ++ X, k < N.ways.length) → Forest N (G ++ X) → (G ++ X).Nodup → PartI N.n qs → CompOf N G qs → (∀ p ∈ Z, p ∈ qs ∧ ∀ k ∈ X, ¬ cutW (wayAt N k) p = true) →
    ∃ rs, PartI N.n rs ∧ CompOf N (G ++ X) rs ∧ rs.length + X.length = qs.length ∧ ∀ p ∈ Z, p ∈ rs
  | [], G, qs, _, _, _, hp, hc, hz => ⟨qs, hp, by rw [List.append_nil]; exact hc, rfl, fun p h => (hz p h).1⟩
  | i :: X, G, qs, hl, hf, nd, hp, hc, hz => by
    have hi := hl i (List.mem_append_right _ List.mem_cons_self)
    have hG : ∀ k ∈ G, k < N.ways.length := fun k hk => hl k (List.mem_append_left _ hk)
    have ab := hw.ab (wayAt_in hi)
    have iG : i ∉ G := fun z => by
      have := (List.nodup_append.mp nd).2.2 i z i List.mem_cons_self
      exact this rfl
    obtain ⟨p, pm, pa⟩ := hp.cover _ ab.1
    obtain ⟨q, qm, qb⟩ := hp.cover _ ab.2
    have hne : p ≠ q := fun e => by
      have h1 : cn N G (wayAt N i).a (wayAt N i).b := (hc _ _ ab.1 ab.2).mpr ⟨p, pm, pa, by rw [e]; exact qb⟩
      exact hf i (List.mem_append_right _ List.mem_cons_self) (h1.mono fun k hk => mem_without.mpr ⟨List.mem_append_left _ hk, fun e => iG (e ▸ hk)⟩)
    have hc2 := comp_snoc hw hG hi hp hc pm qm pa qb
    obtain ⟨j1, j2⟩ := hp.join pm qm hne
    have ea : G ++ i :: X = (G ++ [i]) ++ X := by rw [List.append_assoc]; rfl
    rw [ea] at hl hf nd ⊢
    obtain ⟨rs, r1, r2, r3, r4⟩ := merge_all hw Z X (G ++ [i]) (joinP p q qs) hl hf nd j1 hc2 fun r hr => by
      obtain ⟨h1, h2⟩ := hz r hr
      refine ⟨(joinP_perm p q).mem_iff.mpr (List.mem_cons_of_mem _ (List.mem_filter.mpr ⟨h1, ?_⟩)), fun k hk => h2 k (List.mem_cons_of_mem _ hk)⟩
      have h3 := h2 i List.mem_cons_self
      rw [cut_iff, Decidable.not_not] at h3
      have n1 : r ≠ p := fun e => by
        have hb : (wayAt N i).b ∈ p := by rw [← e]; exact h3.mp (by rw [e]; exact pa)
        exact hne (hp.uniq pm qm hb qb)
      have n2 : r ≠ q := fun e => by
        have hb : (wayAt N i).a ∈ q := by rw [← e]; exact h3.mpr (by rw [e]; exact qb)
        exact hne (hp.uniq pm qm pa hb)
      simp [n1, n2]
    exact ⟨rs, r1, r2, by simp only [List.length_cons]; omega, r4⟩
/-! counting -/
theorem sum_swap {α β : Type} (c : α → β → Bool) : ∀ (l : List α) (m : List β), ((l.map fun a => (m.filter (c a)).length).sum) = (m.map fun b => (l.filter fun a => c a b).length).sum
  | [], m => by
    have : (m.map fun b => (([] : List α).filter fun a => c a b).length).sum = 0 := by
      induction m with
      | nil => rfl
      | cons b m ih => rw [List.map_cons, List.sum_cons, ih]; rfl
    rw [this]
    rfl
  | a :: l, m => by
    have step : ∀ m : List β, (m.map fun b => ((a :: l).filter fun a => c a b).length).sum = (m.filter (c a)).length + (m.map fun b => (l.filter fun a => c a b).length).sum := by
      intro m
      induction m with
      | nil => rfl
      | cons b m ih =>
        rw [List.map_cons, List.sum_cons, ih, List.map_cons, List.sum_cons, List.filter_cons, List.filter_cons]
        split
        · simp only [List.length_cons]; omega
        · omega
    rw [List.map_cons, List.sum_cons, sum_swap c l m, step]
theorem sum_le {α : Type} {f g : α → Nat} : ∀ {l : List α}, (∀ a ∈ l, f a ≤ g a) → (l.map f).sum ≤ (l.map g).sum
  | [], _ => Nat.le_refl _
  | a :: l, h => by
    rw [List.map_cons, List.map_cons, List.sum_cons, List.sum_cons]
    have h1 := h a List.mem_cons_self
    have h2 := sum_le (f := f) (g := g) (l := l) fun b hb => h b (List.mem_cons_of_mem _ hb)
    omega
theorem sum_const {α : Type} {c : Nat} : ∀ (l : List α), (l.map fun _ => c).sum = c * l.length
  | [] => rfl
  | a :: l => by rw [List.map_cons, List.sum_cons, sum_const l, List.length_cons, Nat.mul_add]; omega
theorem sum_parts {α : Type} (f : α → Nat) (c : α → Bool) : ∀ l : List α, (l.map f).sum = ((l.filter c).map f).sum + ((l.filter fun a => !c a).map f).sum
  | [] => rfl
  | a :: l => by
    rw [List.map_cons, List.sum_cons, sum_parts f c l, List.filter_cons, List.filter_cons]
    cases c a with
    | true => simp; omega
    | false => simp; omega
theorem len_parts {α : Type} (c : α → Bool) : ∀ l : List α, l.length = (l.filter c).length + (l.filter fun a => !c a).length
  | [] => rfl
  | a :: l => by
    rw [List.length_cons, len_parts c l, List.filter_cons, List.filter_cons]
    cases c a with
    | true => simp; omega
    | false => simp; omega
def degT (N : Net) (T : List Nat) (p : List Nat) : Nat := (T.filter fun k => cutW (wayAt N k) p).length
theorem PartI.cuts {n : Nat} {ps : List (List Nat)} (h : PartI n ps) {w : Way} (ha : w.a < n) (hb : w.b < n) : (ps.filter (cutW w)).length = (sidesP w ps).length := by
  rcases h.sides ha hb with ⟨p, hp, ap, bp, e⟩ | ⟨p, q, hp, hq, hne, e, _, hc⟩
  · rw [e]
    have : ps.filter (cutW w) = [] := by
      rw [List.filter_eq_nil_iff]
      intro r hr
      rw [cut_iff, Decidable.not_not]
      exact ⟨fun z => by rw [h.uniq hr hp z ap]; exact bp, fun z => by rw [h.uniq hr hp z bp]; exact ap⟩
    rw [this]
  · rw [e]
    have two := nodup_two (nodup_filter (c := cutW w) h.nodup) hne fun x => by
      rw [List.mem_filter]
      constructor
      · rintro ⟨hx, h1⟩
        exact (hc x hx).mpr h1
      · rintro (rfl | rfl)
        · exact ⟨hp, (hc _ hp).mp (.inl rfl)⟩
        · exact ⟨hq, (hc _ hq).mp (.inr rfl)⟩
    rcases two with t | t <;> rw [t] <;> rfl
section
variable {N : Net} {F G T : List Nat} {prs : List (Nat × Nat)} {ps : List (List Nat)}
/-- ways that join the pairs leave each open group -/
theorem deg_open {C : List Nat} (hj : JoinC N C prs) {p : List Nat} (h : openP prs p = true) : 1 ≤ degT N C p := by
  obtain ⟨q, hq, hn⟩ := openP_iff.mp h
  unfold degT
  refine List.length_pos_iff_exists_mem.mpr ?_
  refine Classical.byContradiction fun hc => hn ?_
  have := hj q hq (fun x => if x ∈ p then 1 else 0) fun e he => by
    obtain ⟨i, hi, rfl⟩ := List.mem_map.mp he
    have : ¬ cutW (wayAt N i) p = true := fun z => hc ⟨i, List.mem_filter.mpr ⟨hi, z⟩⟩
    rw [cut_iff, Decidable.not_not] at this
    show (if (wayAt N i).a ∈ p then 1 else 0) = if (wayAt N i).b ∈ p then 1 else 0
    by_cases h1 : (wayAt N i).a ∈ p
    · rw [if_pos h1, if_pos (this.mp h1)]
    · rw [if_neg h1, if_neg (fun z => h1 (this.mpr z))]
  constructor
  · intro z
    rw [if_pos z] at this
    refine Decidable.byContradiction fun y => ?_
    rw [if_neg y] at this
    cases this
  · intro z
    rw [if_pos z] at this
    refine Decidable.byContradiction fun y => ?_
    rw [if_neg y] at this
    cases this
/-- a group that just one told way leaves is open -/
theorem deg_one (hw : WaysOk N) (hp : PrOk N.n prs) (hT : ∀ k ∈ T, k < N.ways.length) (hj : JoinC N T prs) (hn : ∀ w ∈ T, ¬ JoinC N (without T w) prs) {p : List Nat} (h : degT N T p = 1) : openP prs p = true := by
  unfold degT at h
  obtain ⟨w, e⟩ := List.length_eq_one_iff.mp h
  have hwm : w ∈ T.filter fun k => cutW (wayAt N k) p := by rw [e]; simp
  obtain ⟨hwT, hcut⟩ := List.mem_filter.mp hwm
  have only : ∀ k ∈ without T w, ¬ cutW (wayAt N k) p = true := fun k hk hc => by
    obtain ⟨h1, h2⟩ := mem_without.mp hk
    have : k ∈ T.filter fun k => cutW (wayAt N k) p := List.mem_filter.mpr ⟨h1, hc⟩
    rw [e] at this
    exact h2 (List.mem_singleton.mp this)
  have side : ∀ x y, cn N (without T w) x y → (x ∈ p ↔ y ∈ p) := fun x y h => by
    have := h (fun x => if x ∈ p then 1 else 0) fun d hd => by
      obtain ⟨i, hi, rfl⟩ := List.mem_map.mp hd
      have := only i hi
      rw [cut_iff, Decidable.not_not] at this
      show (if (wayAt N i).a ∈ p then 1 else 0) = if (wayAt N i).b ∈ p then 1 else 0
      by_cases h1 : (wayAt N i).a ∈ p
      · rw [if_pos h1, if_pos (this.mp h1)]
      · rw [if_neg h1, if_neg (fun z => h1 (this.mpr z))]
    constructor
    · intro z
      rw [if_pos z] at this
      refine Decidable.byContradiction fun y => ?_
      rw [if_neg y] at this
      cases this
    · intro z
      rw [if_pos z] at this
      refine Decidable.byContradiction fun y => ?_
      rw [if_neg y] at this
      cases this
  rw [cut_iff] at hcut
  obtain ⟨q, hq, hnq⟩ : ∃ q ∈ prs, ¬ cn N (without T w) q.1 q.2 := by
    refine Classical.byContradiction fun z => hn w hwT fun q hq => ?_
    exact Classical.byContradiction fun y => z ⟨q, hq, y⟩
  have h1 := hp q hq
  refine openP_iff.mpr ⟨q, hq, fun hpp => ?_⟩
  rcases cn_split (F := without T w) (w := w) hw (fun k hk => hT k (mem_without.mp hk).1) (hT w hwT) (by omega) h1.2 (fun k hk => by
    by_cases e : k = w
    · exact .inl e
    · exact .inr (mem_without.mpr ⟨hk, e⟩)) (hj q hq) with z | ⟨z1, z2⟩ | ⟨z1, z2⟩
  · exact hnq z
  · exact hcut (((side _ _ z1).symm.trans hpp).trans (side _ _ z2).symm)
  · exact hcut (((side _ _ z2).trans hpp.symm).trans (side _ _ z1))
theorem deg_bound (hw : WaysOk N) (hp : PrOk N.n prs) (hF : ∀ k ∈ F, k < N.ways.length) (ff : Forest N F) (hGF : ∀ k ∈ G, k ∈ F) (ndG : G.Nodup) (hTF : ∀ k ∈ T, k ∈ F) (ndT : T.Nodup) (hj : JoinC N T prs) (hn : ∀ w ∈ T, ¬ JoinC N (without T w) prs) (hps : PartI N.n ps) (hc : CompOf N G ps) (hs : stillP prs ps ≠ []) :
    ((stillP prs ps).map (degT N T)).sum + 2 ≤ 2 * (stillP prs ps).length := by
  have hT : ∀ k ∈ T, k < N.ways.length := fun k hk => hF k (hTF k hk)
  obtain ⟨X, hX⟩ : ∃ X, X = T.filter fun k => decide ((sidesP (wayAt N k) ps).length = 2) := ⟨_, rfl⟩
  have mX : ∀ k, k ∈ X ↔ k ∈ T ∧ (sidesP (wayAt N k) ps).length = 2 := fun k => by rw [hX, List.mem_filter, decide_eq_true_iff]
  have XG : ∀ k ∈ X, k ∉ G := fun k hk hg => by
    obtain ⟨h1, h2⟩ := (mX k).mp hk
    have ab := hw.ab (wayAt_in (hT k h1))
    obtain ⟨p, q, pm, qm, hne, _, hpq, _⟩ := hps.two ab.1 ab.2 h2
    obtain ⟨r, hr, z1, z2⟩ := (hc _ _ ab.1 ab.2).mp (cn.way hg)
    rcases hpq with ⟨h3, h4⟩ | ⟨h3, h4⟩
    · exact hne ((hps.uniq pm hr h3 z1).trans (hps.uniq qm hr h4 z2).symm)
    · exact hne ((hps.uniq pm hr h3 z2).trans (hps.uniq qm hr h4 z1).symm)
  have GX : ∀ k ∈ G ++ X, k ∈ F := fun k hk => by
    rcases List.mem_append.mp hk with z | z
    · exact hGF k z
    · exact hTF k ((mX k).mp z).1
  have cutT : ∀ k ∈ T, ∀ p ∈ ps, cutW (wayAt N k) p = true → k ∈ X := fun k hk p hpm hcut => by
    have ab := hw.ab (wayAt_in (hT k hk))
    refine (mX k).mpr ⟨hk, ?_⟩
    rcases hps.sides ab.1 ab.2 with ⟨r, hr, z1, z2, _⟩ | ⟨_, _, _, _, _, e, _⟩
    · rw [cut_iff] at hcut
      refine absurd ⟨fun z => ?_, fun z => ?_⟩ hcut
      · rw [hps.uniq hpm hr z z1]; exact z2
      · rw [hps.uniq hpm hr z z2]; exact z1
    · rw [e]; rfl
  -- groups that no told way leaves
  obtain ⟨Z, hZ⟩ : ∃ Z, Z = ps.filter fun p => decide (degT N T p = 0) := ⟨_, rfl⟩
  have z0 : ∀ p ∈ Z, p ∈ ps ∧ ∀ k ∈ X, ¬ cutW (wayAt N k) p = true := fun p hpZ => by
    rw [hZ, List.mem_filter, decide_eq_true_iff] at hpZ
    refine ⟨hpZ.1, fun k hk hcut => ?_⟩
    have : k ∈ T.filter fun k => cutW (wayAt N k) p := List.mem_filter.mpr ⟨((mX k).mp hk).1, hcut⟩
    have h0 := hpZ.2
    unfold degT at h0
    rw [List.length_eq_zero_iff.mp h0] at this
    cases this
  obtain ⟨rs, r1, r2, r3, r4⟩ := merge_all hw Z X G ps (fun k hk => hF k (GX k hk)) (ff.sub GX) (List.nodup_append.mpr ⟨ndG, by rw [hX]; exact nodup_filter ndT, fun a ha b hb e => XG b hb (e ▸ ha)⟩) hps hc z0
  -- an open group: a told way leaves it
  obtain ⟨p0, hp0⟩ := List.exists_mem_of_ne_nil _ hs
  obtain ⟨p0m, p0o⟩ := List.mem_filter.mp hp0
  have d0 := deg_open hj p0o
  have n0 : p0 ≠ [] := hps.ne p0 p0m
  obtain ⟨x0, hx0⟩ := List.exists_mem_of_ne_nil _ n0
  obtain ⟨r0, r0m, r0x⟩ := r1.cover x0 (hps.lt p0 p0m x0 hx0)
  have r0Z : r0 ∉ Z := fun z => by
    have h1 := (z0 r0 z).1
    have e := hps.uniq h1 p0m r0x hx0
    rw [e, hZ, List.mem_filter, decide_eq_true_iff] at z
    omega
  have cnt : Z.length + 1 ≤ rs.length := by
    have := nodup_le (l := r0 :: Z) (m := rs) (List.nodup_cons.mpr ⟨r0Z, by rw [hZ]; exact nodup_filter hps.nodup⟩) fun x hx => by
      rcases List.mem_cons.mp hx with rfl | hx
      · exact r0m
      · exact r4 x hx
    simpa using this
  -- each told way between groups is counted twice
  have hand : (ps.map (degT N T)).sum = 2 * X.length := by
    have e1 := sum_swap (fun (p : List Nat) (k : Nat) => cutW (wayAt N k) p) ps T
    have e2 : (ps.map (degT N T)).sum = (T.map fun k => (ps.filter (cutW (wayAt N k))).length).sum := e1
    rw [e2, sum_parts _ (fun k => decide ((sidesP (wayAt N k) ps).length = 2)) T, ← hX]
    have h1 : (X.map fun k => (ps.filter (cutW (wayAt N k))).length).sum = 2 * X.length := by
      rw [← sum_const (c := 2) X]
      congr 1
      refine List.map_congr_left fun k hk => ?_
      obtain ⟨h1, h2⟩ := (mX k).mp hk
      have ab := hw.ab (wayAt_in (hT k h1))
      rw [hps.cuts ab.1 ab.2, h2]
    have h2 : ((T.filter fun k => !decide ((sidesP (wayAt N k) ps).length = 2)).map fun k => (ps.filter (cutW (wayAt N k))).length).sum = 0 := by
      have : ((T.filter fun k => !decide ((sidesP (wayAt N k) ps).length = 2)).map fun k => (ps.filter (cutW (wayAt N k))).length).sum = ((T.filter fun k => !decide ((sidesP (wayAt N k) ps).length = 2)).map fun _ => 0).sum := by
        congr 1
        refine List.map_congr_left fun k hk => ?_
        obtain ⟨h1, h2⟩ := List.mem_filter.mp hk
        have ab := hw.ab (wayAt_in (hT k h1))
        rw [hps.cuts ab.1 ab.2]
        have h3 : ¬ (sidesP (wayAt N k) ps).length = 2 := by simpa using h2
        unfold sidesP at h3 ⊢
        split
        · rename_i h4; rw [if_pos h4] at h3; exact absurd h4 h3
        · rfl
      rw [this, sum_const, Nat.zero_mul]
    rw [h1, h2]
    rfl
  -- the groups that are not open
  have sp := sum_parts (degT N T) (openP prs) ps
  have lp := len_parts (openP prs) ps
  have lz := len_parts (fun p => decide (degT N T p = 0)) (ps.filter fun p => !openP prs p)
  have Zl : ((ps.filter fun p => !openP prs p).filter fun p => decide (degT N T p = 0)).length = Z.length := by
    rw [hZ, List.filter_filter]
    congr 1
    refine List.filter_congr fun p hpm => ?_
    by_cases ho : openP prs p = true
    · have := deg_open hj ho
      rw [ho, decide_eq_false (by omega)]
      rfl
    · rw [Bool.not_eq_true] at ho
      rw [ho]
      simp
  have two : 2 * ((ps.filter fun p => !openP prs p).filter fun p => !decide (degT N T p = 0)).length ≤ ((ps.filter fun p => !openP prs p).map (degT N T)).sum := by
    rw [sum_parts (degT N T) (fun p => decide (degT N T p = 0)) (ps.filter fun p => !openP prs p)]
    refine Nat.le_trans ?_ (Nat.le_add_left _ _)
    rw [← sum_const]
    refine sum_le fun p hpm => ?_
    obtain ⟨h1, h2⟩ := List.mem_filter.mp hpm
    obtain ⟨_, h3⟩ := List.mem_filter.mp h1
    have d0 : degT N T p ≠ 0 := by simpa using h2
    have d1 : degT N T p ≠ 1 := fun z => by
      rw [deg_one hw hp hT hj hn z] at h3
      cases h3
    omega
  have e3 : ((stillP prs ps).map (degT N T)).sum = ((ps.filter (openP prs)).map (degT N T)).sum := rfl
  have e4 : (stillP prs ps).length = (ps.filter (openP prs)).length := rfl
  rw [e3, e4]
  omega
end
end Ev

namespace Ev
open PySem PySem.Spec PyProof.Rows L2
/-! ### what the widths add up to -/
def wsum (f : List Nat → Nat) (ws : Wid) : Nat := (ws.map fun e => e.2 * f e.1).sum
theorem wsum_cons (f : List Nat → Nat) (e : List Nat × Nat) (ws : Wid) : wsum f (e :: ws) = e.2 * f e.1 + wsum f ws := rfl
theorem wsum_put (f : List Nat → Nat) (p : List Nat) (s : Nat) : ∀ ws : Wid, wsum f (putW p ((getW p ws).getD 0 + s) ws) = wsum f ws + s * f p
  | [] => by
    simp only [getW, putW, Option.getD_none, Nat.zero_add]
    rw [wsum_cons]
    exact Nat.add_comm _ _
  | e :: ws => by
    simp only [getW, putW]
    by_cases h : e.1 = p
    · rw [if_pos h, if_pos h, wsum_cons, wsum_cons, Option.getD_some, h]
      dsimp only
      rw [Nat.add_mul]
      omega
    · rw [if_neg h, if_neg h, wsum_cons, wsum_cons, wsum_put f p s ws]
      omega
theorem wsum_widen (f : List Nat → Nat) (s : Nat) : ∀ (still : List (List Nat)) (ws : Wid), wsum f (widenP s still ws) = wsum f ws + s * (still.map f).sum
  | [], ws => rfl
  | p :: still, ws => by
    unfold widenP
    rw [List.foldl_cons]
    have := wsum_widen f s still (putW p ((getW p ws).getD 0 + s) ws)
    unfold widenP at this
    rw [this, wsum_put, List.map_cons, List.sum_cons, Nat.mul_add]
    omega
def one (_ : List Nat) : Nat := 1
theorem wsum_one (ws : Wid) : wsum one ws = (ws.map (·.2)).sum := by
  unfold wsum one
  congr 1
  exact List.map_congr_left fun e _ => Nat.mul_one _
theorem load_deg (N : Net) (T : List Nat) : ∀ ws : Wid, (T.map fun k => loadW (wayAt N k) ws).sum = wsum (degT N T) ws
  | [] => by
    have : (T.map fun k => loadW (wayAt N k) []).sum = (T.map fun _ => 0).sum := rfl
    rw [this, sum_const, Nat.zero_mul]
    rfl
  | e :: ws => by
    have ih := load_deg N T ws
    rw [wsum_cons, ← ih]
    unfold degT
    induction T with
    | nil => rfl
    | cons k T iht =>
      have iht := iht (by
        have := load_deg N T ws
        exact this)
      rw [List.map_cons, List.sum_cons, iht, List.map_cons, List.sum_cons, List.filter_cons]
      have e1 : loadW (wayAt N k) (e :: ws) = (if cutW (wayAt N k) e.1 = true then e.2 else 0) + loadW (wayAt N k) ws := by rw [loadW_sum, sumW_cons]; rfl
      rw [e1]
      split
      · rw [List.length_cons, Nat.mul_add]
        omega
      · omega
/-- the places of the pairs -/
def endsL (n : Nat) (prs : List (Nat × Nat)) : List Nat := (List.range n).filter fun x => prs.any fun q => decide (q.1 = x) || decide (q.2 = x)
theorem mem_ends {n x : Nat} {prs : List (Nat × Nat)} : x ∈ endsL n prs ↔ x < n ∧ ∃ q ∈ prs, q.1 = x ∨ q.2 = x := by
  unfold endsL
  rw [List.mem_filter, List.mem_range, List.any_eq_true]
  simp only [Bool.or_eq_true, decide_eq_true_iff]
theorem le_one {α : Type} [DecidableEq α] {l : List α} (nd : l.Nodup) (h : ∀ x ∈ l, ∀ y ∈ l, x = y) : l.length ≤ 1 := by
  match l, nd, h with
  | [], _, _ => exact Nat.zero_le _
  | [x], _, _ => exact Nat.le_refl _
  | x :: y :: l, nd, h =>
    have := h x (by simp) y (by simp)
    rw [this] at nd
    simp at nd
theorem still_ends {N : Net} {prs : List (Nat × Nat)} {ps : List (List Nat)} (hp : PrOk N.n prs) (h : PartI N.n ps) : (stillP prs ps).length ≤ (endsL N.n prs).length := by
  have nd : (stillP prs ps).Nodup := nodup_filter h.nodup
  have e1 : ((stillP prs ps).map fun p => ((endsL N.n prs).filter fun x => decide (x ∈ p)).length).sum = ((endsL N.n prs).map fun x => ((stillP prs ps).filter fun p => decide (x ∈ p)).length).sum := sum_swap (fun (p : List Nat) (x : Nat) => decide (x ∈ p)) (stillP prs ps) (endsL N.n prs)
  have h1 : (stillP prs ps).length ≤ ((stillP prs ps).map fun p => ((endsL N.n prs).filter fun x => decide (x ∈ p)).length).sum := by
    have := sum_const (c := 1) (stillP prs ps)
    rw [Nat.one_mul] at this
    rw [← this]
    refine sum_le fun p hm => ?_
    obtain ⟨q, hq, hn⟩ := openP_iff.mp (List.mem_filter.mp hm).2
    have hb := hp q hq
    refine List.length_pos_iff_exists_mem.mpr ?_
    by_cases z : q.1 ∈ p
    · exact ⟨q.1, List.mem_filter.mpr ⟨mem_ends.mpr ⟨by omega, q, hq, .inl rfl⟩, decide_eq_true z⟩⟩
    · have z2 : q.2 ∈ p := Decidable.byContradiction fun y => hn ⟨fun x => absurd x z, fun x => absurd x y⟩
      exact ⟨q.2, List.mem_filter.mpr ⟨mem_ends.mpr ⟨hb.2, q, hq, .inr rfl⟩, decide_eq_true z2⟩⟩
  have h2 : ((endsL N.n prs).map fun x => ((stillP prs ps).filter fun p => decide (x ∈ p)).length).sum ≤ (endsL N.n prs).length := by
    have := sum_const (c := 1) (endsL N.n prs)
    rw [Nat.one_mul] at this
    refine Nat.le_trans (sum_le (g := fun _ => 1) fun x hx => ?_) (Nat.le_of_eq this)
    refine le_one (nodup_filter nd) fun p hp1 q hq1 => ?_
    obtain ⟨a1, a2⟩ := List.mem_filter.mp hp1
    obtain ⟨b1, b2⟩ := List.mem_filter.mp hq1
    exact h.uniq (List.mem_filter.mp a1).1 (List.mem_filter.mp b1).1 (of_decide_eq_true a2) (of_decide_eq_true b2)
  omega
/-! ### turn by turn -/
theorem wys_take {N : Net} : ∀ (m : Nat) (g : Gs), ∀ k ∈ wys g, k ∈ wys (takeG N m g)
  | 0, g, k, h => h
  | m + 1, g, k, h => by
    rw [take_eq]
    refine wys_take m _ k ?_
    unfold oneG
    split
    · exact h
    · unfold wys
      rw [List.map_append]
      exact List.mem_append_left _ h
theorem wys_turn {N : Net} {prs : List (Nat × Nat)} {g : Gs} : ∀ k ∈ wys g, k ∈ wys (turnG N prs g) := fun k h => wys_take N.n (passG prs (spanG N prs g) g) k h
theorem wys_grow {N : Net} {prs : List (Nat × Nat)} : ∀ (m : Nat) (g : Gs), ∀ k ∈ wys g, k ∈ wys (growG N prs m g)
  | 0, g, k, h => h
  | m + 1, g, k, h => by
    rw [grow_eq]
    refine wys_grow m _ k ?_
    unfold stepG
    split
    · exact h
    · exact wys_turn k h
/-- what holds turn by turn, if it holds at the start -/
theorem grow_ind {N : Net} {prs : List (Nat × Nat)} (P : Gs → Prop) {F : List Nat} (hw : WaysOk N) (hj : JoinAll N prs) (h0 : 0 < N.n) (hn : N.n ≤ 12) (step : ∀ k g, GInv N k g → FInv N g → (∀ w ∈ wys g, w ∈ F) → stillP prs g.ps ≠ [] → k + 1 ≤ 12 → P g → P (turnG N prs g)) :
    ∀ (m k : Nat) (g : Gs), GInv N k g → FInv N g → (∀ w ∈ wys (growG N prs m g), w ∈ F) → P g → P (growG N prs m g)
  | 0, k, g, _, _, _, h => h
  | m + 1, k, g, gi, fi, hF, h => by
    rw [grow_eq] at hF ⊢
    by_cases hs : stillP prs g.ps = []
    · have e : stepG N prs g = g := by simp only [stepG, hs, if_true]
      rw [e] at hF ⊢
      exact grow_ind P hw hj h0 hn step m k g gi fi hF h
    · have e : stepG N prs g = turnG N prs g := by simp only [stepG, hs, if_false]
      have ppos : 0 < g.ps.length := by
        obtain ⟨p, hm⟩ := List.exists_mem_of_ne_nil _ hs
        exact List.length_pos_iff_exists_mem.mpr ⟨p, (List.mem_filter.mp hm).1⟩
      have hk : k + 1 ≤ 12 := by have := gi.kn; omega
      rw [e] at hF ⊢
      refine grow_ind P hw hj h0 hn step m (k + 1) _ (turn_inv hw hj h0 hn (by omega) gi hs) (turn_finv hw gi.nd fi) hF ?_
      exact step k g gi fi (fun w hwm => hF w (wys_grow m _ w (wys_turn w hwm))) hs hk h
theorem turn_ws {N : Net} {prs : List (Nat × Nat)} {g : Gs} (hw : WaysOk N) (h0 : 0 < N.n) (h : PartI N.n g.ps) : (turnG N prs g).ws = widenP (spanG N prs g) (stillP prs g.ps) g.ws := (take_spec hw h0 N.n (passG prs (spanG N prs g) g) h).ws
section
variable {N : Net} {prs : List (Nat × Nat)} {F T : List Nat}
structure Bnd (N : Net) (prs : List (Nat × Nat)) (T : List Nat) (g : Gs) : Prop where
  up : (endsL N.n prs).length * wsum (degT N T) g.ws ≤ (2 * (endsL N.n prs).length - 2) * wsum one g.ws
theorem bnd_turn {k : Nat} {g : Gs} (hw : WaysOk N) (h0 : 0 < N.n) (hp : PrOk N.n prs) (hF : ∀ k ∈ F, k < N.ways.length) (ff : Forest N F) (hTF : ∀ k ∈ T, k ∈ F) (ndT : T.Nodup) (hjT : JoinC N T prs) (hnT : ∀ w ∈ T, ¬ JoinC N (without T w) prs)
    (fi : FInv N g) (hG : ∀ w ∈ wys g, w ∈ F) (hs : stillP prs g.ps ≠ []) (h : Bnd N prs T g) : Bnd N prs T (turnG N prs g) := by
  have db := deg_bound hw hp hF ff hG fi.nd hTF ndT hjT hnT fi.part fi.comp hs
  have se := still_ends hp fi.part
  constructor
  rw [turn_ws hw h0 fi.part, wsum_widen, wsum_widen]
  have o1 : ((stillP prs g.ps).map one).sum = (stillP prs g.ps).length := by
    have := sum_const (c := 1) (stillP prs g.ps)
    rw [Nat.one_mul] at this
    exact this
  rw [o1]
  have hu := h.up
  have lp : 0 < (stillP prs g.ps).length := List.length_pos_iff.mpr hs
  generalize (endsL N.n prs).length = K at *
  generalize (stillP prs g.ps).length = m at *
  generalize ((stillP prs g.ps).map (degT N T)).sum = d at *
  generalize wsum (degT N T) g.ws = A at *
  generalize wsum one g.ws = B at *
  generalize spanG N prs g = s at *
  obtain ⟨m', rfl⟩ : ∃ m', m = m' + 1 := ⟨m - 1, by omega⟩
  obtain ⟨K', rfl⟩ : ∃ K', K = K' + 1 := ⟨K - 1, by omega⟩
  have hd : d ≤ 2 * m' := by omega
  have e1 : 2 * (K' + 1) - 2 = 2 * K' := by omega
  rw [e1] at hu ⊢
  have key : (K' + 1) * d ≤ 2 * K' * (m' + 1) := by
    have a1 : (K' + 1) * d ≤ (K' + 1) * (2 * m') := Nat.mul_le_mul_left _ hd
    have a2 : (K' + 1) * (2 * m') = 2 * (K' * m') + 2 * m' := by grind
    have a3 : 2 * K' * (m' + 1) = 2 * (K' * m') + 2 * K' := by grind
    omega
  have b1 : (K' + 1) * (A + s * d) = (K' + 1) * A + s * ((K' + 1) * d) := by grind
  have b2 : 2 * K' * (B + s * (m' + 1)) = 2 * K' * B + s * (2 * K' * (m' + 1)) := by grind
  have b3 : s * ((K' + 1) * d) ≤ s * (2 * K' * (m' + 1)) := Nat.mul_le_mul_left _ key
  omega
/-- the worth is at most what each joining choice is filled with -/
theorem low_turn {g : Gs} {C : List Nat} (hw : WaysOk N) (h0 : 0 < N.n) (hjC : JoinC N C prs) (h : PartI N.n g.ps) (hl : wsum one g.ws ≤ wsum (degT N C) g.ws) : wsum one (turnG N prs g).ws ≤ wsum (degT N C) (turnG N prs g).ws := by
  rw [turn_ws hw h0 h, wsum_widen, wsum_widen]
  have : ((stillP prs g.ps).map one).sum ≤ ((stillP prs g.ps).map (degT N C)).sum := sum_le fun p hm => deg_open hjC (List.mem_filter.mp hm).2
  have := Nat.mul_le_mul_left (spanG N prs g) this
  omega
def priceL (N : Net) (C : List Nat) : Nat := (C.map fun k => (wayAt N k).c).sum
theorem sum_mul {α : Type} (f : α → Nat) (c : Nat) : ∀ l : List α, (l.map fun a => f a * c).sum = (l.map f).sum * c
  | [] => by simp
  | a :: l => by rw [List.map_cons, List.sum_cons, sum_mul f c l, List.map_cons, List.sum_cons, Nat.add_mul]
theorem price_load {g : Gs} {C : List Nat} (h : ∀ k ∈ C, lackW (wayAt N k) g.ws = 0) : wsum (degT N C) g.ws = priceL N C * two40 := by
  rw [← load_deg]
  unfold priceL
  rw [← sum_mul]
  congr 1
  refine List.map_congr_left fun k hk => ?_
  have := h k hk
  rw [lackW_two] at this
  omega
theorem price_ge {g : Gs} {C : List Nat} (hC : ∀ k ∈ C, k < N.ways.length) (h : ∀ w ∈ N.ways, loadW w g.ws ≤ w.c * two40) : wsum (degT N C) g.ws ≤ priceL N C * two40 := by
  rw [← load_deg]
  unfold priceL
  rw [← sum_mul]
  exact sum_le fun k hk => h _ (wayAt_in (hC k hk))
/-- the bounds in the end -/
structure EndI (N : Net) (prs : List (Nat × Nat)) (g : Gs) (T : List Nat) : Prop where
  up : (endsL N.n prs).length * (priceL N T * two40) ≤ (2 * (endsL N.n prs).length - 2) * wsum one g.ws
  low : ∀ C : List Nat, (∀ k ∈ C, k < N.ways.length) → JoinC N C prs → wsum one g.ws ≤ priceL N C * two40
theorem end_inv {most W : Nat} (hN : N.Ok most W) (hn : N.n ≤ 12) (hp : PrOk N.n prs) (hj : JoinAll N prs) : ∃ g k, g = growG N prs N.n (startG N prs) ∧ GInv N k g ∧ FInv N g ∧ stillP prs g.ps = [] ∧ ToldI N prs (wys g) ∧ EndI N prs g (toldL N prs (wys g)) := by
  obtain ⟨k, gi, hs⟩ := grow_inv hN.ways hj hN.n1 hn N.n 0 (startG N prs) (start_inv hN.ways) (by omega)
  have fi := grow_finv hN.ways hj hN.n1 hn N.n 0 (startG N prs) (start_inv hN.ways) (start_finv hN.ways)
  have ti := told_inv hN.ways fi.lt hp fi.forest fi.nd (grown_joins hp fi hs)
  have ndT : (toldL N prs (wys (growG N prs N.n (startG N prs)))).Nodup := nodup_filter fi.nd
  refine ⟨_, k, rfl, gi, fi, hs, ti, ?_, fun C hC hjC => ?_⟩
  · have := grow_ind (Bnd N prs (toldL N prs (wys (growG N prs N.n (startG N prs))))) (F := wys (growG N prs N.n (startG N prs))) hN.ways hj hN.n1 hn (fun k g gi' fi' hG hs' hk h => bnd_turn (k := k) hN.ways hN.n1 hp fi.lt fi.forest ti.sub ndT ti.join ti.need fi' hG hs' h) N.n 0 (startG N prs) (start_inv hN.ways) (start_finv hN.ways) (fun w h => h) ⟨by
      show (endsL N.n prs).length * 0 ≤ _
      omega⟩
    have h2 := this.up
    rw [price_load fun k hk => fi.full k (ti.sub k hk)] at h2
    exact h2
  · have := grow_ind (fun g => wsum one g.ws ≤ wsum (degT N C) g.ws) (F := wys (growG N prs N.n (startG N prs))) hN.ways hj hN.n1 hn (fun k g gi' fi' hG hs' hk h => low_turn hN.ways hN.n1 hjC fi'.part h) N.n 0 (startG N prs) (start_inv hN.ways) (start_finv hN.ways) (fun w h => h) (Nat.le_refl 0)
    exact Nat.le_trans this (price_ge hC gi.load)
end
end Ev

namespace Ev
open PySem PySem.Spec PyProof.Rows L2
/-! ### the moats -/
def asc (p : List Nat) : Prop := p.Pairwise (· < ·)
structure KeyI (N : Net) (prs : List (Nat × Nat)) (g : Gs) : Prop where
  asc : ∀ p ∈ g.ps, asc p
  keys : ∀ e ∈ g.ws, e.1 ≠ [] ∧ Ev.asc e.1 ∧ (∀ x ∈ e.1, x < N.n) ∧ openP prs e.1 = true
theorem isort_asc {l : List Int} (h : l.Nodup) : (isort l).Pairwise (· < ·) := by
  have h1 := isort_sorted l
  have h2 : (isort l).Nodup := (isort_perm l).nodup_iff.mpr h
  exact (List.pairwise_and_iff.mpr ⟨h1, h2⟩).imp fun {a b} h => by
    have := h.1
    have := h.2
    omega
theorem sortN_asc {l : List Nat} (h : l.Nodup) : asc (sortN l) := by
  have h1 := isort_asc (l := natI l) (List.Pairwise.map _ (fun a b h => fun e => h (Int.ofNat.inj e)) h)
  rw [← sortN_natI] at h1
  unfold natI at h1
  rw [List.pairwise_map] at h1
  exact h1.imp fun {a b} h => Int.ofNat_lt.mp h
theorem one_key {N : Net} {prs : List (Nat × Nat)} {g : Gs} (hw : WaysOk N) (hp : PartI N.n g.ps) (h : KeyI N prs g) : KeyI N prs (oneG N g) := by
  cases hf : fullK N g.ps g.ws with
  | none =>
    have : oneG N g = g := by simp only [oneG, hf]
    rw [this]; exact h
  | some i =>
    have eo : oneG N g = { g with ps := mergeP (wayAt N i) g.ps, tk := g.tk ++ [(g.t, i)] } := by simp only [oneG, hf]
    obtain ⟨hi1, hi0, hi2⟩ := full_some hf
    have ab := hw.ab (wayAt_in hi1)
    obtain ⟨p, q, pm, qm, hne, es, _, _⟩ := hp.two ab.1 ab.2 hi2
    rw [eo]
    refine ⟨fun r hr => ?_, h.keys⟩
    have hr : r ∈ joinP p q g.ps := by
      have : mergeP (wayAt N i) g.ps = joinP p q g.ps := by unfold mergeP; rw [es]
      rw [← this]
      exact hr
    rcases List.mem_cons.mp ((joinP_perm p q).mem_iff.mp hr) with rfl | hr
    · refine sortN_asc (List.nodup_append.mpr ⟨hp.nd p pm, hp.nd q qm, fun a ha b hb e => ?_⟩)
      subst e
      exact hne (hp.uniq pm qm ha hb)
    · exact h.asc r (List.mem_filter.mp hr).1
theorem take_key {N : Net} {prs : List (Nat × Nat)} (hw : WaysOk N) (h0 : 0 < N.n) : ∀ (m : Nat) (g : Gs), PartI N.n g.ps → KeyI N prs g → KeyI N prs (takeG N m g)
  | 0, g, _, h => h
  | m + 1, g, hp, h => by
    rw [take_eq]
    exact take_key hw h0 m _ ((take_spec hw h0 1 g hp).part) (one_key hw hp h)
theorem putW_keyP {α : Type} {P : List Nat → Prop} {p : List Nat} {a : α} (hp : P p) : ∀ {ws : List (List Nat × α)}, (∀ e ∈ ws, P e.1) → ∀ e ∈ putW p a ws, P e.1
  | [], _, e, he => by
    rw [show putW p a [] = [(p, a)] from rfl, List.mem_singleton] at he
    rw [he]; exact hp
  | x :: ws, h, e, he => by
    unfold putW at he
    split at he
    · rcases List.mem_cons.mp he with z | z
      · rw [z]; exact hp
      · exact h e (List.mem_cons_of_mem _ z)
    · rcases List.mem_cons.mp he with z | z
      · rw [z]; exact h x List.mem_cons_self
      · exact putW_keyP hp (fun y hy => h y (List.mem_cons_of_mem _ hy)) e z
theorem widen_keyP {P : List Nat → Prop} {s : Nat} : ∀ {still : List (List Nat)} {ws : Wid}, (∀ p ∈ still, P p) → (∀ e ∈ ws, P e.1) → ∀ e ∈ widenP s still ws, P e.1
  | [], ws, _, h => h
  | p :: still, ws, hs, h => by
    unfold widenP
    rw [List.foldl_cons]
    exact widen_keyP (fun q hq => hs q (List.mem_cons_of_mem _ hq)) (putW_keyP (hs p List.mem_cons_self) h)
theorem turn_key {N : Net} {prs : List (Nat × Nat)} {g : Gs} (hw : WaysOk N) (h0 : 0 < N.n) (hp : PartI N.n g.ps) (h : KeyI N prs g) : KeyI N prs (turnG N prs g) := by
  have hk : KeyI N prs (passG prs (spanG N prs g) g) := ⟨h.asc, widen_keyP (P := fun p => p ≠ [] ∧ Ev.asc p ∧ (∀ x ∈ p, x < N.n) ∧ openP prs p = true) (fun p hm => by
    obtain ⟨h1, h2⟩ := List.mem_filter.mp hm
    exact ⟨hp.ne p h1, h.asc p h1, hp.lt p h1, h2⟩) h.keys⟩
  have := take_key hw h0 N.n (passG prs (spanG N prs g) g) hp hk
  exact ⟨this.asc, this.keys⟩
theorem start_key {N : Net} {prs : List (Nat × Nat)} : KeyI N prs (startG N prs) where
  asc p hp := by
    obtain ⟨y, _, rfl⟩ := List.mem_map.mp hp
    exact List.pairwise_singleton _ _
  keys e he := by cases he
/-- the paper, plain -/
def widOf (ws : Wid) (p : List Nat) : Nat := (getW p ws).getD 0
def paperP (ws : Wid) : Wid := ((sortP (ws.map (·.1))).filter fun p => decide (widOf ws p ≠ 0)).map fun p => (p, widOf ws p)
def moatD (e : List Nat × Nat) : D := .tup [partD e.1, exD e.2]
theorem keysI_dict {α : Type} (f : α → D) : ∀ ws : List (List Nat × α), keysI (dictL f ws) = some ((ws.map (·.1)).map natI)
  | [] => rfl
  | e :: ws => by
    have ih := keysI_dict f ws
    have hk : ∀ p : List Nat, keyI (keyN p) = some (natI p) := fun p => by
      induction p with
      | nil => rfl
      | cons x p ih =>
        unfold keyN natI at ih ⊢
        simp only [List.map_cons, keyI, ih, Option.map_some]
        rfl
    unfold dictL at ih ⊢
    simp only [List.map_cons, keysI, hk, ih]
theorem oSortK_dict {S : Sto} {n : Nat} {α : Type} {f : α → D} {ws : List (List Nat × α)} (h : S[n]? = some (.dT (dictL f ws))) (hne : ∀ e ∈ ws, e.1 ≠ []) : oSortK [.loc n] S = some (.lst (partsL (sortP (ws.map (·.1)))), S) := by
  unfold oSortK
  simp only [h, keysI_dict, Option.bind_some]
  rw [if_pos]
  · rw [← sortP_natI, tupsD_natI]
  · rw [List.all_eq_true]
    intro is hi
    obtain ⟨p, hp, rfl⟩ := List.mem_map.mp hi
    obtain ⟨e, he, rfl⟩ := List.mem_map.mp hp
    have := hne e he
    cases h : e.1 with
    | nil => exact absurd h this
    | cons x p => rfl
theorem paper_sum {ws : Wid} (nd : (ws.map (·.1)).Nodup) : ((paperP ws).map (·.2)).sum = wsum one ws := by
  have h1 : ((sortP (ws.map (·.1))).map (widOf ws)).sum = ((ws.map (·.1)).map (widOf ws)).sum := ((sortP_perm _).map _).sum_nat
  have h2 : ((ws.map (·.1)).map (widOf ws)) = ws.map (·.2) := by
    rw [List.map_map]
    refine List.map_congr_left fun e he => ?_
    show (getW e.1 ws).getD 0 = e.2
    rw [getW_mem nd e he]
    rfl
  rw [wsum_one, ← h2, ← h1]
  unfold paperP
  rw [List.map_map, sum_parts (widOf ws) (fun p => decide (widOf ws p ≠ 0)) (sortP _)]
  have h3 : (((sortP (ws.map (·.1))).filter fun p => !decide (widOf ws p ≠ 0)).map (widOf ws)).sum = 0 := by
    have : (((sortP (ws.map (·.1))).filter fun p => !decide (widOf ws p ≠ 0)).map (widOf ws)).sum = (((sortP (ws.map (·.1))).filter fun p => !decide (widOf ws p ≠ 0)).map fun _ => 0).sum := by
      congr 1
      refine List.map_congr_left fun p hp => ?_
      have := (List.mem_filter.mp hp).2
      simpa using this
    rw [this, sum_const, Nat.zero_mul]
  rw [h3]
  rfl
end Ev

namespace Ev
open PySem PySem.Spec PyProof.Rows L2
/-! ### nets with other costs, pairs in another order -/
def mapC (f : Nat → Nat) (N : Net) : Net := ⟨N.n, N.ways.map fun w => ⟨w.a, w.b, f w.c⟩⟩
theorem mapC_at {f : Nat → Nat} {N : Net} {k : Nat} (h : k < N.ways.length) : wayAt (mapC f N) k = ⟨(wayAt N k).a, (wayAt N k).b, f (wayAt N k).c⟩ := by
  have h1 := ways_at h
  unfold wayAt at h1 ⊢
  unfold mapC
  dsimp only
  rw [List.getD_eq_getElem?_getD, List.getElem?_map, h1]
  rfl
theorem mapC_edge {f : Nat → Nat} {N : Net} (k : Nat) : edgeAt (mapC f N) k = edgeAt N k := by
  by_cases h : k < N.ways.length
  · unfold edgeAt
    rw [mapC_at h]
  · have e1 : wayAt N k = ⟨0, 1, 1⟩ := by
      unfold wayAt
      rw [List.getD_eq_getElem?_getD, List.getElem?_eq_none (by omega)]
      rfl
    have e2 : wayAt (mapC f N) k = ⟨0, 1, 1⟩ := by
      unfold wayAt mapC
      dsimp only
      rw [List.getD_eq_getElem?_getD, List.getElem?_eq_none (by rw [List.length_map]; omega)]
      rfl
    unfold edgeAt
    rw [e1, e2]
theorem mapC_edges {f : Nat → Nat} {N : Net} (c : List Nat) : edges (mapC f N) c = edges N c := List.map_congr_left fun k _ => mapC_edge k
theorem mapC_joinsB {f : Nat → Nat} {N : Net} (c : List Nat) (prs : List (Nat × Nat)) : joinsB (mapC f N) c prs = joinsB N c prs := by
  unfold joinsB
  rw [mapC_edges]
  rfl
theorem mapC_joinAll {f : Nat → Nat} {N : Net} {prs : List (Nat × Nat)} (h : JoinAll N prs) : JoinAll (mapC f N) prs := fun q hq => by
  have := h q hq
  unfold allW at this ⊢
  rw [mapC_edges]
  unfold mapC
  dsimp only
  rw [List.length_map]
  exact this
theorem mapC_told {f : Nat → Nat} {N : Net} (prs : List (Nat × Nat)) (F : List Nat) : toldL (mapC f N) prs F = toldL N prs F := by
  unfold toldL needW
  refine List.filter_congr fun k _ => ?_
  rw [mapC_joinsB]
section
variable {N : Net} {prs : List (Nat × Nat)} {m : Nat}
def scW (m : Nat) (ws : Wid) : Wid := ws.map fun e => (e.1, e.2 * m)
def scG (m : Nat) (g : Gs) : Gs := ⟨g.ps, scW m g.ws, g.tk.map fun e => (e.1 * m, e.2), g.t * m, g.rows.map fun e => (e.1 * m, e.2)⟩
theorem scW_load (w w' : Way) (ha : w'.a = w.a) (hb : w'.b = w.b) : ∀ ws : Wid, loadW w' (scW m ws) = loadW w ws * m
  | [] => (Nat.zero_mul _).symm
  | e :: ws => by
    have ih := scW_load w w' ha hb ws
    rw [loadW_sum] at ih ⊢
    rw [loadW_sum] at ih ⊢
    have hc : cutW w' e.1 = cutW w e.1 := by unfold cutW; rw [ha, hb]
    show sumW (cutW w') ((e.1, e.2 * m) :: scW m ws) = _
    rw [sumW_cons, sumW_cons, ih, hc, Nat.add_mul]
    split
    · rfl
    · rw [Nat.zero_mul]
theorem sides_ab {w w' : Way} (ha : w'.a = w.a) (hb : w'.b = w.b) (ps : List (List Nat)) : sidesP w' ps = sidesP w ps := by
  unfold sidesP sidesF
  rw [ha, hb]
theorem rate_ab {w w' : Way} (ha : w'.a = w.a) (hb : w'.b = w.b) (ps still : List (List Nat)) : rateW w' ps still = rateW w ps still := by
  unfold rateW
  rw [sides_ab ha hb]
def scWay (m : Nat) (w : Way) : Way := ⟨w.a, w.b, w.c * m⟩
theorem sc_ways : (mapC (· * m) N).ways = N.ways.map (scWay m) := rfl
theorem sc_lack (w : Way) (ws : Wid) : lackW (scWay m w) (scW m ws) = lackW w ws * (m : Int) := by
  rw [lackW_two, lackW_two, scW_load w (scWay m w) rfl rfl]
  show ((w.c * m * two40 : Nat) : Int) - ((loadW w ws * m : Nat) : Int) = _
  rw [Nat.mul_right_comm, Int.natCast_mul, Int.natCast_mul (loadW w ws), ← Int.sub_mul]
theorem sc_full (hm : 0 < m) (ps : List (List Nat)) (ws : Wid) : fullK (mapC (· * m) N) ps (scW m ws) = fullK N ps ws := by
  have e : (fullB ps (scW m ws)) ∘ (scWay m) = fullB ps ws := by
    funext w
    show fullB ps (scW m ws) (scWay m w) = fullB ps ws w
    unfold fullB
    rw [sc_lack, sides_ab (w := w) (w' := scWay m w) rfl rfl]
    have d : decide (lackW w ws * (m : Int) = 0) = decide (lackW w ws = 0) := by
      refine decide_eq_decide.mpr ⟨fun h => ?_, fun h => by rw [h, Int.zero_mul]⟩
      rcases Int.mul_eq_zero.mp h with z | z
      · exact z
      · omega
    rw [d]
  unfold fullK
  rw [sc_ways, List.findIdx?_map, e]
theorem sc_one (hm : 0 < m) (g : Gs) : oneG (mapC (· * m) N) (scG m g) = scG m (oneG N g) := by
  have hf : fullK (mapC (· * m) N) (scG m g).ps (scG m g).ws = fullK N g.ps g.ws := sc_full hm g.ps g.ws
  cases h : fullK N g.ps g.ws with
  | none =>
    rw [h] at hf
    simp only [oneG, hf, h]
  | some i =>
    rw [h] at hf
    simp only [oneG, hf, h]
    have e : mergeP (wayAt (mapC (· * m) N) i) g.ps = mergeP (wayAt N i) g.ps := by
      have hi := (full_some h).1
      rw [mapC_at hi]
      unfold mergeP
      rw [sides_ab (w := wayAt N i) (w' := ⟨(wayAt N i).a, (wayAt N i).b, (wayAt N i).c * m⟩) rfl rfl]
    unfold scG
    simp only [e, List.map_append, List.map_cons, List.map_nil]
theorem sc_take (hm : 0 < m) : ∀ (k : Nat) (g : Gs), takeG (mapC (· * m) N) k (scG m g) = scG m (takeG N k g)
  | 0, g => rfl
  | k + 1, g => by rw [take_eq, take_eq, sc_one hm, sc_take hm k]
theorem scW_get (p : List Nat) : ∀ ws : Wid, (getW p (scW m ws)).getD 0 = (getW p ws).getD 0 * m
  | [] => (Nat.zero_mul _).symm
  | e :: ws => by
    have ih := scW_get p ws
    unfold scW at ih ⊢
    rw [List.map_cons]
    simp only [getW]
    by_cases h : e.1 = p
    · rw [if_pos h, if_pos h]; rfl
    · rw [if_neg h, if_neg h]; exact ih
theorem scW_put (p : List Nat) (a : Nat) : ∀ ws : Wid, putW p (a * m) (scW m ws) = scW m (putW p a ws)
  | [] => rfl
  | e :: ws => by
    have ih := scW_put p a ws
    unfold scW at ih ⊢
    rw [List.map_cons]
    simp only [putW]
    by_cases h : e.1 = p
    · rw [if_pos h, if_pos h]; rfl
    · rw [if_neg h, if_neg h, List.map_cons, ih]
theorem scW_widen (s : Nat) : ∀ (still : List (List Nat)) (ws : Wid), widenP (s * m) still (scW m ws) = scW m (widenP s still ws)
  | [], ws => rfl
  | p :: still, ws => by
    have ih := scW_widen s still (putW p ((getW p ws).getD 0 + s) ws)
    unfold widenP at ih ⊢
    rw [List.foldl_cons, List.foldl_cons, scW_get, ← Nat.add_mul, scW_put]
    exact ih
theorem sc_waysOk (hw : WaysOk N) (hm : 0 < m) (hc : ∀ w ∈ N.ways, w.c * m ≤ 10000) : WaysOk (mapC (· * m) N) := fun w' h => by
  obtain ⟨w, hm', rfl⟩ := List.mem_map.mp h
  have := hw w hm'
  exact ⟨this.1, this.2.1, Nat.mul_pos this.2.2.1 hm, hc w hm'⟩
theorem sc_span {k : Nat} {g : Gs} (hw : WaysOk N) (hm : 0 < m) (hj : JoinAll N prs) (hk : k + 1 ≤ 39) (gi : GInv N k g) (hs : stillP prs g.ps ≠ []) : spanG (mapC (· * m) N) prs (scG m g) = spanG N prs g * m := by
  obtain ⟨s, es, sp⟩ := span_spec hw hj hk gi hs
  obtain ⟨w0, m0, r0⟩ := still_rate hw hj gi.part hs
  obtain ⟨x, w, e1, hmw, hr, hx, hall⟩ := wait_spec (N := N) (ws := g.ws) ⟨w0, m0, r0⟩
  obtain ⟨x', w', e1', hmw', hr', hx', hall'⟩ := wait_spec (N := mapC (· * m) N) (ps := g.ps) (still := stillP prs g.ps) (ws := scW m g.ws) ⟨scWay m w0, List.mem_map.mpr ⟨w0, m0, rfl⟩, r0⟩
  have dv : ∀ v ∈ N.ways, 0 < rateW v g.ps (stillP prs g.ps) → lackW (scWay m v) (scW m g.ws) / (rateW (scWay m v) g.ps (stillP prs g.ps) : Int) = lackW v g.ws / (rateW v g.ps (stillP prs g.ps) : Int) * (m : Int) := fun v hv hp => by
    obtain ⟨a1, a2, _⟩ := sp.each v hv hp
    have hd : ((rateW v g.ps (stillP prs g.ps) : Nat) : Int) ∣ lackW v g.ws := by
      obtain ⟨q, hq⟩ := Nat.dvd_of_mod_eq_zero a1
      refine ⟨(q : Int), ?_⟩
      rw [← Int.toNat_of_nonneg a2, hq, Int.natCast_mul]
    rw [sc_lack, rate_ab (w := v) (w' := scWay m v) rfl rfl, Int.mul_comm, Int.mul_ediv_assoc _ hd, Int.mul_comm]
  obtain ⟨v, hv, rfl⟩ := List.mem_map.mp hmw'
  have h1 := hall v hv hr'
  have h2 := hall' (scWay m w) (List.mem_map.mpr ⟨w, hmw, rfl⟩) hr
  rw [dv w hmw hr, ← hx] at h2
  have hx2 : x' = lackW v g.ws / (rateW v g.ps (stillP prs g.ps) : Int) * (m : Int) := hx'.trans (dv v hv hr')
  have h3 : x * (m : Int) ≤ x' := by
    rw [hx2]
    exact Int.mul_le_mul_of_nonneg_right h1 (by omega)
  have ex : x' = x * (m : Int) := by omega
  have xs : x = (s : Int) := by
    rw [sp.wait] at e1
    exact (Option.some.inj e1).symm
  unfold spanG
  rw [e1]
  show ((waitP (mapC (· * m) N) g.ps (scW m g.ws) (stillP prs g.ps)).getD 0).toNat = _
  rw [e1', ex, xs]
  simp only [Option.getD_some]
  rw [← Int.natCast_mul]
  rfl
theorem sc_turn {k : Nat} {g : Gs} (hw : WaysOk N) (hm : 0 < m) (hj : JoinAll N prs) (hk : k + 1 ≤ 39) (gi : GInv N k g) (hs : stillP prs g.ps ≠ []) : turnG (mapC (· * m) N) prs (scG m g) = scG m (turnG N prs g) := by
  unfold turnG
  rw [sc_span hw hm hj hk gi hs]
  have e : passG prs (spanG N prs g * m) (scG m g) = scG m (passG prs (spanG N prs g) g) := by
    unfold passG scG
    dsimp only
    rw [scW_widen, Nat.add_mul]
  rw [e, show (mapC (· * m) N).n = N.n from rfl, sc_take hm]
  unfold rowG scG
  dsimp only
  rw [List.map_append]
  rfl
theorem sc_grow (hw : WaysOk N) (hm : 0 < m) (hj : JoinAll N prs) (h0 : 0 < N.n) (hn : N.n ≤ 12) : ∀ (j k : Nat) (g : Gs), GInv N k g → growG (mapC (· * m) N) prs j (scG m g) = scG m (growG N prs j g)
  | 0, k, g, _ => rfl
  | j + 1, k, g, gi => by
    rw [grow_eq, grow_eq]
    by_cases hs : stillP prs g.ps = []
    · have e1 : stepG N prs g = g := by simp only [stepG, hs, if_true]
      have hs' : stillP prs (scG m g).ps = [] := hs
      have e2 : stepG (mapC (· * m) N) prs (scG m g) = scG m g := by simp only [stepG, hs', if_true]
      rw [e1, e2]
      exact sc_grow hw hm hj h0 hn j k g gi
    · have ppos : 0 < g.ps.length := by
        obtain ⟨p, hm⟩ := List.exists_mem_of_ne_nil _ hs
        exact List.length_pos_iff_exists_mem.mpr ⟨p, (List.mem_filter.mp hm).1⟩
      have hk : k + 1 ≤ 39 := by have := gi.kn; omega
      have e1 : stepG N prs g = turnG N prs g := by simp only [stepG, hs, if_false]
      have hs' : ¬ stillP prs (scG m g).ps = [] := hs
      have e2 : stepG (mapC (· * m) N) prs (scG m g) = turnG (mapC (· * m) N) prs (scG m g) := by simp only [stepG, hs', if_false]
      rw [e1, e2, sc_turn hw hm hj hk gi hs]
      exact sc_grow hw hm hj h0 hn j (k + 1) _ (turn_inv hw hj h0 hn hk gi hs)
theorem sc_start : startG (mapC (· * m) N) prs = scG m (startG N prs) := by
  unfold startG scG scW
  simp only [List.map_nil, List.map_cons, Nat.zero_mul]
  rfl
theorem sc_grown (hw : WaysOk N) (hm : 0 < m) (hj : JoinAll N prs) (h0 : 0 < N.n) (hn : N.n ≤ 12) : growG (mapC (· * m) N) prs N.n (startG (mapC (· * m) N) prs) = scG m (growG N prs N.n (startG N prs)) := by
  rw [sc_start]
  exact sc_grow hw hm hj h0 hn N.n 0 _ (start_inv hw)
theorem sc_wys (g : Gs) : wys (scG m g) = wys g := by
  unfold wys scG
  rw [List.map_map]
  rfl
theorem sc_paper (hm : 0 < m) (ws : Wid) : paperP (scW m ws) = scW m (paperP ws) := by
  have hk : (scW m ws).map (·.1) = ws.map (·.1) := by
    unfold scW
    rw [List.map_map]
    rfl
  have hv : ∀ p, widOf (scW m ws) p = widOf ws p * m := fun p => scW_get p ws
  unfold paperP
  rw [hk]
  have hf : (sortP (ws.map (·.1))).filter (fun p => decide (widOf (scW m ws) p ≠ 0)) = (sortP (ws.map (·.1))).filter (fun p => decide (widOf ws p ≠ 0)) := by
    refine List.filter_congr fun p _ => ?_
    rw [hv]
    refine decide_eq_decide.mpr (not_congr ⟨fun h => ?_, fun h => by rw [h, Nat.zero_mul]⟩)
    rcases Nat.mul_eq_zero.mp h with z | z
    · exact z
    · omega
  rw [hf]
  unfold scW
  rw [List.map_map]
  refine List.map_congr_left fun p _ => ?_
  show (p, widOf (scW m ws) p) = (p, widOf ws p * m)
  rw [hv]
/-! pairs in another order -/
theorem perm_open {prs prs' : List (Nat × Nat)} (h : prs'.Perm prs) (p : List Nat) : openP prs' p = openP prs p := by
  rw [Bool.eq_iff_iff, openP_iff, openP_iff]
  exact exists_congr fun q => and_congr_left' h.mem_iff
theorem perm_still {prs prs' : List (Nat × Nat)} (h : prs'.Perm prs) : stillP prs' = stillP prs := by
  funext ps
  unfold stillP
  exact List.filter_congr fun p _ => perm_open h p
theorem still_grow {prs prs' : List (Nat × Nat)} (h : stillP prs' = stillP prs) : ∀ (j : Nat) (g : Gs), growG N prs' j g = growG N prs j g
  | 0, g => rfl
  | j + 1, g => by
    rw [grow_eq, grow_eq]
    have e : stepG N prs' g = stepG N prs g := by
      unfold stepG turnG rowG passG spanG
      rw [h]
    rw [e]
    exact still_grow h j _
theorem perm_grown {prs prs' : List (Nat × Nat)} (h : prs'.Perm prs) : growG N prs' N.n (startG N prs') = growG N prs N.n (startG N prs) := by
  rw [still_grow (perm_still h)]
  unfold startG
  rw [perm_still h]
theorem perm_joinsB {prs prs' : List (Nat × Nat)} (h : prs'.Perm prs) (c : List Nat) : joinsB N c prs' = joinsB N c prs := by
  unfold joinsB
  rw [Bool.eq_iff_iff, List.all_eq_true, List.all_eq_true]
  exact forall_congr' fun q => imp_congr_left h.mem_iff
theorem perm_told {prs prs' : List (Nat × Nat)} (h : prs'.Perm prs) (F : List Nat) : toldL N prs' F = toldL N prs F := by
  unfold toldL needW
  refine List.filter_congr fun k _ => ?_
  rw [perm_joinsB h]
end
end Ev

namespace Ev
open PySem PySem.Spec PyProof.Rows L2
/-! ### the law's ratios -/
theorem law_ratio_spec {n d : Nat} {S : Sto} (hd : 0 < d) (hd2 : d < 18446744073709551616) (hn : n < 2 ^ 100) : f_law_ratio [.int n, .int d] S = .ok (rD (mkRat n d)) S := by
  have gp : 0 < Nat.gcd n d := Nat.gcd_pos_of_pos_right _ hd
  have gl : Nat.gcd n d ≤ d := Nat.gcd_le_right _ hd
  have cv : ∀ i : Int, CDv i ((Nat.gcd n d : Nat) : Int) := fun i => ⟨by omega, by omega⟩
  have ab : ∀ m : Nat, pure1 gAbs [.int (m : Int)] S = some (.int (m : Int), S) := fun m => by
    have e : (if (m : Int) < 0 then -(m : Int) else (m : Int)) = (m : Int) := if_neg (by omega)
    show some (D.int (if (m : Int) < 0 then -(m : Int) else (m : Int)), S) = _
    rw [e]
  unfold f_law_ratio
  refine runF_rt (S1 := S) (d := rD (mkRat n d)) ?_ (gc_same (okD_rD _ _))
  unfold b_law_ratio
  have g := law_gcd_spec (S := S) hn (show d < 2 ^ 100 from Nat.lt_trans hd2 (by decide)) hd
  have lt : oLt (.int (d : Int)) (.int 0) S = some (.bl false) := by rw [oLt_int, decide_eq_false (by omega)]
  refine (sSeq_nx (S1 := S) (sSet_ok (eCall_ok (S1 := S) (aCons_ok (eCb_ok (aCons_ok (eVar_ok rfl) aNil_ok) (ab _)) (aCons_ok (eCb_ok (aCons_ok (eVar_ok rfl) aNil_ok) (ab _)) aNil_ok)) rfl g))).trans ?_
  refine (sSeq_nx (S1 := S) (sIf_fn (bBin_ok (eVar_ok rfl) eC_ok lt))).trans ?_
  refine sRet_ok ?_
  unfold rD
  have e1 := num_mk (n : Int) hd
  have e2 := den_mk (n : Int) hd
  rw [Int.natAbs_natCast] at e1 e2
  rw [e1, e2]
  exact eTup_ok (aCons_ok (eBin_ok (eVar_ok rfl) (eVar_ok rfl) (oDiv_int (cv _))) (aCons_ok (eBin_ok (eVar_ok rfl) (eVar_ok rfl) (oDiv_int (cv _))) aNil_ok)) (by show 2 ≤ 1000; decide)
section
variable {S : Sto} {x y : D} {a b : Rat}
/-- of ratios that are not negative -/
theorem law_times_spec (hx : isR x a) (hy : isR y b) (ha : sml a) (hb : sml b) (n0 : 0 ≤ a.num) (m0 : 0 ≤ b.num) (hm : CMul a.num b.num) (hl : a.num * b.num < 2 ^ 100) : f_law_times [x, y] S = .ok (rD (a * b)) S := by
  unfold f_law_times
  refine runF_rt (S1 := S) (d := rD (a * b)) ?_ (gc_same (okD_rD _ _))
  unfold b_law_times
  have d1 := dd ha hb
  obtain ⟨m, hm1⟩ : ∃ m : Nat, a.num * b.num = (m : Int) := ⟨(a.num * b.num).toNat, (Int.toNat_of_nonneg (Int.mul_nonneg n0 m0)).symm⟩
  have e : f_law_ratio [.int (a.num * b.num), .int ((a.den : Int) * (b.den : Int))] S = .ok (rD (a * b)) S := by
    rw [hm1]
    have := law_ratio_spec (S := S) (n := m) (d := a.den * b.den) d1.1 d1.2 (by omega)
    rw [← hm1] at this
    rw [← Int.natCast_mul, ← hm1, this, Rat.mul_def]
    rw [Rat.normalize_eq_mkRat]
  exact sRet_ok (eCall_ok (aCons_ok (eBin_ok (eBin_ok (eVar_ok rfl) eC_ok hx.ix0) (eBin_ok (eVar_ok rfl) eC_ok hy.ix0) (oMul_int hm)) (aCons_ok (eBin_ok (eBin_ok (eVar_ok rfl) eC_ok hx.ix1) (eBin_ok (eVar_ok rfl) eC_ok hy.ix1) (oMul_int (cm_den hb _))) aNil_ok)) rfl e)
end
end Ev

namespace Ev
open PySem PySem.Spec PyProof.Rows L2
/-! ### the law's sums -/
theorem num_nat {n d : Nat} (hd : 0 < d) : ∃ m : Nat, (mkRat (n : Int) d).num = (m : Int) ∧ m ≤ n := ⟨n / Nat.gcd n d, by rw [num_mk (n : Int) hd, Int.natAbs_natCast]; exact (Int.natCast_ediv _ _).symm, Nat.div_le_self _ _⟩
theorem den_u {u : Nat} (h : gr ∣ u) : (ratQ u).den ≤ 4096 := by
  unfold ratQ
  rw [Rat.den_mkRat, if_neg (by decide)]
  have h1 : gr ∣ Nat.gcd two40 (Int.natAbs (u : Int)) := Nat.dvd_gcd (by decide) (by rw [Int.natAbs_natCast]; exact h)
  have h2 := Nat.le_of_dvd (Nat.gcd_pos_of_pos_left _ (by decide)) h1
  exact Nat.le_trans (Nat.div_le_div_left h2 (by decide)) (by decide)
section
variable {S : Sto} {x y : D} {a b : Nat}
theorem sum_take_le (us : List Nat) (j : Nat) : (us.take j).sum ≤ us.sum := by
  have := List.take_append_drop j us
  have h2 : us.sum = (us.take j).sum + (us.drop j).sum := by
    rw [← List.sum_append, this]
  omega
end
end Ev

namespace Ev
open PySem PySem.Spec PyProof.Rows L2
/-! ### paper, moats, worth -/
theorem dGet_key {S : Sto} {n : Nat} {p : List Nat} {ws : Wid} (h : S[n]? = some (.dT (dictL exD ws))) (nd : (ws.map (·.1)).Nodup) (hp : p ∈ ws.map (·.1)) : dGet S (.loc n) (partD p) = some (some (exD (widOf ws p))) := by
  rw [dGet_get h]
  obtain ⟨e, he, rfl⟩ := List.mem_map.mp hp
  have := getW_mem nd e he
  unfold widOf
  rw [this]
  rfl
theorem oNe_zero {S : Sto} {u : Nat} (hu : gr ∣ u) : oNe (exD u) (.con (([0, 1] : List Int).map D.int)) S = some (.bl (decide (u ≠ 0))) := by
  have := eq_u (S := S) (isU_ex hu) isU_zero
  unfold oNe
  rw [this]
  congr 2
  by_cases h : u = 0
  · rw [decide_eq_true h, decide_eq_false (fun z => z h)]; rfl
  · rw [decide_eq_false h, decide_eq_true h]; rfl
theorem okDs_moat (n : Nat) (l : Wid) : okDs n (l.map moatD) = true := okDs_of fun x hx => by
  obtain ⟨e, _, rfl⟩ := List.mem_map.mp hx
  unfold moatD partD exD
  simp only [okD, okDs, okDs_nat, okD_rD, Bool.and_self]
section
variable {S0 S : Sto} {N : Net} {prs : List (Nat × Nat)} {most W : Nat} {g : Gs} {tm : D} {fl rw : List D}
theorem paper_spec {k : Nat} (gi : GInv N k g) (hk : k ≤ 12) (hne : ∀ e ∈ g.ws, e.1 ≠ []) : f_PairGrowth_paper [.loc S0.length] (pgS S0 N prs tm g.ps fl g.ws g.tk rw) = .ok (.tup ((paperP g.ws).map moatD)) (pgS S0 N prs tm g.ps fl g.ws g.tk rw) := by
  obtain ⟨S, hS⟩ : ∃ S, S = pgS S0 N prs tm g.ps fl g.ws g.tk rw := ⟨_, rfl⟩
  have p0 : S[S0.length]? = some (.ins "PairGrowth" (pgF N prs S0.length tm g.ps)) := by rw [hS]; exact pg0.h0
  have p2 : S[S0.length + 2]? = some (.dT (dictL exD g.ws)) := by rw [hS]; exact pg2
  have gw : ∀ e ∈ g.ws, gr ∣ e.2 := fun e he => Nat.dvd_trans (gr_pow hk) (gi.dv e he)
  have gu : ∀ p, gr ∣ widOf g.ws p := fun p => by
    unfold widOf
    cases h : getW p g.ws with
    | none => exact Nat.dvd_zero _
    | some u => exact getW_all (P := fun u => gr ∣ u) gw h
  have kl : (sortP (g.ws.map (·.1))).length ≤ 1000 := by rw [(sortP_perm _).length_eq, List.length_map]; have := gi.wl; omega
  rw [← hS]
  refine runF_rt (S1 := S) (d := .tup ((paperP g.ws).map moatD)) ?_ (gc_same (by simp only [okD]; exact okDs_moat _ _))
  show b_PairGrowth_paper [some (.loc S0.length), none] S = _
  unfold b_PairGrowth_paper
  have it : iSeqD (eCb oSortK (aCons (eFld "PairGrowth" (eVar 0) "widths") aNil)) [some (.loc S0.length), none] S = .ok ⟨partsL (sortP (g.ws.map (·.1))), none⟩ S := iSeqD_lst (eCb_ok (aCons_ok (eFld_ok (eVar_ok rfl) p0 rfl) aNil_ok) (oSortK_dict p2 hne))
  have lc := eLc_f (xs := sortP (g.ws.map (·.1))) (F := partD) (c := fun p => decide (widOf g.ws p ≠ 0)) (G := fun p => moatD (p, widOf g.ws p)) (t := bBin oNe (eDGet (eFld "PairGrowth" (eVar 0) "widths") (eVar 1)) (eC (.con (([0, 1] : List Int).map D.int)))) (te := eTup (aCons (eVar 1) (aCons (eDGet (eFld "PairGrowth" (eVar 0) "widths") (eVar 1)) aNil))) (tg := .nm 1) (vs := [1]) it True.intro rfl kl fun p hp => by
    have hp := (sortP_perm _).mem_iff.mp hp
    have dg := dGet_key p2 gi.nd hp
    have dt : ∀ ρ : En, ρ[0]? = some (some (.loc S0.length)) → ρ[1]? = some (some (partD p)) → eDGet (eFld "PairGrowth" (eVar 0) "widths") (eVar 1) ρ S = .ok (exD (widOf g.ws p)) S := fun ρ h1 h2 => eDGet_ok (eFld_ok (eVar_ok h1) p0 rfl) (eVar_ok h2) dg
    exact ⟨_, rfl, bBin_ok (dt _ rfl rfl) eC_ok (oNe_zero (gu p)), fun _ => eTup_ok (aCons_ok (eVar_ok rfl) (aCons_ok (dt _ rfl rfl) aNil_ok)) (by simp only [List.length_cons, List.length_nil]; decide)⟩
  have e : ((sortP (g.ws.map (·.1))).filter fun p => decide (widOf g.ws p ≠ 0)).map (fun p => moatD (p, widOf g.ws p)) = (paperP g.ws).map moatD := by
    unfold paperP
    rw [List.map_map]
    rfl
  rw [e] at lc
  exact sRet_ok (eCb_ok (aCons_ok lc aNil_ok) (pure1_ok rfl))
/-- all that is known of the growth in the end, with the paper -/
theorem end_key (hN : N.Ok most W) (hn : N.n ≤ 12) (hp : PrOk N.n prs) (hj : JoinAll N prs) : KeyI N prs (growG N prs N.n (startG N prs)) := by
  exact grow_ind (KeyI N prs) (F := wys (growG N prs N.n (startG N prs))) hN.ways hj hN.n1 hn (fun k g gi' fi' hG hs' hk h => turn_key hN.ways hN.n1 fi'.part h) N.n 0 (startG N prs) (start_inv hN.ways) (start_finv hN.ways) (fun w h => h) start_key
theorem moats_spec (hm : most ≤ 1000) (hN : N.Ok most W) (hn : N.n ≤ 12) (hl : N.ways.length ≤ 900) (hp : PrOk N.n prs) (pl : prs.length ≤ 1000) (hj : JoinAll N prs) :
    f_moats [netD N, pairsD prs] S0 = .ok (.tup ((paperP (growG N prs N.n (startG N prs)).ws).map moatD)) S0 := by
  obtain ⟨S, e, tm, fl, hS, ht⟩ := make_spec (S0 := S0) (fa := (aCons (eVar 0) (aCons (eVar 1) aNil))) (ρ := [some (netD N), some (pairsD prs)]) (S1 := S0) hm hN hn hl hp pl hj (aCons_ok (eVar_ok rfl) (aCons_ok (eVar_ok rfl) aNil_ok))
  have ki := end_key hN hn hp hj
  obtain ⟨k, gi, _⟩ := grow_inv hN.ways hj hN.n1 hn N.n 0 (startG N prs) (start_inv hN.ways) (by omega)
  have pp := paper_spec (S0 := S0) (prs := prs) (tm := tm) (fl := fl) (rw := rwD (growG N prs N.n (startG N prs)).rows) gi (by have := gi.kn; omega) fun e he => (ki.keys e he).1
  rw [← hS] at pp
  have p0 : S[S0.length]? = some (.ins "PairGrowth" (pgF N prs S0.length tm (growG N prs N.n (startG N prs)).ps)) := by rw [hS]; exact pg0.h0
  have key : b_moats [some (netD N), some (pairsD prs)] S0 = .rt (.tup ((paperP (growG N prs N.n (startG N prs)).ws).map moatD)) S := by
    unfold b_moats
    exact sRet_ok (eMeth_ok e p0 rfl aNil_ok rfl pp)
  rw [hS] at key
  exact runF_rt key (gc_app (by simp only [okD]; exact okDs_moat _ _))
theorem paper_gr {k : Nat} (gi : GInv N k g) (hk : k ≤ 12) : (∀ e ∈ paperP g.ws, gr ∣ e.2) ∧ (paperP g.ws).length ≤ 1000 := by
  constructor
  · intro e he
    obtain ⟨p, _, rfl⟩ := List.mem_map.mp he
    show gr ∣ widOf g.ws p
    unfold widOf
    cases h : getW p g.ws with
    | none => exact Nat.dvd_zero _
    | some u => exact getW_all (P := fun u => gr ∣ u) (fun e he => Nat.dvd_trans (gr_pow hk) (gi.dv e he)) h
  · unfold paperP
    rw [List.length_map]
    refine Nat.le_trans (List.length_filter_le _ _) ?_
    rw [(sortP_perm _).length_eq, List.length_map]
    have := gi.wl
    omega
end
end Ev

namespace Ev
open PySem PySem.Spec PyProof.Rows L2
section
variable {S0 S : Sto} {N : Net} {prs : List (Nat × Nat)} {most W : Nat}
theorem growth_spec (hm : most ≤ 1000) (hN : N.Ok most W) (hn : N.n ≤ 12) (hl : N.ways.length ≤ 900) (hp : PrOk N.n prs) (pl : prs.length ≤ 1000) (hj : JoinAll N prs) :
    f_growth [netD N, pairsD prs] S0 = .ok (.tup ((growG N prs N.n (startG N prs)).tk.map tkD)) S0 := by
  obtain ⟨S, e, tm, fl, rfl, ht⟩ := make_spec (S0 := S0) (fa := (aCons (eVar 0) (aCons (eVar 1) aNil))) (ρ := [some (netD N), some (pairsD prs)]) (S1 := S0) hm hN hn hl hp pl hj (aCons_ok (eVar_ok rfl) (aCons_ok (eVar_ok rfl) aNil_ok))
  have gt : gTuple [.loc (S0.length + 3)] (pgS S0 N prs tm (growG N prs N.n (startG N prs)).ps fl (growG N prs N.n (startG N prs)).ws (growG N prs N.n (startG N prs)).tk (rwD (growG N prs N.n (startG N prs)).rows)) = some (.tup ((growG N prs N.n (startG N prs)).tk.map tkD)) := by
    unfold gTuple
    simp only [tupOf, lstOf_loc pg3, Option.map_some]
  refine runF_rt (S1 := pgS S0 N prs tm (growG N prs N.n (startG N prs)).ps fl (growG N prs N.n (startG N prs)).ws (growG N prs N.n (startG N prs)).tk (rwD (growG N prs N.n (startG N prs)).rows)) (d := .tup ((growG N prs N.n (startG N prs)).tk.map tkD)) ?_ (gc_app (by simp only [okD]; exact okDs_tk _ _))
  show b_growth [some (netD N), some (pairsD prs)] S0 = _
  unfold b_growth
  exact sRet_ok (eCb_ok (aCons_ok (eFld_ok e pg0.h0 rfl) aNil_ok) (pure1_ok gt))
end
end Ev

namespace Ev
open PySem PySem.Spec PyProof.Rows L2
/-! ### equal answers, of which one may be a written constant -/
theorem isi_tupOf {S : Sto} {ρ : En} {i : Nat} {x : D} {ds : List D} (h : ρ[i]? = some (some x)) (hx : tupOf x = some ds) : eIsi "tuple" (eVar i) ρ S = .ok (.bl true) S := by
  unfold eIsi
  rw [eVar_ok h]
  cases x with
  | tup es => rfl
  | con es => rfl
  | _ => cases hx
theorem seqOf_tupOf {S : Sto} {x : D} {ds : List D} (hx : tupOf x = some ds) : seqOf S x = some ds := by unfold seqOf; rw [hx]
theorem oIx_tupOf {S : Sto} {x : D} {ds : List D} {i : Int} (hx : tupOf x = some ds) : oIx x (.int i) S = atI ds i := by unfold oIx; rw [hx]
theorem same_gen (k : Nat) {x y : D} {ds es : List D} (hx : tupOf x = some ds) (hy : tupOf y = some es) (he : ds.length = es.length) (hl : ds.length ≤ 1000) (S : Sto) (h : ∀ i (h1 : i < ds.length) (h2 : i < es.length), f_law_sameN k [ds[i], es[i]] S = .ok (.bl true) S) : f_law_sameN (k + 1) [x, y] S = .ok (.bl true) S := by
  refine runF_rt (S1 := S) (d := .bl true) ?_ (gc_same rfl)
  show b_law_same (f_law_sameN k) [some x, some y, none] S = _
  unfold b_law_same
  refine sSeq_rt ?_
  refine (sIf_t (bVal_ok (isi_tupOf rfl hy))).trans ?_
  have gl : (eCb (pure1 gLen) (aCons (eVar 0) aNil)) [some x, some y, none] S = .ok (.int ds.length) S := eCb_ok (aCons_ok (eVar_ok rfl) aNil_ok) (pure1_ok (gLen_seq (seqOf_tupOf hx)))
  have gl1 : (eCb (pure1 gLen) (aCons (eVar 1) aNil)) [some x, some y, none] S = .ok (.int ds.length) S := by
    rw [he]
    exact eCb_ok (aCons_ok (eVar_ok rfl) aNil_ok) (pure1_ok (gLen_seq (seqOf_tupOf hy)))
  have ne : (bBin oNe (eCb (pure1 gLen) (aCons (eVar 0) aNil)) (eCb (pure1 gLen) (aCons (eVar 1) aNil))) [some x, some y, none] S = .ok false S := bBin_ok gl gl1 (by rw [oNe_int, decide_eq_true rfl]; rfl)
  have orr : (bOr (bNot (bVal (eIsi "tuple" (eVar 0)))) (bBin oNe (eCb (pure1 gLen) (aCons (eVar 0) aNil)) (eCb (pure1 gLen) (aCons (eVar 1) aNil)))) [some x, some y, none] S = .ok false S := by
    unfold bOr
    rw [bNot_ok (bVal_ok (isi_tupOf rfl hx))]
    exact ne
  rw [sSeq_nx (sIf_fn orr)]
  have lm : lcGo ⟨rngD 0 ds.length, none⟩ (.nm 2) (bNot (bVal (eCall 2 (f_law_sameN k) (aCons (eBin oIx (eVar 0) (eVar 2)) (aCons (eBin oIx (eVar 1) (eVar 2)) aNil))))) (eVar 2) [some x, some y, none] (natD (List.range ds.length)) S =
      .ok (((List.range ds.length).filter fun _ => false).map fun (x : Nat) => D.int (x : Int)) S := lcGo_filterN (List.range ds.length) fun j hj => by
    rw [List.mem_range] at hj
    refine ⟨[some x, some y, some (.int j)], rfl, ?_, fun z => by cases z⟩
    have ix : oIx x (.int j) S = some ds[j] := (oIx_tupOf hx).trans (atI_ok (List.getElem?_eq_getElem hj))
    have iy : oIx y (.int j) S = some (es[j]'(by omega)) := (oIx_tupOf hy).trans (atI_ok (List.getElem?_eq_getElem (by omega)))
    exact bNot_ok (b := true) (bVal_ok (eCall_ok (aCons_ok (eBin_ok (eVar_ok rfl) (eVar_ok rfl) ix) (aCons_ok (eBin_ok (eVar_ok rfl) (eVar_ok rfl) iy) aNil_ok)) rfl (h j hj (by omega))))
  have hf : (List.range ds.length).filter (fun _ => false) = [] := by simp
  rw [hf, List.map_nil, ← rngD_nat] at lm
  refine sRet_ok (eBin_ok (eCb_ok (aCons_ok (eLc_ok (k := ⟨rngD 0 ds.length, none⟩) (iRng1D_ok (aCons_ok gl1 aNil_ok) (by omega)) (by exact lm) (Nat.zero_le _)) aNil_ok) rfl) eC_ok ?_)
  rfl
end Ev

namespace Ev
open PySem PySem.Spec PyProof.Rows L2
/-! ### slices of the pairs -/
theorem cut_from {α : Type} (xs : List α) (k : Nat) : cutD xs (some (k : Int)) none = xs.drop k := by
  unfold cutD
  rw [HT.sIx_nat, HT.sIx_none]
  by_cases h : k ≤ xs.length
  · rw [Nat.min_eq_left h, List.take_of_length_le (by rw [List.length_drop]; omega)]
  · rw [Nat.min_eq_right (by omega), List.drop_of_length_le (by omega), List.drop_of_length_le (by omega), List.take_nil]
theorem cut_to {α : Type} (xs : List α) (k : Nat) : cutD xs none (some (k : Int)) = xs.take k := by
  unfold cutD
  rw [HT.sIx_nat, HT.sIx_none, List.drop_zero, Nat.sub_zero]
  by_cases h : k ≤ xs.length
  · rw [Nat.min_eq_left h]
  · rw [Nat.min_eq_right (by omega), List.take_of_length_le (Nat.le_refl _), List.take_of_length_le (by omega)]
section
variable {ρ : En} {S : Sto} {fe fk : EF} {prs : List (Nat × Nat)} {k : Nat}
theorem sl_from (h : fe ρ S = .ok (pairsD prs) S) (h2 : fk ρ S = .ok (.int (k : Nat)) S) : eSl false fe (pSome fk) pNone ρ S = .ok (pairsD (prs.drop k)) S := by
  unfold eSl pSome pNone
  rw [h]
  simp only [R.bind]
  rw [h2]
  simp only [R.bind]
  unfold oSl
  simp only [pairsD, tupOf]
  split
  · rename_i hc
    have e : prs.drop k = prs := by
      have h1 := hc.1
      rw [HT.sIx_nat, List.length_map] at h1
      by_cases z : k = 0
      · rw [z, List.drop_zero]
      · have : prs.length = 0 := by omega
        rw [List.length_eq_zero_iff.mp this, List.drop_nil]
    rw [e]
  · rw [cut_from, List.map_drop]
theorem sl_to (h : fe ρ S = .ok (pairsD prs) S) (h2 : fk ρ S = .ok (.int (k : Nat)) S) : eSl false fe pNone (pSome fk) ρ S = .ok (pairsD (prs.take k)) S := by
  unfold eSl pSome pNone
  rw [h]
  simp only [R.bind]
  rw [h2]
  simp only [R.bind]
  unfold oSl
  simp only [pairsD, tupOf]
  split
  · rename_i hc
    have e : prs.take k = prs := by
      have h1 := hc.2
      rw [HT.sIx_nat, List.length_map] at h1
      exact List.take_of_length_le (by omega)
    rw [e]
  · rw [cut_to, List.map_take]
theorem oAdd_pairs {S : Sto} {a b : List (Nat × Nat)} (h : a.length + b.length ≤ 1000) : oAdd (pairsD a) (pairsD b) S = some (pairsD (a ++ b)) := by
  unfold oAdd pairsD
  simp only [tupOf, List.length_map]
  rw [if_pos (sizeLine_ok h)]
  by_cases ha : a.map pairD = []
  · rw [if_pos ha]
    have : a = [] := List.map_eq_nil_iff.mp ha
    rw [this, List.nil_append]
  · rw [if_neg ha]
    by_cases hb : b.map pairD = []
    · rw [if_pos hb]
      have : b = [] := List.map_eq_nil_iff.mp hb
      rw [this, List.append_nil]
    · rw [if_neg hb, List.map_append]
theorem rev_pairs (h : fe ρ S = .ok (pairsD prs) S) : eRevT fe ρ S = .ok (pairsD prs.reverse) S := by
  unfold eRevT
  rw [h]
  simp only [R.bind, pairsD, tupOf]
  rw [List.map_reverse]
end
/-! ### times that are taken -/
theorem take_tk {N : Net} : ∀ (m : Nat) (g : Gs), ∀ e ∈ (takeG N m g).tk, e ∈ g.tk ∨ e.1 = g.t
  | 0, g, e, h => .inl h
  | m + 1, g, e, h => by
    rw [take_eq] at h
    have e1 : (oneG N g).t = g.t := by unfold oneG; split <;> rfl
    rcases take_tk m _ e h with z | z
    · cases hf : fullK N g.ps g.ws with
      | none =>
        simp only [oneG, hf] at z
        exact .inl z
      | some i =>
        simp only [oneG, hf] at z
        rcases List.mem_append.mp z with y | y
        · exact .inl y
        · rw [List.mem_singleton.mp y]
          exact .inr rfl
    · exact .inr (z.trans e1)
def TkI (g : Gs) : Prop := ∀ e ∈ g.tk, gr ∣ e.1 ∧ e.1 ≤ 13 * (10000 * two40)
theorem grow_tkI {N : Net} {prs : List (Nat × Nat)} (hw : WaysOk N) (hj : JoinAll N prs) (h0 : 0 < N.n) (hn : N.n ≤ 12) : TkI (growG N prs N.n (startG N prs)) := by
  refine grow_ind (fun g => TkI g) (F := wys (growG N prs N.n (startG N prs))) hw hj h0 hn (fun k g gi fi hG hs hk h e he => ?_) N.n 0 (startG N prs) (start_inv hw) (start_finv hw) (fun w h => h) (fun e he => by cases he)
  have gt := turn_inv hw hj h0 hn (by omega) gi hs
  have he : e ∈ (takeG N N.n (passG prs (spanG N prs g) g)).tk := he
  rcases take_tk N.n _ e he with z | z
  · exact h e z
  · have tk := take_spec hw h0 N.n (passG prs (spanG N prs g) g) gi.part
    have et : (turnG N prs g).t = e.1 := by
      rw [z]
      exact tk.t
    have d1 := gt.dt
    have d2 := gt.tb
    rw [et] at d1 d2
    refine ⟨Nat.dvd_trans (gr_pow hk) d1, Nat.le_trans d2 (Nat.mul_le_mul_right _ (by omega))⟩
theorem mem_le_sum : ∀ {l : List Nat} {x : Nat}, x ∈ l → x ≤ l.sum
  | y :: l, x, h => by
    rw [List.sum_cons]
    rcases List.mem_cons.mp h with z | z
    · omega
    · have := mem_le_sum z
      omega
theorem law_times_u {S : Sto} {u m : Nat} (hu : gr ∣ u) (hm : m ≤ 10) (hl : u < 2 ^ 90) : f_law_times [exD u, .tup [.int (m : Nat), .int 1]] S = .ok (exD (u * m)) S := by
  obtain ⟨k, hk, kl⟩ := num_nat (n := u) (show 0 < two40 by decide)
  have hk : (ratQ u).num = (k : Int) := hk
  have im : isR (.tup [.int (m : Nat), .int 1]) (m : Rat) := .inl rfl
  have mn : ((m : Rat)).num = (m : Int) := rfl
  rw [law_times_spec (isU_ex hu).1 im (sml_u hu) (sml_nat m) (by omega) (by rw [mn]; omega) (CMul.r (by rw [mn]; omega)) ?_]
  · rw [exD_ratQ, ratQ_mul]
  · rw [hk, mn]
    have h1 : k * m ≤ k * 10 := Nat.mul_le_mul_left _ hm
    have h2 : ((k * m : Nat) : Int) ≤ ((k * 10 : Nat) : Int) := Int.ofNat_le.mpr h1
    rw [Int.natCast_mul] at h2
    have h3 : (k : Int) < 2 ^ 90 := by
      have : u < 2 ^ 90 := hl
      omega
    omega
theorem same_moats {S : Sto} {l : Wid} (h : ∀ e ∈ l, e.1.length ≤ 1000) (hl : l.length ≤ 1000) : f_law_same [.tup (l.map moatD), .tup (l.map moatD)] S = .ok (.bl true) S :=
  same_tup 6 _ (by rw [List.length_map]; exact hl) S fun d hd => by
    obtain ⟨e, he, rfl⟩ := List.mem_map.mp hd
    unfold moatD
    refine same_tup 5 _ (by simp) S fun d hd => ?_
    rcases List.mem_cons.mp hd with rfl | hd
    · exact same_nats 3 _ (h e he) S
    · rw [List.mem_singleton.mp hd]
      exact same_rat 3 _ S
theorem same_taken {S : Sto} {l : List (Nat × Nat)} (hl : l.length ≤ 1000) : f_law_same [.tup (l.map tkD), .tup (l.map tkD)] S = .ok (.bl true) S :=
  same_tup 6 _ (by rw [List.length_map]; exact hl) S fun d hd => by
    obtain ⟨e, _, rfl⟩ := List.mem_map.mp hd
    exact same_tk 3 e S
theorem min_if {c : Nat} : (if (3000 : Int) < (c : Nat) then (3000 : Int) else (c : Nat)) = ((if 3000 < c then 3000 else c : Nat) : Int) := by
  by_cases h : 3000 < c
  · rw [if_pos h, if_pos (by omega)]; rfl
  · rw [if_neg h, if_neg (by omega)]
set_option maxHeartbeats 40000000 in
theorem law_true (ns : List Int) (hl : ns.length ≤ 63) : ∃ S, f_law [.frz (ns.map D.int)] [] = .ok (.bl true) S := by
  obtain ⟨N0, prs, P, hN0, hp0, pl, hj0, p0, e1⟩ := any_task_spec (P := ⟨ns, 0, 0, 0, 0⟩) (Int.le_refl 0)
  obtain ⟨f, hf⟩ : ∃ f : Nat → Nat, f = fun c => if 3000 < c then 3000 else c := ⟨_, rfl⟩
  obtain ⟨N, hNe⟩ : ∃ N, N = mapC f N0 := ⟨_, rfl⟩
  have n2 : N.n ≤ 12 := by rw [hNe]; exact hN0.n2
  have n1 : 1 ≤ N.n := by rw [hNe]; exact hN0.n1
  have wl : N.ways.length ≤ 24 := by rw [hNe]; unfold mapC; rw [List.length_map]; exact hN0.len
  have hc : ∀ w ∈ N.ways, w.Ok N.n ∧ w.c ≤ 3000 := fun w' h => by
    rw [hNe] at h ⊢
    obtain ⟨w, hm, rfl⟩ := List.mem_map.mp h
    have := hN0.ways w hm
    unfold Way.Ok at this ⊢
    dsimp only
    have fc : f w.c ≤ 3000 ∧ 1 ≤ f w.c := by
      rw [hf]
      dsimp only
      split <;> omega
    exact ⟨⟨this.1, this.2.1, fc.2, by omega⟩, fc.1⟩
  have hN : N.Ok 12 24 := ⟨n1, n2, wl, fun w h => (hc w h).1⟩
  have hp : PrOk N.n prs := by rw [hNe]; exact hp0
  have hj : JoinAll N prs := by rw [hNe]; exact mapC_joinAll hj0
  obtain ⟨r, P1, r0, r1, p1, e2⟩ := draw_spec (S := [poolC P]) (p := 0) (n := 2) rfl p0 (by omega) (by omega)
  obtain ⟨m, hm⟩ : ∃ m : Nat, (m : Int) = 2 + r := ⟨(2 + r).toNat, by omega⟩
  have m2 : 2 ≤ m ∧ m ≤ 3 := by omega
  have e2 : f_law_draw [.loc 0, .int 2] [poolC P] = .ok (.int r) [poolC P1] := e2
  obtain ⟨N', hN'e⟩ : ∃ N', N' = mapC (· * m) N := ⟨_, rfl⟩
  have hN' : N'.Ok 12 24 := by
    rw [hN'e]
    refine ⟨n1, n2, by unfold mapC; rw [List.length_map]; exact wl, sc_waysOk hN.ways (by omega) fun w h => ?_⟩
    have h1 := (hc w h).2
    have h2 : w.c * m ≤ 3000 * 3 := Nat.mul_le_mul h1 m2.2
    omega
  have hp' : PrOk N'.n prs := by rw [hN'e]; exact hp
  have hj' : JoinAll N' prs := by rw [hN'e]; exact mapC_joinAll hj
  have wl' := hN'.len
  -- the growths
  obtain ⟨g, k, hg, gi, fi, hs, ti, ei⟩ := end_inv hN n2 hp hj
  have ge : growG N' prs N'.n (startG N' prs) = scG m g := by
    rw [hN'e, hg]
    exact sc_grown hN.ways (by omega) hj n1 n2
  have told1 : ∀ S, f_told [netD N, pairsD prs] S = .ok (.tup (natD (sortN (toldL N prs (wys g))))) S := fun S => by
    have := told_spec (S0 := S) (by decide : (12 : Nat) ≤ 1000) hN n2 (by omega) hp (by omega) hj
    rw [← hg] at this
    exact this
  have told2 : ∀ S, f_told [netD N', pairsD prs] S = .ok (.tup (natD (sortN (toldL N prs (wys g))))) S := fun S => by
    have := told_spec (S0 := S) (by decide : (12 : Nat) ≤ 1000) hN' hN'.n2 (by omega) hp' (by omega) hj'
    rw [ge, sc_wys] at this
    rw [hN'e] at this ⊢
    rw [mapC_told] at this
    exact this
  have grow1 : ∀ S, f_growth [netD N, pairsD prs] S = .ok (.tup (g.tk.map tkD)) S := fun S => by
    have := growth_spec (S0 := S) (by decide : (12 : Nat) ≤ 1000) hN n2 (by omega) hp (by omega) hj
    rw [← hg] at this
    exact this
  have grow2 : ∀ S, f_growth [netD N', pairsD prs] S = .ok (.tup (g.tk.map fun e => tkD (e.1 * m, e.2))) S := fun S => by
    have := growth_spec (S0 := S) (by decide : (12 : Nat) ≤ 1000) hN' hN'.n2 (by omega) hp' (by omega) hj'
    rw [ge] at this
    have e : (scG m g).tk.map tkD = g.tk.map fun e => tkD (e.1 * m, e.2) := by
      unfold scG
      rw [List.map_map]
      rfl
    rw [e] at this
    exact this
  have moat1 : ∀ S, f_moats [netD N, pairsD prs] S = .ok (.tup ((paperP g.ws).map moatD)) S := fun S => by
    have := moats_spec (S0 := S) (by decide : (12 : Nat) ≤ 1000) hN n2 (by omega) hp (by omega) hj
    rw [← hg] at this
    exact this
  have moat2 : ∀ S, f_moats [netD N', pairsD prs] S = .ok (.tup ((paperP g.ws).map fun e => moatD (e.1, e.2 * m))) S := fun S => by
    have := moats_spec (S0 := S) (by decide : (12 : Nat) ≤ 1000) hN' hN'.n2 (by omega) hp' (by omega) hj'
    rw [ge] at this
    have e : (paperP (scG m g).ws).map moatD = (paperP g.ws).map fun e => moatD (e.1, e.2 * m) := by
      show (paperP (scW m g.ws)).map moatD = _
      rw [sc_paper (by omega)]
      unfold scW
      rw [List.map_map]
      rfl
    rw [e] at this
    exact this
  have ki : KeyI N prs g := by
    have := end_key hN n2 hp hj
    rw [← hg] at this
    exact this
  have tki : TkI g := by
    have := grow_tkI hN.ways hj n1 n2
    rw [← hg] at this
    exact this
  have tl : g.tk.length ≤ 1000 := by have := gi.tl; omega
  have pg := paper_gr gi (by have := gi.kn; omega)
  have Yb : ∀ e ∈ paperP g.ws, e.2 < 2 ^ 90 := fun e he => by
    have h1 : e.2 ≤ ((paperP g.ws).map (·.2)).sum := mem_le_sum (List.mem_map.mpr ⟨e, he, rfl⟩)
    rw [paper_sum gi.nd] at h1
    have low := ei.low (allW N) (fun k hk => List.mem_range.mp hk) hj
    have h2 : priceL N (allW N) ≤ ((allW N).map fun _ => 10000).sum := sum_le fun k hk => (hN.ways _ (wayAt_in (List.mem_range.mp hk))).2.2.2
    rw [sum_const] at h2
    have h3 : (allW N).length = N.ways.length := List.length_range
    have h4 : priceL N (allW N) * two40 ≤ 240000 * two40 := Nat.mul_le_mul_right _ (by omega)
    have h5 : 240000 * two40 < 2 ^ 90 := by decide
    omega
  have pk : ∀ e ∈ paperP g.ws, e.1.length ≤ 1000 := fun e he => by
    obtain ⟨p, hpm, rfl⟩ := List.mem_map.mp he
    have hpm := (sortP_perm _).mem_iff.mp (List.mem_filter.mp hpm).1
    obtain ⟨e2, he2, rfl⟩ := List.mem_map.mp hpm
    have kk := ki.keys e2 he2
    have := found_len (kk.2.1.imp fun {a b} h => Nat.ne_of_lt h) kk.2.2.1
    show e2.1.length ≤ 1000
    omega
  -- pairs in another order
  obtain ⟨sh, P2, s0, s1, p2, e3⟩ := draw_spec (S := [poolC P1]) (p := 0) (n := 6) rfl p1 (by omega) (by omega)
  obtain ⟨sn, hsn⟩ : ∃ sn : Nat, sh = (sn : Int) := ⟨sh.toNat, by omega⟩
  have e3 : f_law_draw [.loc 0, .int 6] [poolC P1] = .ok (.int (sn : Nat)) [poolC P2] := by rw [← hsn]; exact e3
  obtain ⟨prs', hpr'⟩ : ∃ p', p' = (prs.drop sn ++ prs.take sn).reverse := ⟨_, rfl⟩
  have pm : prs'.Perm prs := by
    rw [hpr']
    refine (List.reverse_perm _).trans (List.perm_append_comm.trans ?_)
    rw [List.take_append_drop]
  have hpt : PrOk N.n prs' := fun q hq => hp q (pm.mem_iff.mp hq)
  have hjt : JoinAll N prs' := fun q hq => hj q (pm.mem_iff.mp hq)
  have pl' : prs'.length ≤ 6 := by rw [pm.length_eq]; exact pl
  have gt : growG N prs' N.n (startG N prs') = g := by rw [perm_grown pm, hg]
  have told3 : ∀ S, f_told [netD N, pairsD prs'] S = .ok (.tup (natD (sortN (toldL N prs (wys g))))) S := fun S => by
    have := told_spec (S0 := S) (by decide : (12 : Nat) ≤ 1000) hN n2 (by omega) hpt (by omega) hjt
    rw [gt, perm_told pm] at this
    exact this
  have grow3 : ∀ S, f_growth [netD N, pairsD prs'] S = .ok (.tup (g.tk.map tkD)) S := fun S => by
    have := growth_spec (S0 := S) (by decide : (12 : Nat) ≤ 1000) hN n2 (by omega) hpt (by omega) hjt
    rw [gt] at this
    exact this
  have moat3 : ∀ S, f_moats [netD N, pairsD prs'] S = .ok (.tup ((paperP g.ws).map moatD)) S := fun S => by
    have := moats_spec (S0 := S) (by decide : (12 : Nat) ≤ 1000) hN n2 (by omega) hpt (by omega) hjt
    rw [gt] at this
    exact this
  -- equal answers
  obtain ⟨T, hT⟩ : ∃ T, T = sortN (toldL N prs (wys g)) := ⟨_, rfl⟩
  rw [← hT] at told1 told2 told3
  have tlen : T.length ≤ 1000 := by
    rw [hT, (sortN_perm _).length_eq]
    refine Nat.le_trans (List.length_filter_le _ _) ?_
    unfold wys
    rw [List.length_map]
    exact tl
  have smT : ∀ S, f_law_same [.tup (natD T), .tup (natD T)] S = .ok (.bl true) S := fun S => same_nats 5 _ tlen S
  have smG : ∀ S, f_law_same [.tup (g.tk.map fun e => tkD (e.1 * m, e.2)), .tup (g.tk.map fun e => tkD (e.1 * m, e.2))] S = .ok (.bl true) S := fun S => by
    have := same_taken (S := S) (l := g.tk.map fun e => (e.1 * m, e.2)) (by rw [List.length_map]; exact tl)
    rw [List.map_map] at this
    exact this
  have smM : ∀ S, f_law_same [.tup ((paperP g.ws).map fun e => moatD (e.1, e.2 * m)), .tup ((paperP g.ws).map fun e => moatD (e.1, e.2 * m))] S = .ok (.bl true) S := fun S => by
    have := same_moats (S := S) (l := (paperP g.ws).map fun e => (e.1, e.2 * m)) (fun e he => by
      obtain ⟨e2, he2, rfl⟩ := List.mem_map.mp he
      exact pk e2 he2) (by rw [List.length_map]; exact pg.2)
    rw [List.map_map] at this
    exact this
  have smG1 : ∀ S, f_law_same [.tup (g.tk.map tkD), .tup (g.tk.map tkD)] S = .ok (.bl true) S := fun S => same_taken tl
  have smM1 : ∀ S, f_law_same [.tup ((paperP g.ws).map moatD), .tup ((paperP g.ws).map moatD)] S = .ok (.bl true) S := fun S => same_moats pk pg.2
  have same2 : ∀ {ρ : En} {S : Sto} {a b : EF} {d : D}, a ρ S = .ok d S → b ρ S = .ok d S → (∀ S, f_law_same [d, d] S = .ok (.bl true) S) → bNot (bVal (eCall 2 f_law_same (aCons a (aCons b aNil)))) ρ S = .ok false S := fun h1 h2 h3 => bNot_ok (b := true) (bVal_ok (eCall_ok (aCons_ok h1 (aCons_ok h2 aNil_ok)) rfl (h3 _)))
  have nD : netD N = .tup [.int N0.n, .tup (N0.ways.map fun w => .tup [.int w.a, .int w.b, .int (f w.c : Nat)])] := by
    rw [hNe]
    unfold netD mapC
    dsimp only
    rw [List.map_map]
    rfl
  have nD' : netD N' = .tup [.int N.n, .tup (N.ways.map fun w => .tup [.int w.a, .int w.b, .int (w.c * m : Nat)])] := by
    rw [hN'e]
    unfold netD mapC
    dsimp only
    rw [List.map_map]
    rfl
  have hb : b_law [some (.frz (ns.map D.int)), none, none, none, none, none, none, none, none, none, none, none, none, none, none] [] = .rt (.bl true) [poolC P2] := by
    unfold b_law
    refine q_set (d := .loc 0) (S1 := [poolC ⟨ns, 0, 0, 0, 0⟩]) (by (repeat' first | ((with_reducible apply eVar_ok) <;> rfl) | (with_reducible exact eC_ok) | (with_reducible exact aNil_ok) | (with_reducible exact bYes_ok) | (with_reducible exact pool_spec ns) | (with_reducible apply aCons_ok) | (with_reducible apply eBin_ok) | (with_reducible apply bBin_ok) | (with_reducible apply eCb_ok) | (with_reducible apply eCall_ok) | (with_reducible apply eCallD_ok) | (with_reducible apply bVal_ok) | (with_reducible apply bNot_ok) | (with_reducible apply eTup_ok) | (with_reducible apply eLst_ok) | (with_reducible apply eFld_ok) | (with_reducible apply eMeth_ok) | (with_reducible apply eIx_loc) | (with_reducible apply pure1_ok) | (with_reducible apply bOr_ok) | (with_reducible apply bAnd_ok) | (with_reducible apply eDGet2_ok) | (with_reducible apply eDGet_ok) | (exact (rfl : (_ : Nat) = _)) | (exact (rfl : lookD _ _ = _)) | ((with_reducible show (List.length _) ≤ 1000); simp only [List.length_cons, List.length_nil]; decide) | (exact oIx_tup.trans atI_0) | (exact oIx_tup.trans atI_1) | (exact oIx_tup.trans atI_2) | (exact oIn_part) | (exact oIn_parts (.inl rfl)) | (exact oIn_parts (.inr rfl)) | (exact oNotIn_parts (.inl rfl)) | (exact oNotIn_parts (.inr rfl)) | (exact oNe_bl) | (exact oAdd_int) | (exact oSub_int) | (exact oLt_int) | (exact oGt_int) | (exact oLe_int) | (exact oGe_int) | (exact oEq_int) | (exact oNe_int) | (exact gLen_seq seqOf_tup) | (exact gLen_seq seqOf_lst) | ((with_reducible show _ = _); with_reducible assumption))) ?_
    refine q_asg (d := .tup [netD N0, pairsD prs]) (S1 := [poolC P]) (by (repeat' first | ((with_reducible apply eVar_ok) <;> rfl) | (with_reducible exact eC_ok) | (with_reducible exact aNil_ok) | (with_reducible exact bYes_ok) | (with_reducible exact e1) | (with_reducible apply aCons_ok) | (with_reducible apply eBin_ok) | (with_reducible apply bBin_ok) | (with_reducible apply eCb_ok) | (with_reducible apply eCall_ok) | (with_reducible apply eCallD_ok) | (with_reducible apply bVal_ok) | (with_reducible apply bNot_ok) | (with_reducible apply eTup_ok) | (with_reducible apply eLst_ok) | (with_reducible apply eFld_ok) | (with_reducible apply eMeth_ok) | (with_reducible apply eIx_loc) | (with_reducible apply pure1_ok) | (with_reducible apply bOr_ok) | (with_reducible apply bAnd_ok) | (with_reducible apply eDGet2_ok) | (with_reducible apply eDGet_ok) | (exact (rfl : (_ : Nat) = _)) | (exact (rfl : lookD _ _ = _)) | ((with_reducible show (List.length _) ≤ 1000); simp only [List.length_cons, List.length_nil]; decide) | (exact oIx_tup.trans atI_0) | (exact oIx_tup.trans atI_1) | (exact oIx_tup.trans atI_2) | (exact oIn_part) | (exact oIn_parts (.inl rfl)) | (exact oIn_parts (.inr rfl)) | (exact oNotIn_parts (.inl rfl)) | (exact oNotIn_parts (.inr rfl)) | (exact oNe_bl) | (exact oAdd_int) | (exact oSub_int) | (exact oLt_int) | (exact oGt_int) | (exact oLe_int) | (exact oGe_int) | (exact oEq_int) | (exact oNe_int) | (exact gLen_seq seqOf_tup) | (exact gLen_seq seqOf_lst) | ((with_reducible show _ = _); with_reducible assumption))) rfl ?_
    refine q_set (d := netD N) (S1 := [poolC P]) ?_ ?_
    · rw [nD]
      refine eTup_ok (aCons_ok (eBin_ok (eVar_ok rfl) eC_ok netD_0) (aCons_ok (eCb_ok (aCons_ok (eLc_m (xs := N0.ways) (F := wayD) (G := fun w => .tup [.int w.a, .int w.b, .int (f w.c : Nat)]) (iSeqD_tup (eBin_ok (eVar_ok rfl) eC_ok netD_1)) True.intro rfl (by have := hN0.len; omega) fun w _ => ⟨_, rfl, ?_⟩) aNil_ok) (pure1_ok rfl)) aNil_ok)) (by simp only [List.length_cons, List.length_nil]; decide)
      have mn : gMin [.int (w.c : Nat), .int 3000] [poolC P] = some (.int (f w.c : Nat)) := by
        show some (D.int (if (3000 : Int) < (w.c : Nat) then (3000 : Int) else (w.c : Nat))) = _
        rw [min_if, hf]
      (repeat' first | ((with_reducible apply eVar_ok) <;> rfl) | (with_reducible exact eC_ok) | (with_reducible exact aNil_ok) | (with_reducible exact bYes_ok) | (with_reducible exact mn) | (with_reducible apply aCons_ok) | (with_reducible apply eBin_ok) | (with_reducible apply bBin_ok) | (with_reducible apply eCb_ok) | (with_reducible apply eCall_ok) | (with_reducible apply eCallD_ok) | (with_reducible apply bVal_ok) | (with_reducible apply bNot_ok) | (with_reducible apply eTup_ok) | (with_reducible apply eLst_ok) | (with_reducible apply eFld_ok) | (with_reducible apply eMeth_ok) | (with_reducible apply eIx_loc) | (with_reducible apply pure1_ok) | (with_reducible apply bOr_ok) | (with_reducible apply bAnd_ok) | (with_reducible apply eDGet2_ok) | (with_reducible apply eDGet_ok) | (exact (rfl : (_ : Nat) = _)) | (exact (rfl : lookD _ _ = _)) | ((with_reducible show (List.length _) ≤ 1000); simp only [List.length_cons, List.length_nil]; decide) | (exact oIx_tup.trans atI_0) | (exact oIx_tup.trans atI_1) | (exact oIx_tup.trans atI_2) | (exact oIn_part) | (exact oIn_parts (.inl rfl)) | (exact oIn_parts (.inr rfl)) | (exact oNotIn_parts (.inl rfl)) | (exact oNotIn_parts (.inr rfl)) | (exact oNe_bl) | (exact oAdd_int) | (exact oSub_int) | (exact oLt_int) | (exact oGt_int) | (exact oLe_int) | (exact oGe_int) | (exact oEq_int) | (exact oNe_int) | (exact gLen_seq seqOf_tup) | (exact gLen_seq seqOf_lst) | ((with_reducible show _ = _); with_reducible assumption))
    refine q_set (d := .int (m : Nat)) (S1 := [poolC P1]) ?_ ?_
    · rw [hm]
      exact eBin_ok eC_ok (eCall_ok (aCons_ok (eVar_ok rfl) (aCons_ok eC_ok aNil_ok)) rfl e2) oAdd_int
    refine q_set (d := netD N') (S1 := [poolC P1]) ?_ ?_
    · rw [nD']
      refine eTup_ok (aCons_ok (eBin_ok (eVar_ok rfl) eC_ok netD_0) (aCons_ok (eCb_ok (aCons_ok (eLc_m (xs := N.ways) (F := wayD) (G := fun w => .tup [.int w.a, .int w.b, .int (w.c * m : Nat)]) (iSeqD_tup (eBin_ok (eVar_ok rfl) eC_ok netD_1)) True.intro rfl (by omega) fun w _ => ⟨_, rfl, ?_⟩) aNil_ok) (pure1_ok rfl)) aNil_ok)) (by simp only [List.length_cons, List.length_nil]; decide)
      have mu : oMul (.int (w.c : Nat)) (.int (m : Nat)) [poolC P1] = some (.int (w.c * m : Nat)) := by
        rw [oMul_int (CMul.r (by omega)), Int.natCast_mul]
      (repeat' first | ((with_reducible apply eVar_ok) <;> rfl) | (with_reducible exact eC_ok) | (with_reducible exact aNil_ok) | (with_reducible exact bYes_ok) | (with_reducible exact mu) | (with_reducible apply aCons_ok) | (with_reducible apply eBin_ok) | (with_reducible apply bBin_ok) | (with_reducible apply eCb_ok) | (with_reducible apply eCall_ok) | (with_reducible apply eCallD_ok) | (with_reducible apply bVal_ok) | (with_reducible apply bNot_ok) | (with_reducible apply eTup_ok) | (with_reducible apply eLst_ok) | (with_reducible apply eFld_ok) | (with_reducible apply eMeth_ok) | (with_reducible apply eIx_loc) | (with_reducible apply pure1_ok) | (with_reducible apply bOr_ok) | (with_reducible apply bAnd_ok) | (with_reducible apply eDGet2_ok) | (with_reducible apply eDGet_ok) | (exact (rfl : (_ : Nat) = _)) | (exact (rfl : lookD _ _ = _)) | ((with_reducible show (List.length _) ≤ 1000); simp only [List.length_cons, List.length_nil]; decide) | (exact oIx_tup.trans atI_0) | (exact oIx_tup.trans atI_1) | (exact oIx_tup.trans atI_2) | (exact oIn_part) | (exact oIn_parts (.inl rfl)) | (exact oIn_parts (.inr rfl)) | (exact oNotIn_parts (.inl rfl)) | (exact oNotIn_parts (.inr rfl)) | (exact oNe_bl) | (exact oAdd_int) | (exact oSub_int) | (exact oLt_int) | (exact oGt_int) | (exact oLe_int) | (exact oGe_int) | (exact oEq_int) | (exact oNe_int) | (exact gLen_seq seqOf_tup) | (exact gLen_seq seqOf_lst) | ((with_reducible show _ = _); with_reducible assumption))
    refine q_nx (sIf_fn (S1 := [poolC P1]) (same2 (d := .tup (natD T)) (by (repeat' first | ((with_reducible apply eVar_ok) <;> rfl) | (with_reducible exact eC_ok) | (with_reducible exact aNil_ok) | (with_reducible exact bYes_ok) | (with_reducible exact told2 _) | (with_reducible apply aCons_ok) | (with_reducible apply eBin_ok) | (with_reducible apply bBin_ok) | (with_reducible apply eCb_ok) | (with_reducible apply eCall_ok) | (with_reducible apply eCallD_ok) | (with_reducible apply bVal_ok) | (with_reducible apply bNot_ok) | (with_reducible apply eTup_ok) | (with_reducible apply eLst_ok) | (with_reducible apply eFld_ok) | (with_reducible apply eMeth_ok) | (with_reducible apply eIx_loc) | (with_reducible apply pure1_ok) | (with_reducible apply bOr_ok) | (with_reducible apply bAnd_ok) | (with_reducible apply eDGet2_ok) | (with_reducible apply eDGet_ok) | (exact (rfl : (_ : Nat) = _)) | (exact (rfl : lookD _ _ = _)) | ((with_reducible show (List.length _) ≤ 1000); simp only [List.length_cons, List.length_nil]; decide) | (exact oIx_tup.trans atI_0) | (exact oIx_tup.trans atI_1) | (exact oIx_tup.trans atI_2) | (exact oIn_part) | (exact oIn_parts (.inl rfl)) | (exact oIn_parts (.inr rfl)) | (exact oNotIn_parts (.inl rfl)) | (exact oNotIn_parts (.inr rfl)) | (exact oNe_bl) | (exact oAdd_int) | (exact oSub_int) | (exact oLt_int) | (exact oGt_int) | (exact oLe_int) | (exact oGe_int) | (exact oEq_int) | (exact oNe_int) | (exact gLen_seq seqOf_tup) | (exact gLen_seq seqOf_lst) | ((with_reducible show _ = _); with_reducible assumption))) (by (repeat' first | ((with_reducible apply eVar_ok) <;> rfl) | (with_reducible exact eC_ok) | (with_reducible exact aNil_ok) | (with_reducible exact bYes_ok) | (with_reducible exact told1 _) | (with_reducible apply aCons_ok) | (with_reducible apply eBin_ok) | (with_reducible apply bBin_ok) | (with_reducible apply eCb_ok) | (with_reducible apply eCall_ok) | (with_reducible apply eCallD_ok) | (with_reducible apply bVal_ok) | (with_reducible apply bNot_ok) | (with_reducible apply eTup_ok) | (with_reducible apply eLst_ok) | (with_reducible apply eFld_ok) | (with_reducible apply eMeth_ok) | (with_reducible apply eIx_loc) | (with_reducible apply pure1_ok) | (with_reducible apply bOr_ok) | (with_reducible apply bAnd_ok) | (with_reducible apply eDGet2_ok) | (with_reducible apply eDGet_ok) | (exact (rfl : (_ : Nat) = _)) | (exact (rfl : lookD _ _ = _)) | ((with_reducible show (List.length _) ≤ 1000); simp only [List.length_cons, List.length_nil]; decide) | (exact oIx_tup.trans atI_0) | (exact oIx_tup.trans atI_1) | (exact oIx_tup.trans atI_2) | (exact oIn_part) | (exact oIn_parts (.inl rfl)) | (exact oIn_parts (.inr rfl)) | (exact oNotIn_parts (.inl rfl)) | (exact oNotIn_parts (.inr rfl)) | (exact oNe_bl) | (exact oAdd_int) | (exact oSub_int) | (exact oLt_int) | (exact oGt_int) | (exact oLe_int) | (exact oGe_int) | (exact oEq_int) | (exact oNe_int) | (exact gLen_seq seqOf_tup) | (exact gLen_seq seqOf_lst) | ((with_reducible show _ = _); with_reducible assumption))) smT)) ?_
    refine q_set (d := .tup (g.tk.map fun e => tkD (e.1 * m, e.2))) (S1 := [poolC P1]) (eCb_ok (aCons_ok (eLc_m (xs := g.tk) (F := tkD) (G := fun e => tkD (e.1 * m, e.2)) (iSeqD_tup (ds := g.tk.map tkD) (by (repeat' first | ((with_reducible apply eVar_ok) <;> rfl) | (with_reducible exact eC_ok) | (with_reducible exact aNil_ok) | (with_reducible exact bYes_ok) | (with_reducible exact grow1 _) | (with_reducible apply aCons_ok) | (with_reducible apply eBin_ok) | (with_reducible apply bBin_ok) | (with_reducible apply eCb_ok) | (with_reducible apply eCall_ok) | (with_reducible apply eCallD_ok) | (with_reducible apply bVal_ok) | (with_reducible apply bNot_ok) | (with_reducible apply eTup_ok) | (with_reducible apply eLst_ok) | (with_reducible apply eFld_ok) | (with_reducible apply eMeth_ok) | (with_reducible apply eIx_loc) | (with_reducible apply pure1_ok) | (with_reducible apply bOr_ok) | (with_reducible apply bAnd_ok) | (with_reducible apply eDGet2_ok) | (with_reducible apply eDGet_ok) | (exact (rfl : (_ : Nat) = _)) | (exact (rfl : lookD _ _ = _)) | ((with_reducible show (List.length _) ≤ 1000); simp only [List.length_cons, List.length_nil]; decide) | (exact oIx_tup.trans atI_0) | (exact oIx_tup.trans atI_1) | (exact oIx_tup.trans atI_2) | (exact oIn_part) | (exact oIn_parts (.inl rfl)) | (exact oIn_parts (.inr rfl)) | (exact oNotIn_parts (.inl rfl)) | (exact oNotIn_parts (.inr rfl)) | (exact oNe_bl) | (exact oAdd_int) | (exact oSub_int) | (exact oLt_int) | (exact oGt_int) | (exact oLe_int) | (exact oGe_int) | (exact oEq_int) | (exact oNe_int) | (exact gLen_seq seqOf_tup) | (exact gLen_seq seqOf_lst) | ((with_reducible show _ = _); with_reducible assumption)))) True.intro rfl tl fun e he => ⟨_, rfl, by
      have lt := law_times_u (S := [poolC P1]) (u := e.1) (m := m) (tki e he).1 (by omega) (Nat.lt_of_le_of_lt (tki e he).2 (by decide))
      show _ = R.ok (D.tup [exD (e.1 * m), .int (e.2 : Nat)]) _
      (repeat' first | ((with_reducible apply eVar_ok) <;> rfl) | (with_reducible exact eC_ok) | (with_reducible exact aNil_ok) | (with_reducible exact bYes_ok) | (with_reducible exact lt) | (with_reducible apply aCons_ok) | (with_reducible apply eBin_ok) | (with_reducible apply bBin_ok) | (with_reducible apply eCb_ok) | (with_reducible apply eCall_ok) | (with_reducible apply eCallD_ok) | (with_reducible apply bVal_ok) | (with_reducible apply bNot_ok) | (with_reducible apply eTup_ok) | (with_reducible apply eLst_ok) | (with_reducible apply eFld_ok) | (with_reducible apply eMeth_ok) | (with_reducible apply eIx_loc) | (with_reducible apply pure1_ok) | (with_reducible apply bOr_ok) | (with_reducible apply bAnd_ok) | (with_reducible apply eDGet2_ok) | (with_reducible apply eDGet_ok) | (exact (rfl : (_ : Nat) = _)) | (exact (rfl : lookD _ _ = _)) | ((with_reducible show (List.length _) ≤ 1000); simp only [List.length_cons, List.length_nil]; decide) | (exact oIx_tup.trans atI_0) | (exact oIx_tup.trans atI_1) | (exact oIx_tup.trans atI_2) | (exact oIn_part) | (exact oIn_parts (.inl rfl)) | (exact oIn_parts (.inr rfl)) | (exact oNotIn_parts (.inl rfl)) | (exact oNotIn_parts (.inr rfl)) | (exact oNe_bl) | (exact oAdd_int) | (exact oSub_int) | (exact oLt_int) | (exact oGt_int) | (exact oLe_int) | (exact oGe_int) | (exact oEq_int) | (exact oNe_int) | (exact gLen_seq seqOf_tup) | (exact gLen_seq seqOf_lst) | ((with_reducible show _ = _); with_reducible assumption))⟩) aNil_ok) (pure1_ok rfl)) ?_
    refine q_set (d := .tup ((paperP g.ws).map fun e => moatD (e.1, e.2 * m))) (S1 := [poolC P1]) (eCb_ok (aCons_ok (eLc_m (xs := paperP g.ws) (F := moatD) (G := fun e => moatD (e.1, e.2 * m)) (iSeqD_tup (ds := (paperP g.ws).map moatD) (by (repeat' first | ((with_reducible apply eVar_ok) <;> rfl) | (with_reducible exact eC_ok) | (with_reducible exact aNil_ok) | (with_reducible exact bYes_ok) | (with_reducible exact moat1 _) | (with_reducible apply aCons_ok) | (with_reducible apply eBin_ok) | (with_reducible apply bBin_ok) | (with_reducible apply eCb_ok) | (with_reducible apply eCall_ok) | (with_reducible apply eCallD_ok) | (with_reducible apply bVal_ok) | (with_reducible apply bNot_ok) | (with_reducible apply eTup_ok) | (with_reducible apply eLst_ok) | (with_reducible apply eFld_ok) | (with_reducible apply eMeth_ok) | (with_reducible apply eIx_loc) | (with_reducible apply pure1_ok) | (with_reducible apply bOr_ok) | (with_reducible apply bAnd_ok) | (with_reducible apply eDGet2_ok) | (with_reducible apply eDGet_ok) | (exact (rfl : (_ : Nat) = _)) | (exact (rfl : lookD _ _ = _)) | ((with_reducible show (List.length _) ≤ 1000); simp only [List.length_cons, List.length_nil]; decide) | (exact oIx_tup.trans atI_0) | (exact oIx_tup.trans atI_1) | (exact oIx_tup.trans atI_2) | (exact oIn_part) | (exact oIn_parts (.inl rfl)) | (exact oIn_parts (.inr rfl)) | (exact oNotIn_parts (.inl rfl)) | (exact oNotIn_parts (.inr rfl)) | (exact oNe_bl) | (exact oAdd_int) | (exact oSub_int) | (exact oLt_int) | (exact oGt_int) | (exact oLe_int) | (exact oGe_int) | (exact oEq_int) | (exact oNe_int) | (exact gLen_seq seqOf_tup) | (exact gLen_seq seqOf_lst) | ((with_reducible show _ = _); with_reducible assumption)))) True.intro rfl pg.2 fun e he => ⟨_, rfl, by
      have lt := law_times_u (S := [poolC P1]) (u := e.2) (m := m) (pg.1 e he) (by omega) (Yb e he)
      show _ = R.ok (D.tup [partD e.1, exD (e.2 * m)]) _
      (repeat' first | ((with_reducible apply eVar_ok) <;> rfl) | (with_reducible exact eC_ok) | (with_reducible exact aNil_ok) | (with_reducible exact bYes_ok) | (with_reducible exact lt) | (with_reducible apply aCons_ok) | (with_reducible apply eBin_ok) | (with_reducible apply bBin_ok) | (with_reducible apply eCb_ok) | (with_reducible apply eCall_ok) | (with_reducible apply eCallD_ok) | (with_reducible apply bVal_ok) | (with_reducible apply bNot_ok) | (with_reducible apply eTup_ok) | (with_reducible apply eLst_ok) | (with_reducible apply eFld_ok) | (with_reducible apply eMeth_ok) | (with_reducible apply eIx_loc) | (with_reducible apply pure1_ok) | (with_reducible apply bOr_ok) | (with_reducible apply bAnd_ok) | (with_reducible apply eDGet2_ok) | (with_reducible apply eDGet_ok) | (exact (rfl : (_ : Nat) = _)) | (exact (rfl : lookD _ _ = _)) | ((with_reducible show (List.length _) ≤ 1000); simp only [List.length_cons, List.length_nil]; decide) | (exact oIx_tup.trans atI_0) | (exact oIx_tup.trans atI_1) | (exact oIx_tup.trans atI_2) | (exact oIn_part) | (exact oIn_parts (.inl rfl)) | (exact oIn_parts (.inr rfl)) | (exact oNotIn_parts (.inl rfl)) | (exact oNotIn_parts (.inr rfl)) | (exact oNe_bl) | (exact oAdd_int) | (exact oSub_int) | (exact oLt_int) | (exact oGt_int) | (exact oLe_int) | (exact oGe_int) | (exact oEq_int) | (exact oNe_int) | (exact gLen_seq seqOf_tup) | (exact gLen_seq seqOf_lst) | ((with_reducible show _ = _); with_reducible assumption))⟩) aNil_ok) (pure1_ok rfl)) ?_
    refine q_nx (sIf_fn (S1 := [poolC P1]) (bOr_ok (a := false) (b := false) (same2 (d := .tup (g.tk.map fun e => tkD (e.1 * m, e.2))) (by (repeat' first | ((with_reducible apply eVar_ok) <;> rfl) | (with_reducible exact eC_ok) | (with_reducible exact aNil_ok) | (with_reducible exact bYes_ok) | (with_reducible exact grow2 _) | (with_reducible apply aCons_ok) | (with_reducible apply eBin_ok) | (with_reducible apply bBin_ok) | (with_reducible apply eCb_ok) | (with_reducible apply eCall_ok) | (with_reducible apply eCallD_ok) | (with_reducible apply bVal_ok) | (with_reducible apply bNot_ok) | (with_reducible apply eTup_ok) | (with_reducible apply eLst_ok) | (with_reducible apply eFld_ok) | (with_reducible apply eMeth_ok) | (with_reducible apply eIx_loc) | (with_reducible apply pure1_ok) | (with_reducible apply bOr_ok) | (with_reducible apply bAnd_ok) | (with_reducible apply eDGet2_ok) | (with_reducible apply eDGet_ok) | (exact (rfl : (_ : Nat) = _)) | (exact (rfl : lookD _ _ = _)) | ((with_reducible show (List.length _) ≤ 1000); simp only [List.length_cons, List.length_nil]; decide) | (exact oIx_tup.trans atI_0) | (exact oIx_tup.trans atI_1) | (exact oIx_tup.trans atI_2) | (exact oIn_part) | (exact oIn_parts (.inl rfl)) | (exact oIn_parts (.inr rfl)) | (exact oNotIn_parts (.inl rfl)) | (exact oNotIn_parts (.inr rfl)) | (exact oNe_bl) | (exact oAdd_int) | (exact oSub_int) | (exact oLt_int) | (exact oGt_int) | (exact oLe_int) | (exact oGe_int) | (exact oEq_int) | (exact oNe_int) | (exact gLen_seq seqOf_tup) | (exact gLen_seq seqOf_lst) | ((with_reducible show _ = _); with_reducible assumption))) (eVar_ok rfl) smG) (same2 (d := .tup ((paperP g.ws).map fun e => moatD (e.1, e.2 * m))) (by (repeat' first | ((with_reducible apply eVar_ok) <;> rfl) | (with_reducible exact eC_ok) | (with_reducible exact aNil_ok) | (with_reducible exact bYes_ok) | (with_reducible exact moat2 _) | (with_reducible apply aCons_ok) | (with_reducible apply eBin_ok) | (with_reducible apply bBin_ok) | (with_reducible apply eCb_ok) | (with_reducible apply eCall_ok) | (with_reducible apply eCallD_ok) | (with_reducible apply bVal_ok) | (with_reducible apply bNot_ok) | (with_reducible apply eTup_ok) | (with_reducible apply eLst_ok) | (with_reducible apply eFld_ok) | (with_reducible apply eMeth_ok) | (with_reducible apply eIx_loc) | (with_reducible apply pure1_ok) | (with_reducible apply bOr_ok) | (with_reducible apply bAnd_ok) | (with_reducible apply eDGet2_ok) | (with_reducible apply eDGet_ok) | (exact (rfl : (_ : Nat) = _)) | (exact (rfl : lookD _ _ = _)) | ((with_reducible show (List.length _) ≤ 1000); simp only [List.length_cons, List.length_nil]; decide) | (exact oIx_tup.trans atI_0) | (exact oIx_tup.trans atI_1) | (exact oIx_tup.trans atI_2) | (exact oIn_part) | (exact oIn_parts (.inl rfl)) | (exact oIn_parts (.inr rfl)) | (exact oNotIn_parts (.inl rfl)) | (exact oNotIn_parts (.inr rfl)) | (exact oNe_bl) | (exact oAdd_int) | (exact oSub_int) | (exact oLt_int) | (exact oGt_int) | (exact oLe_int) | (exact oGe_int) | (exact oEq_int) | (exact oNe_int) | (exact gLen_seq seqOf_tup) | (exact gLen_seq seqOf_lst) | ((with_reducible show _ = _); with_reducible assumption))) (eVar_ok rfl) smM))) ?_
    refine q_set (d := .int (sn : Nat)) (S1 := [poolC P2]) (by (repeat' first | ((with_reducible apply eVar_ok) <;> rfl) | (with_reducible exact eC_ok) | (with_reducible exact aNil_ok) | (with_reducible exact bYes_ok) | (with_reducible exact e3) | (with_reducible apply aCons_ok) | (with_reducible apply eBin_ok) | (with_reducible apply bBin_ok) | (with_reducible apply eCb_ok) | (with_reducible apply eCall_ok) | (with_reducible apply eCallD_ok) | (with_reducible apply bVal_ok) | (with_reducible apply bNot_ok) | (with_reducible apply eTup_ok) | (with_reducible apply eLst_ok) | (with_reducible apply eFld_ok) | (with_reducible apply eMeth_ok) | (with_reducible apply eIx_loc) | (with_reducible apply pure1_ok) | (with_reducible apply bOr_ok) | (with_reducible apply bAnd_ok) | (with_reducible apply eDGet2_ok) | (with_reducible apply eDGet_ok) | (exact (rfl : (_ : Nat) = _)) | (exact (rfl : lookD _ _ = _)) | ((with_reducible show (List.length _) ≤ 1000); simp only [List.length_cons, List.length_nil]; decide) | (exact oIx_tup.trans atI_0) | (exact oIx_tup.trans atI_1) | (exact oIx_tup.trans atI_2) | (exact oIn_part) | (exact oIn_parts (.inl rfl)) | (exact oIn_parts (.inr rfl)) | (exact oNotIn_parts (.inl rfl)) | (exact oNotIn_parts (.inr rfl)) | (exact oNe_bl) | (exact oAdd_int) | (exact oSub_int) | (exact oLt_int) | (exact oGt_int) | (exact oLe_int) | (exact oGe_int) | (exact oEq_int) | (exact oNe_int) | (exact gLen_seq seqOf_tup) | (exact gLen_seq seqOf_lst) | ((with_reducible show _ = _); with_reducible assumption))) ?_
    refine q_set (d := pairsD prs') (S1 := [poolC P2]) ?_ ?_
    · rw [hpr']
      refine rev_pairs (eBin_ok (sl_from (k := sn) (eVar_ok rfl) (eVar_ok rfl)) (sl_to (k := sn) (eVar_ok rfl) (eVar_ok rfl)) (oAdd_pairs ?_))
      rw [List.length_drop, List.length_take]
      omega
    refine q_nx (sIf_fn (S1 := [poolC P2]) (bOr_ok (a := false) (b := false) (same2 (d := .tup (natD T)) (by (repeat' first | ((with_reducible apply eVar_ok) <;> rfl) | (with_reducible exact eC_ok) | (with_reducible exact aNil_ok) | (with_reducible exact bYes_ok) | (with_reducible exact told3 _) | (with_reducible apply aCons_ok) | (with_reducible apply eBin_ok) | (with_reducible apply bBin_ok) | (with_reducible apply eCb_ok) | (with_reducible apply eCall_ok) | (with_reducible apply eCallD_ok) | (with_reducible apply bVal_ok) | (with_reducible apply bNot_ok) | (with_reducible apply eTup_ok) | (with_reducible apply eLst_ok) | (with_reducible apply eFld_ok) | (with_reducible apply eMeth_ok) | (with_reducible apply eIx_loc) | (with_reducible apply pure1_ok) | (with_reducible apply bOr_ok) | (with_reducible apply bAnd_ok) | (with_reducible apply eDGet2_ok) | (with_reducible apply eDGet_ok) | (exact (rfl : (_ : Nat) = _)) | (exact (rfl : lookD _ _ = _)) | ((with_reducible show (List.length _) ≤ 1000); simp only [List.length_cons, List.length_nil]; decide) | (exact oIx_tup.trans atI_0) | (exact oIx_tup.trans atI_1) | (exact oIx_tup.trans atI_2) | (exact oIn_part) | (exact oIn_parts (.inl rfl)) | (exact oIn_parts (.inr rfl)) | (exact oNotIn_parts (.inl rfl)) | (exact oNotIn_parts (.inr rfl)) | (exact oNe_bl) | (exact oAdd_int) | (exact oSub_int) | (exact oLt_int) | (exact oGt_int) | (exact oLe_int) | (exact oGe_int) | (exact oEq_int) | (exact oNe_int) | (exact gLen_seq seqOf_tup) | (exact gLen_seq seqOf_lst) | ((with_reducible show _ = _); with_reducible assumption))) (by (repeat' first | ((with_reducible apply eVar_ok) <;> rfl) | (with_reducible exact eC_ok) | (with_reducible exact aNil_ok) | (with_reducible exact bYes_ok) | (with_reducible exact told1 _) | (with_reducible apply aCons_ok) | (with_reducible apply eBin_ok) | (with_reducible apply bBin_ok) | (with_reducible apply eCb_ok) | (with_reducible apply eCall_ok) | (with_reducible apply eCallD_ok) | (with_reducible apply bVal_ok) | (with_reducible apply bNot_ok) | (with_reducible apply eTup_ok) | (with_reducible apply eLst_ok) | (with_reducible apply eFld_ok) | (with_reducible apply eMeth_ok) | (with_reducible apply eIx_loc) | (with_reducible apply pure1_ok) | (with_reducible apply bOr_ok) | (with_reducible apply bAnd_ok) | (with_reducible apply eDGet2_ok) | (with_reducible apply eDGet_ok) | (exact (rfl : (_ : Nat) = _)) | (exact (rfl : lookD _ _ = _)) | ((with_reducible show (List.length _) ≤ 1000); simp only [List.length_cons, List.length_nil]; decide) | (exact oIx_tup.trans atI_0) | (exact oIx_tup.trans atI_1) | (exact oIx_tup.trans atI_2) | (exact oIn_part) | (exact oIn_parts (.inl rfl)) | (exact oIn_parts (.inr rfl)) | (exact oNotIn_parts (.inl rfl)) | (exact oNotIn_parts (.inr rfl)) | (exact oNe_bl) | (exact oAdd_int) | (exact oSub_int) | (exact oLt_int) | (exact oGt_int) | (exact oLe_int) | (exact oGe_int) | (exact oEq_int) | (exact oNe_int) | (exact gLen_seq seqOf_tup) | (exact gLen_seq seqOf_lst) | ((with_reducible show _ = _); with_reducible assumption))) smT) (same2 (d := .tup ((paperP g.ws).map moatD)) (by (repeat' first | ((with_reducible apply eVar_ok) <;> rfl) | (with_reducible exact eC_ok) | (with_reducible exact aNil_ok) | (with_reducible exact bYes_ok) | (with_reducible exact moat3 _) | (with_reducible apply aCons_ok) | (with_reducible apply eBin_ok) | (with_reducible apply bBin_ok) | (with_reducible apply eCb_ok) | (with_reducible apply eCall_ok) | (with_reducible apply eCallD_ok) | (with_reducible apply bVal_ok) | (with_reducible apply bNot_ok) | (with_reducible apply eTup_ok) | (with_reducible apply eLst_ok) | (with_reducible apply eFld_ok) | (with_reducible apply eMeth_ok) | (with_reducible apply eIx_loc) | (with_reducible apply pure1_ok) | (with_reducible apply bOr_ok) | (with_reducible apply bAnd_ok) | (with_reducible apply eDGet2_ok) | (with_reducible apply eDGet_ok) | (exact (rfl : (_ : Nat) = _)) | (exact (rfl : lookD _ _ = _)) | ((with_reducible show (List.length _) ≤ 1000); simp only [List.length_cons, List.length_nil]; decide) | (exact oIx_tup.trans atI_0) | (exact oIx_tup.trans atI_1) | (exact oIx_tup.trans atI_2) | (exact oIn_part) | (exact oIn_parts (.inl rfl)) | (exact oIn_parts (.inr rfl)) | (exact oNotIn_parts (.inl rfl)) | (exact oNotIn_parts (.inr rfl)) | (exact oNe_bl) | (exact oAdd_int) | (exact oSub_int) | (exact oLt_int) | (exact oGt_int) | (exact oLe_int) | (exact oGe_int) | (exact oEq_int) | (exact oNe_int) | (exact gLen_seq seqOf_tup) | (exact gLen_seq seqOf_lst) | ((with_reducible show _ = _); with_reducible assumption))) (by (repeat' first | ((with_reducible apply eVar_ok) <;> rfl) | (with_reducible exact eC_ok) | (with_reducible exact aNil_ok) | (with_reducible exact bYes_ok) | (with_reducible exact moat1 _) | (with_reducible apply aCons_ok) | (with_reducible apply eBin_ok) | (with_reducible apply bBin_ok) | (with_reducible apply eCb_ok) | (with_reducible apply eCall_ok) | (with_reducible apply eCallD_ok) | (with_reducible apply bVal_ok) | (with_reducible apply bNot_ok) | (with_reducible apply eTup_ok) | (with_reducible apply eLst_ok) | (with_reducible apply eFld_ok) | (with_reducible apply eMeth_ok) | (with_reducible apply eIx_loc) | (with_reducible apply pure1_ok) | (with_reducible apply bOr_ok) | (with_reducible apply bAnd_ok) | (with_reducible apply eDGet2_ok) | (with_reducible apply eDGet_ok) | (exact (rfl : (_ : Nat) = _)) | (exact (rfl : lookD _ _ = _)) | ((with_reducible show (List.length _) ≤ 1000); simp only [List.length_cons, List.length_nil]; decide) | (exact oIx_tup.trans atI_0) | (exact oIx_tup.trans atI_1) | (exact oIx_tup.trans atI_2) | (exact oIn_part) | (exact oIn_parts (.inl rfl)) | (exact oIn_parts (.inr rfl)) | (exact oNotIn_parts (.inl rfl)) | (exact oNotIn_parts (.inr rfl)) | (exact oNe_bl) | (exact oAdd_int) | (exact oSub_int) | (exact oLt_int) | (exact oGt_int) | (exact oLe_int) | (exact oGe_int) | (exact oEq_int) | (exact oNe_int) | (exact gLen_seq seqOf_tup) | (exact gLen_seq seqOf_lst) | ((with_reducible show _ = _); with_reducible assumption))) smM1))) ?_
    exact sRet_ok (eCall_ok (aCons_ok (d := .tup (g.tk.map tkD)) (by (repeat' first | ((with_reducible apply eVar_ok) <;> rfl) | (with_reducible exact eC_ok) | (with_reducible exact aNil_ok) | (with_reducible exact bYes_ok) | (with_reducible exact grow3 _) | (with_reducible apply aCons_ok) | (with_reducible apply eBin_ok) | (with_reducible apply bBin_ok) | (with_reducible apply eCb_ok) | (with_reducible apply eCall_ok) | (with_reducible apply eCallD_ok) | (with_reducible apply bVal_ok) | (with_reducible apply bNot_ok) | (with_reducible apply eTup_ok) | (with_reducible apply eLst_ok) | (with_reducible apply eFld_ok) | (with_reducible apply eMeth_ok) | (with_reducible apply eIx_loc) | (with_reducible apply pure1_ok) | (with_reducible apply bOr_ok) | (with_reducible apply bAnd_ok) | (with_reducible apply eDGet2_ok) | (with_reducible apply eDGet_ok) | (exact (rfl : (_ : Nat) = _)) | (exact (rfl : lookD _ _ = _)) | ((with_reducible show (List.length _) ≤ 1000); simp only [List.length_cons, List.length_nil]; decide) | (exact oIx_tup.trans atI_0) | (exact oIx_tup.trans atI_1) | (exact oIx_tup.trans atI_2) | (exact oIn_part) | (exact oIn_parts (.inl rfl)) | (exact oIn_parts (.inr rfl)) | (exact oNotIn_parts (.inl rfl)) | (exact oNotIn_parts (.inr rfl)) | (exact oNe_bl) | (exact oAdd_int) | (exact oSub_int) | (exact oLt_int) | (exact oGt_int) | (exact oLe_int) | (exact oGe_int) | (exact oEq_int) | (exact oNe_int) | (exact gLen_seq seqOf_tup) | (exact gLen_seq seqOf_lst) | ((with_reducible show _ = _); with_reducible assumption))) (aCons_ok (d := .tup (g.tk.map tkD)) (by (repeat' first | ((with_reducible apply eVar_ok) <;> rfl) | (with_reducible exact eC_ok) | (with_reducible exact aNil_ok) | (with_reducible exact bYes_ok) | (with_reducible exact grow1 _) | (with_reducible apply aCons_ok) | (with_reducible apply eBin_ok) | (with_reducible apply bBin_ok) | (with_reducible apply eCb_ok) | (with_reducible apply eCall_ok) | (with_reducible apply eCallD_ok) | (with_reducible apply bVal_ok) | (with_reducible apply bNot_ok) | (with_reducible apply eTup_ok) | (with_reducible apply eLst_ok) | (with_reducible apply eFld_ok) | (with_reducible apply eMeth_ok) | (with_reducible apply eIx_loc) | (with_reducible apply pure1_ok) | (with_reducible apply bOr_ok) | (with_reducible apply bAnd_ok) | (with_reducible apply eDGet2_ok) | (with_reducible apply eDGet_ok) | (exact (rfl : (_ : Nat) = _)) | (exact (rfl : lookD _ _ = _)) | ((with_reducible show (List.length _) ≤ 1000); simp only [List.length_cons, List.length_nil]; decide) | (exact oIx_tup.trans atI_0) | (exact oIx_tup.trans atI_1) | (exact oIx_tup.trans atI_2) | (exact oIn_part) | (exact oIn_parts (.inl rfl)) | (exact oIn_parts (.inr rfl)) | (exact oNotIn_parts (.inl rfl)) | (exact oNotIn_parts (.inr rfl)) | (exact oNe_bl) | (exact oAdd_int) | (exact oSub_int) | (exact oLt_int) | (exact oGt_int) | (exact oLe_int) | (exact oGe_int) | (exact oEq_int) | (exact oNe_int) | (exact gLen_seq seqOf_tup) | (exact gLen_seq seqOf_lst) | ((with_reducible show _ = _); with_reducible assumption))) aNil_ok)) rfl (smG1 _))
  exact ⟨[], runF_rt hb (gc_app (S := []) (T := [poolC P2]) rfl)⟩
end Ev

namespace Ev
open PySem PySem.Spec PyProof.Rows L2

theorem all_mk {l : PySem.W.OpenLaw} {w : World} {K : PySem.W.Frag} {h : Heap} {mg : Str → Option Value} {fa : Addr} (X : K.In h) (G : h.Ns mainGlobals mg) (hfa : mg "law" = some (.ref fa))
    {od1 an1 od2 an2 od3 an3 od4 an4 od5 an5 od6 an6 od7 an7 od8 an8 od9 an9 od10 an10 od11 an11 od12 an12 od13 an13 od14 an14 od15 an15 od16 an16 od17 an17 od18 an18 od19 an19 od20 an20 od21 an21 xd21 od22 an22 od23 an23 od24 an24 od25 an25 od26 an26 od27 an27 od28 an28 od29 an29 od30 an30 od31 an31 od32 an32 od33 an33 od34 an34 od35 xd35 yd35 od36 an36 od37 an37 od38 an38 od39 an39 od40 an40 od41 an41 od42 an42 od43 an43 od44 an44 od45 an45 : Option Addr} {sl1 sl2 sl3 sl4 sl5 sl6 sl7 sl8 sl9 sl10 sl11 sl12 sl13 sl14 sl15 sl16 sl17 sl18 sl19 sl20 sl21 xs21 sl22 sl23 sl24 sl25 sl26 sl27 sl28 sl29 sl30 sl31 sl32 sl33 sl34 sl35 xs35 ys35 sl36 sl37 sl38 sl39 sl40 sl41 sl42 sl43 sl44 sl45 : Array (Option Value)} {oc1 dc1 pm1 ct1 kV1 cd1 oc2 dc2 pm2 ct2 kV2 cd2 oc3 dc3 pm3 ct3 kV3 cd3 oc4 dc4 pm4 ct4 kV4 cd4 oc5 dc5 pm5 ct5 kV5 cd5 oc6 dc6 pm6 ct6 kV6 cd6 oc7 dc7 pm7 ct7 kV7 cd7 oc8 dc8 pm8 ct8 kV8 cd8 oc9 dc9 pm9 ct9 kV9 cd9 oc10 dc10 pm10 ct10 kV10 cd10 oc11 dc11 pm11 ct11 kV11 cd11 oc12 dc12 pm12 ct12 kV12 cd12 oc13 dc13 pm13 ct13 kV13 cd13 oc14 dc14 pm14 ct14 kV14 cd14 oc15 dc15 pm15 ct15 kV15 cd15 oc16 dc16 pm16 ct16 kV16 cd16 oc17 dc17 pm17 ct17 kV17 cd17 oc18 dc18 pm18 ct18 kV18 cd18 oc19 dc19 pm19 ct19 kV19 cd19 oc20 dc20 pm20 ct20 kV20 cd20 oc21 dc21 pm21 ct21 kV21 cd21 xc21 oc22 dc22 pm22 ct22 kV22 cd22 oc23 dc23 pm23 ct23 kV23 cd23 oc24 dc24 pm24 ct24 kV24 cd24 oc25 dc25 pm25 ct25 kV25 cd25 oc26 dc26 pm26 ct26 kV26 cd26 oc27 dc27 pm27 ct27 kV27 cd27 oc28 dc28 pm28 ct28 kV28 cd28 oc29 dc29 pm29 ct29 kV29 cd29 oc30 dc30 pm30 ct30 kV30 cd30 oc31 dc31 pm31 ct31 kV31 cd31 oc32 dc32 pm32 ct32 kV32 cd32 oc33 dc33 pm33 ct33 kV33 cd33 oc34 dc34 pm34 ct34 kV34 cd34 oc35 dc35 pm35 ct35 xc35 yc35 oc36 dc36 pm36 ct36 kV36 cd36 oc37 dc37 pm37 ct37 kV37 cd37 oc38 dc38 pm38 ct38 kV38 cd38 oc39 dc39 pm39 ct39 kV39 cd39 oc40 dc40 pm40 ct40 kV40 cd40 oc41 dc41 pm41 ct41 kV41 cd41 oc42 dc42 pm42 ct42 kV42 cd42 oc43 dc43 pm43 ct43 kV43 cd43 oc44 dc44 pm44 ct44 kV44 cd44 oc45 dc45 pm45 ct45 kV45 cd45 : Value} {aC_PairGrowth a1 a2 a3 a4 a5 a6 a7 a8 a9 a10 a11 a12 a13 a14 a15 a16 a17 a18 a19 a20 a21 dT21 a22 a23 a24 a25 a26 a27 a28 a29 a30 a31 a32 a33 a34 a35 cc35 cda35 a36 a37 a38 a39 a40 a41 a42 a43 a44 a45 q_ZERO : Addr} {nn21 : Nat} {cl35 : ClassData} {fi35 : Str}
    (nC_PairGrowth : PySem.W.nsIn K mainGlobals "PairGrowth" = some (some (.ref aC_PairGrowth)))
    (pg_PairGrowth : PySem.W.plainGet K aC_PairGrowth Str.empty = true)
    (hd_PairGrowth : PySem.W.hasDictIn K aC_PairGrowth = true)
    (po_PairGrowth : PySem.W.plainOver K aC_PairGrowth = true)
    (sa_PairGrowth : PySem.W.findIn K (.ref aC_PairGrowth) "__setattr__" = some (some (.builtin "object.__setattr__")))
    (fC_PairGrowth_filled : PySem.W.findIn K (.ref aC_PairGrowth) "filled" = some none)
    (fC_PairGrowth_net : PySem.W.findIn K (.ref aC_PairGrowth) "net" = some none)
    (fC_PairGrowth_pairs : PySem.W.findIn K (.ref aC_PairGrowth) "pairs" = some none)
    (fC_PairGrowth_parts : PySem.W.findIn K (.ref aC_PairGrowth) "parts" = some none)
    (fC_PairGrowth_rows : PySem.W.findIn K (.ref aC_PairGrowth) "rows" = some none)
    (fC_PairGrowth_taken : PySem.W.findIn K (.ref aC_PairGrowth) "taken" = some none)
    (fC_PairGrowth_time : PySem.W.findIn K (.ref aC_PairGrowth) "time" = some none)
    (fC_PairGrowth_ways : PySem.W.findIn K (.ref aC_PairGrowth) "ways" = some none)
    (fC_PairGrowth_widths : PySem.W.findIn K (.ref aC_PairGrowth) "widths" = some none)
    (tpany : PySem.W.nsIn K cStatics "thirdparty.any" = some none)
    (z_super : PySem.W.nsIn K mainGlobals "super" = some none)
    (topsup : (l.prog.main.scope.names.lookup ("super" : Str)).isSome = false)
    (n1 : PySem.W.nsIn K mainGlobals "_law_pool" = some (some (.ref a1)))
    (l1 : K.lookup a1 = some ⟨oc1, od1, .func (PySem.W.fnOf "_law_pool" "_law_pool" (defArgs s_law_pool) (defBody s_law_pool) (defScope s_law_pool) .none kV1 dc1 pm1 an1 cd1 ct1), sl1⟩)
    (e1 : PySem.W.codeIn K cd1 "_law_pool" = true)
    (k1 : PySem.W.keepIn K (.ref a1) = true)
    (n2 : PySem.W.nsIn K mainGlobals "_law_draw" = some (some (.ref a2)))
    (l2 : K.lookup a2 = some ⟨oc2, od2, .func (PySem.W.fnOf "_law_draw" "_law_draw" (defArgs s_law_draw) (defBody s_law_draw) (defScope s_law_draw) .none kV2 dc2 pm2 an2 cd2 ct2), sl2⟩)
    (e2 : PySem.W.codeIn K cd2 "_law_draw" = true)
    (k2 : PySem.W.keepIn K (.ref a2) = true)
    (n3 : PySem.W.nsIn K mainGlobals "_law_pick" = some (some (.ref a3)))
    (l3 : K.lookup a3 = some ⟨oc3, od3, .func (PySem.W.fnOf "_law_pick" "_law_pick" (defArgs s_law_pick) (defBody s_law_pick) (defScope s_law_pick) .none kV3 dc3 pm3 an3 cd3 ct3), sl3⟩)
    (e3 : PySem.W.codeIn K cd3 "_law_pick" = true)
    (k3 : PySem.W.keepIn K (.ref a3) = true)
    (n4 : PySem.W.nsIn K mainGlobals "_law_cost" = some (some (.ref a4)))
    (l4 : K.lookup a4 = some ⟨oc4, od4, .func (PySem.W.fnOf "_law_cost" "_law_cost" (defArgs s_law_cost) (defBody s_law_cost) (defScope s_law_cost) .none kV4 dc4 pm4 an4 cd4 ct4), sl4⟩)
    (e4 : PySem.W.codeIn K cd4 "_law_cost" = true)
    (k4 : PySem.W.keepIn K (.ref a4) = true)
    (n5 : PySem.W.nsIn K mainGlobals "_law_way" = some (some (.ref a5)))
    (l5 : K.lookup a5 = some ⟨oc5, od5, .func (PySem.W.fnOf "_law_way" "_law_way" (defArgs s_law_way) (defBody s_law_way) (defScope s_law_way) .none kV5 dc5 pm5 an5 cd5 ct5), sl5⟩)
    (e5 : PySem.W.codeIn K cd5 "_law_way" = true)
    (k5 : PySem.W.keepIn K (.ref a5) = true)
    (n6 : PySem.W.nsIn K mainGlobals "_law_net" = some (some (.ref a6)))
    (l6 : K.lookup a6 = some ⟨oc6, od6, .func (PySem.W.fnOf "_law_net" "_law_net" (defArgs s_law_net) (defBody s_law_net) (defScope s_law_net) .none kV6 dc6 pm6 an6 cd6 ct6), sl6⟩)
    (e6 : PySem.W.codeIn K cd6 "_law_net" = true)
    (k6 : PySem.W.keepIn K (.ref a6) = true)
    (n7 : PySem.W.nsIn K mainGlobals "_law_pairs" = some (some (.ref a7)))
    (l7 : K.lookup a7 = some ⟨oc7, od7, .func (PySem.W.fnOf "_law_pairs" "_law_pairs" (defArgs s_law_pairs) (defBody s_law_pairs) (defScope s_law_pairs) .none kV7 dc7 pm7 an7 cd7 ct7), sl7⟩)
    (e7 : PySem.W.codeIn K cd7 "_law_pairs" = true)
    (k7 : PySem.W.keepIn K (.ref a7) = true)
    (n8 : PySem.W.nsIn K mainGlobals "_law_group" = some (some (.ref a8)))
    (l8 : K.lookup a8 = some ⟨oc8, od8, .func (PySem.W.fnOf "_law_group" "_law_group" (defArgs s_law_group) (defBody s_law_group) (defScope s_law_group) .none kV8 dc8 pm8 an8 cd8 ct8), sl8⟩)
    (e8 : PySem.W.codeIn K cd8 "_law_group" = true)
    (k8 : PySem.W.keepIn K (.ref a8) = true)
    (n9 : PySem.W.nsIn K mainGlobals "_law_joins" = some (some (.ref a9)))
    (l9 : K.lookup a9 = some ⟨oc9, od9, .func (PySem.W.fnOf "_law_joins" "_law_joins" (defArgs s_law_joins) (defBody s_law_joins) (defScope s_law_joins) .none kV9 dc9 pm9 an9 cd9 ct9), sl9⟩)
    (e9 : PySem.W.codeIn K cd9 "_law_joins" = true)
    (k9 : PySem.W.keepIn K (.ref a9) = true)
    (n10 : PySem.W.nsIn K mainGlobals "_law_task" = some (some (.ref a10)))
    (l10 : K.lookup a10 = some ⟨oc10, od10, .func (PySem.W.fnOf "_law_task" "_law_task" (defArgs s_law_task) (defBody s_law_task) (defScope s_law_task) .none kV10 dc10 pm10 an10 cd10 ct10), sl10⟩)
    (e10 : PySem.W.codeIn K cd10 "_law_task" = true)
    (k10 : PySem.W.keepIn K (.ref a10) = true)
    (n11 : PySem.W.nsIn K mainGlobals "_law_any_task" = some (some (.ref a11)))
    (l11 : K.lookup a11 = some ⟨oc11, od11, .func (PySem.W.fnOf "_law_any_task" "_law_any_task" (defArgs s_law_any_task) (defBody s_law_any_task) (defScope s_law_any_task) .none kV11 dc11 pm11 an11 cd11 ct11), sl11⟩)
    (e11 : PySem.W.codeIn K cd11 "_law_any_task" = true)
    (k11 : PySem.W.keepIn K (.ref a11) = true)
    (n12 : PySem.W.nsIn K mainGlobals "all_ways" = some (some (.ref a12)))
    (l12 : K.lookup a12 = some ⟨oc12, od12, .func (PySem.W.fnOf "all_ways" "all_ways" (defArgs s_all_ways) (defBody s_all_ways) (defScope s_all_ways) .none kV12 dc12 pm12 an12 cd12 ct12), sl12⟩)
    (e12 : PySem.W.codeIn K cd12 "all_ways" = true)
    (k12 : PySem.W.keepIn K (.ref a12) = true)
    (n13 : PySem.W.nsIn K mainGlobals "groups" = some (some (.ref a13)))
    (l13 : K.lookup a13 = some ⟨oc13, od13, .func (PySem.W.fnOf "groups" "groups" (defArgs s_groups) (defBody s_groups) (defScope s_groups) .none kV13 dc13 pm13 an13 cd13 ct13), sl13⟩)
    (e13 : PySem.W.codeIn K cd13 "groups" = true)
    (k13 : PySem.W.keepIn K (.ref a13) = true)
    (n14 : PySem.W.nsIn K mainGlobals "group_of" = some (some (.ref a14)))
    (l14 : K.lookup a14 = some ⟨oc14, od14, .func (PySem.W.fnOf "group_of" "group_of" (defArgs s_group_of) (defBody s_group_of) (defScope s_group_of) .none kV14 dc14 pm14 an14 cd14 ct14), sl14⟩)
    (e14 : PySem.W.codeIn K cd14 "group_of" = true)
    (k14 : PySem.W.keepIn K (.ref a14) = true)
    (n15 : PySem.W.nsIn K mainGlobals "first_apart" = some (some (.ref a15)))
    (l15 : K.lookup a15 = some ⟨oc15, od15, .func (PySem.W.fnOf "first_apart" "first_apart" (defArgs s_first_apart) (defBody s_first_apart) (defScope s_first_apart) .none kV15 dc15 pm15 an15 cd15 ct15), sl15⟩)
    (e15 : PySem.W.codeIn K cd15 "first_apart" = true)
    (k15 : PySem.W.keepIn K (.ref a15) = true)
    (n16 : PySem.W.findIn K (.ref aC_PairGrowth) "is_open" = some (some (.ref a16)))
    (i16 : PySem.W.isFn K (.ref a16) = true)
    (l16 : K.lookup a16 = some ⟨oc16, od16, .func (PySem.W.fnOf "is_open" "PairGrowth.is_open" (defArgs s_PairGrowth_is_open) (defBody s_PairGrowth_is_open) (defScope s_PairGrowth_is_open) .none kV16 dc16 pm16 an16 cd16 ct16), sl16⟩)
    (e16 : PySem.W.codeIn K cd16 "PairGrowth.is_open" = true)
    (k16 : PySem.W.keepIn K (.ref a16) = true)
    (n17 : PySem.W.findIn K (.ref aC_PairGrowth) "still_open" = some (some (.ref a17)))
    (i17 : PySem.W.isFn K (.ref a17) = true)
    (l17 : K.lookup a17 = some ⟨oc17, od17, .func (PySem.W.fnOf "still_open" "Growth.still_open" (defArgs s_PairGrowth_still_open) (defBody s_PairGrowth_still_open) (defScope s_PairGrowth_still_open) .none kV17 dc17 pm17 an17 cd17 ct17), sl17⟩)
    (e17 : PySem.W.codeIn K cd17 "Growth.still_open" = true)
    (k17 : PySem.W.keepIn K (.ref a17) = true)
    (n18 : PySem.W.findIn K (.ref aC_PairGrowth) "waits" = some (some (.ref a18)))
    (i18 : PySem.W.isFn K (.ref a18) = true)
    (l18 : K.lookup a18 = some ⟨oc18, od18, .func (PySem.W.fnOf "waits" "Growth.waits" (defArgs s_PairGrowth_waits) (defBody s_PairGrowth_waits) (defScope s_PairGrowth_waits) .none kV18 dc18 pm18 an18 cd18 ct18), sl18⟩)
    (e18 : PySem.W.codeIn K cd18 "Growth.waits" = true)
    (k18 : PySem.W.keepIn K (.ref a18) = true)
    (n19 : PySem.W.findIn K (.ref aC_PairGrowth) "between" = some (some (.ref a19)))
    (i19 : PySem.W.isFn K (.ref a19) = true)
    (l19 : K.lookup a19 = some ⟨oc19, od19, .func (PySem.W.fnOf "between" "Growth.between" (defArgs s_PairGrowth_between) (defBody s_PairGrowth_between) (defScope s_PairGrowth_between) .none kV19 dc19 pm19 an19 cd19 ct19), sl19⟩)
    (e19 : PySem.W.codeIn K cd19 "Growth.between" = true)
    (k19 : PySem.W.keepIn K (.ref a19) = true)
    (n20 : PySem.W.findIn K (.ref aC_PairGrowth) "rates" = some (some (.ref a20)))
    (i20 : PySem.W.isFn K (.ref a20) = true)
    (l20 : K.lookup a20 = some ⟨oc20, od20, .func (PySem.W.fnOf "rates" "Growth.rates" (defArgs s_PairGrowth_rates) (defBody s_PairGrowth_rates) (defScope s_PairGrowth_rates) .none kV20 dc20 pm20 an20 cd20 ct20), sl20⟩)
    (e20 : PySem.W.codeIn K cd20 "Growth.rates" = true)
    (k20 : PySem.W.keepIn K (.ref a20) = true)
    (n21 : PySem.W.nsIn K mainGlobals "ratio" = some (some (.ref a21)))
    (l21 : K.lookup a21 = some ⟨oc21, od21, .func (PySem.W.fnOf "ratio" "ratio" (defArgs s_ratio) (defBody s_ratio) (defScope s_ratio) (.ref dT21) kV21 dc21 pm21 an21 cd21 ct21), sl21⟩)
    {vs21 : _}
    (o21 : K.lookup dT21 = some ⟨xc21, xd21, .seq vs21 nn21, xs21⟩)
    {us21 : _}
    (v21 : vs21 = (List.toArray us21))
    (w21 : Vals [.int 1] us21)
    (e21 : PySem.W.codeIn K cd21 "ratio" = true)
    (k21 : PySem.W.keepIn K (.ref a21) = true)
    (n22 : PySem.W.nsIn K mainGlobals "minus" = some (some (.ref a22)))
    (l22 : K.lookup a22 = some ⟨oc22, od22, .func (PySem.W.fnOf "minus" "minus" (defArgs s_minus) (defBody s_minus) (defScope s_minus) .none kV22 dc22 pm22 an22 cd22 ct22), sl22⟩)
    (e22 : PySem.W.codeIn K cd22 "minus" = true)
    (k22 : PySem.W.keepIn K (.ref a22) = true)
    (n23 : PySem.W.nsIn K mainGlobals "over" = some (some (.ref a23)))
    (l23 : K.lookup a23 = some ⟨oc23, od23, .func (PySem.W.fnOf "over" "over" (defArgs s_over) (defBody s_over) (defScope s_over) .none kV23 dc23 pm23 an23 cd23 ct23), sl23⟩)
    (e23 : PySem.W.codeIn K cd23 "over" = true)
    (k23 : PySem.W.keepIn K (.ref a23) = true)
    (n24 : PySem.W.nsIn K mainGlobals "less" = some (some (.ref a24)))
    (l24 : K.lookup a24 = some ⟨oc24, od24, .func (PySem.W.fnOf "less" "less" (defArgs s_less) (defBody s_less) (defScope s_less) .none kV24 dc24 pm24 an24 cd24 ct24), sl24⟩)
    (e24 : PySem.W.codeIn K cd24 "less" = true)
    (k24 : PySem.W.keepIn K (.ref a24) = true)
    (n25 : PySem.W.findIn K (.ref aC_PairGrowth) "step" = some (some (.ref a25)))
    (i25 : PySem.W.isFn K (.ref a25) = true)
    (l25 : K.lookup a25 = some ⟨oc25, od25, .func (PySem.W.fnOf "step" "Growth.step" (defArgs s_PairGrowth_step) (defBody s_PairGrowth_step) (defScope s_PairGrowth_step) .none kV25 dc25 pm25 an25 cd25 ct25), sl25⟩)
    (e25 : PySem.W.codeIn K cd25 "Growth.step" = true)
    (k25 : PySem.W.keepIn K (.ref a25) = true)
    (n26 : PySem.W.nsIn K mainGlobals "times" = some (some (.ref a26)))
    (l26 : K.lookup a26 = some ⟨oc26, od26, .func (PySem.W.fnOf "times" "times" (defArgs s_times) (defBody s_times) (defScope s_times) .none kV26 dc26 pm26 an26 cd26 ct26), sl26⟩)
    (e26 : PySem.W.codeIn K cd26 "times" = true)
    (k26 : PySem.W.keepIn K (.ref a26) = true)
    (n27 : PySem.W.nsIn K mainGlobals "plus" = some (some (.ref a27)))
    (l27 : K.lookup a27 = some ⟨oc27, od27, .func (PySem.W.fnOf "plus" "plus" (defArgs s_plus) (defBody s_plus) (defScope s_plus) .none kV27 dc27 pm27 an27 cd27 ct27), sl27⟩)
    (e27 : PySem.W.codeIn K cd27 "plus" = true)
    (k27 : PySem.W.keepIn K (.ref a27) = true)
    (n28 : PySem.W.findIn K (.ref aC_PairGrowth) "pass_time" = some (some (.ref a28)))
    (i28 : PySem.W.isFn K (.ref a28) = true)
    (l28 : K.lookup a28 = some ⟨oc28, od28, .func (PySem.W.fnOf "pass_time" "Growth.pass_time" (defArgs s_PairGrowth_pass_time) (defBody s_PairGrowth_pass_time) (defScope s_PairGrowth_pass_time) .none kV28 dc28 pm28 an28 cd28 ct28), sl28⟩)
    (e28 : PySem.W.codeIn K cd28 "Growth.pass_time" = true)
    (k28 : PySem.W.keepIn K (.ref a28) = true)
    (n29 : PySem.W.findIn K (.ref aC_PairGrowth) "full_way" = some (some (.ref a29)))
    (i29 : PySem.W.isFn K (.ref a29) = true)
    (l29 : K.lookup a29 = some ⟨oc29, od29, .func (PySem.W.fnOf "full_way" "Growth.full_way" (defArgs s_PairGrowth_full_way) (defBody s_PairGrowth_full_way) (defScope s_PairGrowth_full_way) .none kV29 dc29 pm29 an29 cd29 ct29), sl29⟩)
    (e29 : PySem.W.codeIn K cd29 "Growth.full_way" = true)
    (k29 : PySem.W.keepIn K (.ref a29) = true)
    (n30 : PySem.W.findIn K (.ref aC_PairGrowth) "came" = some (some (.ref a30)))
    (i30 : PySem.W.isFn K (.ref a30) = true)
    (l30 : K.lookup a30 = some ⟨oc30, od30, .func (PySem.W.fnOf "came" "Growth.came" (defArgs s_PairGrowth_came) (defBody s_PairGrowth_came) (defScope s_PairGrowth_came) .none kV30 dc30 pm30 an30 cd30 ct30), sl30⟩)
    (e30 : PySem.W.codeIn K cd30 "Growth.came" = true)
    (k30 : PySem.W.keepIn K (.ref a30) = true)
    (n31 : PySem.W.findIn K (.ref aC_PairGrowth) "take_full_ways" = some (some (.ref a31)))
    (i31 : PySem.W.isFn K (.ref a31) = true)
    (l31 : K.lookup a31 = some ⟨oc31, od31, .func (PySem.W.fnOf "take_full_ways" "Growth.take_full_ways" (defArgs s_PairGrowth_take_full_ways) (defBody s_PairGrowth_take_full_ways) (defScope s_PairGrowth_take_full_ways) .none kV31 dc31 pm31 an31 cd31 ct31), sl31⟩)
    (e31 : PySem.W.codeIn K cd31 "Growth.take_full_ways" = true)
    (k31 : PySem.W.keepIn K (.ref a31) = true)
    (n32 : PySem.W.findIn K (.ref aC_PairGrowth) "rested" = some (some (.ref a32)))
    (i32 : PySem.W.isFn K (.ref a32) = true)
    (l32 : K.lookup a32 = some ⟨oc32, od32, .func (PySem.W.fnOf "rested" "Growth.rested" (defArgs s_PairGrowth_rested) (defBody s_PairGrowth_rested) (defScope s_PairGrowth_rested) .none kV32 dc32 pm32 an32 cd32 ct32), sl32⟩)
    (e32 : PySem.W.codeIn K cd32 "Growth.rested" = true)
    (k32 : PySem.W.keepIn K (.ref a32) = true)
    (n33 : PySem.W.findIn K (.ref aC_PairGrowth) "grow" = some (some (.ref a33)))
    (i33 : PySem.W.isFn K (.ref a33) = true)
    (l33 : K.lookup a33 = some ⟨oc33, od33, .func (PySem.W.fnOf "grow" "Growth.grow" (defArgs s_PairGrowth_grow) (defBody s_PairGrowth_grow) (defScope s_PairGrowth_grow) .none kV33 dc33 pm33 an33 cd33 ct33), sl33⟩)
    (e33 : PySem.W.codeIn K cd33 "Growth.grow" = true)
    (k33 : PySem.W.keepIn K (.ref a33) = true)
    (n34 : PySem.W.ks_superIn K aC_PairGrowth aC_PairGrowth "__init__" = some (some (.ref a34)))
    (ty34 : PySem.W.typeIn K (.ref a34) = some (.type "function"))
    (fi34 : PySem.W.fnIn K a34 = true)
    (l34 : K.lookup a34 = some ⟨oc34, od34, .func (PySem.W.fnOf "__init__" "Growth.__init__" (defArgs s_PairGrowth_Growth_init) (defBody s_PairGrowth_Growth_init) (defScope s_PairGrowth_Growth_init) .none kV34 dc34 pm34 an34 cd34 ct34), sl34⟩)
    (e34 : PySem.W.codeIn K cd34 "Growth.__init__" = true)
    (k34 : PySem.W.keepIn K (.ref a34) = true)
    (n35 : PySem.W.findIn K (.ref aC_PairGrowth) "__init__" = some (some (.ref a35)))
    (i35 : PySem.W.isFn K (.ref a35) = true)
    (mk_PairGrowth : PySem.W.makesIn K aC_PairGrowth = true)
    (kc_PairGrowth : PySem.W.keepIn K (.ref aC_PairGrowth) = true)
    (l35 : K.lookup a35 = some ⟨oc35, od35, .func (PySem.W.fnX "__init__" "PairGrowth.__init__" (defArgs s_PairGrowth_init) (defBody s_PairGrowth_init) (defScope s_PairGrowth_init) [(("__class__" : Str), cc35)] .none .none dc35 pm35 none (.ref cda35) ct35), sl35⟩)
    (e35 : PySem.W.codeIn K (.ref cda35) "PairGrowth.__init__" = true)
    {vs35 : _} {tf35 : _}
    (o35 : K.lookup cda35 = some ⟨xc35, xd35, .fields vs35, xs35⟩)
    (v35 : vs35[2]? = some (.str fi35 tf35))
    (w35 : ((l.prog.main.file : Str) == fi35) = true)
    (ce35 : K.lookup cc35 = some ⟨yc35, yd35, .cell (some (.ref aC_PairGrowth)), ys35⟩)
    (cs35 : PySem.W.clsIn K aC_PairGrowth = some cl35)
    (mr35 : PySem.W.mroIn K aC_PairGrowth (.ref aC_PairGrowth) = some true)
    (k35 : PySem.W.keepIn K (.ref a35) = true)
    (n36 : PySem.W.nsIn K mainGlobals "joins" = some (some (.ref a36)))
    (l36 : K.lookup a36 = some ⟨oc36, od36, .func (PySem.W.fnOf "joins" "joins" (defArgs s_joins) (defBody s_joins) (defScope s_joins) .none kV36 dc36 pm36 an36 cd36 ct36), sl36⟩)
    (e36 : PySem.W.codeIn K cd36 "joins" = true)
    (k36 : PySem.W.keepIn K (.ref a36) = true)
    (n37 : PySem.W.nsIn K mainGlobals "told" = some (some (.ref a37)))
    (l37 : K.lookup a37 = some ⟨oc37, od37, .func (PySem.W.fnOf "told" "told" (defArgs s_told) (defBody s_told) (defScope s_told) .none kV37 dc37 pm37 an37 cd37 ct37), sl37⟩)
    (e37 : PySem.W.codeIn K cd37 "told" = true)
    (k37 : PySem.W.keepIn K (.ref a37) = true)
    (n38 : PySem.W.nsIn K mainGlobals "_law_same" = some (some (.ref a38)))
    (l38 : K.lookup a38 = some ⟨oc38, od38, .func (PySem.W.fnOf "_law_same" "_law_same" (defArgs s_law_same) (defBody s_law_same) (defScope s_law_same) .none kV38 dc38 pm38 an38 cd38 ct38), sl38⟩)
    (e38 : PySem.W.codeIn K cd38 "_law_same" = true)
    (k38 : PySem.W.keepIn K (.ref a38) = true)
    (n39 : PySem.W.nsIn K mainGlobals "growth" = some (some (.ref a39)))
    (l39 : K.lookup a39 = some ⟨oc39, od39, .func (PySem.W.fnOf "growth" "growth" (defArgs s_growth) (defBody s_growth) (defScope s_growth) .none kV39 dc39 pm39 an39 cd39 ct39), sl39⟩)
    (e39 : PySem.W.codeIn K cd39 "growth" = true)
    (k39 : PySem.W.keepIn K (.ref a39) = true)
    (n40 : PySem.W.nsIn K mainGlobals "_law_gcd" = some (some (.ref a40)))
    (l40 : K.lookup a40 = some ⟨oc40, od40, .func (PySem.W.fnOf "_law_gcd" "_law_gcd" (defArgs s_law_gcd) (defBody s_law_gcd) (defScope s_law_gcd) .none kV40 dc40 pm40 an40 cd40 ct40), sl40⟩)
    (e40 : PySem.W.codeIn K cd40 "_law_gcd" = true)
    (k40 : PySem.W.keepIn K (.ref a40) = true)
    (n41 : PySem.W.nsIn K mainGlobals "_law_ratio" = some (some (.ref a41)))
    (l41 : K.lookup a41 = some ⟨oc41, od41, .func (PySem.W.fnOf "_law_ratio" "_law_ratio" (defArgs s_law_ratio) (defBody s_law_ratio) (defScope s_law_ratio) .none kV41 dc41 pm41 an41 cd41 ct41), sl41⟩)
    (e41 : PySem.W.codeIn K cd41 "_law_ratio" = true)
    (k41 : PySem.W.keepIn K (.ref a41) = true)
    (n42 : PySem.W.nsIn K mainGlobals "_law_times" = some (some (.ref a42)))
    (l42 : K.lookup a42 = some ⟨oc42, od42, .func (PySem.W.fnOf "_law_times" "_law_times" (defArgs s_law_times) (defBody s_law_times) (defScope s_law_times) .none kV42 dc42 pm42 an42 cd42 ct42), sl42⟩)
    (e42 : PySem.W.codeIn K cd42 "_law_times" = true)
    (k42 : PySem.W.keepIn K (.ref a42) = true)
    (n43 : PySem.W.findIn K (.ref aC_PairGrowth) "paper" = some (some (.ref a43)))
    (i43 : PySem.W.isFn K (.ref a43) = true)
    (l43 : K.lookup a43 = some ⟨oc43, od43, .func (PySem.W.fnOf "paper" "Growth.paper" (defArgs s_PairGrowth_paper) (defBody s_PairGrowth_paper) (defScope s_PairGrowth_paper) .none kV43 dc43 pm43 an43 cd43 ct43), sl43⟩)
    (e43 : PySem.W.codeIn K cd43 "Growth.paper" = true)
    (k43 : PySem.W.keepIn K (.ref a43) = true)
    (n44 : PySem.W.nsIn K mainGlobals "moats" = some (some (.ref a44)))
    (l44 : K.lookup a44 = some ⟨oc44, od44, .func (PySem.W.fnOf "moats" "moats" (defArgs s_moats) (defBody s_moats) (defScope s_moats) .none kV44 dc44 pm44 an44 cd44 ct44), sl44⟩)
    (e44 : PySem.W.codeIn K cd44 "moats" = true)
    (k44 : PySem.W.keepIn K (.ref a44) = true)
    (n45 : PySem.W.nsIn K mainGlobals "law" = some (some (.ref a45)))
    (l45 : K.lookup a45 = some ⟨oc45, od45, .func (PySem.W.fnOf "law" "law" (defArgs s_law) (defBody s_law) (defScope s_law) .none kV45 dc45 pm45 an45 cd45 ct45), sl45⟩)
    (e45 : PySem.W.codeIn K cd45 "law" = true)
    (k45 : PySem.W.keepIn K (.ref a45) = true)
    (z_abs : PySem.W.nsIn K mainGlobals "abs" = some none)
    (z_any : PySem.W.nsIn K mainGlobals "any" = some none)
    (z_bool : PySem.W.nsIn K mainGlobals "bool" = some none)
    (z_enumerate : PySem.W.nsIn K mainGlobals "enumerate" = some none)
    (z_int : PySem.W.nsIn K mainGlobals "int" = some none)
    (z_isinstance : PySem.W.nsIn K mainGlobals "isinstance" = some none)
    (z_len : PySem.W.nsIn K mainGlobals "len" = some none)
    (z_list : PySem.W.nsIn K mainGlobals "list" = some none)
    (z_min : PySem.W.nsIn K mainGlobals "min" = some none)
    (z_range : PySem.W.nsIn K mainGlobals "range" = some none)
    (z_reversed : PySem.W.nsIn K mainGlobals "reversed" = some none)
    (z_sorted : PySem.W.nsIn K mainGlobals "sorted" = some none)
    (z_str : PySem.W.nsIn K mainGlobals "str" = some none)
    (z_tuple : PySem.W.nsIn K mainGlobals "tuple" = some none)
    (z_gcd : PySem.W.nsIn K mainGlobals "gcd" = some (some (.builtin "math.gcd")))
    (y_ZERO : PySem.W.nsIn K mainGlobals "ZERO" = some (some (.ref q_ZERO)))
    (x_ZERO : KT K q_ZERO ([0, 1].map V.int)) :
    ∃ fd : FuncData, (∀ (s : Shared) (v : Value), BindsTo s fd ⟨[v], []⟩ [("_law_script", v)]) ∧ ∀ base : Heap, K.In base → base.Ns mainGlobals mg → FnOk l.prog w K mg base CX0 9 fa fd ["_law_script"] (spOf K 1 f_law) := by
  have e := hfa.symm.trans (PySem.W.mg_of X G n45)
  cases e
  have CI_PairGrowth : CI K "PairGrowth" aC_PairGrowth := ⟨nC_PairGrowth, ⟨pg_PairGrowth, hd_PairGrowth, po_PairGrowth, sa_PairGrowth⟩⟩
  have T : Txt K mg := ⟨PySem.W.mg_none_of X G z_abs, PySem.W.mg_none_of X G z_any, PySem.W.mg_none_of X G z_bool, PySem.W.mg_none_of X G z_enumerate, PySem.W.mg_none_of X G z_int, PySem.W.mg_none_of X G z_isinstance, PySem.W.mg_none_of X G z_len, PySem.W.mg_none_of X G z_list, PySem.W.mg_none_of X G z_min, PySem.W.mg_none_of X G z_range, PySem.W.mg_none_of X G z_reversed, PySem.W.mg_none_of X G z_sorted, PySem.W.mg_none_of X G z_str, PySem.W.mg_none_of X G z_tuple, PySem.W.mg_of X G z_gcd, ⟨_, PySem.W.mg_of X G y_ZERO, x_ZERO⟩, ⟨_, CI_PairGrowth, fC_PairGrowth_filled⟩, ⟨_, CI_PairGrowth, fC_PairGrowth_net⟩, ⟨_, CI_PairGrowth, fC_PairGrowth_pairs⟩, ⟨_, CI_PairGrowth, fC_PairGrowth_parts⟩, ⟨_, CI_PairGrowth, fC_PairGrowth_rows⟩, ⟨_, CI_PairGrowth, fC_PairGrowth_taken⟩, ⟨_, CI_PairGrowth, fC_PairGrowth_time⟩, ⟨_, CI_PairGrowth, fC_PairGrowth_ways⟩, ⟨_, CI_PairGrowth, fC_PairGrowth_widths⟩⟩
  have F1 := fun_mk (st := s_law_pool) l1 e1 k1
  have b1 := F1.binds (ps := ["_law_script"]) fun _ _ _ _ _ _ us hl => match us, hl with | [_], _ => rfl
  have c_law_pool : ∀ base : Heap, Cal l.prog w K mg base CX0 1 "_law_pool" 1 f_law_pool := fun base => ⟨a1, _, _, (ok_law_pool F1 T ), PySem.W.mg_of X G n1, k1, b1⟩
  have F2 := fun_mk (st := s_law_draw) l2 e2 k2
  have b2 := F2.binds (ps := ["_law_pool_here", "_law_many"]) fun _ _ _ _ _ _ us hl => match us, hl with | [_, _], _ => rfl
  have c_law_draw : ∀ base : Heap, Cal l.prog w K mg base CX0 1 "_law_draw" 2 f_law_draw := fun base => ⟨a2, _, _, (ok_law_draw F2 T ), PySem.W.mg_of X G n2, k2, b2⟩
  have F3 := fun_mk (st := s_law_pick) l3 e3 k3
  have b3 := F3.binds (ps := ["_law_pool_here", "_law_rows"]) fun _ _ _ _ _ _ us hl => match us, hl with | [_, _], _ => rfl
  have c_law_pick : ∀ base : Heap, Cal l.prog w K mg base CX0 2 "_law_pick" 2 f_law_pick := fun base => ⟨a3, _, _, (ok_law_pick F3 T (c_law_draw base)), PySem.W.mg_of X G n3, k3, b3⟩
  have F4 := fun_mk (st := s_law_cost) l4 e4 k4
  have b4 := F4.binds (ps := ["_law_pool_here"]) fun _ _ _ _ _ _ us hl => match us, hl with | [_], _ => rfl
  have c_law_cost : ∀ base : Heap, Cal l.prog w K mg base CX0 2 "_law_cost" 1 f_law_cost := fun base => ⟨a4, _, _, (ok_law_cost F4 T (c_law_draw base)), PySem.W.mg_of X G n4, k4, b4⟩
  have F5 := fun_mk (st := s_law_way) l5 e5 k5
  have b5 := F5.binds (ps := ["_law_pool_here", "_law_places"]) fun _ _ _ _ _ _ us hl => match us, hl with | [_, _], _ => rfl
  have c_law_way : ∀ base : Heap, Cal l.prog w K mg base CX0 3 "_law_way" 2 f_law_way := fun base => ⟨a5, _, _, (ok_law_way F5 T (c_law_draw base) (c_law_cost base)), PySem.W.mg_of X G n5, k5, b5⟩
  have F6 := fun_mk (st := s_law_net) l6 e6 k6
  have b6 := F6.binds (ps := ["_law_pool_here", "_law_most", "_law_ways"]) fun _ _ _ _ _ _ us hl => match us, hl with | [_, _, _], _ => rfl
  have c_law_net : ∀ base : Heap, Cal l.prog w K mg base CX0 4 "_law_net" 3 f_law_net := fun base => ⟨a6, _, _, (ok_law_net F6 T (c_law_draw base) (c_law_cost base) (c_law_way base)), PySem.W.mg_of X G n6, k6, b6⟩
  have F7 := fun_mk (st := s_law_pairs) l7 e7 k7
  have b7 := F7.binds (ps := ["_law_pool_here", "_law_places", "_law_most"]) fun _ _ _ _ _ _ us hl => match us, hl with | [_, _, _], _ => rfl
  have c_law_pairs : ∀ base : Heap, Cal l.prog w K mg base CX0 2 "_law_pairs" 3 f_law_pairs := fun base => ⟨a7, _, _, (ok_law_pairs F7 T (c_law_draw base)), PySem.W.mg_of X G n7, k7, b7⟩
  have F8 := fun_mk (st := s_law_group) l8 e8 k8
  have b8 := F8.binds (ps := ["_law_net_here", "_law_choice", "_law_place"]) fun _ _ _ _ _ _ us hl => match us, hl with | [_, _, _], _ => rfl
  have c_law_group : ∀ base : Heap, Cal l.prog w K mg base CX0 1 "_law_group" 3 f_law_group := fun base => ⟨a8, _, _, (ok_law_group F8 T ), PySem.W.mg_of X G n8, k8, b8⟩
  have F9 := fun_mk (st := s_law_joins) l9 e9 k9
  have b9 := F9.binds (ps := ["_law_net_here", "_law_pairs_here", "_law_choice"]) fun _ _ _ _ _ _ us hl => match us, hl with | [_, _, _], _ => rfl
  have c_law_joins : ∀ base : Heap, Cal l.prog w K mg base CX0 2 "_law_joins" 3 f_law_joins := fun base => ⟨a9, _, _, (ok_law_joins F9 T (c_law_group base)), PySem.W.mg_of X G n9, k9, b9⟩
  have F10 := fun_mk (st := s_law_task) l10 e10 k10
  have b10 := F10.binds (ps := ["_law_pool_here", "_law_most", "_law_ways"]) fun _ _ _ _ _ _ us hl => match us, hl with | [_, _, _], _ => rfl
  have c_law_task : ∀ base : Heap, Cal l.prog w K mg base CX0 5 "_law_task" 3 f_law_task := fun base => ⟨a10, _, _, (ok_law_task F10 T (c_law_net base) (c_law_pairs base) (c_law_joins base)), PySem.W.mg_of X G n10, k10, b10⟩
  have F11 := fun_mk (st := s_law_any_task) l11 e11 k11
  have b11 := F11.binds (ps := ["_law_pool_here"]) fun _ _ _ _ _ _ us hl => match us, hl with | [_], _ => rfl
  have c_law_any_task : ∀ base : Heap, Cal l.prog w K mg base CX0 6 "_law_any_task" 1 f_law_any_task := fun base => ⟨a11, _, _, (ok_law_any_task F11 T (c_law_pick base) (c_law_task base)), PySem.W.mg_of X G n11, k11, b11⟩
  have F12 := fun_mk (st := s_all_ways) l12 e12 k12
  have b12 := F12.binds (ps := ["net"]) fun _ _ _ _ _ _ us hl => match us, hl with | [_], _ => rfl
  have c_all_ways : ∀ base : Heap, Cal l.prog w K mg base CX0 1 "all_ways" 1 f_all_ways := fun base => ⟨a12, _, _, (ok_all_ways F12 T ), PySem.W.mg_of X G n12, k12, b12⟩
  have F13 := fun_mk (st := s_groups) l13 e13 k13
  have b13 := F13.binds (ps := ["net", "choice"]) fun _ _ _ _ _ _ us hl => match us, hl with | [_, _], _ => rfl
  have c_groups : ∀ base : Heap, Cal l.prog w K mg base CX0 1 "groups" 2 f_groups := fun base => ⟨a13, _, _, (ok_groups F13 T ), PySem.W.mg_of X G n13, k13, b13⟩
  have F14 := fun_mk (st := s_group_of) l14 e14 k14
  have b14 := F14.binds (ps := ["parts", "place"]) fun _ _ _ _ _ _ us hl => match us, hl with | [_, _], _ => rfl
  have c_group_of : ∀ base : Heap, Cal l.prog w K mg base CX0 1 "group_of" 2 f_group_of := fun base => ⟨a14, _, _, (ok_group_of F14 T ), PySem.W.mg_of X G n14, k14, b14⟩
  have F15 := fun_mk (st := s_first_apart) l15 e15 k15
  have b15 := F15.binds (ps := ["net", "pairs", "choice"]) fun _ _ _ _ _ _ us hl => match us, hl with | [_, _, _], _ => rfl
  have c_first_apart : ∀ base : Heap, Cal l.prog w K mg base CX0 2 "first_apart" 3 f_first_apart := fun base => ⟨a15, _, _, (ok_first_apart F15 T (c_groups base) (c_group_of base)), PySem.W.mg_of X G n15, k15, b15⟩
  have F16 := fun_mk (st := s_PairGrowth_is_open) l16 e16 k16
  have b16 := F16.binds (ps := ["self", "part"]) fun _ _ _ _ _ _ us hl => match us, hl with | [_, _], _ => rfl
  have c_PairGrowth_is_open : ∀ base : Heap, CalM l.prog w K mg base CX0 1 "PairGrowth" "is_open" 2 f_PairGrowth_is_open := fun base => ⟨aC_PairGrowth, a16, _, _, CI_PairGrowth, ⟨n16, i16, k16⟩, (ok_PairGrowth_is_open F16 T ), b16⟩
  have F17 := fun_mk (st := s_PairGrowth_still_open) l17 e17 k17
  have b17 := F17.binds (ps := ["self"]) fun _ _ _ _ _ _ us hl => match us, hl with | [_], _ => rfl
  have c_PairGrowth_still_open : ∀ base : Heap, CalM l.prog w K mg base CX0 2 "PairGrowth" "still_open" 1 f_PairGrowth_still_open := fun base => ⟨aC_PairGrowth, a17, _, _, CI_PairGrowth, ⟨n17, i17, k17⟩, (ok_PairGrowth_still_open F17 T (c_PairGrowth_is_open base)), b17⟩
  have F18 := fun_mk (st := s_PairGrowth_waits) l18 e18 k18
  have b18 := F18.binds (ps := ["self", "still"]) fun _ _ _ _ _ _ us hl => match us, hl with | [_, _], _ => rfl
  have c_PairGrowth_waits : ∀ base : Heap, CalM l.prog w K mg base CX0 1 "PairGrowth" "waits" 2 f_PairGrowth_waits := fun base => ⟨aC_PairGrowth, a18, _, _, CI_PairGrowth, ⟨n18, i18, k18⟩, (ok_PairGrowth_waits F18 T ), b18⟩
  have F19 := fun_mk (st := s_PairGrowth_between) l19 e19 k19
  have b19 := F19.binds (ps := ["self", "index"]) fun _ _ _ _ _ _ us hl => match us, hl with | [_, _], _ => rfl
  have c_PairGrowth_between : ∀ base : Heap, CalM l.prog w K mg base CX0 1 "PairGrowth" "between" 2 f_PairGrowth_between := fun base => ⟨aC_PairGrowth, a19, _, _, CI_PairGrowth, ⟨n19, i19, k19⟩, (ok_PairGrowth_between F19 T ), b19⟩
  have F20 := fun_mk (st := s_PairGrowth_rates) l20 e20 k20
  have b20 := F20.binds (ps := ["self", "still"]) fun _ _ _ _ _ _ us hl => match us, hl with | [_, _], _ => rfl
  have c_PairGrowth_rates : ∀ base : Heap, CalM l.prog w K mg base CX0 2 "PairGrowth" "rates" 2 f_PairGrowth_rates := fun base => ⟨aC_PairGrowth, a20, _, _, CI_PairGrowth, ⟨n20, i20, k20⟩, (ok_PairGrowth_rates F20 T (c_PairGrowth_between base)), b20⟩
  have F21 : FunD K "ratio" "ratio" (defArgs s_ratio) (defBody s_ratio) (defScope s_ratio) [.int 1] [] a21 _ := ⟨⟨_, _, _, _, _, _, _, _, _, _, rfl, l21, e21, .inr ⟨(fun z => by cases z), _, _, us21, nn21, rfl, o21, (by rw [v21]), w21⟩, .inl rfl⟩, k21⟩
  have b21 : Binds K (PySem.W.fnOf "ratio" "ratio" (defArgs s_ratio) (defBody s_ratio) (defScope s_ratio) (.ref dT21) kV21 dc21 pm21 an21 cd21 ct21) ["top", "bottom"] [] := by
    obtain ⟨ds, hv, hb⟩ := F21.binds1 (ps := ["top", "bottom"]) 2 1 (fun z => by cases z) rfl fun _ _ _ _ _ _ _ us its h1 h2 => match us, its, h1, h2 with | [_, _], [_], _, _ => ⟨_, rfl, rfl⟩
    cases hv
    exact hb
  have bd21 := F21.binds1 (ps := ["top", "bottom"]) 1 0 (fun z => by cases z) rfl fun _ _ _ _ _ _ _ us its h1 h2 => match us, its, h1, h2 with | [_], [_], _, _ => ⟨_, rfl, rfl⟩
  have c_ratio : ∀ base : Heap, Cal l.prog w K mg base CX0 1 "ratio" 2 f_ratio := fun base => ⟨a21, _, _, (ok_ratio F21 T ), PySem.W.mg_of X G n21, k21, b21⟩
  have d_ratio : ∀ base : Heap, CalD l.prog w K mg base CX0 1 "ratio" 2 [1] f_ratio := fun base => let ⟨ds, hv, hb⟩ := bd21; ⟨a21, _, _, ds, (ok_ratio F21 T ), PySem.W.mg_of X G n21, k21, hb, hv⟩
  have F22 := fun_mk (st := s_minus) l22 e22 k22
  have b22 := F22.binds (ps := ["a", "b"]) fun _ _ _ _ _ _ us hl => match us, hl with | [_, _], _ => rfl
  have c_minus : ∀ base : Heap, Cal l.prog w K mg base CX0 2 "minus" 2 f_minus := fun base => ⟨a22, _, _, (ok_minus F22 T (c_ratio base)), PySem.W.mg_of X G n22, k22, b22⟩
  have F23 := fun_mk (st := s_over) l23 e23 k23
  have b23 := F23.binds (ps := ["a", "b"]) fun _ _ _ _ _ _ us hl => match us, hl with | [_, _], _ => rfl
  have c_over : ∀ base : Heap, Cal l.prog w K mg base CX0 2 "over" 2 f_over := fun base => ⟨a23, _, _, (ok_over F23 T (c_ratio base)), PySem.W.mg_of X G n23, k23, b23⟩
  have F24 := fun_mk (st := s_less) l24 e24 k24
  have b24 := F24.binds (ps := ["a", "b"]) fun _ _ _ _ _ _ us hl => match us, hl with | [_, _], _ => rfl
  have c_less : ∀ base : Heap, Cal l.prog w K mg base CX0 1 "less" 2 f_less := fun base => ⟨a24, _, _, (ok_less F24 T ), PySem.W.mg_of X G n24, k24, b24⟩
  have F25 := fun_mk (st := s_PairGrowth_step) l25 e25 k25
  have b25 := F25.binds (ps := ["self", "still"]) fun _ _ _ _ _ _ us hl => match us, hl with | [_, _], _ => rfl
  have c_PairGrowth_step : ∀ base : Heap, CalM l.prog w K mg base CX0 3 "PairGrowth" "step" 2 f_PairGrowth_step := fun base => ⟨aC_PairGrowth, a25, _, _, CI_PairGrowth, ⟨n25, i25, k25⟩, (ok_PairGrowth_step F25 T (c_PairGrowth_waits base) (c_PairGrowth_rates base) (d_ratio base) (c_minus base) (c_over base) (c_less base)), b25⟩
  have F26 := fun_mk (st := s_times) l26 e26 k26
  have b26 := F26.binds (ps := ["a", "b"]) fun _ _ _ _ _ _ us hl => match us, hl with | [_, _], _ => rfl
  have c_times : ∀ base : Heap, Cal l.prog w K mg base CX0 2 "times" 2 f_times := fun base => ⟨a26, _, _, (ok_times F26 T (c_ratio base)), PySem.W.mg_of X G n26, k26, b26⟩
  have F27 := fun_mk (st := s_plus) l27 e27 k27
  have b27 := F27.binds (ps := ["a", "b"]) fun _ _ _ _ _ _ us hl => match us, hl with | [_, _], _ => rfl
  have c_plus : ∀ base : Heap, Cal l.prog w K mg base CX0 2 "plus" 2 f_plus := fun base => ⟨a27, _, _, (ok_plus F27 T (c_ratio base)), PySem.W.mg_of X G n27, k27, b27⟩
  have F28 := fun_mk (st := s_PairGrowth_pass_time) l28 e28 k28
  have b28 := F28.binds (ps := ["self", "span", "still"]) fun _ _ _ _ _ _ us hl => match us, hl with | [_, _, _], _ => rfl
  have c_PairGrowth_pass_time : ∀ base : Heap, CalM l.prog w K mg base CX0 3 "PairGrowth" "pass_time" 3 f_PairGrowth_pass_time := fun base => ⟨aC_PairGrowth, a28, _, _, CI_PairGrowth, ⟨n28, i28, k28⟩, (ok_PairGrowth_pass_time F28 T (c_PairGrowth_rates base) (d_ratio base) (c_times base) (c_plus base)), b28⟩
  have F29 := fun_mk (st := s_PairGrowth_full_way) l29 e29 k29
  have b29 := F29.binds (ps := ["self"]) fun _ _ _ _ _ _ us hl => match us, hl with | [_], _ => rfl
  have c_PairGrowth_full_way : ∀ base : Heap, CalM l.prog w K mg base CX0 2 "PairGrowth" "full_way" 1 f_PairGrowth_full_way := fun base => ⟨aC_PairGrowth, a29, _, _, CI_PairGrowth, ⟨n29, i29, k29⟩, (ok_PairGrowth_full_way F29 T (d_ratio base) (c_PairGrowth_between base)), b29⟩
  have F30 := fun_mk (st := s_PairGrowth_came) l30 e30 k30
  have b30 := F30.binds (ps := ["self", "part"]) fun _ _ _ _ _ _ us hl => match us, hl with | [_, _], _ => rfl
  have c_PairGrowth_came : ∀ base : Heap, CalM l.prog w K mg base CX0 1 "PairGrowth" "came" 2 f_PairGrowth_came := fun base => ⟨aC_PairGrowth, a30, _, _, CI_PairGrowth, ⟨n30, i30, k30⟩, (ok_PairGrowth_came F30 T ), b30⟩
  have F31 := fun_mk (st := s_PairGrowth_take_full_ways) l31 e31 k31
  have b31 := F31.binds (ps := ["self"]) fun _ _ _ _ _ _ us hl => match us, hl with | [_], _ => rfl
  have c_PairGrowth_take_full_ways : ∀ base : Heap, CalM l.prog w K mg base CX0 3 "PairGrowth" "take_full_ways" 1 f_PairGrowth_take_full_ways := fun base => ⟨aC_PairGrowth, a31, _, _, CI_PairGrowth, ⟨n31, i31, k31⟩, (ok_PairGrowth_take_full_ways F31 T (c_PairGrowth_full_way base) (c_PairGrowth_between base) (c_PairGrowth_came base)), b31⟩
  have F32 := fun_mk (st := s_PairGrowth_rested) l32 e32 k32
  have b32 := F32.binds (ps := ["self"]) fun _ _ _ _ _ _ us hl => match us, hl with | [_], _ => rfl
  have c_PairGrowth_rested : ∀ base : Heap, CalM l.prog w K mg base CX0 1 "PairGrowth" "rested" 1 f_PairGrowth_rested := fun base => ⟨aC_PairGrowth, a32, _, _, CI_PairGrowth, ⟨n32, i32, k32⟩, (ok_PairGrowth_rested F32 T ), b32⟩
  have F33 := fun_mk (st := s_PairGrowth_grow) l33 e33 k33
  have b33 := F33.binds (ps := ["self"]) fun _ _ _ _ _ _ us hl => match us, hl with | [_], _ => rfl
  have c_PairGrowth_grow : ∀ base : Heap, CalM l.prog w K mg base CX0 4 "PairGrowth" "grow" 1 f_PairGrowth_grow := fun base => ⟨aC_PairGrowth, a33, _, _, CI_PairGrowth, ⟨n33, i33, k33⟩, (ok_PairGrowth_grow F33 T (c_PairGrowth_still_open base) (c_PairGrowth_step base) (c_PairGrowth_pass_time base) (c_PairGrowth_take_full_ways base) (c_PairGrowth_rested base)), b33⟩
  have F34 := fun_mk (st := s_PairGrowth_Growth_init) l34 e34 k34
  have b34 := F34.binds (ps := ["self", "net"]) fun _ _ _ _ _ _ us hl => match us, hl with | [_, _], _ => rfl
  have U35 : SupF l.prog K aC_PairGrowth a35 a34 cda35 cc35 "PairGrowth.__init__" fi35 (defArgs s_PairGrowth_init) (defScope s_PairGrowth_init) := ⟨⟨_, _, _, _, _, o35, v35⟩, w35, ⟨_, _, _, ce35⟩, ⟨_, cs35⟩, mr35, topsup, tpany, n34, ty34, fi34, ⟨pg_PairGrowth, hd_PairGrowth, po_PairGrowth, sa_PairGrowth⟩⟩
  have b35 : Binds K ((supNF "__init__" "PairGrowth.__init__" s_PairGrowth_init cc35 cda35).fd dc35 pm35 ct35) ["self", "net", "pairs"] [] := .all fun us hl => match us, hl with | [_, _, _], _ => rfl
  have k_PairGrowth : ∀ base : Heap, CalC l.prog w K mg base CX0 5 "PairGrowth" 3 f_PairGrowth_init := fun base => ⟨aC_PairGrowth, a35, _, _, CI_PairGrowth, ⟨mk_PairGrowth, n35, i35, kc_PairGrowth⟩, PySem.W.mg_of X G nC_PairGrowth, (ok_PairGrowth_init l35 e35 CI_PairGrowth U35 (ok_PairGrowth_Growth_init F34 T (c_groups base)) b34 (PySem.W.mg_none_of X G z_super) T (c_all_ways base) (c_first_apart base) (c_PairGrowth_grow base)), b35⟩
  have F36 := fun_mk (st := s_joins) l36 e36 k36
  have b36 := F36.binds (ps := ["net", "pairs", "choice"]) fun _ _ _ _ _ _ us hl => match us, hl with | [_, _, _], _ => rfl
  have c_joins : ∀ base : Heap, Cal l.prog w K mg base CX0 3 "joins" 3 f_joins := fun base => ⟨a36, _, _, (ok_joins F36 T (c_first_apart base)), PySem.W.mg_of X G n36, k36, b36⟩
  have F37 := fun_mk (st := s_told) l37 e37 k37
  have b37 := F37.binds (ps := ["net", "pairs"]) fun _ _ _ _ _ _ us hl => match us, hl with | [_, _], _ => rfl
  have c_told : ∀ base : Heap, Cal l.prog w K mg base CX0 7 "told" 2 f_told := fun base => ⟨a37, _, _, (ok_told F37 T (k_PairGrowth base) (c_joins base)), PySem.W.mg_of X G n37, k37, b37⟩
  have F38 := fun_mk (st := s_law_same) l38 e38 k38
  have b38 := F38.binds (ps := ["_law_actual", "_law_due"]) fun _ _ _ _ _ _ us hl => match us, hl with | [_, _], _ => rfl
  have c_law_same : ∀ base : Heap, Cal l.prog w K mg base CX0 8 "_law_same" 2 f_law_same := fun base => ⟨a38, _, _, (ok_law_same F38 T (PySem.W.mg_of X G n38) b38 ), PySem.W.mg_of X G n38, k38, b38⟩
  have F39 := fun_mk (st := s_growth) l39 e39 k39
  have b39 := F39.binds (ps := ["net", "pairs"]) fun _ _ _ _ _ _ us hl => match us, hl with | [_, _], _ => rfl
  have c_growth : ∀ base : Heap, Cal l.prog w K mg base CX0 7 "growth" 2 f_growth := fun base => ⟨a39, _, _, (ok_growth F39 T (k_PairGrowth base)), PySem.W.mg_of X G n39, k39, b39⟩
  have F40 := fun_mk (st := s_law_gcd) l40 e40 k40
  have b40 := F40.binds (ps := ["_law_a", "_law_b"]) fun _ _ _ _ _ _ us hl => match us, hl with | [_, _], _ => rfl
  have c_law_gcd : ∀ base : Heap, Cal l.prog w K mg base CX0 1 "_law_gcd" 2 f_law_gcd := fun base => ⟨a40, _, _, (ok_law_gcd F40 T ), PySem.W.mg_of X G n40, k40, b40⟩
  have F41 := fun_mk (st := s_law_ratio) l41 e41 k41
  have b41 := F41.binds (ps := ["_law_top", "_law_bottom"]) fun _ _ _ _ _ _ us hl => match us, hl with | [_, _], _ => rfl
  have c_law_ratio : ∀ base : Heap, Cal l.prog w K mg base CX0 2 "_law_ratio" 2 f_law_ratio := fun base => ⟨a41, _, _, (ok_law_ratio F41 T (c_law_gcd base)), PySem.W.mg_of X G n41, k41, b41⟩
  have F42 := fun_mk (st := s_law_times) l42 e42 k42
  have b42 := F42.binds (ps := ["_law_a", "_law_b"]) fun _ _ _ _ _ _ us hl => match us, hl with | [_, _], _ => rfl
  have c_law_times : ∀ base : Heap, Cal l.prog w K mg base CX0 3 "_law_times" 2 f_law_times := fun base => ⟨a42, _, _, (ok_law_times F42 T (c_law_ratio base)), PySem.W.mg_of X G n42, k42, b42⟩
  have F43 := fun_mk (st := s_PairGrowth_paper) l43 e43 k43
  have b43 := F43.binds (ps := ["self"]) fun _ _ _ _ _ _ us hl => match us, hl with | [_], _ => rfl
  have c_PairGrowth_paper : ∀ base : Heap, CalM l.prog w K mg base CX0 1 "PairGrowth" "paper" 1 f_PairGrowth_paper := fun base => ⟨aC_PairGrowth, a43, _, _, CI_PairGrowth, ⟨n43, i43, k43⟩, (ok_PairGrowth_paper F43 T ), b43⟩
  have F44 := fun_mk (st := s_moats) l44 e44 k44
  have b44 := F44.binds (ps := ["net", "pairs"]) fun _ _ _ _ _ _ us hl => match us, hl with | [_, _], _ => rfl
  have c_moats : ∀ base : Heap, Cal l.prog w K mg base CX0 7 "moats" 2 f_moats := fun base => ⟨a44, _, _, (ok_moats F44 T (k_PairGrowth base) (c_PairGrowth_paper base)), PySem.W.mg_of X G n44, k44, b44⟩
  have F45 := fun_mk (st := s_law) l45 e45 k45
  exact ⟨_, fun s v => .of_eq rfl, fun base _ _ => ok_law F45 T (c_law_pool base) (c_law_any_task base) (c_law_draw base) (c_told base) (c_law_same base) (c_growth base) (c_law_times base) (c_moats base)⟩
end Ev

open PySem PySem.W PyProof.Rows
set_option maxRecDepth 100000 in
set_option maxHeartbeats 0 in
theorem PySem.Challenge.cw_moatways_k24_scaled_and_turned_tasks_holds : PySem.Challenge.rw_moatways_k24_scaled_and_turned_tasks.Holds := by
  w_on; o_law; k_head; (case hw => w_witness2)
  k_fill
  refine L2.walk_of (l := PySem.Challenge.rw_moatways_k24_scaled_and_turned_tasks) (n := 63) (k := 9) (x := "_law_script") (CX := fun _ => L2.CX0) (sp := fun w => Ev.spOf _ 1 Ev.f_law) rfl (by decide) rfl ⟨rfl, by decide, by decide⟩ (fun w h Y => PySem.W.kIn_of Y) ?F (fun w H a ns hl ho hS => Ev.law_sp ho hS (Ev.law_true ns hl)) (fun _ _ _ _ _ h => h)
  case F =>
    intro w mg fa h KX G hmg
    refine' Ev.all_mk KX G hmg ?nC_PairGrowth ?pg_PairGrowth ?hd_PairGrowth ?po_PairGrowth ?sa_PairGrowth ?fC_PairGrowth_filled ?fC_PairGrowth_net ?fC_PairGrowth_pairs ?fC_PairGrowth_parts ?fC_PairGrowth_rows ?fC_PairGrowth_taken ?fC_PairGrowth_time ?fC_PairGrowth_ways ?fC_PairGrowth_widths ?tpany ?z_super ?topsup ?n1 ?l1 ?e1 ?k1 ?n2 ?l2 ?e2 ?k2 ?n3 ?l3 ?e3 ?k3 ?n4 ?l4 ?e4 ?k4 ?n5 ?l5 ?e5 ?k5 ?n6 ?l6 ?e6 ?k6 ?n7 ?l7 ?e7 ?k7 ?n8 ?l8 ?e8 ?k8 ?n9 ?l9 ?e9 ?k9 ?n10 ?l10 ?e10 ?k10 ?n11 ?l11 ?e11 ?k11 ?n12 ?l12 ?e12 ?k12 ?n13 ?l13 ?e13 ?k13 ?n14 ?l14 ?e14 ?k14 ?n15 ?l15 ?e15 ?k15 ?n16 ?i16 ?l16 ?e16 ?k16 ?n17 ?i17 ?l17 ?e17 ?k17 ?n18 ?i18 ?l18 ?e18 ?k18 ?n19 ?i19 ?l19 ?e19 ?k19 ?n20 ?i20 ?l20 ?e20 ?k20 ?n21 ?l21 ?o21 ?v21 ?w21 ?e21 ?k21 ?n22 ?l22 ?e22 ?k22 ?n23 ?l23 ?e23 ?k23 ?n24 ?l24 ?e24 ?k24 ?n25 ?i25 ?l25 ?e25 ?k25 ?n26 ?l26 ?e26 ?k26 ?n27 ?l27 ?e27 ?k27 ?n28 ?i28 ?l28 ?e28 ?k28 ?n29 ?i29 ?l29 ?e29 ?k29 ?n30 ?i30 ?l30 ?e30 ?k30 ?n31 ?i31 ?l31 ?e31 ?k31 ?n32 ?i32 ?l32 ?e32 ?k32 ?n33 ?i33 ?l33 ?e33 ?k33 ?n34 ?ty34 ?fi34 ?l34 ?e34 ?k34 ?n35 ?i35 ?mk_PairGrowth ?kc_PairGrowth ?l35 ?e35 ?o35 ?v35 ?w35 ?ce35 ?cs35 ?mr35 ?k35 ?n36 ?l36 ?e36 ?k36 ?n37 ?l37 ?e37 ?k37 ?n38 ?l38 ?e38 ?k38 ?n39 ?l39 ?e39 ?k39 ?n40 ?l40 ?e40 ?k40 ?n41 ?l41 ?e41 ?k41 ?n42 ?l42 ?e42 ?k42 ?n43 ?i43 ?l43 ?e43 ?k43 ?n44 ?l44 ?e44 ?k44 ?n45 ?l45 ?e45 ?k45 ?z_abs ?z_any ?z_bool ?z_enumerate ?z_int ?z_isinstance ?z_len ?z_list ?z_min ?z_range ?z_reversed ?z_sorted ?z_str ?z_tuple ?z_gcd ?y_ZERO ?x_ZERO
    (case nC_PairGrowth => k_is)
    (case pg_PairGrowth => k_is)
    (case hd_PairGrowth => k_is)
    (case po_PairGrowth => k_is)
    (case sa_PairGrowth => k_is)
    (case fC_PairGrowth_filled => k_is)
    (case fC_PairGrowth_net => k_is)
    (case fC_PairGrowth_pairs => k_is)
    (case fC_PairGrowth_parts => k_is)
    (case fC_PairGrowth_rows => k_is)
    (case fC_PairGrowth_taken => k_is)
    (case fC_PairGrowth_time => k_is)
    (case fC_PairGrowth_ways => k_is)
    (case fC_PairGrowth_widths => k_is)
    (case tpany => k_is)
    (case z_super => k_is)
    (case topsup => exact (by decide +kernel))
    (case n1 => k_is)
    (case l1 => k_is)
    (case e1 => k_is)
    (case k1 => k_is)
    (case n2 => k_is)
    (case l2 => k_is)
    (case e2 => k_is)
    (case k2 => k_is)
    (case n3 => k_is)
    (case l3 => k_is)
    (case e3 => k_is)
    (case k3 => k_is)
    (case n4 => k_is)
    (case l4 => k_is)
    (case e4 => k_is)
    (case k4 => k_is)
    (case n5 => k_is)
    (case l5 => k_is)
    (case e5 => k_is)
    (case k5 => k_is)
    (case n6 => k_is)
    (case l6 => k_is)
    (case e6 => k_is)
    (case k6 => k_is)
    (case n7 => k_is)
    (case l7 => k_is)
    (case e7 => k_is)
    (case k7 => k_is)
    (case n8 => k_is)
    (case l8 => k_is)
    (case e8 => k_is)
    (case k8 => k_is)
    (case n9 => k_is)
    (case l9 => k_is)
    (case e9 => k_is)
    (case k9 => k_is)
    (case n10 => k_is)
    (case l10 => k_is)
    (case e10 => k_is)
    (case k10 => k_is)
    (case n11 => k_is)
    (case l11 => k_is)
    (case e11 => k_is)
    (case k11 => k_is)
    (case n12 => k_is)
    (case l12 => k_is)
    (case e12 => k_is)
    (case k12 => k_is)
    (case n13 => k_is)
    (case l13 => k_is)
    (case e13 => k_is)
    (case k13 => k_is)
    (case n14 => k_is)
    (case l14 => k_is)
    (case e14 => k_is)
    (case k14 => k_is)
    (case n15 => k_is)
    (case l15 => k_is)
    (case e15 => k_is)
    (case k15 => k_is)
    (case n16 => k_is)
    (case i16 => k_is)
    (case l16 => k_is)
    (case e16 => k_is)
    (case k16 => k_is)
    (case n17 => k_is)
    (case i17 => k_is)
    (case l17 => k_is)
    (case e17 => k_is)
    (case k17 => k_is)
    (case n18 => k_is)
    (case i18 => k_is)
    (case l18 => k_is)
    (case e18 => k_is)
    (case k18 => k_is)
    (case n19 => k_is)
    (case i19 => k_is)
    (case l19 => k_is)
    (case e19 => k_is)
    (case k19 => k_is)
    (case n20 => k_is)
    (case i20 => k_is)
    (case l20 => k_is)
    (case e20 => k_is)
    (case k20 => k_is)
    (case n21 => k_is)
    (case l21 => k_is)
    (case o21 => k_is)
    (case v21 => exact rfl)
    (case w21 => exact .cons ⟨_, rfl⟩ (.nil))
    (case e21 => k_is)
    (case k21 => k_is)
    (case n22 => k_is)
    (case l22 => k_is)
    (case e22 => k_is)
    (case k22 => k_is)
    (case n23 => k_is)
    (case l23 => k_is)
    (case e23 => k_is)
    (case k23 => k_is)
    (case n24 => k_is)
    (case l24 => k_is)
    (case e24 => k_is)
    (case k24 => k_is)
    (case n25 => k_is)
    (case i25 => k_is)
    (case l25 => k_is)
    (case e25 => k_is)
    (case k25 => k_is)
    (case n26 => k_is)
    (case l26 => k_is)
    (case e26 => k_is)
    (case k26 => k_is)
    (case n27 => k_is)
    (case l27 => k_is)
    (case e27 => k_is)
    (case k27 => k_is)
    (case n28 => k_is)
    (case i28 => k_is)
    (case l28 => k_is)
    (case e28 => k_is)
    (case k28 => k_is)
    (case n29 => k_is)
    (case i29 => k_is)
    (case l29 => k_is)
    (case e29 => k_is)
    (case k29 => k_is)
    (case n30 => k_is)
    (case i30 => k_is)
    (case l30 => k_is)
    (case e30 => k_is)
    (case k30 => k_is)
    (case n31 => k_is)
    (case i31 => k_is)
    (case l31 => k_is)
    (case e31 => k_is)
    (case k31 => k_is)
    (case n32 => k_is)
    (case i32 => k_is)
    (case l32 => k_is)
    (case e32 => k_is)
    (case k32 => k_is)
    (case n33 => k_is)
    (case i33 => k_is)
    (case l33 => k_is)
    (case e33 => k_is)
    (case k33 => k_is)
    (case n34 => first | ks_is | k_is)
    (case ty34 => k_is)
    (case fi34 => k_is)
    (case l34 => k_is)
    (case e34 => k_is)
    (case k34 => k_is)
    (case n35 => k_is)
    (case i35 => k_is)
    (case mk_PairGrowth => k_is)
    (case kc_PairGrowth => k_is)
    (case l35 => k_is)
    (case e35 => k_is)
    (case o35 => k_is)
    (case v35 => exact rfl)
    (case w35 => exact (by decide +kernel))
    (case ce35 => k_is)
    (case cs35 => k_is)
    (case mr35 => k_is)
    (case k35 => k_is)
    (case n36 => k_is)
    (case l36 => k_is)
    (case e36 => k_is)
    (case k36 => k_is)
    (case n37 => k_is)
    (case l37 => k_is)
    (case e37 => k_is)
    (case k37 => k_is)
    (case n38 => k_is)
    (case l38 => k_is)
    (case e38 => k_is)
    (case k38 => k_is)
    (case n39 => k_is)
    (case l39 => k_is)
    (case e39 => k_is)
    (case k39 => k_is)
    (case n40 => k_is)
    (case l40 => k_is)
    (case e40 => k_is)
    (case k40 => k_is)
    (case n41 => k_is)
    (case l41 => k_is)
    (case e41 => k_is)
    (case k41 => k_is)
    (case n42 => k_is)
    (case l42 => k_is)
    (case e42 => k_is)
    (case k42 => k_is)
    (case n43 => k_is)
    (case i43 => k_is)
    (case l43 => k_is)
    (case e43 => k_is)
    (case k43 => k_is)
    (case n44 => k_is)
    (case l44 => k_is)
    (case e44 => k_is)
    (case k44 => k_is)
    (case n45 => k_is)
    (case l45 => k_is)
    (case e45 => k_is)
    (case k45 => k_is)
    (case z_abs => k_is)
    (case z_any => k_is)
    (case z_bool => k_is)
    (case z_enumerate => k_is)
    (case z_int => k_is)
    (case z_isinstance => k_is)
    (case z_len => k_is)
    (case z_list => k_is)
    (case z_min => k_is)
    (case z_range => k_is)
    (case z_reversed => k_is)
    (case z_sorted => k_is)
    (case z_str => k_is)
    (case z_tuple => k_is)
    (case z_gcd => k_is)
    (case y_ZERO => k_is)
    (case x_ZERO => exact ⟨_, _, _, (by k_is), rfl, rfl, (by decide), .cons ⟨_, rfl⟩ (.cons ⟨_, rfl⟩ (.nil))⟩)
