import PyProof.Rows.All
import HandS.ForMost
import HandS.Conv
import HandS.Gcd
import HandS.IsInst
import HandS.Deep
import HandS.Flow
import HandS.ForExc
import HandS.Wide
import PyProof.P3In
import HandS.TupAny
import HandS.Comp
import HandS.Iter
import HandS.ExcOwn
import HandS.SortInts
import HandS.More
import KE.GoesEnum
import KE.KSuper
import HandS.Nested
import HandS.ClsMeth
import HandS.Defaults
import HandS.CallSlots
import HandS.SortRule
import KE.KDictSum
import HandS.Style
import HandS.TupSets
import HandS.SetBool
import HandS.SetFor
import HandS.TupMul
import HandS.Strs
import KE.KExcSuper
import KE.KExcIs
import HandS.ExcInit
import HandS.ExcField
import HandS.ExcIs
import HandS.CallLocal
import HandS.TryElse
import HandS.HotCalls
import HandS.WordsExc
import HandS.ExcInitHot
import HandS.ExcCtx
import HandS.FStr
import HandS.Text
import HandS.NoneIn
import KE.KUnpackStar
import KE.GoesEnumKw
import KE.GoesMore
import PySem.Challenge.RW_moatways_k20_texts_of_tasks
import Wide.All
import OpenK.AllK
import Wide.FinOn
set_option Elab.async false
set_option linter.all false
set_option maxRecDepth 100000
set_option maxHeartbeats 4000000
namespace Ev
open PySem PySem.Spec PyProof.Rows L2

abbrev St := L2.St
/-! ### data, cells, stores -/
inductive D where
  | non | bl (b : Bool) | int (i : Int) | str (x : Str)
  | tup (ds : List D) | con (ds : List D) | lst (ds : List D) | frz (ds : List D) | loc (n : Nat)
  | fn (x : Str) | exc (a dd : Addr) (f : Str) (d : D)
inductive Cel where
  | lst (ds : List D) | dK (kvs : List (Key × D)) | dT (kvs : List (List Key × D)) | fT (kvs : List (List Key × D)) | ins (c : Str) (fs : List (Str × D))
abbrev Sto := List Cel
abbrev En := List (Option D)
structure Exn where
  cls : Str
  f : Str
  val : D
inductive R (α : Type) where
  | ok (a : α) (S : Sto) | ex (e : Exn) (S : Sto) | no
def R.bind {α β : Type} (r : R α) (g : α → Sto → R β) : R β :=
  match r with
  | .ok a S => g a S
  | .ex e S => .ex e S
  | .no => .no
@[simp] theorem R.bind_ok {α β : Type} (a : α) (S : Sto) (g : α → Sto → R β) : (R.ok a S).bind g = g a S := rfl
@[simp] theorem R.bind_ex {α β : Type} (e : Exn) (S : Sto) (g : α → Sto → R β) : (R.ex e S : R α).bind g = .ex e S := rfl
@[simp] theorem R.bind_no {α β : Type} (g : α → Sto → R β) : (R.no : R α).bind g = .no := rfl
inductive O where
  | nx (ρ : En) (S : Sto) | rt (d : D) (S : Sto) | bk (ρ : En) (S : Sto) | ct (ρ : En) (S : Sto) | ex (e : Exn) (ρ : En) (S : Sto) | no
/-- a world: the store's addresses, private ones -/
structure Wo where
  m : List Addr
  q : List Addr

section
variable (K : PySem.W.Frag)
/-- a written constant tuple -/
def KT (a : Addr) (xs : List V) : Prop := ∃ (o : Obj) (its : Array Value) (n : Nat), K.lookup a = some o ∧ o.cls = .type "tuple" ∧ o.data = .seq its n ∧ its.size ≤ sizeLine ∧ Vals xs its.toList
/-- a written list -/
def KL (a : Addr) (xs : List V) : Prop := ∃ (o : Obj) (its : Array Value) (n : Nat), K.lookup a = some o ∧ o.cls = .type "list" ∧ o.dict = none ∧ o.data = .seq its n ∧ its.size ≤ sizeLine ∧ Vals xs its.toList
/-- a list that is locked, or written -/
def Frz (w : Wo) (H : Hp) (a : Addr) (xs : List V) : Prop := (∃ o, H a = some (.frz o (.lst xs)) ∧ a ∉ w.m ∧ a ∉ w.q) ∨ KL K a xs
/-- the class of a name of the top -/
def ClsN (c : Str) (C : Addr) : Prop := PySem.W.nsIn K mainGlobals c = some (some (.ref C))
mutual
def RV (w : Wo) (H : Hp) : D → V → Prop
  | .non, v => v = .non
  | .bl b, v => v = .bl b
  | .int i, v => v = .int i
  | .str x, v => v = .str x
  | .tup ds, v => ∃ a xs, v = .ref a ∧ H a = some (.tup xs) ∧ RVs w H ds xs
  | .con ds, v => ∃ a xs, v = .ref a ∧ KT K a xs ∧ RVs w H ds xs
  | .lst ds, v => ∃ a xs, v = .ref a ∧ H a = some (.lst xs) ∧ (a ∉ w.m ∧ a ∉ w.q) ∧ RVs w H ds xs
  | .frz ds, v => ∃ a xs, v = .ref a ∧ Frz K w H a xs ∧ RVs w H ds xs
  | .loc n, v => ∃ a, v = .ref a ∧ w.m[n]? = some a
  | .fn x, v => ∃ a, v = .ref a ∧ ClsN K x a
  | .exc a dd f d, v => v = .ref a ∧ ∃ x, H dd = some (.xd [(f, x)]) ∧ (dd ∉ w.m ∧ dd ∉ w.q) ∧ RV w H d x
def RVs (w : Wo) (H : Hp) : List D → List V → Prop
  | [], vs => vs = []
  | d :: ds, vs => ∃ v r, vs = v :: r ∧ RV w H d v ∧ RVs w H ds r
end
def RP {κ : Type} (w : Wo) (H : Hp) (ps : List (κ × D)) (vs : List (κ × V)) : Prop := ps.map (·.1) = vs.map (·.1) ∧ RVs K w H (ps.map (·.2)) (vs.map (·.2))
def RC (w : Wo) (H : Hp) (a : Addr) : Cel → Prop
  | .lst ds => ∃ xs, H a = some (.lst xs) ∧ RVs K w H ds xs
  | .dK kvs => ∃ vs, H a = some (.dK vs) ∧ RP K w H kvs vs
  | .dT kvs => ∃ vs, H a = some (.dT vs) ∧ RP K w H kvs vs
  | .fT kvs => ∃ od vs, H a = some (.frz od (.dT vs)) ∧ RP K w H kvs vs
  | .ins c fs => ∃ C dx vs, ClsN K c C ∧ H a = some (.ins C dx vs) ∧ RP K w H fs vs
structure Sim (w : Wo) (S : Sto) (H : Hp) : Prop where
  len : w.m.length = S.length
  nd : w.m.Nodup
  at_ : ∀ (i : Nat) (c : Cel), S[i]? = some c → ∃ a, w.m[i]? = some a ∧ RC K w H a c
  priv : ∀ a ∈ w.q, a ∉ w.m ∧ ∃ o, H a = some o
def REnv (w : Wo) (H : Hp) (ρ : En) (σ : St) : Prop := ρ.length = σ.length ∧ ∀ (i : Nat) (d : D), ρ[i]? = some (some d) → ∃ v, σ[i]? = some (some v) ∧ RV K w H d v
end
structure Ext (w : Wo) (H : Hp) (w' : Wo) (H' : Hp) : Prop where
  pre : w.m <+: w'.m
  q : ∀ a ∈ w.q, a ∈ w'.q
  newq : ∀ a ∈ w'.q, a ∈ w.q ∨ H a = none
  new : ∀ a ∈ w'.m, a ∈ w.m ∨ H a = none
  tup : ∀ a xs, H a = some (.tup xs) → H' a = some (.tup xs)
  keep : ∀ a o, H a = some o → a ∉ w.m → H' a = some o
  live : ∀ a o, H a = some o → ∃ o', H' a = some o'
  frz : ∀ a od u, H a = some (.frz od u) → H' a = some (.frz od u)
/-- not locked -/
def Free (H : Hp) (a : Addr) : Prop := ∀ od u, H a ≠ some (.frz od u)
theorem free_of {H : Hp} {a : Addr} {o : HO} (h : H a = some o) (n : ∀ od u, o ≠ .frz od u) : Free H a := fun od u e => n od u (Option.some.inj (h.symm.trans e))

section
variable {K : PySem.W.Frag} {w w' w'' : Wo} {H H' H'' : Hp} {S S' : Sto} {ρ : En} {σ : St}
theorem Ext.refl : Ext w H w H := ⟨List.prefix_refl _, fun _ h => h, fun _ h => .inl h, fun _ h => .inl h, fun _ _ h => h, fun _ _ h _ => h, fun _ o h => ⟨o, h⟩, fun _ _ _ h => h⟩
theorem Ext.trans (a : Ext w H w' H') (b : Ext w' H' w'' H'') : Ext w H w'' H'' where
  pre := a.pre.trans b.pre
  q := fun x hx => b.q x (a.q x hx)
  newq := fun x hx => by
    rcases b.newq x hx with h | h
    · exact a.newq x h
    · by_cases hm : x ∈ w.m
      · cases e : H x with
        | none => exact .inr rfl
        | some o =>
          obtain ⟨o', e'⟩ := a.live x o e
          rw [h] at e'; cases e'
      · refine .inr ?_
        cases e : H x with
        | none => rfl
        | some o =>
          have := a.keep x o e hm
          rw [h] at this; cases this
  new := fun x hx => by
    rcases b.new x hx with h | h
    · exact a.new x h
    · by_cases hm : x ∈ w.m
      · exact .inl hm
      · refine .inr ?_
        cases e : H x with
        | none => rfl
        | some o =>
          have := a.keep x o e hm
          rw [h] at this; cases this
  tup := fun x xs h => b.tup x xs (a.tup x xs h)
  keep := fun x o h hm => by
    refine b.keep x o (a.keep x o h hm) fun hx => ?_
    rcases a.new x hx with z | z
    · exact hm z
    · rw [h] at z; cases z
  live := fun x o h => let ⟨o', h'⟩ := a.live x o h; b.live x o' h'
  frz := fun x od u h => b.frz x od u (a.frz x od u h)
theorem Ext.notin (e : Ext w H w' H') {a : Addr} {o : HO} (h : H a = some o) (hm : a ∉ w.m) : a ∉ w'.m := fun hx => by
  rcases e.new a hx with z | z
  · exact hm z
  · rw [h] at z; cases z
theorem Ext.notq (e : Ext w H w' H') {a : Addr} {o : HO} (h : H a = some o) (hm : a ∉ w.q) : a ∉ w'.q := fun hx => by
  rcases e.newq a hx with z | z
  · exact hm z
  · rw [h] at z; cases z
theorem rd_has {a : Addr} {u : HO} (r : Rd H a u) : ∃ o, H a = some o := by
  rcases r with r | ⟨o, r⟩
  · exact ⟨_, r⟩
  · exact ⟨_, r⟩
theorem Ext.rd (e : Ext w H w' H') {a : Addr} {u : HO} (r : Rd H a u) (hm : a ∉ w.m) : Rd H' a u := by
  rcases r with r | ⟨o, r⟩
  · exact .inl (e.keep _ _ r hm)
  · exact .inr ⟨o, e.keep _ _ r hm⟩
theorem Frz.mono {a : Addr} {xs : List V} (e : Ext w H w' H') (h : Frz K w H a xs) : Frz K w' H' a xs := by
  rcases h with ⟨o, h1, h2, h3⟩ | h
  · exact .inl ⟨o, e.keep _ _ h1 h2, e.notin h1 h2, e.notq h1 h3⟩
  · exact .inr h
theorem Frz.sq {a : Addr} {xs : List V} (h : Frz K w H a xs) : SqL K H a xs := by
  rcases h with ⟨o, h1, h2, h3⟩ | h
  · exact .inl (.inr ⟨o, h1⟩)
  · exact .inr h
mutual
theorem RV.mono (e : Ext w H w' H') : ∀ {d : D} {v : V}, RV K w H d v → RV K w' H' d v
  | .non, v, h => by simpa only [RV] using h
  | .bl b, v, h => by simpa only [RV] using h
  | .int i, v, h => by simpa only [RV] using h
  | .str x, v, h => by simpa only [RV] using h
  | .tup ds, v, h => by
    simp only [RV] at h ⊢
    obtain ⟨a, xs, h1, h2, h3⟩ := h
    exact ⟨a, xs, h1, e.tup a xs h2, RVs.mono e h3⟩
  | .con ds, v, h => by
    simp only [RV] at h ⊢
    obtain ⟨a, xs, h1, h2, h3⟩ := h
    exact ⟨a, xs, h1, h2, RVs.mono e h3⟩
  | .lst ds, v, h => by
    simp only [RV] at h ⊢
    obtain ⟨a, xs, h1, h2, ⟨h3, h4⟩, h5⟩ := h
    exact ⟨a, xs, h1, e.keep _ _ h2 h3, ⟨e.notin h2 h3, e.notq h2 h4⟩, RVs.mono e h5⟩
  | .frz ds, v, h => by
    simp only [RV] at h ⊢
    obtain ⟨a, xs, h1, h2, h5⟩ := h
    exact ⟨a, xs, h1, h2.mono e, RVs.mono e h5⟩
  | .loc n, v, h => by
    simp only [RV] at h ⊢
    obtain ⟨a, h1, h2⟩ := h
    refine ⟨a, h1, ?_⟩
    obtain ⟨t, ht⟩ := e.pre
    rw [← ht, List.getElem?_append_left (List.getElem?_eq_some_iff.mp h2).1]
    exact h2
  | .fn x, v, h => by simpa only [RV] using h
  | .exc a dd f d, v, h => by
    simp only [RV] at h ⊢
    obtain ⟨h1, x, h2, ⟨h3, h4⟩, h5⟩ := h
    exact ⟨h1, x, e.keep _ _ h2 h3, ⟨e.notin h2 h3, e.notq h2 h4⟩, RV.mono e h5⟩
theorem RVs.mono (e : Ext w H w' H') : ∀ {ds : List D} {vs : List V}, RVs K w H ds vs → RVs K w' H' ds vs
  | [], vs, h => by simpa only [RVs] using h
  | d :: ds, vs, h => by
    simp only [RVs] at h ⊢
    obtain ⟨v, r, h1, h2, h3⟩ := h
    exact ⟨v, r, h1, RV.mono e h2, RVs.mono e h3⟩
end
theorem REnv.mono (e : Ext w H w' H') (h : REnv K w H ρ σ) : REnv K w' H' ρ σ := ⟨h.1, fun i d q => let ⟨v, a, b⟩ := h.2 i d q; ⟨v, a, b.mono e⟩⟩
theorem RP.mono {κ : Type} {ps : List (κ × D)} {vs : List (κ × V)} (e : Ext w H w' H') (h : RP K w H ps vs) : RP K w' H' ps vs := ⟨h.1, h.2.mono e⟩
theorem RC.mono {a : Addr} {c : Cel} (e : Ext w H w' H') (ha : ∀ o, H a = some o → H' a = some o) (h : RC K w H a c) : RC K w' H' a c := by
  cases c with
  | lst ds => obtain ⟨xs, h1, h2⟩ := h; exact ⟨xs, ha _ h1, h2.mono e⟩
  | dK kvs => obtain ⟨vs, h1, h2⟩ := h; exact ⟨vs, ha _ h1, h2.mono e⟩
  | dT kvs => obtain ⟨vs, h1, h2⟩ := h; exact ⟨vs, ha _ h1, h2.mono e⟩
  | fT kvs => obtain ⟨od, vs, h1, h2⟩ := h; exact ⟨od, vs, ha _ h1, h2.mono e⟩
  | ins c fs => obtain ⟨C, dx, vs, h0, h1, h2⟩ := h; exact ⟨C, dx, vs, h0, ha _ h1, h2.mono e⟩
theorem RC.has {a : Addr} {c : Cel} (h : RC K w H a c) : ∃ o, H a = some o ∧ ∀ xs, o ≠ .tup xs := by
  cases c with
  | lst ds => obtain ⟨xs, h1, h2⟩ := h; exact ⟨_, h1, fun _ z => nomatch z⟩
  | dK kvs => obtain ⟨vs, h1, h2⟩ := h; exact ⟨_, h1, fun _ z => nomatch z⟩
  | dT kvs => obtain ⟨vs, h1, h2⟩ := h; exact ⟨_, h1, fun _ z => nomatch z⟩
  | fT kvs => obtain ⟨od, vs, h1, h2⟩ := h; exact ⟨_, h1, fun _ z => nomatch z⟩
  | ins c fs => obtain ⟨C, dx, vs, h0, h1, h2⟩ := h; exact ⟨_, h1, fun _ z => nomatch z⟩
theorem Sim.has (h : Sim K w S H) {a : Addr} (ha : a ∈ w.m) : ∃ o, H a = some o ∧ ∀ xs, o ≠ .tup xs := by
  obtain ⟨i, hi, e⟩ := List.getElem_of_mem ha
  have hi' : i < S.length := by rw [← h.len]; exact hi
  obtain ⟨b, hb, hc⟩ := h.at_ i S[i] (List.getElem?_eq_getElem hi')
  rw [List.getElem?_eq_getElem hi, e] at hb
  cases hb
  exact hc.has
theorem nd_inj {l : List Addr} (h : l.Nodup) {i j : Nat} {a : Addr} (h1 : l[i]? = some a) (h2 : l[j]? = some a) : i = j := by
  obtain ⟨p1, e1⟩ := List.getElem?_eq_some_iff.mp h1
  obtain ⟨p2, e2⟩ := List.getElem?_eq_some_iff.mp h2
  exact (List.getElem_inj h).mp (e1.trans e2.symm)
/-- a new object that isn't in the store -/
theorem Ext.fresh {p : Addr} {o : HO} (hp : H p = none) : Ext w H w (upd H p o) :=
  ⟨List.prefix_refl _, fun _ h => h, fun _ h => .inl h, fun _ h => .inl h, fun a xs h => by rw [upd_ne (ne_of_none h hp)]; exact h, fun a o h _ => by rw [upd_ne (ne_of_none h hp)]; exact h, fun a o h => ⟨o, by rw [upd_ne (ne_of_none h hp)]; exact h⟩, fun a od u h => by rw [upd_ne (ne_of_none h hp)]; exact h⟩
theorem Sim.fresh {p : Addr} {o : HO} (h : Sim K w S H) (hp : H p = none) : Sim K w S (upd H p o) :=
  ⟨h.len, h.nd, fun i c e => let ⟨a, h1, h2⟩ := h.at_ i c e; ⟨a, h1, h2.mono (Ext.fresh hp) fun o q => by rw [upd_ne (ne_of_none q hp)]; exact q⟩,
    fun a ha => let ⟨h1, o, h2⟩ := h.priv a ha; ⟨h1, o, by rw [upd_ne (ne_of_none h2 hp)]; exact h2⟩⟩
/-- .. that is -/
def Wo.add (w : Wo) (p : Addr) : Wo := ⟨w.m ++ [p], w.q⟩
theorem Ext.alloc {p : Addr} {o : HO} (hp : H p = none) : Ext w H (w.add p) (upd H p o) :=
  ⟨List.prefix_append _ _, fun _ h => h, fun _ h => .inl h, fun a h => by
    rcases List.mem_append.mp h with z | z
    · exact .inl z
    · have : a = p := by simpa using z
      exact .inr (this ▸ hp), fun a xs h => by rw [upd_ne (ne_of_none h hp)]; exact h, fun a o h _ => by rw [upd_ne (ne_of_none h hp)]; exact h, fun a o h => ⟨o, by rw [upd_ne (ne_of_none h hp)]; exact h⟩, fun a od u h => by rw [upd_ne (ne_of_none h hp)]; exact h⟩
theorem Sim.alloc {p : Addr} {o : HO} {c : Cel} (h : Sim K w S H) (hp : H p = none) (hc : RC K (w.add p) (upd H p o) p c) : Sim K (w.add p) (S ++ [c]) (upd H p o) := by
  have np : p ∉ w.m := fun z => by
    obtain ⟨o', e, _⟩ := h.has z
    rw [hp] at e; cases e
  refine ⟨by simp [Wo.add, h.len], ?_, fun i c' e => ?_, fun a ha => ?_⟩
  · show (w.m ++ [p]).Nodup
    rw [List.nodup_append]
    refine ⟨h.nd, by simp, fun a ha b hb => ?_⟩
    have : b = p := by simpa using hb
    subst this
    exact fun z => np (z ▸ ha)
  · by_cases hi : i < S.length
    · rw [List.getElem?_append_left hi] at e
      obtain ⟨a, h1, h2⟩ := h.at_ i c' e
      refine ⟨a, ?_, h2.mono (Ext.alloc hp) fun o q => by rw [upd_ne (ne_of_none q hp)]; exact q⟩
      show (w.m ++ [p])[i]? = _
      rw [List.getElem?_append_left (by rw [h.len]; exact hi)]
      exact h1
    · rw [List.getElem?_append_right (Nat.le_of_not_lt hi)] at e
      have hi0 : i - S.length = 0 := by
        rcases Nat.eq_zero_or_pos (i - S.length) with z | z
        · exact z
        · rw [List.getElem?_eq_none (by simp; omega)] at e; cases e
      rw [hi0] at e
      have e' : c = c' := by simpa using e
      subst e'
      refine ⟨p, ?_, hc⟩
      show (w.m ++ [p])[i]? = _
      rw [List.getElem?_append_right (by rw [h.len]; exact Nat.le_of_not_lt hi), h.len, hi0]
      rfl
  · obtain ⟨h1, o', h2⟩ := h.priv a ha
    refine ⟨fun z => ?_, o', by rw [upd_ne (ne_of_none h2 hp)]; exact h2⟩
    rcases List.mem_append.mp z with z | z
    · exact h1 z
    · have : a = p := by simpa using z
      rw [this, hp] at h2; cases h2
/-- a cell is written -/
theorem Ext.write {a : Addr} {o : HO} (h : Sim K w S H) (ha : a ∈ w.m) (hf : Free H a) : Ext w H w (upd H a o) :=
  ⟨List.prefix_refl _, fun _ h => h, fun _ h => .inl h, fun _ h => .inl h, fun b xs e => by
    have : b ≠ a := fun z => by
      obtain ⟨o', e', n⟩ := h.has ha
      rw [z, e'] at e
      exact n xs (Option.some.inj e)
    rw [upd_ne this]; exact e, fun b o' e hb => by
    have : b ≠ a := fun z => hb (by rw [z]; exact ha)
    rw [upd_ne this]; exact e, fun b o' e => by
    by_cases hb : b = a
    · exact ⟨o, by rw [hb, upd_same]⟩
    · exact ⟨o', by rw [upd_ne hb]; exact e⟩, fun b od u e => by
    have : b ≠ a := fun z => hf od u (by rw [← z]; exact e)
    rw [upd_ne this]; exact e⟩
theorem Sim.write {i : Nat} {a : Addr} {o : HO} {c : Cel} (h : Sim K w S H) (hi : w.m[i]? = some a) (hf : Free H a) (hc : RC K w (upd H a o) a c) : Sim K w (S.set i c) (upd H a o) := by
  have ha : a ∈ w.m := List.mem_of_getElem? hi
  refine ⟨by rw [List.length_set]; exact h.len, h.nd, fun j c' e => ?_, fun b hb => ?_⟩
  · by_cases hj : j = i
    · subst hj
      have hl : j < S.length := by rw [← h.len]; exact (List.getElem?_eq_some_iff.mp hi).1
      rw [List.getElem?_set_self hl] at e
      cases e
      exact ⟨a, hi, hc⟩
    · rw [List.getElem?_set_ne (Ne.symm hj)] at e
      obtain ⟨b, h1, h2⟩ := h.at_ j c' e
      have nb : b ≠ a := fun z => hj (nd_inj h.nd h1 (z ▸ hi))
      exact ⟨b, h1, h2.mono (Ext.write h ha hf) fun o' q => by rw [upd_ne nb]; exact q⟩
  · obtain ⟨h1, o', h2⟩ := h.priv b hb
    have nb : b ≠ a := fun z => h1 (z ▸ ha)
    exact ⟨h1, o', by rw [upd_ne nb]; exact h2⟩
theorem Sim.get (h : Sim K w S H) {n : Nat} {c : Cel} {v : V} (hc : S[n]? = some c) (hv : RV K w H (.loc n) v) : ∃ a, v = .ref a ∧ w.m[n]? = some a ∧ RC K w H a c := by
  simp only [RV] at hv
  obtain ⟨a, h1, h2⟩ := hv
  obtain ⟨b, h3, h4⟩ := h.at_ n c hc
  rw [h2] at h3; cases h3
  exact ⟨a, h1, h2, h4⟩

/-! ### lists of values -/
theorem RVs.length : ∀ {ds : List D} {vs : List V}, RVs K w H ds vs → ds.length = vs.length
  | [], vs, h => by simp only [RVs] at h; subst h; rfl
  | d :: ds, vs, h => by
    simp only [RVs] at h
    obtain ⟨v, r, h1, h2, h3⟩ := h
    subst h1
    simp [RVs.length h3]
theorem RVs.nil : RVs K w H [] [] := by simp only [RVs]
theorem RVs.cons {d : D} {ds : List D} {v : V} {vs : List V} (h : RV K w H d v) (t : RVs K w H ds vs) : RVs K w H (d :: ds) (v :: vs) := by
  simp only [RVs]; exact ⟨v, vs, rfl, h, t⟩
theorem RVs.get : ∀ {ds : List D} {vs : List V} {i : Nat} {d : D}, RVs K w H ds vs → ds[i]? = some d → ∃ v, vs[i]? = some v ∧ RV K w H d v
  | [], _, _, _, _, e => by simp at e
  | d :: ds, vs, 0, d', h, e => by
    simp only [RVs] at h
    obtain ⟨v, r, h1, h2, h3⟩ := h
    subst h1
    simp at e; subst e
    exact ⟨v, rfl, h2⟩
  | d :: ds, vs, i + 1, d', h, e => by
    simp only [RVs] at h
    obtain ⟨v, r, h1, h2, h3⟩ := h
    subst h1
    obtain ⟨v', a, b⟩ := RVs.get (i := i) h3 (by simpa using e)
    exact ⟨v', by simpa using a, b⟩
theorem RVs.getV : ∀ {ds : List D} {vs : List V} {i : Nat} {v : V}, RVs K w H ds vs → vs[i]? = some v → ∃ d, ds[i]? = some d ∧ RV K w H d v := fun {ds vs i v} h e => by
  have hl : i < ds.length := by rw [h.length]; exact (List.getElem?_eq_some_iff.mp e).1
  obtain ⟨v', a, b⟩ := h.get (List.getElem?_eq_getElem hl)
  rw [e] at a; cases a
  exact ⟨_, List.getElem?_eq_getElem hl, b⟩
theorem RVs.append : ∀ {ds es : List D} {vs us : List V}, RVs K w H ds vs → RVs K w H es us → RVs K w H (ds ++ es) (vs ++ us)
  | [], es, vs, us, h, h' => by simp only [RVs] at h; subst h; exact h'
  | d :: ds, es, vs, us, h, h' => by
    simp only [RVs] at h
    obtain ⟨v, r, h1, h2, h3⟩ := h
    subst h1
    exact .cons h2 (RVs.append h3 h')
theorem RVs.snoc {ds : List D} {vs : List V} {d : D} {v : V} (h : RVs K w H ds vs) (h' : RV K w H d v) : RVs K w H (ds ++ [d]) (vs ++ [v]) := h.append (.cons h' .nil)
theorem RVs.take : ∀ {ds : List D} {vs : List V} (n : Nat), RVs K w H ds vs → RVs K w H (ds.take n) (vs.take n)
  | _, _, 0, _ => by simp [RVs]
  | [], vs, n + 1, h => by simp only [RVs] at h; subst h; simp [RVs]
  | d :: ds, vs, n + 1, h => by
    simp only [RVs] at h
    obtain ⟨v, r, h1, h2, h3⟩ := h
    subst h1
    exact .cons h2 (RVs.take n h3)
theorem RVs.drop : ∀ {ds : List D} {vs : List V} (n : Nat), RVs K w H ds vs → RVs K w H (ds.drop n) (vs.drop n)
  | _, _, 0, h => h
  | [], vs, n + 1, h => by simp only [RVs] at h; subst h; simp [RVs]
  | d :: ds, vs, n + 1, h => by
    simp only [RVs] at h
    obtain ⟨v, r, h1, h2, h3⟩ := h
    subst h1
    exact RVs.drop n h3
theorem RVs.set : ∀ {ds : List D} {vs : List V} {d : D} {v : V} (i : Nat), RVs K w H ds vs → RV K w H d v → RVs K w H (ds.set i d) (vs.set i v)
  | [], vs, d, v, i, h, h' => by simp only [RVs] at h; subst h; simp [RVs]
  | e :: ds, vs, d, v, 0, h, h' => by
    simp only [RVs] at h
    obtain ⟨u, r, h1, h2, h3⟩ := h
    subst h1
    exact .cons h' h3
  | e :: ds, vs, d, v, i + 1, h, h' => by
    simp only [RVs] at h
    obtain ⟨u, r, h1, h2, h3⟩ := h
    subst h1
    exact .cons h2 (RVs.set i h3 h')
theorem RVs.ints {is : List Int} : ∀ {vs : List V}, RVs K w H (is.map D.int) vs → vs = is.map V.int := by
  induction is with
  | nil => intro vs h; simpa only [List.map_nil, RVs] using h
  | cons i is ih =>
    intro vs h
    simp only [List.map_cons, RVs] at h
    obtain ⟨v, r, h1, h2, h3⟩ := h
    simp only [RV] at h2
    subst h1 h2
    rw [ih h3, List.map_cons]
theorem RVs.of_ints (is : List Int) : RVs K w H (is.map D.int) (is.map V.int) := by
  induction is with
  | nil => exact .nil
  | cons i is ih => exact .cons (by simp only [RV]) ih
theorem RVs.bls {bs : List Bool} : ∀ {vs : List V}, RVs K w H (bs.map D.bl) vs → vs = bs.map V.bl := by
  induction bs with
  | nil => intro vs h; simpa only [List.map_nil, RVs] using h
  | cons i is ih =>
    intro vs h
    simp only [List.map_cons, RVs] at h
    obtain ⟨v, r, h1, h2, h3⟩ := h
    simp only [RV] at h2
    subst h1 h2
    rw [ih h3, List.map_cons]
theorem RVs.strs {bs : List Str} : ∀ {vs : List V}, RVs K w H (bs.map D.str) vs → vs = bs.map V.str := by
  induction bs with
  | nil => intro vs h; simpa only [List.map_nil, RVs] using h
  | cons i is ih =>
    intro vs h
    simp only [List.map_cons, RVs] at h
    obtain ⟨v, r, h1, h2, h3⟩ := h
    simp only [RV] at h2
    subst h1 h2
    rw [ih h3, List.map_cons]
theorem RVs.of_strs (is : List Str) : RVs K w H (is.map D.str) (is.map V.str) := by
  induction is with
  | nil => exact .nil
  | cons i is ih => exact .cons (by simp only [RV]) ih
theorem REnv.set {i : Nat} {d : D} {v : V} (h : REnv K w H ρ σ) (r : RV K w H d v) : REnv K w H (ρ.set i (some d)) (σ.set i (some v)) := by
  refine ⟨by simp [h.1], fun j e q => ?_⟩
  by_cases hj : j = i
  · subst hj
    by_cases hl : j < ρ.length
    · rw [List.getElem?_set_self hl] at q
      cases q
      exact ⟨v, List.getElem?_set_self (by rw [← h.1]; exact hl), r⟩
    · rw [List.getElem?_eq_none (by simpa using hl)] at q; cases q
  · rw [List.getElem?_set_ne (Ne.symm hj)] at q
    obtain ⟨u, a, b⟩ := h.2 j e q
    exact ⟨u, by rw [List.getElem?_set_ne (Ne.symm hj)]; exact a, b⟩
def wipeD (ρ : En) : List Nat → En
  | [] => ρ
  | v :: vs => (wipeD ρ vs).set v none
theorem REnv.wipe (h : REnv K w H ρ σ) : ∀ vs : List Nat, REnv K w H (wipeD ρ vs) (wipe σ vs)
  | [] => h
  | v :: vs => by
    have ih := REnv.wipe h vs
    refine ⟨by simp only [wipeD, L2.wipe, List.length_set]; exact ih.1, fun j e q => ?_⟩
    simp only [wipeD, L2.wipe] at q ⊢
    by_cases hj : j = v
    · subst hj
      by_cases hl : j < (wipeD ρ vs).length
      · rw [List.getElem?_set_self hl] at q; cases q
      · rw [List.getElem?_eq_none (by simpa using hl)] at q; cases q
    · rw [List.getElem?_set_ne (Ne.symm hj)] at q ⊢
      exact ih.2 j e q
end

/-! ### what is wanted behind -/
section
variable (K : PySem.W.Frag)
def PostG {α β : Type} (rel : Wo → Hp → α → β → Prop) (W : WX) (w : Wo) (H : Hp) (σ : St) (r : R α) (Q : β → Hp → Prop) : Prop :=
  match r with
  | .ok a S => ∀ w' H' b, Ext w H w' H' → Sim K w' S H' → rel w' H' a b → Q b H'
  | .ex e S => ∀ w' H' dx v C, Ext w H w' H' → Sim K w' S H' → ClsN K e.cls C → H' dx = some (.xd [(e.f, v)]) → dx ∉ w'.q → RV K w' H' e.val v → W (.ref C) (some dx) σ H'
  | .no => False
def PostS (W : WX) (w : Wo) (H : Hp) (r : O) (D : Ends) : Prop :=
  match r with
  | .nx ρ S => ∀ w' H' σ', Ext w H w' H' → Sim K w' S H' → REnv K w' H' ρ σ' → D.nx σ' H'
  | .bk ρ S => ∀ w' H' σ', Ext w H w' H' → Sim K w' S H' → REnv K w' H' ρ σ' → D.bk σ' H'
  | .ct ρ S => ∀ w' H' σ', Ext w H w' H' → Sim K w' S H' → REnv K w' H' ρ σ' → D.ct σ' H'
  | .rt d S => ∀ w' H' v, Ext w H w' H' → Sim K w' S H' → RV K w' H' d v → D.rt v H'
  | .ex e ρ S => ∀ w' H' σ' dx v C, Ext w H w' H' → Sim K w' S H' → REnv K w' H' ρ σ' → ClsN K e.cls C → H' dx = some (.xd [(e.f, v)]) → dx ∉ w'.q → RV K w' H' e.val v → W (.ref C) (some dx) σ' H'
  | .no => False
def relB : Wo → Hp → Bool → Bool → Prop := fun _ _ a b => b = a
def tG {α β : Type} (rel : Wo → Hp → α → β → Prop) (W : WX) (f : En → Sto → R α) (σ : St) (H : Hp) (Q : β → Hp → Prop) : Prop :=
  ∃ w S ρ, Sim K w S H ∧ REnv K w H ρ σ ∧ PostG K rel W w H σ (f ρ S) Q
abbrev EF := En → Sto → R D
abbrev BF := En → Sto → R Bool
abbrev AF := En → Sto → R (List D)
abbrev SF := En → Sto → O
def tE (W : WX) (f : EF) : TE := tG K (RV K) W f
def tT (W : WX) (f : BF) : TT := tG K relB W f
def tA (W : WX) (f : AF) : TA := tG K (RVs K) W f
def tS (W : WX) (f : SF) : TS := fun D σ H => ∃ w S ρ, Sim K w S H ∧ REnv K w H ρ σ ∧ PostS K W w H (f ρ S) D
end
section
variable {K : PySem.W.Frag} {w w' w'' : Wo} {H H' H'' : Hp} {S S' : Sto} {ρ : En} {σ : St} {W : WX}
theorem PostG.shift {α β : Type} {rel : Wo → Hp → α → β → Prop} {r : R α} {Q : β → Hp → Prop} (e : Ext w H w' H') (h : PostG K rel W w H σ r Q) : PostG K rel W w' H' σ r Q := by
  cases r with
  | ok a S => exact fun w2 H2 b e2 => h w2 H2 b (e.trans e2)
  | ex x S => exact fun w2 H2 dx v C e2 => h w2 H2 dx v C (e.trans e2)
  | no => exact h
theorem PostS.shift {r : O} {D : Ends} (e : Ext w H w' H') (h : PostS K W w H r D) : PostS K W w' H' r D := by
  cases r with
  | nx ρ S => exact fun w2 H2 b e2 => h w2 H2 b (e.trans e2)
  | bk ρ S => exact fun w2 H2 b e2 => h w2 H2 b (e.trans e2)
  | ct ρ S => exact fun w2 H2 b e2 => h w2 H2 b (e.trans e2)
  | rt d S => exact fun w2 H2 b e2 => h w2 H2 b (e.trans e2)
  | ex x ρ S => exact fun w2 H2 b dx v C e2 => h w2 H2 b dx v C (e.trans e2)
  | no => exact h
theorem PostG.bind {α β γ δ : Type} {rel : Wo → Hp → α → β → Prop} {rel2 : Wo → Hp → γ → δ → Prop} {r : R α} {g : α → Sto → R γ} {Q : δ → Hp → Prop} {Q1 : β → Hp → Prop} (h : PostG K rel2 W w H σ (r.bind g) Q)
    (k : ∀ w' H' b a S', Ext w H w' H' → Sim K w' S' H' → rel w' H' a b → PostG K rel2 W w' H' σ (g a S') Q → Q1 b H') : PostG K rel W w H σ r Q1 := by
  cases r with
  | ok a S => exact fun w' H' b e s q => k w' H' b a S e s q (h.shift e)
  | ex x S => exact h
  | no => exact h
theorem PostG.imp {α β : Type} {rel : Wo → Hp → α → β → Prop} {r : R α} {Q Q' : β → Hp → Prop} (h : PostG K rel W w H σ r Q) (k : ∀ b H', Q b H' → Q' b H') : PostG K rel W w H σ r Q' := by
  cases r with
  | ok a S => exact fun w' H' b e s q => k b H' (h w' H' b e s q)
  | ex x S => exact h
  | no => exact h
theorem PostG.ret {α β : Type} {rel : Wo → Hp → α → β → Prop} {a : α} {b : β} {Q : β → Hp → Prop} (h : PostG K rel W w H σ (.ok a S) Q) (s : Sim K w S H) (q : rel w H a b) : Q b H := h w H b .refl s q
end
/-- a statement that begins by an expression -/
def sB (r : R α) (ρ : En) (g : α → Sto → O) : O :=
  match r with
  | .ok a S => g a S
  | .ex e S => .ex e ρ S
  | .no => .no
@[simp] theorem sB_ok {α : Type} (a : α) (S : Sto) (ρ : En) (g : α → Sto → O) : sB (.ok a S) ρ g = g a S := rfl
@[simp] theorem sB_ex {α : Type} (e : Exn) (S : Sto) (ρ : En) (g : α → Sto → O) : sB (.ex e S : R α) ρ g = .ex e ρ S := rfl
@[simp] theorem sB_no {α : Type} (ρ : En) (g : α → Sto → O) : sB (.no : R α) ρ g = .no := rfl
section
variable {K : PySem.W.Frag} {w w' w'' : Wo} {H H' H'' : Hp} {S S' : Sto} {ρ : En} {σ : St} {W : WX}
theorem PostS.bind {α β : Type} {rel : Wo → Hp → α → β → Prop} {r : R α} {g : α → Sto → O} {D : Ends} {Q1 : β → Hp → Prop} (h : PostS K W w H (sB r ρ g) D) (re : REnv K w H ρ σ)
    (k : ∀ w' H' b a S', Ext w H w' H' → Sim K w' S' H' → rel w' H' a b → PostS K W w' H' (g a S') D → Q1 b H') : PostG K rel W w H σ r Q1 := by
  cases r with
  | ok a S => exact fun w' H' b e s q => k w' H' b a S e s q (PostS.shift e h)
  | ex x S => exact fun w' H' dx v C e s q0 q qn q2 => h w' H' σ dx v C e s (re.mono e) q0 q qn q2
  | no => exact h
end
end Ev

namespace Ev
open PySem PySem.Spec PyProof.Rows L2

structure Ctx (X : Cx) (k : Nat) : Prop where
  calm : X.calm = true
  room : Room k X.A
  nd : X.N.Nodup
theorem Ctx.hu {X : Cx} {k : Nat} (c : Ctx X k) : X.A.units + 64 < cLine := c.room.units
theorem Ctx.hu65 {X : Cx} {k : Nat} (c : Ctx X k) : X.A.units + 65 < cLine := by have := c.room.un; omega

section
variable {X : Cx} {e : Expr} {W : WX}
theorem PE.weak {t t' : TE} (h : PE X e t) (k : ∀ σ H Q, t' σ H Q → t σ H Q) : PE X e t' := ⟨fun pins s σ H Q I q => h.run pins s σ H Q I (k σ H Q q)⟩
theorem PT.weak {t t' : TT} (h : PT X e t) (k : ∀ σ H Q, t' σ H Q → t σ H Q) : PT X e t' := ⟨fun pins s σ H Q I q => h.run pins s σ H Q I (k σ H Q q)⟩
theorem PW.weak {t t' : TT} (h : PW X e t) (k : ∀ σ H Q, t' σ H Q → t σ H Q) : PW X e t' := ⟨fun wh pins s σ H Q I q => h.run wh pins s σ H Q I (k σ H Q q)⟩
theorem PA.weak {es : List Expr} {t t' : TA} (h : PA X es t) (k : ∀ σ H Q, t' σ H Q → t σ H Q) : PA X es t' := ⟨fun pos pins s σ H Q I q => h.run pos pins s σ H Q I (k σ H Q q)⟩
theorem PS.weak {st : Stmt} {t t' : TS} (h : PS X st t) (k : ∀ D σ H, t' D σ H → t D σ H) : PS X st t' := ⟨fun pins s σ H D I q => h.run pins s σ H D I (k D σ H q)⟩
theorem PSs.weak {st : List Stmt} {t t' : TS} (h : PSs X st t) (k : ∀ D σ H, t' D σ H → t D σ H) : PSs X st t' := ⟨fun pins s σ H D I q => h.run pins s σ H D I (k D σ H q)⟩
end

/-! ### names, constants -/
def eVar (i : Nat) : EF := fun ρ S => match ρ[i]? with
  | some (some d) => .ok d S
  | _ => .no
def eC (d : D) : EF := fun _ S => .ok d S
section
variable {X : Cx} {W : WX} {pos : Pos}
theorem E_var (i : Nat) {x : Str} (hN : X.N[i]? = some x := by rfl) (hv : Vis X.env.scope x := by first | exact Or.inl rfl | exact Or.inr (Or.inl rfl) | exact Or.inr (Or.inr rfl)) (hd : (x == ("__debug__" : Str)) = false := by decide)
    (hcd : (x == ("__classdict__" : Str)) = false := by decide) : PE X (.Name x pos) (tE X.K W (eVar i)) := by
  refine PE.weak (pe_var (i := i) hN hv hd hcd) fun σ H Q h => ?_
  obtain ⟨w, S, ρ, s, re, p⟩ := h
  unfold eVar at p
  split at p
  · rename_i d hd
    obtain ⟨v, h1, h2⟩ := re.2 i d hd
    exact ⟨v, h1, p.ret s h2⟩
  · exact p.elim
theorem E_int {i j} : PE X (.Constant (.int i) j pos) (tE X.K W (eC (.int i))) :=
  PE.weak pe_int fun σ H Q h => let ⟨w, S, ρ, s, re, p⟩ := h; p.ret s (by simp only [RV])
theorem E_bl {b j} : PE X (.Constant (.bool b) j pos) (tE X.K W (eC (.bl b))) :=
  PE.weak pe_bl fun σ H Q h => let ⟨w, S, ρ, s, re, p⟩ := h; p.ret s (by simp only [RV])
theorem E_non {j} : PE X (.Constant .none j pos) (tE X.K W (eC .non)) :=
  PE.weak pe_non fun σ H Q h => let ⟨w, S, ρ, s, re, p⟩ := h; p.ret s (by simp only [RV])
theorem E_str {x j} : PE X (.Constant (.str x) j pos) (tE X.K W (eC (.str x))) :=
  PE.weak pe_str fun σ H Q h => let ⟨w, S, ρ, s, re, p⟩ := h; p.ret s (by simp only [RV])
/-- a module's constant tuple of ints -/
structure GTup (K : PySem.W.Frag) (mg : Str → Option Value) (x : Str) (is : List Int) : Prop where
  ex : ∃ a, mg x = some (.ref a) ∧ KT K a (is.map V.int)
theorem E_glob {x : Str} {is : List Int} (g : GTup X.K X.mg x is) (hg : Gl X x := by rfl) (hd : (x == ("__debug__" : Str)) = false := by decide) : PE X (.Name x pos) (tE X.K W (eC (.con (is.map D.int)))) := by
  obtain ⟨a, h1, h2⟩ := g.ex
  refine PE.weak (pe_glob (v := .ref a) hg h1 rfl hd) fun σ H Q h => ?_
  obtain ⟨w, S, ρ, s, re, p⟩ := h
  refine p.ret s ?_
  simp only [RV]
  exact ⟨a, _, rfl, h2, .of_ints is⟩
theorem E_globI {x : Str} {i : Int} {t : Tok} (g : X.mg x = some (.int i t)) (hg : Gl X x := by rfl) (hd : (x == ("__debug__" : Str)) = false := by decide) : PE X (.Name x pos) (tE X.K W (eC (.int i))) :=
  PE.weak (pe_glob (v := .int i) hg g ⟨t, rfl⟩ hd) fun σ H Q h => let ⟨w, S, ρ, s, re, p⟩ := h; p.ret s (by simp only [RV])
end

/-! ### operations by values -/
abbrev Op2 := D → D → Sto → Option D
def OpS (K : PySem.W.Frag) (r : R2) (o : Op2) : Prop := ∀ (w : Wo) (S : Sto) (H : Hp) (x y d : D) (v u : V) (Q : VK), Sim K w S H → RV K w H x v → RV K w H y u → o x y S = some d →
  (∀ w' H' z, Ext w H w' H' → Sim K w' S H' → RV K w' H' d z → Q z H') → r v u H Q
theorem OpS.orL {K : PySem.W.Frag} {r r' : R2} {o : Op2} (h : OpS K r o) : OpS K (fun x y H Q => r x y H Q ∨ r' x y H Q) o := fun w S H x y d v u Q s rx ry e k => .inl (h w S H x y d v u Q s rx ry e k)
def liftO (d : Option D) (S : Sto) : R D := match d with
  | some d => .ok d S
  | none => .no
@[simp] theorem liftO_some (d : D) (S : Sto) : liftO (some d) S = .ok d S := rfl
@[simp] theorem liftO_none (S : Sto) : liftO none S = .no := rfl
def liftB (d : Option D) (S : Sto) : R Bool := match d with
  | some (.bl b) => .ok b S
  | _ => .no
@[simp] theorem liftB_bl (b : Bool) (S : Sto) : liftB (some (.bl b)) S = .ok b S := rfl
def eBin (o : Op2) (fa fb : EF) : EF := fun ρ S => (fa ρ S).bind fun x S1 => (fb ρ S1).bind fun y S2 => liftO (o x y S2) S2
def bBin (o : Op2) (fa fb : EF) : BF := fun ρ S => (fa ρ S).bind fun x S1 => (fb ρ S1).bind fun y S2 => liftB (o x y S2) S2
section
variable {X : Cx} {W : WX} {pos : Pos} {a b : Expr} {fa fb : EF} {r : R2} {o : Op2}
theorem tOp_of {σ : St} {H : Hp} {Q : VK} (hs : OpS X.K r o) (h : tE X.K W (eBin o fa fb) σ H Q) : tOp r (tE X.K W fa) (tE X.K W fb) σ H Q := by
  obtain ⟨w, S, ρ, s, re, p⟩ := h
  refine ⟨w, S, ρ, s, re, p.bind fun w1 H1 v x S1 e1 s1 rx p1 => ?_⟩
  refine ⟨w1, S1, ρ, s1, re.mono e1, p1.bind fun w2 H2 u y S2 e2 s2 ry p2 => ?_⟩
  cases hd : o x y S2 with
  | none => rw [hd] at p2; exact p2.elim
  | some d =>
    rw [hd] at p2
    exact hs w2 S2 H2 x y d v u Q s2 (rx.mono e2) ry hd fun w3 H3 z e3 s3 rz => p2 w3 H3 z e3 s3 rz
theorem tOpB_of {σ : St} {H : Hp} {Q : Bool → Hp → Prop} (hs : OpS X.K r o) (h : tT X.K W (bBin o fa fb) σ H Q) : tTest (tOp r (tE X.K W fa) (tE X.K W fb)) σ H Q := by
  obtain ⟨w, S, ρ, s, re, p⟩ := h
  refine ⟨w, S, ρ, s, re, p.bind fun w1 H1 v x S1 e1 s1 rx p1 => ?_⟩
  refine ⟨w1, S1, ρ, s1, re.mono e1, p1.bind fun w2 H2 u y S2 e2 s2 ry p2 => ?_⟩
  cases hd : o x y S2 with
  | none => rw [hd] at p2; exact p2.elim
  | some d =>
    rw [hd] at p2
    refine hs w2 S2 H2 x y d v u _ s2 (rx.mono e2) ry hd fun w3 H3 z e3 s3 rz => ?_
    cases d with
    | bl k =>
      simp only [RV] at rz
      exact ⟨k, rz, p2 w3 H3 k e3 s3 rfl⟩
    | _ => exact p2.elim
theorem E_bin {op : Operator} (ho : OpR X (binaryOp op) r) (hs : OpS X.K r o) (ha : PE X a (tE X.K W fa)) (hb : PE X b (tE X.K W fb)) : PE X (.BinOp a op b pos) (tE X.K W (eBin o fa fb)) :=
  PE.weak (pe_op ho ha hb) fun _ _ _ h => tOp_of hs h
theorem E_cmp {op : CmpOp} (ho : OpR X (compareOp op) r) (hs : OpS X.K r o) (ha : PE X a (tE X.K W fa)) (hb : PE X b (tE X.K W fb)) (hm : behindInMarks op b = false) : PE X (.Compare a [op] [b] pos) (tE X.K W (eBin o fa fb)) :=
  PE.weak (pe_cmpR ho ha hb hm) fun _ _ _ h => tOp_of hs h
theorem T_cmp {op : CmpOp} (ho : OpR X (compareOp op) r) (hs : OpS X.K r o) (ha : PE X a (tE X.K W fa)) (hb : PE X b (tE X.K W fb)) (hm : behindInMarks op b = false) : PT X (.Compare a [op] [b] pos) (tT X.K W (bBin o fa fb)) :=
  PT.weak (pt_cmpR ho ha hb hm) fun _ _ _ h => tOpB_of hs h
end

/-! ### the operations -/
def tupOf : D → Option (List D)
  | .tup ds => some ds
  | .con ds => some ds
  | _ => none
/-- a list's items; exact: one that no lock holds -/
def lstX (S : Sto) : D → Option (List D)
  | .lst ds => some ds
  | .loc n => match S[n]? with
    | some (.lst ds) => some ds
    | _ => none
  | _ => none
def lstOf (S : Sto) : D → Option (List D)
  | .frz ds => some ds
  | d => lstX S d
def seqOf (S : Sto) (d : D) : Option (List D) := match tupOf d with
  | some ds => some ds
  | none => lstOf S d
section
variable {K : PySem.W.Frag} {w : Wo} {S : Sto} {H : Hp} {x : D} {v : V} {ds : List D}
theorem KT.sq {a : Addr} {xs : List V} (h : KT K a xs) : SqT K H a xs := .inr h
theorem tupOf_sq (rx : RV K w H x v) (h : tupOf x = some ds) : ∃ a xs, v = .ref a ∧ SqT K H a xs ∧ RVs K w H ds xs := by
  cases x with
  | tup es =>
    cases h
    simp only [RV] at rx
    obtain ⟨a, xs, h1, h2, h3⟩ := rx
    exact ⟨a, xs, h1, SqT.of h2, h3⟩
  | con es =>
    cases h
    simp only [RV] at rx
    obtain ⟨a, xs, h1, h2, h3⟩ := rx
    exact ⟨a, xs, h1, h2.sq, h3⟩
  | _ => cases h
theorem lstX_sq (s : Sim K w S H) (rx : RV K w H x v) (h : lstX S x = some ds) : ∃ a xs, v = .ref a ∧ H a = some (.lst xs) ∧ RVs K w H ds xs := by
  cases x with
  | lst es =>
    cases h
    simp only [RV] at rx
    obtain ⟨a, xs, h1, h2, _, h3⟩ := rx
    exact ⟨a, xs, h1, h2, h3⟩
  | loc n =>
    simp only [lstX] at h
    split at h
    · rename_i es he
      cases h
      obtain ⟨a, h1, h2, xs, h3, h4⟩ := s.get he rx
      exact ⟨a, xs, h1, h3, h4⟩
    · cases h
  | _ => cases h
theorem lstOf_sq (s : Sim K w S H) (rx : RV K w H x v) (h : lstOf S x = some ds) : ∃ a xs, v = .ref a ∧ SqL K H a xs ∧ RVs K w H ds xs := by
  cases x with
  | frz es =>
    cases h
    simp only [RV] at rx
    obtain ⟨a, xs, h1, h2, h3⟩ := rx
    exact ⟨a, xs, h1, h2.sq, h3⟩
  | lst es =>
    obtain ⟨a, xs, h1, h2, h3⟩ := lstX_sq s rx (show lstX S _ = some ds from h)
    exact ⟨a, xs, h1, SqL.of h2, h3⟩
  | loc n =>
    obtain ⟨a, xs, h1, h2, h3⟩ := lstX_sq s rx (show lstX S _ = some ds from h)
    exact ⟨a, xs, h1, SqL.of h2, h3⟩
  | _ => cases h
theorem seqOf_sq (s : Sim K w S H) (rx : RV K w H x v) (h : seqOf S x = some ds) : ∃ a xs, v = .ref a ∧ (SqL K H a xs ∨ SqT K H a xs) ∧ RVs K w H ds xs := by
  unfold seqOf at h
  cases ht : tupOf x with
  | some es =>
    rw [ht] at h
    cases h
    obtain ⟨a, xs, h1, h2, h3⟩ := tupOf_sq rx ht
    exact ⟨a, xs, h1, .inr h2, h3⟩
  | none =>
    rw [ht] at h
    obtain ⟨a, xs, h1, h2, h3⟩ := lstOf_sq s rx h
    exact ⟨a, xs, h1, .inl h2, h3⟩
end
def oI (g : Int → Int → Option D) : Op2 := fun x y _ => match x, y with
  | .int i, .int j => g i j
  | _, _ => none
theorem opS_int {K : PySem.W.Frag} {C : Int → Int → Prop} [∀ i j, Decidable (C i j)] {f : Int → Int → Int} : OpS K (rI C fun i j => .int (f i j)) (oI fun i j => if C i j then some (.int (f i j)) else none) := by
  intro w S H x y d v u Q s rx ry e k
  cases x with
  | int i =>
    cases y with
    | int j =>
      simp only [RV] at rx ry
      simp only [oI] at e
      split at e
      · rename_i hc
        cases e
        exact ⟨i, j, rx, ry, hc, k w H _ .refl s (by simp only [RV])⟩
      · cases e
    | _ => cases e
  | _ => cases e
theorem opS_int0 {K : PySem.W.Frag} {f : Int → Int → Int} : OpS K (rI0 fun i j => .int (f i j)) (oI fun i j => some (.int (f i j))) := by
  intro w S H x y d v u Q s rx ry e k
  cases x with
  | int i =>
    cases y with
    | int j =>
      simp only [RV] at rx ry
      simp only [oI] at e
      cases e
      exact ⟨i, j, rx, ry, k w H _ .refl s (by simp only [RV])⟩
    | _ => cases e
  | _ => cases e
theorem opS_intB {K : PySem.W.Frag} {f : Int → Int → Bool} : OpS K (rI0 fun i j => .bl (f i j)) (oI fun i j => some (.bl (f i j))) := by
  intro w S H x y d v u Q s rx ry e k
  cases x with
  | int i =>
    cases y with
    | int j =>
      simp only [RV] at rx ry
      simp only [oI] at e
      cases e
      exact ⟨i, j, rx, ry, k w H _ .refl s (by simp only [RV])⟩
    | _ => cases e
  | _ => cases e
/-- what is asked of a divisor -/
def CDv (_ j : Int) : Prop := 0 < j ∧ j < 18446744073709551616
instance (i j : Int) : Decidable (CDv i j) := by unfold CDv; infer_instance
theorem CDv.w {i j : Int} (h : CDv i j) : CDivW i j := by
  unfold CDv at h
  obtain ⟨h1, h2⟩ := h
  refine ⟨h1, ?_⟩
  have h3 : j.natAbs < 2 ^ 64 := by omega
  have h4 : j.natAbs ≠ 0 := by omega
  have := (Nat.log2_lt h4).mpr h3
  omega
theorem op_divV {X : Cx} : OpR X (binaryOp .FloorDiv) (rI CDv fun i j => .int (i / j)) := fun pins s σ H x y v u Q I rx ry h =>
  op_fdivW pins s σ H x y v u Q I rx ry (let ⟨i, j, e1, e2, hc, q⟩ := h; ⟨i, j, e1, e2, hc.w, q⟩)
instance (i j : Int) : Decidable (CMul i j) := by unfold CMul; infer_instance
instance (i j : Int) : Decidable (CMulW i j) := by unfold CMulW; infer_instance
instance (i j : Int) : Decidable (CDivW i j) := by unfold CDivW; infer_instance
def CMulA (i j : Int) : Prop := CMul i j ∨ CMulW i j
instance (i j : Int) : Decidable (CMulA i j) := by unfold CMulA; infer_instance
theorem CMulA.ok {i j : Int} (h : CMulA i j) : IntMulOk i j := h.elim CMul.ok CMulW.ok
theorem op_mulA {X : Cx} : OpR X (binaryOp .Mult) (rI CMulA fun i j => .int (i * j)) := opI fun _ _ _ _ _ _ _ hc q => mul_int q hc.ok
instance (i j : Int) : Decidable (CPow i j) := by unfold CPow; infer_instance
def oSub : Op2 := oI fun i j => some (.int (i - j))
def oMul : Op2 := oI fun i j => if CMulA i j then some (.int (i * j)) else none
def oDiv : Op2 := oI fun i j => if CDivW i j then some (.int (i / j)) else none
def oMod : Op2 := oI fun i j => if 0 < j then some (.int (i % j)) else none
def oPow : Op2 := oI fun i j => if CPow i j then some (.int (i ^ j.toNat)) else none
def oShl : Op2 := oI fun i j => if CPow i j then some (.int (i * 2 ^ j.toNat)) else none
def oAnd : Op2 := oI fun i j => some (.int (Builtin.bitAnd i j))
def oLt : Op2 := oI fun i j => some (.bl (decide (i < j)))
def oLe : Op2 := oI fun i j => some (.bl (decide (i ≤ j)))
def oGt : Op2 := oI fun i j => some (.bl (decide (j < i)))
def oGe : Op2 := oI fun i j => some (.bl (decide (j ≤ i)))
/-- + : ints, texts, tuples, lists -/
def oAdd : Op2 := fun x y S => match x, y with
  | .int i, .int j => some (.int (i + j))
  | .str a, .str b => if a.length + b.length ≤ sizeLine then some (.str (a ++ b)) else none
  | x, y => match tupOf x, tupOf y with
    | some a, some b => if a.length + b.length ≤ sizeLine then (if a = [] then some y else if b = [] then some x else some (.tup (a ++ b))) else none
    | _, _ => match lstX S x, lstX S y with
      | some a, some b => if a.length + b.length ≤ sizeLine then some (.lst (a ++ b)) else none
      | _, _ => none
def rAddA (K : PySem.W.Frag) : R2 := fun x y H Q => (fun x y H Q => rI0 (fun i j => .int (i + j)) x y H Q ∨ (fun x y H Q => ∃ i j, x = .str i ∧ y = .str j ∧ i.length + j.length ≤ sizeLine ∧ Q (.str (i ++ j)) H) x y H Q) x y H Q ∨
  (fun x y H Q => rCatA K x y H Q ∨ rCat x y H Q) x y H Q
theorem op_addA {X : Cx} : OpR X (binaryOp .Add) (rAddA X.K) := (op_add.or op_add_str).or (op_catA.or op_cat)
theorem wo_fresh_lst {K : PySem.W.Frag} {w : Wo} {S : Sto} {H : Hp} {p : Addr} {o : HO} (s : Sim K w S H) (hp : H p = none) : p ∉ w.m ∧ p ∉ w.q := by
  refine ⟨fun z => ?_, fun z => ?_⟩
  · obtain ⟨o, e, _⟩ := s.has z
    rw [hp] at e; cases e
  · obtain ⟨_, o, e⟩ := s.priv p z
    rw [hp] at e; cases e
theorem RV.newLst {K : PySem.W.Frag} {w : Wo} {S : Sto} {H : Hp} {p : Addr} {ds : List D} {xs : List V} (s : Sim K w S H) (hp : H p = none) (r : RVs K w H ds xs) : RV K w (upd H p (.lst xs)) (.lst ds) (.ref p) := by
  simp only [RV]
  exact ⟨p, xs, rfl, upd_same, wo_fresh_lst (o := .lst xs) s hp, r.mono (Ext.fresh hp)⟩
theorem RV.newTup {K : PySem.W.Frag} {w : Wo} {H : Hp} {p : Addr} {ds : List D} {xs : List V} (hp : H p = none) (r : RVs K w H ds xs) : RV K w (upd H p (.tup xs)) (.tup ds) (.ref p) := by
  simp only [RV]
  exact ⟨p, xs, rfl, upd_same, r.mono (Ext.fresh hp)⟩
theorem RVs.nil_iff {K : PySem.W.Frag} {w : Wo} {H : Hp} {ds : List D} {xs : List V} (r : RVs K w H ds xs) : ds = [] ↔ xs = [] := by
  have h := r.length
  constructor
  · intro e
    subst e
    exact List.eq_nil_of_length_eq_zero h.symm
  · intro e
    subst e
    exact List.eq_nil_of_length_eq_zero h
theorem opS_add {K : PySem.W.Frag} : OpS K (rAddA K) oAdd := by
  intro w S H x y d v u Q s rx ry e k
  unfold oAdd at e
  split at e
  · cases e
    simp only [RV] at rx ry
    exact .inl (.inl ⟨_, _, rx, ry, k w H _ .refl s (by simp only [RV])⟩)
  · split at e
    · rename_i hz
      cases e
      simp only [RV] at rx ry
      exact .inl (.inr ⟨_, _, rx, ry, hz, k w H _ .refl s (by simp only [RV])⟩)
    · cases e
  · split at e
    · rename_i a b ha hb
      obtain ⟨p, xs, h1, h2, h3⟩ := tupOf_sq rx ha
      obtain ⟨q, ys, g1, g2, g3⟩ := tupOf_sq ry hb
      subst h1 g1
      split at e
      · rename_i hz
        rw [h3.length, g3.length] at hz
        refine .inr (.inl ⟨p, q, xs, ys, rfl, rfl, h2, g2, hz, fun e1 => ?_, fun e1 e2 => ?_, fun e1 e2 l hl => ?_⟩)
        · rw [if_pos (h3.nil_iff.mpr e1)] at e
          cases e
          exact k w H _ .refl s ry
        · rw [if_neg (fun z => e1 (h3.nil_iff.mp z)), if_pos (g3.nil_iff.mpr e2)] at e
          cases e
          exact k w H _ .refl s rx
        · rw [if_neg (fun z => e1 (h3.nil_iff.mp z)), if_neg (fun z => e2 (g3.nil_iff.mp z))] at e
          cases e
          exact k w _ _ (Ext.fresh hl) (s.fresh hl) (RV.newTup hl (h3.append g3))
      · cases e
    · split at e
      · rename_i a b ha hb
        obtain ⟨p, xs, h1, h2, h3⟩ := lstX_sq s rx ha
        obtain ⟨q, ys, g1, g2, g3⟩ := lstX_sq s ry hb
        subst h1 g1
        split at e
        · rename_i hz
          cases e
          rw [h3.length, g3.length] at hz
          refine .inr (.inr ⟨p, q, xs, ys, rfl, rfl, h2, g2, hz, fun l hl => ?_⟩)
          exact k w _ _ (Ext.fresh hl) (s.fresh hl) (RV.newLst s hl (h3.append g3))
        · cases e
      · cases e

/-! ### equality, membership -/
mutual
def pyOk : D → Bool
  | .non => true
  | .bl _ => true
  | .int _ => true
  | .str _ => true
  | .tup ds => pyOks ds
  | .con ds => pyOks ds
  | .lst ds => pyOks ds
  | .frz ds => pyOks ds
  | .loc _ => false
  | .fn _ => false
  | .exc _ _ _ _ => false
def pyOks : List D → Bool
  | [] => true
  | d :: ds => pyOk d && pyOks ds
end
mutual
def py : D → PyData
  | .non => .none
  | .bl b => .bool b
  | .int i => .int i
  | .str x => .str x
  | .tup ds => .tuple (pys ds)
  | .con ds => .tuple (pys ds)
  | .lst ds => .list (pys ds)
  | .frz ds => .list (pys ds)
  | .loc _ => .none
  | .fn _ => .none
  | .exc _ _ _ _ => .none
def pys : List D → List PyData
  | [] => []
  | d :: ds => py d :: pys ds
end
section
variable {K : PySem.W.Frag} {w : Wo} {H : Hp}
mutual
theorem dp_of : ∀ {d : D} {v : V}, pyOk d = true → RV K w H d v → Dp K H v (py d)
  | .non, v, _, r => by simp only [RV] at r; subst r; simp only [py]; exact .non
  | .bl b, v, _, r => by simp only [RV] at r; subst r; simp only [py]; exact .bl b
  | .int i, v, _, r => by simp only [RV] at r; subst r; simp only [py]; exact .int i
  | .str x, v, _, r => by simp only [RV] at r; subst r; simp only [py]; exact .str x
  | .tup ds, v, o, r => by
    simp only [RV] at r
    obtain ⟨a, xs, h1, h2, h3⟩ := r
    subst h1
    simp only [py]
    exact .tup (SqT.of h2) (dps_of (by simpa only [pyOk] using o) h3)
  | .con ds, v, o, r => by
    simp only [RV] at r
    obtain ⟨a, xs, h1, h2, h3⟩ := r
    subst h1
    simp only [py]
    exact .tup h2.sq (dps_of (by simpa only [pyOk] using o) h3)
  | .lst ds, v, o, r => by
    simp only [RV] at r
    obtain ⟨a, xs, h1, h2, _, h3⟩ := r
    subst h1
    simp only [py]
    exact .lst (SqL.of h2) (dps_of (by simpa only [pyOk] using o) h3)
  | .frz ds, v, o, r => by
    simp only [RV] at r
    obtain ⟨a, xs, h1, h2, h3⟩ := r
    subst h1
    simp only [py]
    exact .lst h2.sq (dps_of (by simpa only [pyOk] using o) h3)
  | .loc n, v, o, _ => by simp only [pyOk] at o; cases o
  | .fn x, v, o, _ => by simp only [pyOk] at o; cases o
  | .exc _ _ _ _, v, o, _ => by simp only [pyOk] at o; cases o
theorem dps_of : ∀ {ds : List D} {vs : List V}, pyOks ds = true → RVs K w H ds vs → DpAll K H vs (pys ds)
  | [], vs, _, r => by simp only [RVs] at r; subst r; simp only [pys]; exact .nil
  | d :: ds, vs, o, r => by
    simp only [RVs] at r
    obtain ⟨v, t, h1, h2, h3⟩ := r
    subst h1
    simp only [pyOks, Bool.and_eq_true] at o
    simp only [pys]
    exact .cons (dp_of o.1 h2) (dps_of o.2 h3)
end
end
/-- a list of the store as a value, for a look -/
def deref (S : Sto) (d : D) : D := match d with
  | .loc n => match S[n]? with
    | some (.lst ds) => .lst ds
    | _ => d
  | _ => d
theorem dp_deref {K : PySem.W.Frag} {w : Wo} {S : Sto} {H : Hp} {d : D} {v : V} (s : Sim K w S H) (o : pyOk (deref S d) = true) (r : RV K w H d v) : Dp K H v (py (deref S d)) := by
  cases d with
  | loc n =>
    unfold deref at o ⊢
    dsimp only at o ⊢
    split at o
    · rename_i ds hd
      obtain ⟨a, h1, h2, xs, h3, h4⟩ := s.get hd r
      subst h1
      simp only [py]
      exact .lst (SqL.of h3) (dps_of (by simpa only [pyOk] using o) h4)
    · simp only [pyOk] at o; cases o
  | _ => exact dp_of o r
def eqOk (d : D) : Bool := pyOk d && SeqAt.shaped (py d)
/-- == -/
def deq (x y : D) : Bool := PyData.eqv (py x) (py y)
def oEq : Op2 := fun x y S => match x, y with
  | .int i, .int j => some (.bl (decide (i = j)))
  | .str i, .str j => some (.bl (decide (i = j)))
  | .bl i, .bl j => some (.bl (decide (i = j)))
  | x, y => if eqOk (deref S x) && eqOk (deref S y) then some (.bl (deq (deref S x) (deref S y))) else none
def oNe : Op2 := fun x y S => match oEq x y S with
  | some (.bl b) => some (.bl (!b))
  | _ => none
def rEqA (K : PySem.W.Frag) : R2 := fun x y H Q => rEq x y H Q ∨ rEqD K x y H Q
def rNeA (K : PySem.W.Frag) : R2 := fun x y H Q => rNe x y H Q ∨ rNeD K x y H Q
theorem op_eqA {X : Cx} {k : Nat} (c : Ctx X k) : OpR X (compareOp .Eq) (rEqA X.K) := op_eq.or (op_eqD c.hu)
theorem op_neA {X : Cx} {k : Nat} (c : Ctx X k) : OpR X (compareOp .NotEq) (rNeA X.K) := op_ne.or (op_neD c.hu)
theorem eq_cases {K : PySem.W.Frag} {w : Wo} {S : Sto} {H : Hp} {x y d : D} {v u : V} (s : Sim K w S H) (rx : RV K w H x v) (ry : RV K w H y u) (e : oEq x y S = some d) :
    (∃ b, d = .bl b ∧ scal v u = true ∧ b = decide (v = u)) ∨ ∃ p q, Dp K H v p ∧ Dp K H u q ∧ SeqAt.shaped p = true ∧ SeqAt.shaped q = true ∧ d = .bl (PyData.eqv p q) := by
  unfold oEq at e
  split at e
  · cases e; simp only [RV] at rx ry; subst rx ry; exact .inl ⟨_, rfl, rfl, by simp⟩
  · cases e; simp only [RV] at rx ry; subst rx ry; exact .inl ⟨_, rfl, rfl, by simp⟩
  · cases e; simp only [RV] at rx ry; subst rx ry; exact .inl ⟨_, rfl, rfl, by simp⟩
  · split at e
    · rename_i hc
      simp only [Bool.and_eq_true, eqOk] at hc
      obtain ⟨⟨h1, h2⟩, h3, h4⟩ := hc
      cases e
      exact .inr ⟨_, _, dp_deref s h1 rx, dp_deref s h3 ry, h2, h4, rfl⟩
    · cases e
theorem opS_eq {K : PySem.W.Frag} : OpS K (rEqA K) oEq := by
  intro w S H x y d v u Q s rx ry e k
  rcases eq_cases s rx ry e with ⟨b, rfl, h1, rfl⟩ | ⟨p, q, h1, h2, h3, h4, rfl⟩
  · exact .inl ⟨h1, k w H _ .refl s (by simp only [RV])⟩
  · exact .inr ⟨p, q, h1, h2, h3, h4, k w H _ .refl s (by simp only [RV])⟩
theorem opS_ne {K : PySem.W.Frag} : OpS K (rNeA K) oNe := by
  intro w S H x y d v u Q s rx ry e k
  unfold oNe at e
  split at e
  · rename_i b hb
    cases e
    rcases eq_cases s rx ry hb with ⟨b', e', h1, rfl⟩ | ⟨p, q, h1, h2, h3, h4, e'⟩
    · cases e'; exact .inl ⟨h1, k w H _ .refl s (by simp only [RV])⟩
    · cases e'; exact .inr ⟨p, q, h1, h2, h3, h4, k w H _ .refl s (by simp only [RV])⟩
  · cases e
def intsOf : List D → Option (List Int)
  | [] => some []
  | .int i :: ds => (intsOf ds).map (i :: ·)
  | _ :: _ => none
theorem intsOf_eq : ∀ {ds : List D} {is : List Int}, intsOf ds = some is → ds = is.map D.int
  | [], is, h => by cases h; rfl
  | d :: ds, is, h => by
    cases d with
    | int i =>
      simp only [intsOf] at h
      cases e : intsOf ds with
      | none => rw [e] at h; cases h
      | some js => rw [e] at h; cases h; rw [intsOf_eq e]; rfl
    | _ => cases h
@[simp] theorem intsOf_map (is : List Int) : intsOf (is.map D.int) = some is := by
  induction is with
  | nil => rfl
  | cons i is ih => simp only [List.map_cons, intsOf, ih, Option.map_some]
/-- x in a list or a tuple -/
def inB (x y : D) (S : Sto) : Option Bool := match x, (seqOf S y).bind intsOf with
  | .int i, some is => some (decide (i ∈ is))
  | x, _ => match seqOf S y with
    | some ds => if eqOk x && eqOk (.lst ds) then some (ds.any fun z => deq z x) else none
    | none => none
def oIn : Op2 := fun x y S => (inB x y S).map D.bl
def oNotIn : Op2 := fun x y S => (inB x y S).map fun b => D.bl (!b)
def rInT (K : PySem.W.Frag) (neg : Bool) : R2 := fun x y H Q => ∃ d ds, Dp K H x d ∧ Dp K H y (.tuple ds) ∧ SeqAt.shaped d = true ∧ SeqAt.shaped (.list ds) = true ∧ Q (.bl (if neg then !(ds.any fun z => PyData.eqv z d) else ds.any fun z => PyData.eqv z d)) H
theorem op_inT {X : Cx} (hu : X.A.units + 65 < cLine) : OpR X (compareOp .In) (rInT X.K false) := by
  intro pins s σ H x y v u Q I rx ry h
  obtain ⟨d, ds, hd, he, sd, se, q⟩ := h
  obtain ⟨as, r1⟩ := Dp.reads I d x v hd rx
  obtain ⟨bs, r2⟩ := Dp.reads I (.tuple ds) y u he ry
  exact SeqAt.in_tuple_reads r2 r1 (SeqAt.canLay_of_shaped se) (SeqAt.canLay_of_shaped sd) (room_in_shaped sd hu) ⟨.bl _, H, I, rfl, q⟩
theorem op_notInT {X : Cx} (hu : X.A.units + 65 < cLine) : OpR X (compareOp .NotIn) (rInT X.K true) := by
  intro pins s σ H x y v u Q I rx ry h
  obtain ⟨d, ds, hd, he, sd, se, q⟩ := h
  obtain ⟨as, r1⟩ := Dp.reads I d x v hd rx
  obtain ⟨bs, r2⟩ := Dp.reads I (.tuple ds) y u he ry
  exact SeqAt.notIn_tuple_reads r2 r1 (SeqAt.canLay_of_shaped se) (SeqAt.canLay_of_shaped sd) (room_in_shaped sd hu) ⟨.bl _, H, I, rfl, q⟩
def rInA (K : PySem.W.Frag) : R2 := fun x y H Q => rIn K false x y H Q ∨ (fun x y H Q => rInD K x y H Q ∨ rInT K false x y H Q) x y H Q
def rNotInA (K : PySem.W.Frag) : R2 := fun x y H Q => rIn K true x y H Q ∨ (fun x y H Q => rNotInD K x y H Q ∨ rInT K true x y H Q) x y H Q
theorem op_inA {X : Cx} {k : Nat} (c : Ctx X k) : OpR X (compareOp .In) (rInA X.K) := op_in_seq.or ((op_inD c.hu65).or (op_inT c.hu65))
theorem op_notInA {X : Cx} {k : Nat} (c : Ctx X k) : OpR X (compareOp .NotIn) (rNotInA X.K) := op_notIn_seq.or ((op_notInD c.hu65).or (op_notInT c.hu65))
theorem inV_ints (i : Int) (is : List Int) : inV (.int i) (is.map V.int) = decide (i ∈ is) := by
  unfold inV
  rw [List.any_map, Bool.eq_iff_iff]
  simp only [List.any_eq_true, Function.comp, eqV, beq_iff_eq, decide_eq_true_eq]
  exact ⟨fun ⟨x, h1, h2⟩ => h2 ▸ h1, fun h => ⟨i, h, rfl⟩⟩
theorem flat_ints (is : List Int) : (is.map V.int).all flatV = true := by
  rw [List.all_eq_true]
  intro v hv
  obtain ⟨i, _, rfl⟩ := List.mem_map.mp hv
  rfl
theorem any_pys (x : D) : ∀ ds : List D, (pys ds).any (fun z => PyData.eqv z (py x)) = ds.any fun z => deq z x
  | [] => rfl
  | d :: ds => by simp only [pys, List.any_cons, any_pys x ds, deq]
theorem in_cases {K : PySem.W.Frag} {w : Wo} {S : Sto} {H : Hp} {x y : D} {v u : V} {b : Bool} (s : Sim K w S H) (rx : RV K w H x v) (ry : RV K w H y u) (e : inB x y S = some b) :
    (∃ p xs, u = .ref p ∧ (SqL K H p xs ∨ SqT K H p xs) ∧ flatV v = true ∧ xs.all flatV = true ∧ b = inV v xs) ∨
    ∃ d ds, Dp K H v d ∧ (Dp K H u (.list ds) ∨ Dp K H u (.tuple ds)) ∧ SeqAt.shaped d = true ∧ SeqAt.shaped (.list ds) = true ∧ b = ds.any fun z => PyData.eqv z d := by
  unfold inB at e
  split at e
  · rename_i i is hs
    cases e
    cases hq : seqOf S y with
    | none => rw [hq] at hs; cases hs
    | some ds =>
      rw [hq] at hs
      obtain ⟨a, xs, h1, h2, h3⟩ := seqOf_sq s ry hq
      have e' := intsOf_eq (show intsOf ds = some is from hs)
      subst e'
      rw [h3.ints] at h2
      simp only [RV] at rx
      subst rx
      exact .inl ⟨a, _, h1, h2, rfl, flat_ints _, (inV_ints _ _).symm⟩
  · split at e
    · rename_i ds hq
      split at e
      · rename_i hc
        cases e
        simp only [Bool.and_eq_true, eqOk] at hc
        obtain ⟨⟨h1, h2⟩, h3, h4⟩ := hc
        obtain ⟨a, xs, g1, g2, g3⟩ := seqOf_sq s ry hq
        subst g1
        refine .inr ⟨_, pys ds, dp_of h1 rx, ?_, h2, by simpa only [py] using h4, (any_pys _ _).symm⟩
        have ha := dps_of (by simpa only [pyOk] using h3) g3
        rcases g2 with g2 | g2
        · exact .inl (.lst g2 ha)
        · exact .inr (.tup g2 ha)
      · cases e
    · cases e
theorem opS_in {K : PySem.W.Frag} : OpS K (rInA K) oIn := by
  intro w S H x y d v u Q s rx ry e k
  unfold oIn at e
  cases hb : inB x y S with
  | none => rw [hb] at e; cases e
  | some b =>
    rw [hb] at e
    cases e
    have fin : Q (.bl b) H := k w H _ .refl s (by simp only [RV])
    rcases in_cases s rx ry hb with ⟨p, xs, h1, h2, h3, h4, h5⟩ | ⟨d, ds, h1, h2, h3, h4, h5⟩
    · exact .inl ⟨p, xs, h1, h2, h3, h4, by rw [if_neg Bool.false_ne_true, ← h5]; exact fin⟩
    · rcases h2 with h2 | h2
      · exact .inr (.inl ⟨d, ds, h1, h2, h3, h4, by rw [← h5]; exact fin⟩)
      · exact .inr (.inr ⟨d, ds, h1, h2, h3, h4, by rw [if_neg Bool.false_ne_true, ← h5]; exact fin⟩)
theorem opS_notIn {K : PySem.W.Frag} : OpS K (rNotInA K) oNotIn := by
  intro w S H x y d v u Q s rx ry e k
  unfold oNotIn at e
  cases hb : inB x y S with
  | none => rw [hb] at e; cases e
  | some b =>
    rw [hb] at e
    cases e
    have fin : Q (.bl (!b)) H := k w H _ .refl s (by simp only [RV])
    rcases in_cases s rx ry hb with ⟨p, xs, h1, h2, h3, h4, h5⟩ | ⟨d, ds, h1, h2, h3, h4, h5⟩
    · exact .inl ⟨p, xs, h1, h2, h3, h4, by rw [if_pos rfl, ← h5]; exact fin⟩
    · rcases h2 with h2 | h2
      · exact .inr (.inl ⟨d, ds, h1, h2, h3, h4, by rw [← h5]; exact fin⟩)
      · exact .inr (.inr ⟨d, ds, h1, h2, h3, h4, by rw [if_pos rfl, ← h5]; exact fin⟩)
/-- is None -/
def isNonD : D → Bool
  | .non => true
  | _ => false
def oIsN : Op2 := fun x y _ => match y with
  | .non => some (.bl (isNonD x))
  | _ => none
def oNotN : Op2 := fun x y _ => match y with
  | .non => some (.bl (!isNonD x))
  | _ => none
theorem isN_eq {K : PySem.W.Frag} {w : Wo} {H : Hp} {x : D} {v : V} (rx : RV K w H x v) : decide (v = .non) = isNonD x := by
  cases x with
  | non => simp only [RV] at rx; subst rx; simp [isNonD]
  | bl b => simp only [RV] at rx; subst rx; simp [isNonD]
  | int b => simp only [RV] at rx; subst rx; simp [isNonD]
  | str b => simp only [RV] at rx; subst rx; simp [isNonD]
  | tup ds => simp only [RV] at rx; obtain ⟨a, xs, rfl, _⟩ := rx; simp [isNonD]
  | con ds => simp only [RV] at rx; obtain ⟨a, xs, rfl, _⟩ := rx; simp [isNonD]
  | lst ds => simp only [RV] at rx; obtain ⟨a, xs, rfl, _⟩ := rx; simp [isNonD]
  | frz ds => simp only [RV] at rx; obtain ⟨a, xs, rfl, _⟩ := rx; simp [isNonD]
  | loc n => simp only [RV] at rx; obtain ⟨a, rfl, _⟩ := rx; simp [isNonD]
  | fn x => simp only [RV] at rx; obtain ⟨a, rfl, _⟩ := rx; simp [isNonD]
  | exc _ _ _ _ => simp only [RV] at rx; obtain ⟨rfl, _⟩ := rx; simp [isNonD]
theorem opS_isN {K : PySem.W.Frag} : OpS K (fun x y H Q => y = .non ∧ Q (.bl (decide (x = .non))) H) oIsN := by
  intro w S H x y d v u Q s rx ry e k
  cases y with
  | non =>
    simp only [RV] at ry
    refine ⟨ry, ?_⟩
    cases e
    rw [isN_eq rx]
    exact k w H _ .refl s (by simp only [RV])
  | _ => cases e
theorem opS_notN {K : PySem.W.Frag} : OpS K (fun x y H Q => y = .non ∧ Q (.bl (!decide (x = .non))) H) oNotN := by
  intro w S H x y d v u Q s rx ry e k
  cases y with
  | non =>
    simp only [RV] at ry
    refine ⟨ry, ?_⟩
    cases e
    rw [isN_eq rx]
    exact k w H _ .refl s (by simp only [RV])
  | _ => cases e
/-- subscripts -/
def oIx : Op2 := fun x y S => match y with
  | .int i => match tupOf x with
    | some ds => atI ds i
    | none => match lstOf S x with
      | some ds => atI ds i
      | none => match x with
        | .str z => if z.length ≤ sizeLine then (atI z.cps.toList i).map fun c => D.str ⟨#[c]⟩ else none
        | _ => none
  | _ => none
theorem atI_rel {K : PySem.W.Frag} {w : Wo} {H : Hp} {ds : List D} {xs : List V} {i : Int} {d : D} (r : RVs K w H ds xs) (h : atI ds i = some d) : ∃ v, atI xs i = some v ∧ RV K w H d v := by
  unfold atI at h ⊢
  rw [← r.length]
  cases e : ixN ds.length i with
  | none => rw [e] at h; cases h
  | some j => rw [e] at h; exact r.get h
theorem opS_ix {K : PySem.W.Frag} : OpS K (rIx K) oIx := by
  intro w S H x y d v u Q s rx ry e k
  unfold oIx at e
  split at e
  · rename_i i
    simp only [RV] at ry
    split at e
    · rename_i ds hd
      obtain ⟨a, xs, h1, h2, h3⟩ := tupOf_sq rx hd
      obtain ⟨z, g1, g2⟩ := atI_rel h3 e
      exact .inr (.inl ⟨a, xs, i, z, h1, ry, h2, g1, k w H _ .refl s g2⟩)
    · split at e
      · rename_i ds hd
        obtain ⟨a, xs, h1, h2, h3⟩ := lstOf_sq s rx hd
        obtain ⟨z, g1, g2⟩ := atI_rel h3 e
        exact .inl ⟨a, xs, i, z, h1, ry, h2, g1, k w H _ .refl s g2⟩
      · split at e
        · split at e
          · rename_i z _ _ hz
            simp only [RV] at rx
            cases hc : atI z.cps.toList i with
            | none => rw [hc] at e; cases e
            | some c =>
              rw [hc] at e
              cases e
              exact .inr (.inr ⟨z, i, c, rx, ry, hz, hc, k w H _ .refl s (by simp only [RV])⟩)
          · cases e
        · cases e
  · cases e
section
variable {X : Cx} {W : WX} {pos : Pos} {a b : Expr} {fa fb : EF}
theorem E_add (ha : PE X a (tE X.K W fa)) (hb : PE X b (tE X.K W fb)) : PE X (.BinOp a .Add b pos) (tE X.K W (eBin oAdd fa fb)) := E_bin op_addA opS_add ha hb
theorem E_sub (ha : PE X a (tE X.K W fa)) (hb : PE X b (tE X.K W fb)) : PE X (.BinOp a .Sub b pos) (tE X.K W (eBin oSub fa fb)) := E_bin op_sub opS_int0 ha hb
theorem E_mul (ha : PE X a (tE X.K W fa)) (hb : PE X b (tE X.K W fb)) : PE X (.BinOp a .Mult b pos) (tE X.K W (eBin oMul fa fb)) := E_bin op_mulA opS_int ha hb
theorem E_div (ha : PE X a (tE X.K W fa)) (hb : PE X b (tE X.K W fb)) : PE X (.BinOp a .FloorDiv b pos) (tE X.K W (eBin oDiv fa fb)) := E_bin op_fdivW opS_int ha hb
theorem E_mod (ha : PE X a (tE X.K W fa)) (hb : PE X b (tE X.K W fb)) : PE X (.BinOp a .Mod b pos) (tE X.K W (eBin oMod fa fb)) := E_bin op_mod opS_int ha hb
theorem E_pow (ha : PE X a (tE X.K W fa)) (hb : PE X b (tE X.K W fb)) : PE X (.BinOp a .Pow b pos) (tE X.K W (eBin oPow fa fb)) := E_bin op_pow opS_int ha hb
theorem E_shl (ha : PE X a (tE X.K W fa)) (hb : PE X b (tE X.K W fb)) : PE X (.BinOp a .LShift b pos) (tE X.K W (eBin oShl fa fb)) := E_bin op_shl opS_int ha hb
theorem E_and_ (ha : PE X a (tE X.K W fa)) (hb : PE X b (tE X.K W fb)) : PE X (.BinOp a .BitAnd b pos) (tE X.K W (eBin oAnd fa fb)) := E_bin op_and opS_int0 ha hb
theorem E_ix (ha : PE X a (tE X.K W fa)) (hb : PE X b (tE X.K W fb)) (hs : PlainIx b := by exact fun _ _ => rfl) : PE X (.Subscript a b pos) (tE X.K W (eBin oIx fa fb)) :=
  PE.weak (pe_ix ix_seq ha hb hs) fun _ _ _ h => tOp_of opS_ix h
end
end Ev

namespace Ev
open PySem PySem.Spec PyProof.Rows L2

/-! ### tests -/
def truD (d : D) (S : Sto) : Option Bool := match d with
  | .non => some false
  | .bl b => some b
  | .int i => some (i != 0)
  | .str x => if x.length ≤ sizeLine then some ((x.length : Int) != 0) else none
  | .tup ds => some (!ds.isEmpty)
  | .con ds => some (!ds.isEmpty)
  | .lst ds => some (!ds.isEmpty)
  | .frz ds => some (!ds.isEmpty)
  | .loc n => match S[n]? with
    | some (.lst ds) => some (!ds.isEmpty)
    | some (.dK kvs) => some (!kvs.isEmpty)
    | _ => none
  | .fn _ => none
  | .exc _ _ _ _ => none
def liftG {α : Type} (d : Option α) (S : Sto) : R α := match d with
  | some d => .ok d S
  | none => .no
@[simp] theorem liftG_some {α : Type} (d : α) (S : Sto) : liftG (some d) S = .ok d S := rfl
@[simp] theorem liftG_none {α : Type} (S : Sto) : liftG (none : Option α) S = .no := rfl
def bVal (fa : EF) : BF := fun ρ S => (fa ρ S).bind fun x S1 => liftG (truD x S1) S1
theorem RVs.empty {K : PySem.W.Frag} {w : Wo} {H : Hp} {ds : List D} {xs : List V} (r : RVs K w H ds xs) : ds.isEmpty = xs.isEmpty := by
  have h := r.length
  cases ds with
  | nil => cases xs with
    | nil => rfl
    | cons x xs => cases h
  | cons d ds => cases xs with
    | nil => cases h
    | cons x xs => rfl
theorem truD_ok {K : PySem.W.Frag} {w : Wo} {S : Sto} {H : Hp} {x : D} {v : V} {b : Bool} (s : Sim K w S H) (rx : RV K w H x v) (h : truD x S = some b) : TruV K v H b := by
  cases x with
  | non => simp only [RV] at rx; subst rx; cases h; exact rfl
  | bl b => simp only [RV] at rx; subst rx; cases h; exact rfl
  | int b => simp only [RV] at rx; subst rx; cases h; exact rfl
  | str b =>
    simp only [RV] at rx; subst rx
    simp only [truD] at h
    split at h
    · rename_i hz; cases h; exact ⟨hz, rfl⟩
    · cases h
  | tup ds => simp only [RV] at rx; obtain ⟨a, xs, rfl, h2, h3⟩ := rx; cases h; exact .inr (.inl ⟨xs, SqT.of h2, by rw [h3.empty]⟩)
  | con ds => simp only [RV] at rx; obtain ⟨a, xs, rfl, h2, h3⟩ := rx; cases h; exact .inr (.inl ⟨xs, h2.sq, by rw [h3.empty]⟩)
  | lst ds => simp only [RV] at rx; obtain ⟨a, xs, rfl, h2, _, h3⟩ := rx; cases h; exact .inl ⟨xs, SqL.of h2, by rw [h3.empty]⟩
  | frz ds => simp only [RV] at rx; obtain ⟨a, xs, rfl, h2, h3⟩ := rx; cases h; exact .inl ⟨xs, h2.sq, by rw [h3.empty]⟩
  | loc n =>
    simp only [truD] at h
    split at h
    · rename_i ds hd
      cases h
      obtain ⟨a, rfl, h2, xs, h3, h4⟩ := s.get hd rx
      exact .inl ⟨xs, SqL.of h3, by rw [h4.empty]⟩
    · rename_i kvs hd
      cases h
      obtain ⟨a, rfl, h2, vs, h3, h4, h5⟩ := s.get hd rx
      refine .inr (.inr ⟨vs, h3, ?_⟩)
      have := h5.empty
      cases kvs <;> cases vs <;> simp_all
    · cases h
  | fn x => cases h
  | exc _ _ _ _ => cases h
def bAnd (fa fb : BF) : BF := fun ρ S => (fa ρ S).bind fun x S1 => if x = true then fb ρ S1 else .ok false S1
def bOr (fa fb : BF) : BF := fun ρ S => (fa ρ S).bind fun x S1 => if x = true then .ok true S1 else fb ρ S1
def bNot (fa : BF) : BF := fun ρ S => (fa ρ S).bind fun x S1 => .ok (!x) S1
def eAnd (fa fb : EF) : EF := fun ρ S => (fa ρ S).bind fun x S1 => match x with
  | .bl true => fb ρ S1
  | .bl false => .ok (.bl false) S1
  | _ => .no
def eOr (fa fb : EF) : EF := fun ρ S => (fa ρ S).bind fun x S1 => match x with
  | .bl true => .ok (.bl true) S1
  | .bl false => fb ρ S1
  | _ => .no
def eNot (fa : EF) : EF := fun ρ S => (fa ρ S).bind fun x S1 => match x with
  | .bl b => .ok (.bl (!b)) S1
  | _ => .no
/-- x or y by truth -/
def eOrT (fa fb : EF) : EF := fun ρ S => (fa ρ S).bind fun x S1 => (liftG (truD x S1) S1).bind fun k S2 => if k = true then .ok x S2 else fb ρ S2
def eIf (t : BF) (fa fb : EF) : EF := fun ρ S => (t ρ S).bind fun c S1 => if c = true then fa ρ S1 else fb ρ S1
section
variable {X : Cx} {W : WX} {pos : Pos} {a b c : Expr} {fa fb : EF} {ta tb : BF} {rest : List Expr}
theorem T_val (ha : PE X a (tE X.K W fa)) (he : ∀ whole, isTrue a X.env whole = (do let v ← whole; standAt a.pos; holding [v] (truthy v)) := by exact fun _ => rfl) : PT X a (tT X.K W (bVal fa)) :=
  PT.weak (pt_truth ha he) fun σ H Q h => by
    obtain ⟨w, S, ρ, s, re, p⟩ := h
    refine ⟨w, S, ρ, s, re, p.bind fun w1 H1 v x S1 e1 s1 rx p1 => ?_⟩
    cases hb : truD x S1 with
    | none => rw [hb] at p1; exact p1.elim
    | some k => rw [hb] at p1; exact ⟨k, truD_ok s1 rx hb, p1 w1 H1 k .refl s1 rfl⟩
theorem T_and1 (ha : PT X a (tT X.K W ta)) : PW X (.BoolOp .And [a] pos) (tT X.K W ta) := pw_and1 ha
theorem T_or1 (ha : PT X a (tT X.K W ta)) : PW X (.BoolOp .Or [a] pos) (tT X.K W ta) := pw_or1 ha
theorem T_and (ha : PT X a (tT X.K W ta)) (hb : PW X (.BoolOp .And (b :: rest) pos) (tT X.K W tb)) : PW X (.BoolOp .And (a :: b :: rest) pos) (tT X.K W (bAnd ta tb)) :=
  PW.weak (pw_and ha hb) fun σ H Q h => by
    obtain ⟨w, S, ρ, s, re, p⟩ := h
    refine ⟨w, S, ρ, s, re, p.bind fun w1 H1 v x S1 e1 s1 rx p1 => ?_⟩
    cases rx
    split
    · rename_i hx; rw [if_pos hx] at p1; exact ⟨w1, S1, ρ, s1, re.mono e1, p1⟩
    · rename_i hx; rw [if_neg hx] at p1; exact p1 w1 H1 false .refl s1 rfl
theorem T_or (ha : PT X a (tT X.K W ta)) (hb : PW X (.BoolOp .Or (b :: rest) pos) (tT X.K W tb)) : PW X (.BoolOp .Or (a :: b :: rest) pos) (tT X.K W (bOr ta tb)) :=
  PW.weak (pw_or ha hb) fun σ H Q h => by
    obtain ⟨w, S, ρ, s, re, p⟩ := h
    refine ⟨w, S, ρ, s, re, p.bind fun w1 H1 v x S1 e1 s1 rx p1 => ?_⟩
    cases rx
    split
    · rename_i hx; rw [if_pos hx] at p1; exact p1 w1 H1 true .refl s1 rfl
    · rename_i hx; rw [if_neg hx] at p1; exact ⟨w1, S1, ρ, s1, re.mono e1, p1⟩
theorem T_not (ha : PT X a (tT X.K W ta)) : PT X (.UnaryOp .Not a pos) (tT X.K W (bNot ta)) :=
  PT.weak (pt_not ha) fun σ H Q h => by
    obtain ⟨w, S, ρ, s, re, p⟩ := h
    refine ⟨w, S, ρ, s, re, p.bind fun w1 H1 v x S1 e1 s1 rx p1 => ?_⟩
    cases rx
    exact p1 w1 H1 _ .refl s1 rfl
theorem E_one {op} (h : PE X a (tE X.K W fa)) : PE X (.BoolOp op [a] pos) (tE X.K W fa) := pe_one h
theorem E_andV (ha : PE X a (tE X.K W fa)) (hb : PE X (.BoolOp .And (b :: rest) pos) (tE X.K W fb)) : PE X (.BoolOp .And (a :: b :: rest) pos) (tE X.K W (eAnd fa fb)) :=
  PE.weak (pe_and ha hb) fun σ H Q h => by
    obtain ⟨w, S, ρ, s, re, p⟩ := h
    refine ⟨w, S, ρ, s, re, p.bind fun w1 H1 v x S1 e1 s1 rx p1 => ?_⟩
    cases x with
    | bl k =>
      simp only [RV] at rx
      refine ⟨k, rx, ?_⟩
      cases k with
      | true => exact ⟨w1, S1, ρ, s1, re.mono e1, p1⟩
      | false => exact p1 w1 H1 _ .refl s1 (by simp only [RV])
    | _ => exact p1.elim
theorem E_orV (ha : PE X a (tE X.K W fa)) (hb : PE X (.BoolOp .Or (b :: rest) pos) (tE X.K W fb)) : PE X (.BoolOp .Or (a :: b :: rest) pos) (tE X.K W (eOr fa fb)) :=
  PE.weak (pe_or ha hb) fun σ H Q h => by
    obtain ⟨w, S, ρ, s, re, p⟩ := h
    refine ⟨w, S, ρ, s, re, p.bind fun w1 H1 v x S1 e1 s1 rx p1 => ?_⟩
    cases x with
    | bl k =>
      simp only [RV] at rx
      refine ⟨k, rx, ?_⟩
      cases k with
      | false => exact ⟨w1, S1, ρ, s1, re.mono e1, p1⟩
      | true => exact p1 w1 H1 _ .refl s1 (by simp only [RV])
    | _ => exact p1.elim
theorem E_orT (ha : PE X a (tE X.K W fa)) (hb : PE X (.BoolOp .Or (b :: rest) pos) (tE X.K W fb)) : PE X (.BoolOp .Or (a :: b :: rest) pos) (tE X.K W (eOrT fa fb)) :=
  PE.weak (pe_orT ha hb) fun σ H Q h => by
    obtain ⟨w, S, ρ, s, re, p⟩ := h
    refine ⟨w, S, ρ, s, re, p.bind fun w1 H1 v x S1 e1 s1 rx p1 => ?_⟩
    cases hk : truD x S1 with
    | none => rw [hk] at p1; exact p1.elim
    | some k =>
      rw [hk] at p1
      refine ⟨k, truD_ok s1 rx hk, ?_⟩
      cases k with
      | true => exact p1 w1 H1 v .refl s1 rx
      | false => exact ⟨w1, S1, ρ, s1, re.mono e1, p1⟩
theorem E_notV (ha : PE X a (tE X.K W fa)) : PE X (.UnaryOp .Not a pos) (tE X.K W (eNot fa)) :=
  PE.weak (pe_not ha) fun σ H Q h => by
    obtain ⟨w, S, ρ, s, re, p⟩ := h
    refine ⟨w, S, ρ, s, re, p.bind fun w1 H1 v x S1 e1 s1 rx p1 => ?_⟩
    cases x with
    | bl k =>
      simp only [RV] at rx
      exact ⟨k, rx, p1 w1 H1 _ .refl s1 (by simp only [RV])⟩
    | _ => exact p1.elim
theorem E_ifx (hc : PT X c (tT X.K W ta)) (ha : PE X a (tE X.K W fa)) (hb : PE X b (tE X.K W fb)) : PE X (.IfExp c a b pos) (tE X.K W (eIf ta fa fb)) :=
  PE.weak (pe_ifExp hc ha hb) fun σ H Q h => by
    obtain ⟨w, S, ρ, s, re, p⟩ := h
    refine ⟨w, S, ρ, s, re, p.bind fun w1 H1 v x S1 e1 s1 rx p1 => ?_⟩
    cases rx
    split
    · rename_i hx; rw [if_pos hx] at p1; exact ⟨w1, S1, ρ, s1, re.mono e1, p1⟩
    · rename_i hx; rw [if_neg hx] at p1; exact ⟨w1, S1, ρ, s1, re.mono e1, p1⟩
/-- - i -/
def eNeg (fa : EF) : EF := fun ρ S => (fa ρ S).bind fun x S1 => match x with
  | .int i => .ok (.int (-i)) S1
  | _ => .no
theorem E_neg (ha : PE X a (tE X.K W fa)) : PE X (.UnaryOp .USub a pos) (tE X.K W (eNeg fa)) :=
  PE.weak (pe_un un_neg ha) fun σ H Q h => by
    obtain ⟨w, S, ρ, s, re, p⟩ := h
    refine ⟨w, S, ρ, s, re, p.bind fun w1 H1 v x S1 e1 s1 rx p1 => ?_⟩
    cases x with
    | int i =>
      simp only [RV] at rx
      exact ⟨i, rx, p1 w1 H1 _ .refl s1 (by simp only [RV])⟩
    | _ => exact p1.elim
end

/-! ### arguments, displays -/
def aNil : AF := fun _ S => .ok [] S
def aCons (fa : EF) (fr : AF) : AF := fun ρ S => (fa ρ S).bind fun x S1 => (fr ρ S1).bind fun xs S2 => .ok (x :: xs) S2
def eTup (fa : AF) : EF := fun ρ S => (fa ρ S).bind fun ds S1 => if ds.length ≤ sizeLine then .ok (.tup ds) S1 else .no
def eLst (fa : AF) : EF := fun ρ S => (fa ρ S).bind fun ds S1 => if ds.length ≤ sizeLine then .ok (.lst ds) S1 else .no
/-- a list that will be changed: it goes to the store -/
def eLstA (fa : AF) : EF := fun ρ S => (fa ρ S).bind fun ds S1 => if ds.length ≤ sizeLine then .ok (.loc S1.length) (S1 ++ [.lst ds]) else .no
theorem RV.newLoc {K : PySem.W.Frag} {w : Wo} {S : Sto} {H : Hp} {p : Addr} (s : w.m.length = S.length) : RV K (w.add p) H (.loc S.length) (.ref p) := by
  simp only [RV]
  refine ⟨p, rfl, ?_⟩
  show (w.m ++ [p])[S.length]? = some p
  rw [← s, List.getElem?_append_right (Nat.le_refl _), Nat.sub_self]
  rfl
theorem RVs.up {K : PySem.W.Frag} {w w' : Wo} {H H' : Hp} {ds : List D} {vs : List V} (e : Ext w H w' H') (r : RVs K w H ds vs) : RVs K w' H' ds vs := r.mono e
theorem RC.newLst {K : PySem.W.Frag} {w : Wo} {H : Hp} {p : Addr} {ds : List D} {xs : List V} (hp : H p = none) (r : RVs K w H ds xs) : RC K (w.add p) (upd H p (.lst xs)) p (.lst ds) := ⟨xs, upd_same, r.mono (Ext.alloc hp)⟩
section
variable {X : Cx} {W : WX} {pos : Pos} {e : Expr} {es : List Expr} {fa : EF} {fr : AF}
theorem A_nil : PA X [] (tA X.K W aNil) := PA.weak pa_nil fun σ H Q h => let ⟨w, S, ρ, s, re, p⟩ := h; p.ret s .nil
theorem A_cons (ha : PE X e (tE X.K W fa)) (hr : PA X es (tA X.K W fr)) (hs : starEach (e :: es) X.env = (false, eval e X.env) :: starEach es X.env := by rfl) : PA X (e :: es) (tA X.K W (aCons fa fr)) :=
  PA.weak (pa_cons ha hr hs) fun σ H Q h => by
    obtain ⟨w, S, ρ, s, re, p⟩ := h
    refine ⟨w, S, ρ, s, re, p.bind fun w1 H1 v x S1 e1 s1 rx p1 => ?_⟩
    exact ⟨w1, S1, ρ, s1, re.mono e1, p1.bind fun w2 H2 vs xs S2 e2 s2 rxs p2 => p2 w2 H2 _ .refl s2 (.cons (rx.mono e2) rxs)⟩
theorem E_tup {x1} (h : PA X es (tA X.K W fr)) : PE X (.Tuple es x1 pos) (tE X.K W (eTup fr)) :=
  PE.weak (pe_tup h) fun σ H Q h => by
    obtain ⟨w, S, ρ, s, re, p⟩ := h
    refine ⟨w, S, ρ, s, re, p.bind fun w1 H1 vs xs S1 e1 s1 rx p1 => ?_⟩
    split at p1
    · rename_i hz
      exact ⟨by rw [← rx.length]; exact hz, fun q hq => p1 w1 _ _ (Ext.fresh hq) (s1.fresh hq) (RV.newTup hq rx)⟩
    · exact p1.elim
theorem E_lst (h : PA X es (tA X.K W fr)) : PE X (.List es pos) (tE X.K W (eLst fr)) :=
  PE.weak (pe_lst h) fun σ H Q h => by
    obtain ⟨w, S, ρ, s, re, p⟩ := h
    refine ⟨w, S, ρ, s, re, p.bind fun w1 H1 vs xs S1 e1 s1 rx p1 => ?_⟩
    split at p1
    · rename_i hz
      exact ⟨by rw [← rx.length]; exact hz, fun q hq => p1 w1 _ _ (Ext.fresh hq) (s1.fresh hq) (RV.newLst s1 hq rx)⟩
    · exact p1.elim
theorem E_lstA (h : PA X es (tA X.K W fr)) : PE X (.List es pos) (tE X.K W (eLstA fr)) :=
  PE.weak (pe_lst h) fun σ H Q h => by
    obtain ⟨w, S, ρ, s, re, p⟩ := h
    refine ⟨w, S, ρ, s, re, p.bind fun w1 H1 vs xs S1 e1 s1 rx p1 => ?_⟩
    split at p1
    · rename_i hz
      refine ⟨by rw [← rx.length]; exact hz, fun q hq => p1 (w1.add q) _ _ (Ext.alloc hq) (s1.alloc hq (RC.newLst hq rx)) (RV.newLoc s1.len)⟩
    · exact p1.elim
end

/-! ### targets -/
inductive Tg where
  | nm (i : Nat) | tp (ts : List Tg) | ls (ts : List Tg)
mutual
def Tg.asg : Tg → D → En → Sto → Option En
  | .nm i, d, ρ, _ => some (ρ.set i (some d))
  | .tp ts, d, ρ, S => match tupOf d with
    | some ds => if ds.length = ts.length then asgs ts ds ρ S else none
    | none => none
  | .ls ts, d, ρ, S => match lstOf S d with
    | some ds => if ds.length = ts.length then asgs ts ds ρ S else none
    | none => none
def asgs : List Tg → List D → En → Sto → Option En
  | [], _, ρ, _ => some ρ
  | t :: ts, d :: ds, ρ, S => match t.asg d ρ S with
    | some ρ1 => asgs ts ds ρ1 S
    | none => none
  | _ :: _, [], _, _ => none
end
mutual
def Tg.slots : Tg → List Nat
  | .nm i => [i]
  | .tp ts => slotss ts
  | .ls ts => slotss ts
def slotss : List Tg → List Nat
  | [] => []
  | t :: ts => t.slots ++ slotss ts
end
/-- what a target does with the slots -/
def Wpd (is : List Nat) (σ σ' : St) : Prop := ∀ vs : List Nat, (∀ i ∈ is, i ∈ vs) → wipe σ' vs = wipe σ vs
def gT (K : PySem.W.Frag) (t : Tg) : TG := fun v σ H Q => ∃ w S ρ d ρ', Sim K w S H ∧ REnv K w H ρ σ ∧ RV K w H d v ∧ t.asg d ρ S = some ρ' ∧ ∀ σ', REnv K w H ρ' σ' → Wpd t.slots σ σ' → Q σ' H
def gTs (K : PySem.W.Frag) (ts : List Tg) : TGs := fun vs σ H Q => ∃ w S ρ ds ρ', Sim K w S H ∧ REnv K w H ρ σ ∧ RVs K w H ds vs ∧ ds.length = ts.length ∧ asgs ts ds ρ S = some ρ' ∧ ∀ σ', REnv K w H ρ' σ' → Wpd (slotss ts) σ σ' → Q σ' H
theorem wipe_set (σ : St) (i : Nat) (v : Option V) : ∀ vs : List Nat, i ∈ vs → wipe (σ.set i v) vs = wipe σ vs
  | [], h => by simp at h
  | j :: vs, h => by
    unfold wipe
    by_cases hm : i ∈ vs
    · rw [wipe_set σ i v vs hm]
    · have hj : j = i := by
        rcases List.mem_cons.mp h with z | z
        · exact z.symm
        · exact absurd z hm
      subst hj
      have key : ∀ vs : List Nat, j ∉ vs → wipe (σ.set j v) vs = (wipe σ vs).set j v := by
        intro vs
        induction vs with
        | nil => intro _; rfl
        | cons k vs ih =>
          intro hk
          simp only [List.mem_cons, not_or] at hk
          unfold wipe
          rw [ih hk.2, List.set_comm _ _ hk.1]
      rw [key vs hm, List.set_set]
theorem Wpd.trans {is js : List Nat} {σ σ1 σ2 : St} (a : Wpd is σ σ1) (b : Wpd js σ1 σ2) : Wpd (is ++ js) σ σ2 := fun vs h =>
  (b vs fun i hi => h i (List.mem_append_right _ hi)).trans (a vs fun i hi => h i (List.mem_append_left _ hi))
section
variable {X : Cx} {pos : Pos}
theorem PG.weak {tg : Expr} {t t' : TG} (h : PG X tg t) (k : ∀ v σ H Q, t' v σ H Q → t v σ H Q) : PG X tg t' := ⟨fun pins s σ H v u Q I r q => h.run pins s σ H v u Q I r (k v σ H Q q)⟩
theorem PGs.weak {ts : List Expr} {t t' : TGs} (h : PGs X ts t) (k : ∀ v σ H Q, t' v σ H Q → t v σ H Q) : PGs X ts t' := ⟨fun pins s σ H v u Q I r q => h.run pins s σ H v u Q I r (k v σ H Q q)⟩
theorem G_nm (i : Nat) {x : Str} (hN : X.N.Nodup) (hi : X.N[i]? = some x := by rfl) (hx : Loc X.env.scope x := by first | exact Or.inl rfl | exact Or.inr rfl) (hf : X.fn x = true ∨ X.env.scope.names.lookup x = some .local := by first | exact .inl rfl | exact .inr rfl | assumption) :
    PG X (.Name x pos) (gT X.K (.nm i)) :=
  PG.weak (pg_name (i := i) hN hi hx hf) fun v σ H Q h => by
    obtain ⟨w, S, ρ, d, ρ', s, re, rd, e, k⟩ := h
    cases e
    refine k _ (re.set rd) fun vs hv => wipe_set σ i _ vs (hv i (by simp [Tg.slots]))
theorem Gs_nil : PGs X [] (gTs X.K []) :=
  PGs.weak pgs_nil fun v σ H Q h => by
    obtain ⟨w, S, ρ, ds, ρ', s, re, rd, l, e, k⟩ := h
    have l' : ds = [] := List.eq_nil_of_length_eq_zero l
    subst l'
    simp only [RVs] at rd
    simp only [asgs] at e
    cases e
    exact ⟨rd, k σ re fun _ _ => rfl⟩
theorem Gs_cons {e : Expr} {es : List Expr} {t : Tg} {ts : List Tg} (h1 : PG X e (gT X.K t)) (h2 : PGs X es (gTs X.K ts)) (hs : (assignEach (e :: es) X.env).map (·.2) = assign e X.env :: (assignEach es X.env).map (·.2) := by rfl) :
    PGs X (e :: es) (gTs X.K (t :: ts)) :=
  PGs.weak (pgs_cons h1 h2 hs) fun v σ H Q h => by
    obtain ⟨w, S, ρ, ds, ρ', s, re, rd, l, e, k⟩ := h
    cases ds with
    | nil => cases l
    | cons d ds =>
      simp only [RVs] at rd
      obtain ⟨u, r, h1, h2, h3⟩ := rd
      simp only [asgs] at e
      cases ha : t.asg d ρ S with
      | none => rw [ha] at e; cases e
      | some ρ1 =>
        rw [ha] at e
        refine ⟨u, r, h1, w, S, ρ, d, ρ1, s, re, h2, ha, fun σ1 re1 wp1 => ?_⟩
        exact ⟨w, S, ρ1, ds, ρ', s, re1, h3, by simpa using l, e, fun σ2 re2 wp2 => k σ2 re2 (by simpa only [slotss] using wp1.trans wp2)⟩
theorem G_tp {es : List Expr} {k : Nat} {ts : List Tg} (hc : X.calm = true) (h : PGs X es (gTs X.K ts)) (hn : (assignEach es X.env).length = ts.length := by rfl) (hst : (assignEach es X.env).findIdx? (·.1) = none := by rfl) :
    PG X (.Tuple es k pos) (gT X.K (.tp ts)) :=
  PG.weak (pg_tup hc h hn hst) fun v σ H Q h => by
    obtain ⟨w, S, ρ, d, ρ', s, re, rd, e, k⟩ := h
    simp only [Tg.asg] at e
    split at e
    · rename_i ds hd
      split at e
      · rename_i hl
        obtain ⟨a, xs, h1, h2, h3⟩ := tupOf_sq rd hd
        exact ⟨a, xs, h1, h2, by rw [← h3.length]; exact hl, w, S, ρ, ds, ρ', s, re, h3, hl, e, fun σ' r' wp => k σ' r' (by simpa only [Tg.slots] using wp)⟩
      · cases e
    · cases e
theorem G_ls {es : List Expr} {k : Nat} {ts : List Tg} (hc : X.calm = true) (h : PGs X es (gTs X.K ts)) (hn : (assignEach es X.env).length = ts.length := by rfl) (hst : (assignEach es X.env).findIdx? (·.1) = none := by rfl) :
    PG X (.Tuple es k pos) (gT X.K (.ls ts)) :=
  PG.weak (pg_lst hc h hn hst) fun v σ H Q h => by
    obtain ⟨w, S, ρ, d, ρ', s, re, rd, e, k⟩ := h
    simp only [Tg.asg] at e
    split at e
    · rename_i ds hd
      split at e
      · rename_i hl
        obtain ⟨a, xs, h1, h2, h3⟩ := lstOf_sq s rd hd
        exact ⟨a, xs, h1, h2, by rw [← h3.length]; exact hl, w, S, ρ, ds, ρ', s, re, h3, hl, e, fun σ' r' wp => k σ' r' (by simpa only [Tg.slots] using wp)⟩
      · cases e
    · cases e
end

/-! ### statements -/
def sSeq (f g : SF) : SF := fun ρ S => match f ρ S with
  | .nx ρ1 S1 => g ρ1 S1
  | o => o
def sNext : SF := fun ρ S => .nx ρ S
def sSet (i : Nat) (fe : EF) : SF := fun ρ S => sB (fe ρ S) ρ fun d S1 => .nx (ρ.set i (some d)) S1
def sAsg (t : Tg) (fe : EF) : SF := fun ρ S => sB (fe ρ S) ρ fun d S1 => match t.asg d ρ S1 with
  | some ρ1 => .nx ρ1 S1
  | none => .no
def sExpr (fe : EF) : SF := fun ρ S => sB (fe ρ S) ρ fun _ S1 => .nx ρ S1
def sRet (fe : EF) : SF := fun ρ S => sB (fe ρ S) ρ fun d S1 => .rt d S1
def sRetN : SF := fun _ S => .rt .non S
def sIf (t : BF) (f g : SF) : SF := fun ρ S => sB (t ρ S) ρ fun c S1 => if c = true then f ρ S1 else g ρ S1
def sBrk : SF := fun ρ S => .bk ρ S
def sCnt : SF := fun ρ S => .ct ρ S
def sNo : SF := fun _ _ => .no
section
variable {X : Cx} {W : WX} {pos pos' : Pos} {st : Stmt} {rest : List Stmt} {e : Expr} {f g : SF} {fe : EF} {t : BF}
theorem S_nil : PSs X [] (tS X.K W sNext) := PSs.weak pss_nil fun D σ H h => let ⟨w, S, ρ, s, re, p⟩ := h; p w H σ .refl s re
theorem S_cons (h1 : PS X st (tS X.K W f)) (h2 : PSs X rest (tS X.K W g)) : PSs X (st :: rest) (tS X.K W (sSeq f g)) :=
  PSs.weak (pss_cons h1 h2) fun D σ H h => by
    obtain ⟨w, S, ρ, s, re, p⟩ := h
    refine ⟨w, S, ρ, s, re, ?_⟩
    unfold sSeq at p
    cases hf : f ρ S with
    | nx ρ1 S1 =>
      rw [hf] at p
      exact fun w1 H1 σ1 e1 s1 r1 => ⟨w1, S1, ρ1, s1, r1, PostS.shift e1 p⟩
    | _ => rw [hf] at p; exact p
theorem S_one (h1 : PS X st (tS X.K W f)) : PSs X [st] (tS X.K W f) := pss_one h1
theorem S_never : PS X st (tS X.K W sNo) := PS.weak ps_never fun D σ H h => let ⟨w, S, ρ, s, re, p⟩ := h; p.elim
theorem S_pass : PS X (.Pass pos) (tS X.K W sNext) := PS.weak ps_pass fun D σ H h => let ⟨w, S, ρ, s, re, p⟩ := h; p w H σ .refl s re
theorem S_brk : PS X (.Break pos) (tS X.K W sBrk) := PS.weak ps_break fun D σ H h => let ⟨w, S, ρ, s, re, p⟩ := h; p w H σ .refl s re
theorem S_cnt : PS X (.Continue pos) (tS X.K W sCnt) := PS.weak ps_continue fun D σ H h => let ⟨w, S, ρ, s, re, p⟩ := h; p w H σ .refl s re
theorem S_doc {x j} : PS X (.Expr (.Constant (.str x) j pos) pos') (tS X.K W sNext) := PS.weak ps_doc fun D σ H h => let ⟨w, S, ρ, s, re, p⟩ := h; p w H σ .refl s re
theorem S_expr (he : PE X e (tE X.K W fe)) (hs : swapsWith e none pos.line X.env = pure false := by rfl) : PS X (.Expr e pos) (tS X.K W (sExpr fe)) :=
  PS.weak (ps_expr he hs) fun D σ H h => by
    obtain ⟨w, S, ρ, s, re, p⟩ := h
    exact ⟨w, S, ρ, s, re, PostS.bind p re fun w1 H1 v d S1 e1 s1 rd p1 => p1 w1 H1 σ .refl s1 (re.mono e1)⟩
theorem S_ret (he : PE X e (tE X.K W fe)) : PS X (.Return (some e) pos) (tS X.K W (sRet fe)) :=
  PS.weak (ps_ret he) fun D σ H h => by
    obtain ⟨w, S, ρ, s, re, p⟩ := h
    exact ⟨w, S, ρ, s, re, PostS.bind p re fun w1 H1 v d S1 e1 s1 rd p1 => p1 w1 H1 v .refl s1 rd⟩
theorem S_retN : PS X (.Return none pos) (tS X.K W sRetN) := PS.weak ps_retN fun D σ H h => let ⟨w, S, ρ, s, re, p⟩ := h; p w H _ .refl s (by simp only [RV])
theorem S_set (i : Nat) {x : Str} (hN : X.N.Nodup) (he : PE X e (tE X.K W fe)) (hi : X.N[i]? = some x := by rfl) (hx : Loc X.env.scope x := by first | exact Or.inl rfl | exact Or.inr rfl) (hs : swapsWith e (some (.Name x pos')) pos.line X.env = pure false := by rfl)
    (hf : X.fn x = true ∨ X.env.scope.names.lookup x = some .local := by first | exact .inl rfl | exact .inr rfl | assumption) : PS X (.Assign [.Name x pos'] e pos) (tS X.K W (sSet i fe)) :=
  PS.weak (ps_set hN hi hx he hs hf) fun D σ H h => by
    obtain ⟨w, S, ρ, s, re, p⟩ := h
    exact ⟨w, S, ρ, s, re, PostS.bind p re fun w1 H1 v d S1 e1 s1 rd p1 => p1 w1 H1 _ .refl s1 ((re.mono e1).set rd)⟩
theorem S_asg {tg : Expr} {tt : Tg} (he : PE X e (tE X.K W fe)) (hg : PG X tg (gT X.K tt)) (hs : swapsWithSole [tg] e pos.line X.env = pure false := by rfl) (hw : swappedStores [tg] e X.env = pure none := by rfl)
    (h1 : (assignEach [tg] X.env).map (·.2) = [assign tg X.env] := by rfl) : PS X (.Assign [tg] e pos) (tS X.K W (sAsg tt fe)) :=
  PS.weak (ps_asg he hg hs hw h1) fun D σ H h => by
    obtain ⟨w, S, ρ, s, re, p⟩ := h
    refine ⟨w, S, ρ, s, re, PostS.bind p re fun w1 H1 v d S1 e1 s1 rd p1 => ?_⟩
    cases ha : tt.asg d ρ S1 with
    | none => rw [ha] at p1; exact p1.elim
    | some ρ1 =>
      rw [ha] at p1
      exact ⟨w1, S1, ρ, d, ρ1, s1, re.mono e1, rd, ha, fun σ' r' _ => p1 w1 H1 σ' .refl s1 r'⟩
theorem S_if {c : Expr} {a b : List Stmt} (hc : PT X c (tT X.K W t)) (ha : PSs X a (tS X.K W f)) (hb : PSs X b (tS X.K W g)) : PS X (.If c a b pos) (tS X.K W (sIf t f g)) :=
  PS.weak (ps_if hc ha hb) fun D σ H h => by
    obtain ⟨w, S, ρ, s, re, p⟩ := h
    refine ⟨w, S, ρ, s, re, PostS.bind p re fun w1 H1 v d S1 e1 s1 rd p1 => ?_⟩
    cases rd
    split
    · rename_i hx; rw [if_pos hx] at p1; exact ⟨w1, S1, ρ, s1, re.mono e1, p1⟩
    · rename_i hx; rw [if_neg hx] at p1; exact ⟨w1, S1, ρ, s1, re.mono e1, p1⟩
end
end Ev

namespace Ev
open PySem PySem.Spec PyProof.Rows L2

/-! ### what is walked -/
structure Wk where
  ds : List D
  at_ : Option (Nat × Cel)
def Wk.ok (k : Wk) (S : Sto) : Prop := match k.at_ with
  | none => True
  | some p => S[p.1]? = some p.2
def Walks (K : PySem.W.Frag) (w0 : Wo) (H0 : Hp) (k : Wk) (J : It) : Prop :=
  ∀ w H S, Ext w0 H0 w H → Sim K w S H → k.ok S →
    (∀ (i : Nat) (d : D), k.ds[i]? = some d → J.go i H ∧ ∀ x H', J.yld i H x H' → Ext w H w H' ∧ Sim K w S H' ∧ RV K w H' d x) ∧ J.stop k.ds.length H
abbrev IF := En → Sto → R Wk
def tI (K : PySem.W.Frag) (W : WX) (f : IF) : TI := tG K (Walks K) W f
section
variable {X : Cx} {W : WX} {tg iter : Expr}
theorem PI.weak {t t' : TI} (h : PI X tg iter t) (k : ∀ σ H R, t' σ H R → t σ H R) : PI X tg iter t' := ⟨fun pins s σ H R I q => h.run pins s σ H R I (k σ H R q)⟩
end
def iTupD (fe : EF) : IF := fun ρ S => (fe ρ S).bind fun d S1 => match tupOf d with
  | some ds => .ok ⟨ds, none⟩ S1
  | none => .no
def iLstD (fe : EF) : IF := fun ρ S => (fe ρ S).bind fun d S1 => match d with
  | .lst ds => .ok ⟨ds, none⟩ S1
  | .frz ds => .ok ⟨ds, none⟩ S1
  | .loc n => match S1[n]? with
    | some (.lst ds) => .ok ⟨ds, some (n, .lst ds)⟩ S1
    | _ => .no
  | _ => .no
def rngD (lo : Int) (n : Nat) : List D := (List.range n).map fun (i : Nat) => D.int (lo + i)
def big62 (i : Int) : Bool := decide (-(2 ^ 62) ≤ i ∧ i < 2 ^ 62)
def iRng1D (fa : AF) : IF := fun ρ S => (fa ρ S).bind fun ds S1 => match ds with
  | [.int j] => if big62 j then .ok ⟨rngD 0 j.toNat, none⟩ S1 else .no
  | _ => .no
def iRng2D (fa : AF) : IF := fun ρ S => (fa ρ S).bind fun ds S1 => match ds with
  | [.int i, .int j] => if big62 i && big62 j then .ok ⟨rngD i (j - i).toNat, none⟩ S1 else .no
  | _ => .no
theorem rngD_get {lo : Int} {n i : Nat} {d : D} (h : (rngD lo n)[i]? = some d) : i < n ∧ d = .int (lo + i) := by
  unfold rngD at h
  rw [List.getElem?_map] at h
  by_cases hi : i < n
  · rw [List.getElem?_range hi] at h
    exact ⟨hi, (Option.some.inj h).symm⟩
  · rw [List.getElem?_eq_none (by simpa using hi)] at h; cases h
@[simp] theorem rngD_length (lo : Int) (n : Nat) : (rngD lo n).length = n := by simp [rngD]
section
variable {K : PySem.W.Frag} {w : Wo} {H : Hp} {a : Addr} {ds : List D} {xs : List V}
theorem SqT.ext {w' : Wo} {H' : Hp} {S : Sto} (s : Sim K w S H) (e : Ext w H w' H') (h : SqT K H a xs) : SqT K H' a xs := by
  have hm : ∀ o, H a = some (.frz o (.tup xs)) → a ∉ w.m := fun o ho z => by
    obtain ⟨o', e', _⟩ := s.has z
    obtain ⟨i, hi, ei⟩ := List.getElem_of_mem z
    have hi' : i < S.length := by rw [← s.len]; exact hi
    obtain ⟨b, hb, hc⟩ := s.at_ i S[i] (List.getElem?_eq_getElem hi')
    rw [List.getElem?_eq_getElem hi, ei] at hb
    cases hb
    generalize S[i] = c at hc
    cases c with
    | lst _ => obtain ⟨_, q, _⟩ := hc; rw [ho] at q; cases q
    | dK _ => obtain ⟨_, q, _⟩ := hc; rw [ho] at q; cases q
    | dT _ => obtain ⟨_, q, _⟩ := hc; rw [ho] at q; cases q
    | fT _ => obtain ⟨_, _, q, _⟩ := hc; rw [ho] at q; cases q
    | ins _ _ => obtain ⟨_, _, _, _, q, _⟩ := hc; rw [ho] at q; cases q
  rcases h with (h | ⟨o, h⟩) | h
  · exact .inl (.inl (e.tup _ _ h))
  · exact .inl (.inr ⟨o, e.keep _ _ h (hm o h)⟩)
  · exact .inr h
theorem walks_tup {S0 : Sto} (s0 : Sim K w S0 H) (h : SqT K H a xs) (r : RVs K w H ds xs) : Walks K w H ⟨ds, none⟩ (Itt K a) := fun w1 H1 S e s _ => by
  have h1 := SqT.ext s0 e h
  have r1 := r.mono e
  refine ⟨fun i d hd => ?_, ⟨xs, h1, by rw [r.length]; exact Nat.le_refl _⟩⟩
  obtain ⟨v, hv, rv⟩ := r1.get hd
  refine ⟨⟨xs, v, h1, hv⟩, fun x H' hy => ?_⟩
  obtain ⟨rfl, hy⟩ := hy
  have : x = v := Option.some.inj ((hy xs h1).symm.trans hv)
  subst this
  exact ⟨.refl, s, rv⟩
theorem walks_lst (hm : (∃ o, H a = some o) ∧ a ∉ w.m) (h : Rd H a (.lst xs)) (r : RVs K w H ds xs) : Walks K w H ⟨ds, none⟩ (Itl K a) := fun w1 H1 S e s _ => by
  have h1 : SqL K H1 a xs := .inl (e.rd h hm.2)
  have r1 := r.mono e
  refine ⟨fun i d hd => ?_, ⟨xs, h1, by rw [r.length]; exact Nat.le_refl _⟩⟩
  obtain ⟨v, hv, rv⟩ := r1.get hd
  refine ⟨⟨xs, v, h1, hv⟩, fun x H' hy => ?_⟩
  obtain ⟨rfl, hy⟩ := hy
  have : x = v := Option.some.inj ((hy xs h1).symm.trans hv)
  subst this
  exact ⟨.refl, s, rv⟩
theorem walks_frz (h : Frz K w H a xs) (r : RVs K w H ds xs) : Walks K w H ⟨ds, none⟩ (Itl K a) := fun w1 H1 S e s _ => by
  have h1 : SqL K H1 a xs := (h.mono e).sq
  have r1 := r.mono e
  refine ⟨fun i d hd => ?_, ⟨xs, h1, by rw [r.length]; exact Nat.le_refl _⟩⟩
  obtain ⟨v, hv, rv⟩ := r1.get hd
  refine ⟨⟨xs, v, h1, hv⟩, fun x H' hy => ?_⟩
  obtain ⟨rfl, hy⟩ := hy
  have : x = v := Option.some.inj ((hy xs h1).symm.trans hv)
  subst this
  exact ⟨.refl, s, rv⟩
theorem walks_loc {n : Nat} (hn : w.m[n]? = some a) : Walks K w H ⟨ds, some (n, .lst ds)⟩ (Itl K a) := fun w1 H1 S e s ok => by
  have ok : S[n]? = some (.lst ds) := ok
  obtain ⟨b, hb, xs, hx, r1⟩ := s.at_ n _ ok
  obtain ⟨t, ht⟩ := e.pre
  rw [← ht, List.getElem?_append_left (List.getElem?_eq_some_iff.mp hn).1, hn] at hb
  cases hb
  have h1 : SqL K H1 a xs := SqL.of hx
  refine ⟨fun i d hd => ?_, ⟨xs, h1, by rw [r1.length]; exact Nat.le_refl _⟩⟩
  obtain ⟨v, hv, rv⟩ := r1.get hd
  refine ⟨⟨xs, v, h1, hv⟩, fun x H' hy => ?_⟩
  obtain ⟨rfl, hy⟩ := hy
  have : x = v := Option.some.inj ((hy xs h1).symm.trans hv)
  subst this
  exact ⟨.refl, s, rv⟩
theorem walks_rng {lo : Int} {n : Nat} : Walks K w H ⟨rngD lo n, none⟩ (Itr lo n) := fun w1 H1 S e s _ => by
  refine ⟨fun i d hd => ?_, by rw [rngD_length]; exact Nat.le_refl _⟩
  obtain ⟨h1, h2⟩ := rngD_get hd
  refine ⟨h1, fun x H' hy => ?_⟩
  obtain ⟨rfl, rfl⟩ := hy
  subst h2
  exact ⟨.refl, s, by simp only [RV]⟩
end
section
variable {X : Cx} {W : WX} {tg e : Expr} {fe : EF} {fa : AF} {p pos : Pos}
theorem I_tup (he : PE X e (tE X.K W fe)) : PI X tg e (tI X.K W (iTupD fe)) :=
  PI.weak (pi_tup he) fun σ H R h => by
    obtain ⟨w, S, ρ, s, re, p⟩ := h
    refine ⟨w, S, ρ, s, re, p.bind fun w1 H1 v d S1 e1 s1 rd p1 => ?_⟩
    cases hd : tupOf d with
    | none => rw [hd] at p1; exact p1.elim
    | some ds =>
      rw [hd] at p1
      obtain ⟨a, xs, h1, h2, h3⟩ := tupOf_sq rd hd
      exact ⟨a, h1, ⟨xs, h2⟩, p1 w1 H1 _ .refl s1 (walks_tup s1 h2 h3)⟩
theorem I_lst (he : PE X e (tE X.K W fe)) : PI X tg e (tI X.K W (iLstD fe)) :=
  PI.weak (pi_list he) fun σ H R h => by
    obtain ⟨w, S, ρ, s, re, p⟩ := h
    refine ⟨w, S, ρ, s, re, p.bind fun w1 H1 v d S1 e1 s1 rd p1 => ?_⟩
    cases d with
    | lst ds =>
      simp only [RV] at rd
      obtain ⟨a, xs, h1, h2, h4, h3⟩ := rd
      exact ⟨a, h1, ⟨xs, SqL.of h2⟩, p1 w1 H1 _ .refl s1 (walks_lst ⟨⟨_, h2⟩, h4.1⟩ (.inl h2) h3)⟩
    | frz ds =>
      simp only [RV] at rd
      obtain ⟨a, xs, h1, h2, h3⟩ := rd
      exact ⟨a, h1, ⟨xs, h2.sq⟩, p1 w1 H1 _ .refl s1 (walks_frz h2 h3)⟩
    | loc n =>
      dsimp only at p1
      split at p1
      · rename_i ds hd
        obtain ⟨a, h1, h2, xs, h3, h4⟩ := s1.get hd rd
        exact ⟨a, h1, ⟨xs, SqL.of h3⟩, p1 w1 H1 _ .refl s1 (walks_loc h2)⟩
      · exact p1.elim
    | _ => exact p1.elim
theorem big62_iff {i : Int} (h : big62 i = true) : -(2 ^ 62) ≤ i ∧ i < 2 ^ 62 := of_decide_eq_true h
theorem RVs.one {K : PySem.W.Frag} {w : Wo} {H : Hp} {d : D} {vs : List V} (r : RVs K w H [d] vs) : ∃ v, vs = [v] ∧ RV K w H d v := by
  simp only [RVs] at r
  obtain ⟨v, t, h1, h2, h3⟩ := r
  subst h3 h1
  exact ⟨v, rfl, h2⟩
theorem RVs.two {K : PySem.W.Frag} {w : Wo} {H : Hp} {d e : D} {vs : List V} (r : RVs K w H [d, e] vs) : ∃ v u, vs = [v, u] ∧ RV K w H d v ∧ RV K w H e u := by
  simp only [RVs] at r
  obtain ⟨v, t, h1, h2, u, t2, h3, h4, h5⟩ := r
  subst h5 h3 h1
  exact ⟨v, u, rfl, h2, h4⟩
theorem I_rng1 {a : Expr} (hm : X.mg "range" = none) (ha : PA X [a] (tA X.K W fa)) (hg : Gl X "range" := by rfl) (hs : starEach [a] X.env = [(false, eval a X.env)] := by rfl) :
    PI X tg (.Call (.Name "range" p) [a] [] pos) (tI X.K W (iRng1D fa)) :=
  PI.weak (pi_range1 hg hm ha hs) fun σ H R h => by
    obtain ⟨w, S, ρ, s, re, p⟩ := h
    refine ⟨w, S, ρ, s, re, p.bind fun w1 H1 vs ds S1 e1 s1 rd p1 => ?_⟩
    split at p1
    · rename_i j
      split at p1
      · rename_i hb
        obtain ⟨v, rfl, rv⟩ := rd.one
        simp only [RV] at rv
        subst rv
        have hb := big62_iff hb
        exact ⟨j, rfl, hb.1, hb.2, p1 w1 H1 _ .refl s1 walks_rng⟩
      · exact p1.elim
    · exact p1.elim
theorem I_rng2 {a b : Expr} (hm : X.mg "range" = none) (ha : PA X [a, b] (tA X.K W fa)) (hg : Gl X "range" := by rfl) (hs : starEach [a, b] X.env = [(false, eval a X.env), (false, eval b X.env)] := by rfl) (hs2 : starEach [b] X.env = [(false, eval b X.env)] := by rfl) :
    PI X tg (.Call (.Name "range" p) [a, b] [] pos) (tI X.K W (iRng2D fa)) :=
  PI.weak (pi_range2 hg hm ha hs hs2) fun σ H R h => by
    obtain ⟨w, S, ρ, s, re, p⟩ := h
    refine ⟨w, S, ρ, s, re, p.bind fun w1 H1 vs ds S1 e1 s1 rd p1 => ?_⟩
    split at p1
    · rename_i i j
      split at p1
      · rename_i hb
        obtain ⟨v, u, rfl, rv, ru⟩ := rd.two
        simp only [RV] at rv ru
        subst rv ru
        simp only [Bool.and_eq_true] at hb
        have hb1 := big62_iff hb.1
        have hb2 := big62_iff hb.2
        exact ⟨i, j, rfl, ⟨hb1.1, hb1.2, hb2.1, hb2.2⟩, p1 w1 H1 _ .refl s1 walks_rng⟩
      · exact p1.elim
    · exact p1.elim
end

/-! ### for -/
open Classical in
noncomputable def Wk.guard {α : Type} (k : Wk) (S : Sto) (no : α) (o : α) : α := if k.ok S then o else no
theorem Wk.guard_none {α : Type} (ds : List D) (S : Sto) (no o : α) : (Wk.mk ds none).guard S no o = o := by
  unfold Wk.guard
  exact if_pos True.intro
theorem Wk.guard_some {α : Type} {ds : List D} {n : Nat} {S : Sto} (no o : α) (h : S[n]? = some (.lst ds)) : (Wk.mk ds (some (n, .lst ds))).guard S no o = o := by
  unfold Wk.guard
  exact if_pos h
noncomputable def forGo (k : Wk) (tg : Tg) (b : SF) : List D → En → Sto → O
  | [], ρ, S => k.guard S .no (.nx ρ S)
  | d :: ds, ρ, S => k.guard S .no (match tg.asg d ρ S with
    | some ρ1 => match b ρ1 S with
      | .nx ρ2 S2 => forGo k tg b ds ρ2 S2
      | .ct ρ2 S2 => forGo k tg b ds ρ2 S2
      | .bk ρ2 S2 => .nx ρ2 S2
      | .rt d S2 => .rt d S2
      | .ex e ρ2 S2 => .ex e ρ2 S2
      | .no => .no
    | none => .no)
noncomputable def sFor (fi : IF) (tg : Tg) (b : SF) : SF := fun ρ S => sB (fi ρ S) ρ fun k S1 => forGo k tg b k.ds ρ S1
section
variable {X : Cx} {W : WX} {pos : Pos} {tg iter : Expr} {body : List Stmt} {fi : IF} {t : Tg} {b : SF}
theorem guardS {K : PySem.W.Frag} {w : Wo} {H : Hp} {k : Wk} {S : Sto} {o : O} {D : Ends} (h : PostS K W w H (k.guard S .no o) D) : k.ok S ∧ PostS K W w H o D := by
  unfold Wk.guard at h
  split at h
  · rename_i hk; exact ⟨hk, h⟩
  · exact h.elim
theorem S_for (hp : PassesOwn (model X.prog X.w) X.A X.env X.xe) (hc : X.calm = true) (hi : PI X tg iter (tI X.K W fi)) (hg : PG X tg (gT X.K t)) (hb : PSs X body (tS X.K W b))
    (hs : ∀ x, foldedSetIterable iter X.env x = pure x := by intro _; rfl) : PS X (.For tg iter body [] pos) (tS X.K W (sFor fi t b)) :=
  PS.weak (ps_for hp hc hi hg hb hs) fun D σ H h => by
    obtain ⟨w, S, ρ, s, re, p⟩ := h
    refine ⟨w, S, ρ, s, re, PostS.bind p re fun w0 H0 J k S0 e0 s0 wk p0 => ?_⟩
    refine ⟨fun i m σ H => ∃ w S ρ, m = k.ds.length - i ∧ i ≤ k.ds.length ∧ Ext w0 H0 w H ∧ Sim X.K w S H ∧ REnv X.K w H ρ σ ∧ PostS X.K W w H (forGo k t b (k.ds.drop i) ρ S) D, ⟨_, w0, S0, ρ, rfl, Nat.zero_le _, .refl, s0, re.mono e0, by simpa using p0⟩, ?_⟩
    rintro i m σ1 H1 ⟨w1, S1, ρ1, rfl, hi, e1, s1, r1, p1⟩
    rcases Nat.lt_or_ge i k.ds.length with hlt | hge
    · rw [List.drop_eq_getElem_cons hlt] at p1
      unfold forGo at p1
      obtain ⟨ok, p1⟩ := guardS p1
      obtain ⟨g1, _⟩ := wk w1 H1 S1 e1 s1 ok
      obtain ⟨g1, g2⟩ := g1 i _ (List.getElem?_eq_getElem hlt)
      refine .inr ⟨g1, fun σ2 H2 => ∃ w2 S2 ρ2, Ext w0 H0 w2 H2 ∧ Sim X.K w2 S2 H2 ∧ REnv X.K w2 H2 ρ2 σ2 ∧ PostS X.K W w2 H2 (forGo k t b (k.ds.drop (i + 1)) ρ2 S2) D, ?_, fun x H2 hy => ?_⟩
      · rintro σ2 H2 ⟨w2, S2, ρ2, e2, s2, r2, p2⟩
        exact ⟨k.ds.length - (i + 1), by omega, w2, S2, ρ2, rfl, hlt, e2, s2, r2, p2⟩
      · obtain ⟨e2, s2, rx⟩ := g2 x H2 hy
        cases ha : t.asg k.ds[i] ρ1 S1 with
        | none => rw [ha] at p1; exact p1.elim
        | some ρ2 =>
          rw [ha] at p1
          dsimp only at p1
          refine ⟨w1, S1, ρ1, k.ds[i], ρ2, s2, r1.mono e2, rx, ha, fun σ2 r2 _ => ⟨w1, S1, ρ2, s2, r2, ?_⟩⟩
          have p1 := PostS.shift e2 p1
          cases hb : b ρ2 S1 with
          | nx ρ3 S3 => rw [hb] at p1; exact fun w3 H3 σ3 e3 s3 r3 => ⟨w3, S3, ρ3, e1.trans (e2.trans e3), s3, r3, PostS.shift e3 p1⟩
          | ct ρ3 S3 => rw [hb] at p1; exact fun w3 H3 σ3 e3 s3 r3 => ⟨w3, S3, ρ3, e1.trans (e2.trans e3), s3, r3, PostS.shift e3 p1⟩
          | bk ρ3 S3 => rw [hb] at p1; exact p1
          | rt d S3 => rw [hb] at p1; exact p1
          | ex x ρ3 S3 => rw [hb] at p1; exact p1
          | no => rw [hb] at p1; exact p1
    · have hi' : i = k.ds.length := Nat.le_antisymm hi hge
      subst hi'
      rw [List.drop_length] at p1
      unfold forGo at p1
      obtain ⟨ok, p1⟩ := guardS p1
      obtain ⟨_, g2⟩ := wk w1 H1 S1 e1 s1 ok
      exact .inl ⟨g2, p1 w1 H1 σ1 .refl s1 r1⟩
end

/-! ### while -/
def whGo (t : BF) (b : SF) : Nat → En → Sto → O
  | 0, _, _ => .no
  | n + 1, ρ, S => sB (t ρ S) ρ fun c S1 => if c = true then (match b ρ S1 with
      | .nx ρ2 S2 => whGo t b n ρ2 S2
      | .ct ρ2 S2 => whGo t b n ρ2 S2
      | .bk ρ2 S2 => .nx ρ2 S2
      | .rt d S2 => .rt d S2
      | .ex e ρ2 S2 => .ex e ρ2 S2
      | .no => .no) else .nx ρ S1
def sWhile (n : Nat) (t : BF) (b : SF) : SF := fun ρ S => whGo t b n ρ S
section
variable {X : Cx} {W : WX} {pos : Pos} {c : Expr} {body : List Stmt} {t : BF} {b : SF}
theorem S_while (n : Nat) (hp : PassesOwn (model X.prog X.w) X.A X.env X.xe) (hc : PT X c (tT X.K W t)) (hb : PSs X body (tS X.K W b)) : PS X (.While c body [] pos) (tS X.K W (sWhile n t b)) :=
  PS.weak (ps_while hp hc hb) fun D σ H h => by
    obtain ⟨w, S, ρ, s, re, p⟩ := h
    refine ⟨fun m σ H => ∃ w S ρ, Sim X.K w S H ∧ REnv X.K w H ρ σ ∧ PostS X.K W w H (whGo t b m ρ S) D, ⟨n, w, S, ρ, s, re, p⟩, ?_⟩
    rintro m σ1 H1 ⟨w1, S1, ρ1, s1, r1, p1⟩
    cases m with
    | zero => exact p1.elim
    | succ m =>
      unfold whGo at p1
      refine ⟨w1, S1, ρ1, s1, r1, PostS.bind p1 r1 fun w2 H2 v c S2 e2 s2 rc p2 => ?_⟩
      cases rc
      split
      · rename_i hx
        rw [if_pos hx] at p2
        refine ⟨fun σ3 H3 => ∃ w S ρ, Sim X.K w S H3 ∧ REnv X.K w H3 ρ σ3 ∧ PostS X.K W w H3 (whGo t b m ρ S) D, fun σ3 H3 q => ⟨m, Nat.lt_succ_self _, q⟩, w2, S2, ρ1, s2, r1.mono e2, ?_⟩
        cases hb : b ρ1 S2 with
        | nx ρ3 S3 => rw [hb] at p2; exact fun w3 H3 σ3 e3 s3 r3 => ⟨w3, S3, ρ3, s3, r3, PostS.shift e3 p2⟩
        | ct ρ3 S3 => rw [hb] at p2; exact fun w3 H3 σ3 e3 s3 r3 => ⟨w3, S3, ρ3, s3, r3, PostS.shift e3 p2⟩
        | bk ρ3 S3 => rw [hb] at p2; exact p2
        | rt d S3 => rw [hb] at p2; exact p2
        | ex x ρ3 S3 => rw [hb] at p2; exact p2
        | no => rw [hb] at p2; exact p2
      · rename_i hx
        rw [if_neg hx] at p2
        exact p2 w2 H2 σ1 .refl s2 (r1.mono e2)
end
end Ev

namespace Ev
open PySem PySem.Spec PyProof.Rows L2

def R.nox {α : Type} (r : R α) : R α := match r with
  | .ok a S => .ok a S
  | _ => .no
@[simp] theorem R.nox_ok {α : Type} (a : α) (S : Sto) : (R.ok a S).nox = .ok a S := rfl
@[simp] theorem R.nox_no {α : Type} : (R.no : R α).nox = .no := rfl
abbrev WF : WX := fun _ _ _ _ => False
def bYes : BF := fun _ S => .ok true S
noncomputable def lcGo (k : Wk) (tg : Tg) (tt : BF) (te : EF) (ρ0 : En) : List D → Sto → R (List D)
  | [], S => k.guard S .no (.ok [] S)
  | d :: ds, S => k.guard S .no (match tg.asg d ρ0 S with
    | some ρ1 => (tt ρ1 S).nox.bind fun b S1 => if b = true then (te ρ1 S1).nox.bind fun y S2 => (lcGo k tg tt te ρ0 ds S2).bind fun r S3 => .ok (y :: r) S3 else lcGo k tg tt te ρ0 ds S1
    | none => .no)
noncomputable def eLc (fi : IF) (tg : Tg) (tt : BF) (te : EF) (vs : List Nat) : EF := fun ρ S => (fi ρ S).bind fun k S1 => (lcGo k tg tt te (wipeD ρ vs) k.ds S1).bind fun ys S2 => if ys.length ≤ sizeLine then .ok (.lst ys) S2 else .no
noncomputable def eLcA (fi : IF) (tg : Tg) (tt : BF) (te : EF) (vs : List Nat) : EF := fun ρ S => (fi ρ S).bind fun k S1 => (lcGo k tg tt te (wipeD ρ vs) k.ds S1).bind fun ys S2 => if ys.length ≤ sizeLine then .ok (.loc S2.length) (S2 ++ [.lst ys]) else .no

section
variable {K : PySem.W.Frag} {w w' : Wo} {S : Sto} {H H' : Hp} {ρ : En} {σ : St} {p : Addr}
/-- a private place -/
def Wo.pr (w : Wo) (p : Addr) : Wo := ⟨w.m, p :: w.q⟩
theorem Ext.pr {o : HO} (hp : H p = none) : Ext w H (w.pr p) (upd H p o) :=
  ⟨List.prefix_refl _, fun _ h => List.mem_cons_of_mem _ h, fun a h => by
    rcases List.mem_cons.mp h with z | z
    · exact .inr (z ▸ hp)
    · exact .inl z, fun _ h => .inl h, fun a xs h => by rw [upd_ne (ne_of_none h hp)]; exact h, fun a o h _ => by rw [upd_ne (ne_of_none h hp)]; exact h, fun a o h => ⟨o, by rw [upd_ne (ne_of_none h hp)]; exact h⟩, fun a od u h => by rw [upd_ne (ne_of_none h hp)]; exact h⟩
theorem Sim.pr {o : HO} (s : Sim K w S H) (hp : H p = none) : Sim K (w.pr p) S (upd H p o) := by
  refine ⟨s.len, s.nd, fun i c e => ?_, fun a ha => ?_⟩
  · obtain ⟨a, h1, h2⟩ := s.at_ i c e
    exact ⟨a, h1, h2.mono (Ext.pr hp) fun o q => by rw [upd_ne (ne_of_none q hp)]; exact q⟩
  · rcases List.mem_cons.mp ha with z | z
    · subst z
      refine ⟨fun hm => ?_, o, upd_same⟩
      obtain ⟨o', e, _⟩ := s.has hm
      rw [hp] at e; cases e
    · obtain ⟨h1, o', h2⟩ := s.priv a z
      exact ⟨h1, o', by rw [upd_ne (ne_of_none h2 hp)]; exact h2⟩
mutual
theorem RV.upq {xs ys : List V} (hq : p ∈ w.q) (hp : H p = some (.lst xs)) : ∀ {d : D} {v : V}, RV K w H d v → RV K w (upd H p (.lst ys)) d v
  | .non, v, h => by simpa only [RV] using h
  | .bl b, v, h => by simpa only [RV] using h
  | .int i, v, h => by simpa only [RV] using h
  | .str x, v, h => by simpa only [RV] using h
  | .tup ds, v, h => by
    simp only [RV] at h ⊢
    obtain ⟨a, zs, h1, h2, h3⟩ := h
    exact ⟨a, zs, h1, by rw [upd_ne (ne_of h2 hp (fun z => nomatch z))]; exact h2, RVs.upq hq hp h3⟩
  | .con ds, v, h => by
    simp only [RV] at h ⊢
    obtain ⟨a, zs, h1, h2, h3⟩ := h
    exact ⟨a, zs, h1, h2, RVs.upq hq hp h3⟩
  | .lst ds, v, h => by
    simp only [RV] at h ⊢
    obtain ⟨a, zs, h1, h2, h3, h5⟩ := h
    have na : a ≠ p := fun z => h3.2 (by rw [z]; exact hq)
    exact ⟨a, zs, h1, by rw [upd_ne na]; exact h2, h3, RVs.upq hq hp h5⟩
  | .frz ds, v, h => by
    simp only [RV] at h ⊢
    obtain ⟨a, zs, h1, h2, h5⟩ := h
    refine ⟨a, zs, h1, ?_, RVs.upq hq hp h5⟩
    rcases h2 with ⟨o, h2, h3⟩ | h2
    · have na : a ≠ p := fun z => h3.2 (by rw [z]; exact hq)
      exact .inl ⟨o, by rw [upd_ne na]; exact h2, h3⟩
    · exact .inr h2
  | .loc n, v, h => by simpa only [RV] using h
  | .fn x, v, h => by simpa only [RV] using h
  | .exc a dd f d, v, h => by
    simp only [RV] at h ⊢
    obtain ⟨h1, x, h2, h3, h5⟩ := h
    have na : dd ≠ p := fun z => h3.2 (by rw [z]; exact hq)
    exact ⟨h1, x, by rw [upd_ne na]; exact h2, h3, RV.upq hq hp h5⟩
theorem RVs.upq {xs ys : List V} (hq : p ∈ w.q) (hp : H p = some (.lst xs)) : ∀ {ds : List D} {vs : List V}, RVs K w H ds vs → RVs K w (upd H p (.lst ys)) ds vs
  | [], vs, h => by simpa only [RVs] using h
  | d :: ds, vs, h => by
    simp only [RVs] at h ⊢
    obtain ⟨v, r, h1, h2, h3⟩ := h
    exact ⟨v, r, h1, RV.upq hq hp h2, RVs.upq hq hp h3⟩
end
theorem RC.upq {xs ys : List V} {a : Addr} {c : Cel} (hq : p ∈ w.q) (hp : H p = some (.lst xs)) (ha : a ≠ p) (h : RC K w H a c) : RC K w (upd H p (.lst ys)) a c := by
  cases c with
  | lst ds => obtain ⟨xs, h1, h2⟩ := h; exact ⟨xs, by rw [upd_ne ha]; exact h1, h2.upq hq hp⟩
  | dK kvs => obtain ⟨vs, h1, h2, h3⟩ := h; exact ⟨vs, by rw [upd_ne ha]; exact h1, h2, h3.upq hq hp⟩
  | dT kvs => obtain ⟨vs, h1, h2, h3⟩ := h; exact ⟨vs, by rw [upd_ne ha]; exact h1, h2, h3.upq hq hp⟩
  | fT kvs => obtain ⟨od, vs, h1, h2, h3⟩ := h; exact ⟨od, vs, by rw [upd_ne ha]; exact h1, h2, h3.upq hq hp⟩
  | ins c fs => obtain ⟨C, dx, vs, h0, h1, h2, h3⟩ := h; exact ⟨C, dx, vs, h0, by rw [upd_ne ha]; exact h1, h2, h3.upq hq hp⟩
theorem Sim.upq {xs ys : List V} (s : Sim K w S H) (hq : p ∈ w.q) (hp : H p = some (.lst xs)) : Sim K w S (upd H p (.lst ys)) := by
  have np := (s.priv p hq).1
  refine ⟨s.len, s.nd, fun i c e => ?_, fun a ha => ?_⟩
  · obtain ⟨a, h1, h2⟩ := s.at_ i c e
    exact ⟨a, h1, h2.upq hq hp fun z => np (z ▸ List.mem_of_getElem? h1)⟩
  · obtain ⟨h1, o', h2⟩ := s.priv a ha
    by_cases z : a = p
    · exact ⟨h1, _, by rw [z, upd_same]⟩
    · exact ⟨h1, o', by rw [upd_ne z]; exact h2⟩
theorem REnv.upq {xs ys : List V} (hq : p ∈ w.q) (hp : H p = some (.lst xs)) (h : REnv K w H ρ σ) : REnv K w (upd H p (.lst ys)) ρ σ := ⟨h.1, fun i d q => let ⟨v, a, b⟩ := h.2 i d q; ⟨v, a, b.upq hq hp⟩⟩
theorem Ext.upq {xs ys : List V} {H0 : Hp} {w0 : Wo} (e : Ext w0 H0 w H) (h0 : H0 p = none) (hp : H p = some (.lst xs)) : Ext w0 H0 w (upd H p (.lst ys)) :=
  ⟨e.pre, e.q, e.newq, e.new, fun a zs h => by rw [upd_ne (ne_of_none h h0)]; exact e.tup a zs h, fun a o h hm => by rw [upd_ne (ne_of_none h h0)]; exact e.keep a o h hm, fun a o h => by rw [upd_ne (ne_of_none h h0)]; exact e.live a o h, fun a od u h => by rw [upd_ne (ne_of_none h h0)]; exact e.frz a od u h⟩
mutual
theorem RV.shrink {q : List Addr} (hq : ∀ a ∈ q, a ∈ w.q) : ∀ {d : D} {v : V}, RV K w H d v → RV K ⟨w.m, q⟩ H d v
  | .non, v, h => by simpa only [RV] using h
  | .bl b, v, h => by simpa only [RV] using h
  | .int i, v, h => by simpa only [RV] using h
  | .str x, v, h => by simpa only [RV] using h
  | .tup ds, v, h => by
    simp only [RV] at h ⊢
    obtain ⟨a, zs, h1, h2, h3⟩ := h
    exact ⟨a, zs, h1, h2, RVs.shrink hq h3⟩
  | .con ds, v, h => by
    simp only [RV] at h ⊢
    obtain ⟨a, zs, h1, h2, h3⟩ := h
    exact ⟨a, zs, h1, h2, RVs.shrink hq h3⟩
  | .lst ds, v, h => by
    simp only [RV] at h ⊢
    obtain ⟨a, zs, h1, h2, h3, h5⟩ := h
    exact ⟨a, zs, h1, h2, ⟨h3.1, fun z => h3.2 (hq a z)⟩, RVs.shrink hq h5⟩
  | .frz ds, v, h => by
    simp only [RV] at h ⊢
    obtain ⟨a, zs, h1, h2, h5⟩ := h
    refine ⟨a, zs, h1, ?_, RVs.shrink hq h5⟩
    rcases h2 with ⟨o, h2, h3⟩ | h2
    · exact .inl ⟨o, h2, h3.1, fun z => h3.2 (hq a z)⟩
    · exact .inr h2
  | .loc n, v, h => by simpa only [RV] using h
  | .fn x, v, h => by simpa only [RV] using h
  | .exc a dd f d, v, h => by
    simp only [RV] at h ⊢
    obtain ⟨h1, x, h2, h3, h5⟩ := h
    exact ⟨h1, x, h2, ⟨h3.1, fun z => h3.2 (hq dd z)⟩, RV.shrink hq h5⟩
theorem RVs.shrink {q : List Addr} (hq : ∀ a ∈ q, a ∈ w.q) : ∀ {ds : List D} {vs : List V}, RVs K w H ds vs → RVs K ⟨w.m, q⟩ H ds vs
  | [], vs, h => by simpa only [RVs] using h
  | d :: ds, vs, h => by
    simp only [RVs] at h ⊢
    obtain ⟨v, r, h1, h2, h3⟩ := h
    exact ⟨v, r, h1, RV.shrink hq h2, RVs.shrink hq h3⟩
end
theorem Sim.shrink {q : List Addr} (s : Sim K w S H) (hq : ∀ a ∈ q, a ∈ w.q) : Sim K ⟨w.m, q⟩ S H := by
  refine ⟨s.len, s.nd, fun i c e => ?_, fun a ha => s.priv a (hq a ha)⟩
  obtain ⟨a, h1, h2⟩ := s.at_ i c e
  refine ⟨a, h1, ?_⟩
  cases c with
  | lst ds => obtain ⟨xs, h1, h2⟩ := h2; exact ⟨xs, h1, h2.shrink hq⟩
  | dK kvs => obtain ⟨vs, h1, h2, h3⟩ := h2; exact ⟨vs, h1, h2, h3.shrink hq⟩
  | dT kvs => obtain ⟨vs, h1, h2, h3⟩ := h2; exact ⟨vs, h1, h2, h3.shrink hq⟩
  | fT kvs => obtain ⟨od, vs, h1, h2, h3⟩ := h2; exact ⟨od, vs, h1, h2, h3.shrink hq⟩
  | ins c fs => obtain ⟨C, dx, vs, h0, h1, h2, h3⟩ := h2; exact ⟨C, dx, vs, h0, h1, h2, h3.shrink hq⟩
theorem Ext.shrink (e : Ext w H w' H') : Ext w H ⟨w'.m, w.q⟩ H' := ⟨e.pre, fun _ h => h, fun _ h => .inl h, e.new, e.tup, e.keep, e.live, e.frz⟩
theorem wipe_wipe (σ : St) (vs : List Nat) : wipe (wipe σ vs) vs = wipe σ vs := by
  have key : ∀ us : List Nat, (∀ i ∈ us, i ∈ vs) → wipe (wipe σ us) vs = wipe σ vs := by
    intro us
    induction us with
    | nil => intro _; rfl
    | cons u us ih =>
      intro h
      have e : wipe σ (u :: us) = (wipe σ us).set u none := rfl
      rw [e, wipe_set _ _ _ _ (h u List.mem_cons_self)]
      exact ih fun i hi => h i (List.mem_cons_of_mem _ hi)
  exact key vs fun _ h => h
end
theorem guardR {α β : Type} {K : PySem.W.Frag} {W : WX} {rel : Wo → Hp → β → α → Prop} {γ : Type} {w : Wo} {H : Hp} {σ : St} {k : Wk} {S : Sto} {r : R γ} {g : γ → Sto → R β} {Q : α → Hp → Prop}
    (h : PostG K rel W w H σ ((k.guard S .no r).bind g) Q) : k.ok S ∧ PostG K rel W w H σ (r.bind g) Q := by
  unfold Wk.guard at h
  split at h
  · rename_i hk; exact ⟨hk, h⟩
  · exact h.elim
theorem R.bind_assoc {α β γ : Type} (r : R α) (f : α → Sto → R β) (g : β → Sto → R γ) : (r.bind f).bind g = r.bind fun a S => (f a S).bind g := by cases r <;> rfl
/-- the reading of a comprehension, by the store's function; fin: what is made of the items -/
theorem lc_of {K : PySem.W.Frag} {W : WX} {fi : IF} {tg : Tg} {tt : BF} {te : EF} {vs : List Nat} {fin : List D → Sto → R D} {σ : St} {H : Hp} {Q : VK} (hv : ∀ i ∈ tg.slots, i ∈ vs)
    (hfin : ∀ (w0 : Wo) (H0 : Hp) (ys : List D) (S : Sto), PostG K (RV K) W w0 H0 σ (fin ys S) Q → ys.length ≤ sizeLine ∧
      ∀ w H xs p, Ext w0 H0 w H → H0 p = none → Sim K w S H → H p = some (.lst xs) → p ∈ w.q → p ∉ w0.q → RVs K w H ys xs → Q (.ref p) H)
    (h : ∃ w S ρ, Sim K w S H ∧ REnv K w H ρ σ ∧ PostG K (RV K) W w H σ ((fi ρ S).bind fun k S1 => (lcGo k tg tt te (wipeD ρ vs) k.ds S1).bind fin) Q) :
    tLc (tI K W fi) (gT K tg) (tT K WF tt) (tE K WF te) vs σ H Q := by
  obtain ⟨w, S, ρ, s, re, p⟩ := h
  refine ⟨w, S, ρ, s, re, p.bind fun w0 H0 J k S0 e0 s0 wk p0 => ?_⟩
  intro L hL
  have hlen : ∀ {ys r : List D} {S3 : Sto}, PostG K (RV K) W w0 H0 σ (fin (ys ++ r) S3) Q → ys.length ≤ sizeLine := fun {ys r S3} q => by
    have := (hfin w0 H0 _ _ q).1
    rw [List.length_append] at this
    omega
  have r0 := (re.mono e0).wipe vs
  refine ⟨fun i m H => ∃ w1 S1 acc xs, m = k.ds.length - i ∧ i ≤ k.ds.length ∧ Ext w0 H0 w1 H ∧ Sim K w1 S1 H ∧ REnv K w1 H (wipeD ρ vs) (wipe σ vs) ∧ H L = some (.lst xs) ∧ L ∈ w1.q ∧ RVs K w1 H acc xs ∧
      PostG K (RV K) W w0 H0 σ ((lcGo k tg tt te (wipeD ρ vs) (k.ds.drop i) S1).bind fun r S3 => fin (acc ++ r) S3) Q,
    ⟨_, w0.pr L, S0, [], [], rfl, Nat.zero_le _, Ext.pr hL, s0.pr hL, r0.mono (Ext.pr hL), upd_same, List.mem_cons_self, .nil, by simpa using p0⟩, ?_⟩
  rintro i m H1 ⟨w1, S1, acc, xs, rfl, hi, e1, s1, r1, hx, hq, ra, p1⟩
  rcases Nat.lt_or_ge i k.ds.length with hlt | hge
  · rw [List.drop_eq_getElem_cons hlt] at p1
    unfold lcGo at p1
    obtain ⟨ok, p1⟩ := guardR p1
    obtain ⟨g1, _⟩ := wk w1 H1 S1 e1 s1 ok
    obtain ⟨g1, g2⟩ := g1 i _ (List.getElem?_eq_getElem hlt)
    refine .inr ⟨g1, fun H => ∃ w1 S1 acc xs, Ext w0 H0 w1 H ∧ Sim K w1 S1 H ∧ REnv K w1 H (wipeD ρ vs) (wipe σ vs) ∧ H L = some (.lst xs) ∧ L ∈ w1.q ∧ RVs K w1 H acc xs ∧
      PostG K (RV K) W w0 H0 σ ((lcGo k tg tt te (wipeD ρ vs) (k.ds.drop (i + 1)) S1).bind fun r S3 => fin (acc ++ r) S3) Q, ?_, fun x H2 hy => ?_⟩
    · rintro H' ⟨w2, S2, acc2, xs2, q⟩
      exact ⟨k.ds.length - (i + 1), by omega, w2, S2, acc2, xs2, rfl, hlt, q⟩
    · obtain ⟨e2, s2, rx⟩ := g2 x H2 hy
      have hL1 : L ∉ w1.m := (s1.priv L hq).1
      cases ha : tg.asg k.ds[i] (wipeD ρ vs) S1 with
      | none => rw [ha] at p1; exact p1.elim
      | some ρ2 =>
        rw [ha] at p1
        dsimp only at p1
        refine ⟨w1, S1, wipeD ρ vs, k.ds[i], ρ2, s2, r1.mono e2, rx, ha, fun σ2 r2 wp => ⟨?_, ?_⟩⟩
        · rw [wp vs hv, wipe_wipe]
        · refine ⟨w1, S1, ρ2, s2, r2, ?_⟩
          cases hb : tt ρ2 S1 with
          | ex e S3 => rw [hb] at p1; exact p1.elim
          | no => rw [hb] at p1; exact p1.elim
          | ok b S3 =>
            rw [hb] at p1
            simp only [R.nox_ok, R.bind_ok] at p1
            intro w3 H3 b' e3 s3 rb
            cases rb
            have e23 := e2.trans e3
            have hx3 : H3 L = some (.lst xs) := e23.keep _ _ hx hL1
            have hq3 : L ∈ w3.q := e23.q L hq
            by_cases hbt : b = true
            · rw [if_pos hbt] at p1 ⊢
              refine ⟨w3, S3, ρ2, s3, r2.mono e3, ?_⟩
              cases hc : te ρ2 S3 with
              | ex e S3 => rw [hc] at p1; exact p1.elim
              | no => rw [hc] at p1; exact p1.elim
              | ok y S4 =>
                rw [hc] at p1
                simp only [R.nox_ok, R.bind_ok, R.bind_assoc] at p1
                intro w4 H4 v e4 s4 rv
                have hL3 : L ∉ w3.m := (s3.priv L hq3).1
                have hx4 : H4 L = some (.lst xs) := e4.keep _ _ hx3 hL3
                have hq4 : L ∈ w4.q := e4.q L hq3
                have ra4 := (ra.mono e23).mono e4
                have hz : (acc ++ [y]).length ≤ sizeLine := by
                  cases hr : lcGo k tg tt te (wipeD ρ vs) (k.ds.drop (i + 1)) S4 with
                  | ok r S5 =>
                    rw [hr] at p1
                    simp only [R.bind_ok] at p1
                    exact hlen (ys := acc ++ [y]) (r := r) (S3 := S5) (by simpa using p1)
                  | no => rw [hr] at p1; exact p1.elim
                  | ex e S5 =>
                    exfalso
                    have noex : ∀ (ds : List D) (S : Sto) (e : Exn) (S' : Sto), lcGo k tg tt te (wipeD ρ vs) ds S ≠ .ex e S' := by
                      intro ds
                      induction ds with
                      | nil => intro S e S' q; unfold lcGo Wk.guard at q; split at q <;> cases q
                      | cons d ds ih =>
                        intro S e S' q
                        unfold lcGo Wk.guard at q
                        split at q
                        · split at q
                          · rename_i ρ1 _
                            cases h1 : tt ρ1 S with
                            | ok b S1 =>
                              rw [h1] at q
                              simp only [R.nox_ok, R.bind_ok] at q
                              split at q
                              · cases h2 : te ρ1 S1 with
                                | ok y S2 =>
                                  rw [h2] at q
                                  simp only [R.nox_ok, R.bind_ok] at q
                                  cases h3 : lcGo k tg tt te (wipeD ρ vs) ds S2 with
                                  | ok r S3 => rw [h3] at q; cases q
                                  | ex e1 S3 => exact ih _ _ _ h3
                                  | no => rw [h3] at q; cases q
                                | ex e1 S3 => rw [h2] at q; cases q
                                | no => rw [h2] at q; cases q
                              · exact ih _ _ _ q
                            | ex e1 S3 => rw [h1] at q; cases q
                            | no => rw [h1] at q; cases q
                          · cases q
                        · cases q
                    exact noex _ _ _ _ hr
                refine ⟨xs, hx4, ?_, ?_⟩
                · rw [List.length_append, List.length_singleton, ra4.length] at hz
                  omega
                · refine ⟨w4, S4, acc ++ [y], xs ++ [v], ?_, s4.upq hq4 hx4, ((r1.mono e23).mono e4).upq hq4 hx4, upd_same, hq4, (ra4.snoc rv).upq hq4 hx4, ?_⟩
                  · exact (e1.trans (e23.trans e4)).upq hL hx4
                  · simpa using p1
            · rw [if_neg hbt] at p1 ⊢
              exact ⟨w3, S3, acc, xs, e1.trans e23, s3, r1.mono e23, hx3, hq3, ra.mono e23, p1⟩
  · have hi' : i = k.ds.length := Nat.le_antisymm hi hge
    subst hi'
    rw [List.drop_length] at p1
    unfold lcGo at p1
    obtain ⟨ok, p1⟩ := guardR p1
    obtain ⟨_, g2⟩ := wk w1 H1 S1 e1 s1 ok
    simp only [R.bind_ok, List.append_nil] at p1
    have hL0 : L ∉ w0.q := fun z => by
      obtain ⟨_, o, e⟩ := s0.priv L z
      rw [hL] at e; cases e
    exact .inl ⟨g2, (hfin w0 H0 acc S1 p1).2 w1 H1 xs L e1 hL s1 hx hq hL0 ra⟩
section
variable {X : Cx} {W : WX} {pos spos py : Pos} {elt tg iter : Expr} {ifs : List Expr} {scope : Scope} {own : List (Str × Nat)} {fi : IF} {t : Tg} {tt : BF} {te : EF} {vs : List Nat}
theorem C_nil {X : Cx} : PTs X [] (tT X.K WF bYes) := ⟨fun pins s σ H Q I h => pts_nil.run pins s σ H Q I (let ⟨w, S, ρ, s, re, p⟩ := h; p.ret s rfl)⟩
theorem C_one {X : Cx} {c : Expr} {tt : BF} (h : PT X c (tT X.K WF tt)) : PTs X [c] (tT X.K WF tt) := pts_one h
def finV : List D → Sto → R D := fun ys S => if ys.length ≤ sizeLine then .ok (.lst ys) S else .no
def finA : List D → Sto → R D := fun ys S => if ys.length ≤ sizeLine then .ok (.loc S.length) (S ++ [.lst ys]) else .no
theorem finV_ok {K : PySem.W.Frag} {σ : St} {Q : VK} (w0 : Wo) (H0 : Hp) (ys : List D) (S : Sto) (h : PostG K (RV K) W w0 H0 σ (finV ys S) Q) : ys.length ≤ sizeLine ∧
    ∀ w H xs p, Ext w0 H0 w H → H0 p = none → Sim K w S H → H p = some (.lst xs) → p ∈ w.q → p ∉ w0.q → RVs K w H ys xs → Q (.ref p) H := by
  unfold finV at h
  split at h
  · rename_i hz
    exact ⟨hz, fun w H xs p e _ s hp h1 h2 r => h ⟨w.m, w0.q⟩ H _ e.shrink (s.shrink e.q) (by simp only [RV]; exact ⟨p, xs, rfl, hp, ⟨(s.priv p h1).1, h2⟩, r.shrink e.q⟩)⟩
  · exact h.elim
section
variable {K : PySem.W.Frag} {w : Wo} {H : Hp} {p : Addr} {q : List Addr}
mutual
theorem RV.toSto (hp : p ∈ w.q) (hq : ∀ a ∈ q, a ∈ w.q) : ∀ {d : D} {v : V}, RV K w H d v → RV K ⟨w.m ++ [p], q⟩ H d v
  | .non, v, h => by simpa only [RV] using h
  | .bl b, v, h => by simpa only [RV] using h
  | .int i, v, h => by simpa only [RV] using h
  | .str x, v, h => by simpa only [RV] using h
  | .tup ds, v, h => by
    simp only [RV] at h ⊢
    obtain ⟨a, zs, h1, h2, h3⟩ := h
    exact ⟨a, zs, h1, h2, RVs.toSto hp hq h3⟩
  | .con ds, v, h => by
    simp only [RV] at h ⊢
    obtain ⟨a, zs, h1, h2, h3⟩ := h
    exact ⟨a, zs, h1, h2, RVs.toSto hp hq h3⟩
  | .lst ds, v, h => by
    simp only [RV] at h ⊢
    obtain ⟨a, zs, h1, h2, h3, h5⟩ := h
    have na : a ≠ p := fun z => h3.2 (by rw [z]; exact hp)
    exact ⟨a, zs, h1, h2, ⟨by simp [h3.1, na], fun z => h3.2 (hq a z)⟩, RVs.toSto hp hq h5⟩
  | .frz ds, v, h => by
    simp only [RV] at h ⊢
    obtain ⟨a, zs, h1, h2, h5⟩ := h
    refine ⟨a, zs, h1, ?_, RVs.toSto hp hq h5⟩
    rcases h2 with ⟨o, h2, h3⟩ | h2
    · have na : a ≠ p := fun z => h3.2 (by rw [z]; exact hp)
      exact .inl ⟨o, h2, by simp [h3.1, na], fun z => h3.2 (hq a z)⟩
    · exact .inr h2
  | .loc n, v, h => by
    simp only [RV] at h ⊢
    obtain ⟨a, h1, h2⟩ := h
    exact ⟨a, h1, by rw [List.getElem?_append_left (List.getElem?_eq_some_iff.mp h2).1]; exact h2⟩
  | .fn x, v, h => by simpa only [RV] using h
  | .exc a dd f d, v, h => by
    simp only [RV] at h ⊢
    obtain ⟨h1, x, h2, h3, h5⟩ := h
    have na : dd ≠ p := fun z => h3.2 (by rw [z]; exact hp)
    exact ⟨h1, x, h2, ⟨by simp [h3.1, na], fun z => h3.2 (hq dd z)⟩, RV.toSto hp hq h5⟩
theorem RVs.toSto (hp : p ∈ w.q) (hq : ∀ a ∈ q, a ∈ w.q) : ∀ {ds : List D} {vs : List V}, RVs K w H ds vs → RVs K ⟨w.m ++ [p], q⟩ H ds vs
  | [], vs, h => by simpa only [RVs] using h
  | d :: ds, vs, h => by
    simp only [RVs] at h ⊢
    obtain ⟨v, r, h1, h2, h3⟩ := h
    exact ⟨v, r, h1, RV.toSto hp hq h2, RVs.toSto hp hq h3⟩
end
theorem Sim.toSto {S : Sto} {ys : List D} {xs : List V} (s : Sim K w S H) (hp : p ∈ w.q) (hq : ∀ a ∈ q, a ∈ w.q) (hpq : p ∉ q) (hx : H p = some (.lst xs)) (r : RVs K w H ys xs) : Sim K ⟨w.m ++ [p], q⟩ (S ++ [.lst ys]) H := by
  have h1 := (s.priv p hp).1
  refine ⟨by simp [s.len], ?_, fun i c e => ?_, fun a ha => ?_⟩
  · show (w.m ++ [p]).Nodup
    rw [List.nodup_append]
    refine ⟨s.nd, by simp, fun a ha b hb => ?_⟩
    have : b = p := by simpa using hb
    subst this
    exact fun z => h1 (z ▸ ha)
  · by_cases hi : i < S.length
    · rw [List.getElem?_append_left hi] at e
      obtain ⟨a, g1, g2⟩ := s.at_ i c e
      refine ⟨a, by show (w.m ++ [p])[i]? = _; rw [List.getElem?_append_left (by rw [s.len]; exact hi)]; exact g1, ?_⟩
      cases c with
      | lst ds => obtain ⟨xs, g1, g2⟩ := g2; exact ⟨xs, g1, g2.toSto hp hq⟩
      | dK kvs => obtain ⟨vs, g1, g2, g3⟩ := g2; exact ⟨vs, g1, g2, g3.toSto hp hq⟩
      | dT kvs => obtain ⟨vs, g1, g2, g3⟩ := g2; exact ⟨vs, g1, g2, g3.toSto hp hq⟩
      | fT kvs => obtain ⟨od, vs, g1, g2, g3⟩ := g2; exact ⟨od, vs, g1, g2, g3.toSto hp hq⟩
      | ins c fs => obtain ⟨C, dx, vs, g0, g1, g2, g3⟩ := g2; exact ⟨C, dx, vs, g0, g1, g2, g3.toSto hp hq⟩
    · rw [List.getElem?_append_right (Nat.le_of_not_lt hi)] at e
      have hi0 : i - S.length = 0 := by
        rcases Nat.eq_zero_or_pos (i - S.length) with z | z
        · exact z
        · rw [List.getElem?_eq_none (by simp; omega)] at e; cases e
      rw [hi0] at e
      cases e
      refine ⟨p, ?_, xs, hx, r.toSto hp hq⟩
      show (w.m ++ [p])[i]? = _
      rw [List.getElem?_append_right (by rw [s.len]; exact Nat.le_of_not_lt hi), s.len, hi0]
      rfl
  · obtain ⟨g1, o, g2⟩ := s.priv a (hq a ha)
    refine ⟨fun z => ?_, o, g2⟩
    rcases List.mem_append.mp z with z | z
    · exact g1 z
    · have : a = p := by simpa using z
      exact hpq (this ▸ ha)
end
theorem finA_ok {K : PySem.W.Frag} {σ : St} {Q : VK} (w0 : Wo) (H0 : Hp) (ys : List D) (S : Sto) (h : PostG K (RV K) W w0 H0 σ (finA ys S) Q) : ys.length ≤ sizeLine ∧
    ∀ w H xs p, Ext w0 H0 w H → H0 p = none → Sim K w S H → H p = some (.lst xs) → p ∈ w.q → p ∉ w0.q → RVs K w H ys xs → Q (.ref p) H := by
  unfold finA at h
  split at h
  · rename_i hz
    refine ⟨hz, fun w H xs p e h0 s hp h1 h2 r => h ⟨w.m ++ [p], w0.q⟩ H _ ?_ (s.toSto h1 e.q h2 hp r) ?_⟩
    · refine ⟨e.pre.trans (List.prefix_append _ _), fun _ h => h, fun _ h => .inl h, fun a ha => ?_, e.tup, e.keep, e.live, e.frz⟩
      rcases List.mem_append.mp ha with z | z
      · exact e.new a z
      · have : a = p := by simpa using z
        exact .inr (this ▸ h0)
    · exact RV.newLoc (w := ⟨w.m, w0.q⟩) s.len
  · exact h.elim
theorem E_lc (hc : X.calm = true) (hN : X.N.Nodup) (hi : PI X tg iter (tI X.K W fi)) (ok : BlkOk X.N X.env.scope scope own)
    (hg : ∀ (s : Shared) (H : Hp) (C : Addr) (cl : List (Str × Addr)) (fp : List Addr), PG (X.blk s H scope (compEnvC scope cl C X.env) fp) tg (gT X.K t)) (ht : ∀ (s : Shared) (H : Hp) (C : Addr) (cl : List (Str × Addr)) (fp : List Addr), PTs (X.blk s H scope (compEnvC scope cl C X.env) fp) ifs (tT X.K WF tt))
    (he : ∀ (s : Shared) (H : Hp) (C : Addr) (cl : List (Str × Addr)) (fp : List Addr), PE (X.blk s H scope (compEnvC scope cl C X.env) fp) elt (tE X.K WF te)) (hvs : own.map (·.2) = vs := by rfl) (hv : ∀ i ∈ t.slots, i ∈ vs := by decide) (hs : ∀ x, foldedSetIterable iter X.env x = pure x := by intro _; rfl) :
    PE X (.ListComp elt [⟨tg, iter, ifs, 0⟩] scope pos) (tE X.K W (eLc fi t tt te vs)) :=
  PE.weak (pe_lc hc hN hi ok hg ht he hs) fun σ H Q h => by subst hvs; exact lc_of (fin := finV) hv (fun w0 H0 ys S => finV_ok w0 H0 ys S) h
theorem E_lcA (hc : X.calm = true) (hN : X.N.Nodup) (hi : PI X tg iter (tI X.K W fi)) (ok : BlkOk X.N X.env.scope scope own)
    (hg : ∀ (s : Shared) (H : Hp) (C : Addr) (cl : List (Str × Addr)) (fp : List Addr), PG (X.blk s H scope (compEnvC scope cl C X.env) fp) tg (gT X.K t)) (ht : ∀ (s : Shared) (H : Hp) (C : Addr) (cl : List (Str × Addr)) (fp : List Addr), PTs (X.blk s H scope (compEnvC scope cl C X.env) fp) ifs (tT X.K WF tt))
    (he : ∀ (s : Shared) (H : Hp) (C : Addr) (cl : List (Str × Addr)) (fp : List Addr), PE (X.blk s H scope (compEnvC scope cl C X.env) fp) elt (tE X.K WF te)) (hvs : own.map (·.2) = vs := by rfl) (hv : ∀ i ∈ t.slots, i ∈ vs := by decide) (hs : ∀ x, foldedSetIterable iter X.env x = pure x := by intro _; rfl) :
    PE X (.ListComp elt [⟨tg, iter, ifs, 0⟩] scope pos) (tE X.K W (eLcA fi t tt te vs)) :=
  PE.weak (pe_lc hc hN hi ok hg ht he hs) fun σ H Q h => by subst hvs; exact lc_of (fin := finA) hv (fun w0 H0 ys S => finA_ok w0 H0 ys S) h
theorem S_setLc (i : Nat) {y : Str} (hc : X.calm = true) (hN : X.N.Nodup) (hyl : X.env.scope.names.lookup y = some .local) (hsw : swapsWith (.ListComp elt [⟨tg, iter, ifs, 0⟩] scope pos) (some (.Name y py)) spos.line X.env = pure true)
    (hi : PI X tg iter (tI X.K W fi)) (ok : BlkOk X.N X.env.scope scope own)
    (hg : ∀ (s : Shared) (H : Hp) (C : Addr) (cl : List (Str × Addr)) (fp : List Addr), PG (X.blk s H scope (compEnvC scope cl C X.env) fp) tg (gT X.K t)) (ht : ∀ (s : Shared) (H : Hp) (C : Addr) (cl : List (Str × Addr)) (fp : List Addr), PTs (X.blk s H scope (compEnvC scope cl C X.env) fp) ifs (tT X.K WF tt))
    (he : ∀ (s : Shared) (H : Hp) (C : Addr) (cl : List (Str × Addr)) (fp : List Addr), PE (X.blk s H scope (compEnvC scope cl C X.env) fp) elt (tE X.K WF te)) (hvs : own.map (·.2) = vs := by rfl) (hv : ∀ i ∈ t.slots, i ∈ vs := by decide) (hy : X.N[i]? = some y := by rfl) (hs : ∀ x, foldedSetIterable iter X.env x = pure x := by intro _; rfl) :
    PS X (.Assign [.Name y py] (.ListComp elt [⟨tg, iter, ifs, 0⟩] scope pos) spos) (tS X.K W (sSet i (eLc fi t tt te vs))) :=
  PS.weak (ps_setLc hc hN hy hyl hsw hi ok hg ht he hs) fun D σ H h => by
    subst hvs
    obtain ⟨w, S, ρ, s, re, p⟩ := h
    refine lc_of (fin := finV) (Q := fun x H1 => gName i x σ H1 D.nx) hv (fun w0 H0 ys S => finV_ok w0 H0 ys S) ⟨w, S, ρ, s, re, ?_⟩
    exact PostS.bind (r := eLc fi t tt te _ ρ S) p re fun w1 H1 v d S1 e1 s1 rd p1 => p1 w1 H1 _ .refl s1 ((re.mono e1).set rd)
theorem S_setLcA (i : Nat) {y : Str} (hc : X.calm = true) (hN : X.N.Nodup) (hyl : X.env.scope.names.lookup y = some .local) (hsw : swapsWith (.ListComp elt [⟨tg, iter, ifs, 0⟩] scope pos) (some (.Name y py)) spos.line X.env = pure true)
    (hi : PI X tg iter (tI X.K W fi)) (ok : BlkOk X.N X.env.scope scope own)
    (hg : ∀ (s : Shared) (H : Hp) (C : Addr) (cl : List (Str × Addr)) (fp : List Addr), PG (X.blk s H scope (compEnvC scope cl C X.env) fp) tg (gT X.K t)) (ht : ∀ (s : Shared) (H : Hp) (C : Addr) (cl : List (Str × Addr)) (fp : List Addr), PTs (X.blk s H scope (compEnvC scope cl C X.env) fp) ifs (tT X.K WF tt))
    (he : ∀ (s : Shared) (H : Hp) (C : Addr) (cl : List (Str × Addr)) (fp : List Addr), PE (X.blk s H scope (compEnvC scope cl C X.env) fp) elt (tE X.K WF te)) (hvs : own.map (·.2) = vs := by rfl) (hv : ∀ i ∈ t.slots, i ∈ vs := by decide) (hy : X.N[i]? = some y := by rfl) (hs : ∀ x, foldedSetIterable iter X.env x = pure x := by intro _; rfl) :
    PS X (.Assign [.Name y py] (.ListComp elt [⟨tg, iter, ifs, 0⟩] scope pos) spos) (tS X.K W (sSet i (eLcA fi t tt te vs))) :=
  PS.weak (ps_setLc hc hN hy hyl hsw hi ok hg ht he hs) fun D σ H h => by
    subst hvs
    obtain ⟨w, S, ρ, s, re, p⟩ := h
    refine lc_of (fin := finA) (Q := fun x H1 => gName i x σ H1 D.nx) hv (fun w0 H0 ys S => finA_ok w0 H0 ys S) ⟨w, S, ρ, s, re, ?_⟩
    exact PostS.bind (r := eLcA fi t tt te _ ρ S) p re fun w1 H1 v d S1 e1 s1 rd p1 => p1 w1 H1 _ .refl s1 ((re.mono e1).set rd)
end
end Ev

namespace Ev
open PySem PySem.Spec PyProof.Rows L2

/-! ### what a def leaves: the store cut back -/
mutual
def okD (n : Nat) : D → Bool
  | .tup ds => okDs n ds
  | .con ds => okDs n ds
  | .lst ds => okDs n ds
  | .frz ds => okDs n ds
  | .loc k => decide (k < n)
  | .exc _ _ _ d => okD n d
  | _ => true
def okDs (n : Nat) : List D → Bool
  | [] => true
  | d :: ds => okD n d && okDs n ds
end
def okC (n : Nat) : Cel → Bool
  | .lst ds => okDs n ds
  | .dK kvs => okDs n (kvs.map (·.2))
  | .dT kvs => okDs n (kvs.map (·.2))
  | .fT kvs => okDs n (kvs.map (·.2))
  | .ins _ fs => okDs n (fs.map (·.2))
def GcOk (S S' : Sto) (d : D) : Prop := S.length ≤ S'.length ∧ okD S.length d = true ∧ ∀ i, i < S.length → S'[i]? = S[i]? ∨ ∃ c, S'[i]? = some c ∧ okC S.length c = true
open Classical in
noncomputable def gc (S : Sto) (d : D) (S' : Sto) : R D := if GcOk S S' d then .ok d (S'.take S.length) else .ok d S'
noncomputable def runF (n : Nat) (b : SF) (ds : List D) (S : Sto) : R D :=
  match b (ds.map some ++ List.replicate (n - ds.length) none) S with
  | .rt d S' => gc S d S'
  | .nx _ S' => gc S .non S'
  | .ex e _ S' => .ex e S'
  | _ => .no
open Classical in
/-- .. a list in the end a value, no longer to be changed -/
noncomputable def gcL (S : Sto) (d : D) (S' : Sto) : R D := match d with
  | .loc k => match S'[k]? with
    | some (.lst es) => if S.length ≤ k ∧ GcOk S S' (.lst es) then .ok (.lst es) (S'.take S.length) else .no
    | _ => .no
  | _ => .no
noncomputable def runL (n : Nat) (b : SF) (ds : List D) (S : Sto) : R D :=
  match b (ds.map some ++ List.replicate (n - ds.length) none) S with
  | .rt d S' => gcL S d S'
  | .ex e _ S' => .ex e S'
  | _ => .no
section
variable {K : PySem.W.Frag} {w w' : Wo} {S S' : Sto} {H H' : Hp}
theorem cut_eq (e : Ext w H w' H') (hl : w.m.length = S.length) : w'.m.take S.length = w.m := by
  obtain ⟨t, ht⟩ := e.pre
  rw [← ht, ← hl, List.take_left']
  rfl
mutual
theorem RV.cut (e : Ext w H w' H') (hl : w.m.length = S.length) : ∀ {d : D} {v : V}, okD S.length d = true → RV K w' H' d v → RV K w H' d v
  | .non, v, _, h => by simpa only [RV] using h
  | .bl b, v, _, h => by simpa only [RV] using h
  | .int i, v, _, h => by simpa only [RV] using h
  | .str x, v, _, h => by simpa only [RV] using h
  | .tup ds, v, o, h => by
    simp only [RV] at h ⊢
    obtain ⟨a, zs, h1, h2, h3⟩ := h
    exact ⟨a, zs, h1, h2, RVs.cut e hl (by simpa only [okD] using o) h3⟩
  | .con ds, v, o, h => by
    simp only [RV] at h ⊢
    obtain ⟨a, zs, h1, h2, h3⟩ := h
    exact ⟨a, zs, h1, h2, RVs.cut e hl (by simpa only [okD] using o) h3⟩
  | .lst ds, v, o, h => by
    simp only [RV] at h ⊢
    obtain ⟨a, zs, h1, h2, h3, h5⟩ := h
    obtain ⟨t, ht⟩ := e.pre
    exact ⟨a, zs, h1, h2, ⟨fun z => h3.1 (by rw [← ht]; exact List.mem_append_left _ z), fun z => h3.2 (e.q a z)⟩, RVs.cut e hl (by simpa only [okD] using o) h5⟩
  | .frz ds, v, o, h => by
    simp only [RV] at h ⊢
    obtain ⟨a, zs, h1, h2, h5⟩ := h
    obtain ⟨t, ht⟩ := e.pre
    refine ⟨a, zs, h1, ?_, RVs.cut e hl (by simpa only [okD] using o) h5⟩
    rcases h2 with ⟨ob, h2, h3⟩ | h2
    · exact .inl ⟨ob, h2, fun z => h3.1 (by rw [← ht]; exact List.mem_append_left _ z), fun z => h3.2 (e.q a z)⟩
    · exact .inr h2
  | .loc n, v, o, h => by
    simp only [RV] at h ⊢
    obtain ⟨a, h1, h2⟩ := h
    simp only [okD, decide_eq_true_eq] at o
    obtain ⟨t, ht⟩ := e.pre
    rw [← ht, List.getElem?_append_left (by rw [hl]; exact o)] at h2
    exact ⟨a, h1, h2⟩
  | .fn x, v, _, h => by simpa only [RV] using h
  | .exc a dd f d, v, o, h => by
    simp only [RV] at h ⊢
    obtain ⟨h1, x, h2, h3, h5⟩ := h
    obtain ⟨t, ht⟩ := e.pre
    exact ⟨h1, x, h2, ⟨fun z => h3.1 (by rw [← ht]; exact List.mem_append_left _ z), fun z => h3.2 (e.q dd z)⟩, RV.cut e hl (by simpa only [okD] using o) h5⟩
theorem RVs.cut (e : Ext w H w' H') (hl : w.m.length = S.length) : ∀ {ds : List D} {vs : List V}, okDs S.length ds = true → RVs K w' H' ds vs → RVs K w H' ds vs
  | [], vs, _, h => by simpa only [RVs] using h
  | d :: ds, vs, o, h => by
    simp only [RVs] at h ⊢
    simp only [okDs, Bool.and_eq_true] at o
    obtain ⟨v, r, h1, h2, h3⟩ := h
    exact ⟨v, r, h1, RV.cut e hl o.1 h2, RVs.cut e hl o.2 h3⟩
end
mutual
theorem RV.okD {n : Nat} (hl : w.m.length = n) : ∀ {d : D} {v : V}, RV K w H d v → Ev.okD n d = true
  | .non, v, h => rfl
  | .bl b, v, h => rfl
  | .int i, v, h => rfl
  | .str x, v, h => rfl
  | .tup ds, v, h => by
    simp only [RV] at h
    obtain ⟨a, zs, h1, h2, h3⟩ := h
    simp only [Ev.okD]; exact RVs.okDs hl h3
  | .con ds, v, h => by
    simp only [RV] at h
    obtain ⟨a, zs, h1, h2, h3⟩ := h
    simp only [Ev.okD]; exact RVs.okDs hl h3
  | .lst ds, v, h => by
    simp only [RV] at h
    obtain ⟨a, zs, h1, h2, h3, h5⟩ := h
    simp only [Ev.okD]; exact RVs.okDs hl h5
  | .frz ds, v, h => by
    simp only [RV] at h
    obtain ⟨a, zs, h1, h2, h5⟩ := h
    simp only [Ev.okD]; exact RVs.okDs hl h5
  | .loc n, v, h => by
    simp only [RV] at h
    obtain ⟨a, h1, h2⟩ := h
    simp only [Ev.okD, decide_eq_true_eq]
    rw [← hl]; exact (List.getElem?_eq_some_iff.mp h2).1
  | .fn x, v, _ => rfl
  | .exc a dd f d, v, h => by
    simp only [RV] at h
    obtain ⟨h1, x, h2, h3, h5⟩ := h
    simp only [Ev.okD]; exact RV.okD hl h5
theorem RVs.okDs {n : Nat} (hl : w.m.length = n) : ∀ {ds : List D} {vs : List V}, RVs K w H ds vs → Ev.okDs n ds = true
  | [], vs, h => rfl
  | d :: ds, vs, h => by
    simp only [RVs] at h
    obtain ⟨v, r, h1, h2, h3⟩ := h
    simp only [Ev.okDs, Bool.and_eq_true]
    exact ⟨RV.okD hl h2, RVs.okDs hl h3⟩
end
theorem RC.okC {n : Nat} {a : Addr} {c : Cel} (hl : w.m.length = n) (h : RC K w H a c) : Ev.okC n c = true := by
  cases c with
  | lst ds => obtain ⟨xs, _, h2⟩ := h; exact h2.okDs hl
  | dK kvs => obtain ⟨vs, _, _, h2⟩ := h; exact h2.okDs hl
  | dT kvs => obtain ⟨vs, _, _, h2⟩ := h; exact h2.okDs hl
  | fT kvs => obtain ⟨_, vs, _, _, h2⟩ := h; exact h2.okDs hl
  | ins c fs => obtain ⟨_, dx, vs, _, _, _, h2⟩ := h; exact h2.okDs hl
theorem RC.cut {a : Addr} {c : Cel} (e : Ext w H w' H') (hl : w.m.length = S.length) (o : Ev.okC S.length c = true) (h : RC K w' H' a c) : RC K w H' a c := by
  cases c with
  | lst ds => obtain ⟨xs, h1, h2⟩ := h; exact ⟨xs, h1, h2.cut e hl o⟩
  | dK kvs => obtain ⟨vs, h1, h2, h3⟩ := h; exact ⟨vs, h1, h2, h3.cut e hl o⟩
  | dT kvs => obtain ⟨vs, h1, h2, h3⟩ := h; exact ⟨vs, h1, h2, h3.cut e hl o⟩
  | fT kvs => obtain ⟨od, vs, h1, h2, h3⟩ := h; exact ⟨od, vs, h1, h2, h3.cut e hl o⟩
  | ins c fs => obtain ⟨C, dx, vs, h0, h1, h2, h3⟩ := h; exact ⟨C, dx, vs, h0, h1, h2, h3.cut e hl o⟩
theorem Ext.cut (e : Ext w H w' H') : Ext w H w H' := ⟨List.prefix_refl _, fun _ h => h, fun _ h => .inl h, fun _ h => .inl h, e.tup, e.keep, e.live, e.frz⟩
theorem Sim.cut (s : Sim K w S H) (s' : Sim K w' S' H') (e : Ext w H w' H') (hle : S.length ≤ S'.length) (hc : ∀ i, i < S.length → S'[i]? = S[i]? ∨ ∃ c, S'[i]? = some c ∧ Ev.okC S.length c = true) : Sim K w (S'.take S.length) H' := by
  refine ⟨by rw [List.length_take, Nat.min_eq_left hle]; exact s.len, s.nd, fun i c q => ?_, fun a ha => ?_⟩
  · have hi : i < S.length := by
      have := (List.getElem?_eq_some_iff.mp q).1
      rw [List.length_take] at this
      omega
    rw [List.getElem?_take_of_lt hi] at q
    obtain ⟨a, h1, h2⟩ := s'.at_ i c q
    obtain ⟨t, ht⟩ := e.pre
    rw [← ht, List.getElem?_append_left (by rw [s.len]; exact hi)] at h1
    refine ⟨a, h1, h2.cut e s.len ?_⟩
    rcases hc i hi with z | ⟨c', z, o⟩
    · rw [q] at z
      obtain ⟨b, g1, g2⟩ := s.at_ i c z.symm
      exact g2.okC s.len
    · rw [q] at z; cases z; exact o
  · obtain ⟨h1, o, h2⟩ := s.priv a ha
    exact ⟨h1, e.live a o h2⟩
/-- gc keeps what is wanted -/
theorem gc_post {W : WX} {σ : St} {d : D} {Q : VK} {v : V} (s : Sim K w S H) (e : Ext w H w' H') (s' : Sim K w' S' H') (r : RV K w' H' d v) (p : PostG K (RV K) W w H σ (gc S d S') Q) : Q v H' := by
  unfold gc at p
  split at p
  · rename_i hg
    exact p w H' v e.cut (s.cut s' e hg.1 hg.2.2) (r.cut e s.len hg.2.1)
  · exact p w' H' v e s' r
theorem gcL_post {W : WX} {σ : St} {d : D} {Q : VK} {v : V} (s : Sim K w S H) (e : Ext w H w' H') (s' : Sim K w' S' H') (r : RV K w' H' d v) (p : PostG K (RV K) W w H σ (gcL S d S') Q) : Q v H' := by
  unfold gcL at p
  split at p
  · rename_i k
    split at p
    · rename_i es he
      split at p
      · rename_i hg
        obtain ⟨hk, hg⟩ := hg
        refine p w H' v e.cut (s.cut s' e hg.1 hg.2.2) ?_
        obtain ⟨a, h1, h2, xs, h3, h4⟩ := s'.get he r
        subst h1
        simp only [RV]
        refine ⟨a, xs, rfl, h3, ⟨fun z => ?_, fun z => (s'.priv a (e.q a z)).1 (List.mem_of_getElem? h2)⟩, h4.cut e s.len hg.2.1⟩
        obtain ⟨i, hi, ei⟩ := List.getElem_of_mem z
        obtain ⟨t, ht⟩ := e.pre
        have : w'.m[i]? = some a := by rw [← ht, List.getElem?_append_left hi, List.getElem?_eq_getElem hi, ei]
        have := nd_inj s'.nd this h2
        rw [s.len] at hi
        omega
      · exact p.elim
    · exact p.elim
  · exact p.elim
end

/-! ### a def's promise -/
def spOf (K : PySem.W.Frag) (n : Nat) (F : List D → Sto → R D) : Sp := fun vs H Q E => ∃ w S ds, vs.length = n ∧ Sim K w S H ∧ RVs K w H ds vs ∧ PostG K (RV K) (fun c d _ H => E c d H) w H [] (F ds S) Q
theorem start_env {K : PySem.W.Frag} {w : Wo} {H : Hp} {ds : List D} {vs : List V} {N : List Str} (r : RVs K w H ds vs) : REnv K w H (ds.map some ++ List.replicate (N.length - ds.length) none) (L2.start N vs) := by
  have hl := r.length
  refine ⟨by simp [L2.start, hl], fun i d q => ?_⟩
  by_cases hi : i < ds.length
  · rw [List.getElem?_append_left (by simpa using hi), List.getElem?_map, List.getElem?_eq_getElem hi] at q
    have q' : ds[i] = d := Option.some.inj (Option.some.inj q)
    obtain ⟨v, h1, h2⟩ := r.get (List.getElem?_eq_getElem hi)
    refine ⟨v, ?_, q' ▸ h2⟩
    unfold L2.start
    rw [List.getElem?_append_left (by simpa [← hl] using hi), List.getElem?_map, h1]
    rfl
  · rw [List.getElem?_append_right (by simpa using hi), List.getElem?_replicate] at q
    split at q <;> cases q
section
variable {P : Program} {w : World} {K : PySem.W.Frag} {mg : Str → Option Value} {base : Heap}
/-- the rule for a def out of which no exception comes -/
theorem fun_ok0 {x qual : Str} {st : Stmt} {f : Addr} {fd : FuncData} {N ps : List Str} {k : Nat} {b : SF} (F : Fun K x qual st f fd) (Sc : FnScope N ps (defScope st))
    (hb : ∀ (X : Cx) (W : WX) (cdv : Value) (A : Around) (outer : List Env) (s : Shared) (H : Hp) (E : XK), Room k (A.deeper (envOfC qual (defScope st) s.heap.objs.size f cdv)) →
      X = (cxOf CX0 P w K mg base N qual (defScope st) f cdv A outer s H E).nox → PSs X (defBody st) (tS K W b)) :
    FnOk P w K mg base CX0 (k + 1) f fd ps (spOf K ps.length (runF N.length b)) := by
  refine F.ok Sc (fun vs H Q E h => let ⟨_, _, _, h, _⟩ := h; h) (fun cdv A outer s H vs Q E hr h => ?_)
  obtain ⟨w, S, ds, hl, sm, r, p⟩ := h
  refine ⟨_, hb _ (fun c d _ H => E c d H) cdv A outer s H E hr rfl, w, S, _, sm, start_env r, ?_⟩
  unfold runF at p
  cases hbb : b (ds.map some ++ List.replicate (N.length - ds.length) none) S with
  | nx ρ S' => rw [hbb] at p; exact fun w' H' σ' e s' r' => gc_post sm e s' (by simp only [RV]) p
  | rt d S' => rw [hbb] at p; exact fun w' H' v e s' r' => gc_post sm e s' r' p
  | ex x ρ S' => rw [hbb] at p; exact fun w' H' σ' dx v C e s' _ h0 h1 hn h2 => p w' H' dx v C e s' h0 h1 hn h2
  | bk ρ S' => rw [hbb] at p; exact p.elim
  | ct ρ S' => rw [hbb] at p; exact p.elim
  | no => rw [hbb] at p; exact p.elim
theorem fun_okL {x qual : Str} {st : Stmt} {f : Addr} {fd : FuncData} {N ps : List Str} {k : Nat} {b : SF} (F : Fun K x qual st f fd) (Sc : FnScope N ps (defScope st))
    (hb : ∀ (X : Cx) (W : WX) (cdv : Value) (A : Around) (outer : List Env) (s : Shared) (H : Hp) (E : XK), Room k (A.deeper (envOfC qual (defScope st) s.heap.objs.size f cdv)) →
      X = (cxOf CX0 P w K mg base N qual (defScope st) f cdv A outer s H E).nox → PSs X (defBody st) (tS K W b)) :
    FnOk P w K mg base CX0 (k + 1) f fd ps (spOf K ps.length (runL N.length b)) := by
  refine F.ok Sc (fun vs H Q E h => let ⟨_, _, _, h, _⟩ := h; h) (fun cdv A outer s H vs Q E hr h => ?_)
  obtain ⟨w, S, ds, hl, sm, r, p⟩ := h
  refine ⟨_, hb _ (fun c d _ H => E c d H) cdv A outer s H E hr rfl, w, S, _, sm, start_env r, ?_⟩
  unfold runL at p
  cases hbb : b (ds.map some ++ List.replicate (N.length - ds.length) none) S with
  | nx ρ S' => rw [hbb] at p; exact p.elim
  | rt d S' => rw [hbb] at p; exact fun w' H' v e s' r' => gcL_post sm e s' r' p
  | ex x ρ S' => rw [hbb] at p; exact fun w' H' σ' dx v C e s' _ h0 h1 hn h2 => p w' H' dx v C e s' h0 h1 hn h2
  | bk ρ S' => rw [hbb] at p; exact p.elim
  | ct ρ S' => rw [hbb] at p; exact p.elim
  | no => rw [hbb] at p; exact p.elim
/-- a def that can be called by its name -/
structure Cal (P : Program) (w : World) (K : PySem.W.Frag) (mg : Str → Option Value) (base : Heap) (CX : CXT) (k : Nat) (x : Str) (n : Nat) (F : List D → Sto → R D) : Prop where
  ex : ∃ f fd ps, FnOk P w K mg base CX k f fd ps (spOf K n F) ∧ mg x = some (.ref f) ∧ PySem.W.keepIn K (.ref f) = true ∧ Binds K fd ps []
theorem pass0S {X : Cx} (σ : St) {E : XK} : PassesAt CX0 X σ E := fun _ _ _ _ _ _ h => h.elim
end
def eCall (n : Nat) (F : List D → Sto → R D) (fa : AF) : EF := fun ρ S => (fa ρ S).bind fun ds S1 => if ds.length = n then F ds S1 else .no
theorem PostG.toE {K : PySem.W.Frag} {W : WX} {w : Wo} {H : Hp} {σ σ' : St} {r : R D} {Q : VK} (h : PostG K (RV K) W w H σ r Q) : PostG K (RV K) (fun c d _ H => W c d σ H) w H σ' r Q := by
  cases r with
  | ok a S => exact h
  | ex e S => exact h
  | no => exact h
section
variable {X : Cx} {W : WX} {CXc : CXT} {x : Str} {p pos : Pos} {e : Expr} {es : List Expr} {fa : AF} {k j n : Nat} {F : List D → Sto → R D}
theorem tCall_of {σ : St} {H : Hp} {Q : VK} (h : tE X.K W (eCall n F fa) σ H Q) : tCallS (spOf X.K n F) (WE W) (tA X.K W fa) σ H Q := by
  obtain ⟨w, S, ρ, s, re, p⟩ := h
  refine ⟨w, S, ρ, s, re, p.bind fun w1 H1 vs ds S1 e1 s1 rd p1 => ?_⟩
  split at p1
  · rename_i hl
    exact ⟨w1, S1, ds, by rw [← rd.length, hl], s1, rd, p1.toE⟩
  · exact p1.elim
theorem E_call (c : Cal X.prog X.w X.K X.mg X.base CXc k x n F) (hr : Room j X.A) (hx : ∀ σ, PassesAt CXc X σ (WE W σ)) (ha : PA X (e :: es) (tA X.K W fa)) (hk : k ≤ j := by first | decide | omega) (hg : Gl X x := by rfl)
    (hdb : (x == ("__debug__" : Str)) = false := by decide) (he : starEach (e :: es) X.env = (false, eval e X.env) :: starEach es X.env := by rfl) (hpl : (backTo pos (starEach es X.env)).any (·.1) = false := by rfl) :
    PE X (.Call (.Name x p) (e :: es) [] pos) (tE X.K W (eCall n F fa)) := by
  obtain ⟨f, fd, ps, G, hm, hkp, hb⟩ := c.ex
  exact PE.weak (pe_callS G (hr.mono hk) hg hm hkp hb hx ha hdb he hpl) fun σ H Q h => tCall_of h
end
end Ev

namespace Ev
open PySem PySem.Spec PyProof.Rows L2
/-! ### sorted, of a tuple of ints too -/
section
variable {prog : Program} {w : World} {A : Around} {E : Value → Shared → Prop} {s : Shared}
theorem collect_seq {l : Addr} {T : String} {vs : List Value} {Q : List Value → Shared → Prop} (hT : T = "list" ∨ T = "tuple") (hl : ∃ o, s.heap.get? l = some o ∧ o.cls = .type T ∧ ∃ n, o.data = .seq vs.toArray n)
    (h : Q vs { s with heap := (s.heap.push (seqObj "list" #[] 0)).update s.heap.objs.size (Obj.mapSeq (· ++ vs.toArray)) }) (hsz : vs.length ≤ sizeLine) :
    wpAny (model prog w) A (collect (.ref l)) Q E s := by
  obtain ⟨o, ho, hc, n, hd⟩ := id hl
  unfold collect
  refine wpAny_bind (wpAny_runValue (codeAny_builtin entry_proto_collect' ?_))
  show wpAny _ _ (do again (.builtin "list.__iadd__" ⟨[← newList [], .ref l], []⟩)) _ _ s
  refine wpAny_bind (wpAny_newList (wpAny_pure ⟨Code.quiet_builtin _ (by decide +kernel), codeAny_builtin entry_list_iadd' ?_⟩))
  show wpAny _ _ (Builtin.List.listExtendWith (.ref s.heap.objs.size) (.ref l) (.ref s.heap.objs.size)) _ _ { s with heap := s.heap.push (seqObj "list" #[] 0) }
  unfold Builtin.List.listExtendWith
  have ho' : (s.heap.push (seqObj "list" #[] 0)).get? l = some o := Heap.get?_push_of_some _ ho
  refine wpAny_bind (wpAny_typeOf (T := T) ⟨o, ho', hc⟩ ?_)
  rw [if_pos (by rcases hT with rfl | rfl <;> simp)]
  refine wpAny_bind (listItems_at ho' hd ?_)
  refine wpAny_bind (listItems_at (xs := #[]) (n := 0) (Heap.get?_push_size _ rfl) rfl ?_)
  rw [if_neg (by simp)]
  refine wpAny_bind (listUpdate_at (xs := #[]) (n := 0) (Heap.get?_push_size _ rfl) rfl ?_ (Nat.zero_le _) (by show (#[] ++ vs.toArray).size ≤ sizeLine + 1; simp only [Array.size_append, List.size_toArray, List.length_nil]; omega))
  refine wpAny_pure ?_
  show wpAny (model prog w) A (do
      let o ← load s.heap.objs.size
      match o.data with
      | .seq xs _ => pure xs.toList
      | _ => unsupported "internal:collect") Q E { s with heap := (s.heap.push (seqObj "list" #[] 0)).update s.heap.objs.size (Obj.mapSeq (· ++ vs.toArray)) }
  refine wpAny_bind (wpAny_load (get?_update_seq (Heap.get?_push_size _ rfl) _) ?_)
  show wpAny _ _ (pure ((#[] : Array Value) ++ vs.toArray).toList) Q E _
  rw [show ((#[] : Array Value) ++ vs.toArray).toList = vs by simp]
  exact wpAny_pure h
theorem sorted_seq {l : Addr} {T : String} {vs : List Value} {ltv : Value → Value → Bool} {Q : Value → Shared → Prop} (O : SrtO.Swo ltv) (hT : T = "list" ∨ T = "tuple") (hl : ∃ o, s.heap.get? l = some o ∧ o.cls = .type T ∧ ∃ n, o.data = .seq vs.toArray n) (hz : vs.length ≤ sizeLine)
    (hS : 2 ≤ vs.length → ∀ (h₁ : Heap) (a : Addr), h₁.get? a = some (seqObj "list" vs.toArray 0) → (∀ b o, s.heap.get? b = some o → b ≠ a ∧ h₁.get? b = some o) → SrtO.SortableO prog w A.in1.in1 { s with heap := h₁ } a vs ltv)
    (h : ∀ out : List Value, SrtO.Srtd ltv out → SrtO.Stb ltv out vs → Q (.ref (s.heap.objs.size + 1)) { s with heap := sortedAll s.heap vs out.toArray }) :
    wpAny (model prog w) A (call (.builtin "sorted") [.ref l]) Q E s := by
  refine Calls.call_function_entry kind_sorted plain_sorted entry_sorted (args_sorted1 _) ?_
  unfold Builtin.«sorted»
  refine wpAny_bind (m := checkCount "sorted" 1 1 _) (wpAny_pure ?_)
  refine wpAny_bind (collect_seq hT hl ?_ hz)
  refine wpAny_bind (wpAny_newList ?_ hz)
  have hsz : ((s.heap.push (seqObj "list" #[] 0)).update s.heap.objs.size (Obj.mapSeq (· ++ vs.toArray))).objs.size = s.heap.objs.size + 1 := by
    rw [Heap.size_update, size_push']
  have hoL : (((s.heap.push (seqObj "list" #[] 0)).update s.heap.objs.size (Obj.mapSeq (· ++ vs.toArray))).push (seqObj "list" vs.toArray 0)).get? (s.heap.objs.size + 1) = some (seqObj "list" vs.toArray 0) := by
    rw [← hsz]; exact Heap.get?_push_size _ rfl
  have keep : ∀ b o, s.heap.get? b = some o → b ≠ s.heap.objs.size + 1 ∧ (((s.heap.push (seqObj "list" #[] 0)).update s.heap.objs.size (Obj.mapSeq (· ++ vs.toArray))).push (seqObj "list" vs.toArray 0)).get? b = some o := fun b o q => by
    have hlt : b < s.heap.objs.size := Heap.lt_size q
    refine ⟨Nat.ne_of_lt (Nat.lt_succ_of_lt hlt), Heap.get?_push_of_some _ ?_⟩
    rw [Heap.get?_update_ne _ _ _ _ (Nat.ne_of_lt hlt)]
    exact Heap.get?_push_of_some _ q
  show wpAny _ _ _ _ _ { s with heap := ((s.heap.push (seqObj "list" #[] 0)).update s.heap.objs.size (Obj.mapSeq (· ++ vs.toArray))).push (seqObj "list" vs.toArray 0) }
  rw [hsz]
  refine wpAny_bind (wpAny_holding (wpAny_call_entry slot_list_sort ⟨_, hoL, rfl⟩ entry_list_sort (SrtO.list_sort_ord O hoL hz (fun h2 => hS h2 _ _ hoL keep) fun out hs hb => ⟨_, rfl, ?_⟩) (args_list_sort _)))
  exact wpAny_pure ⟨_, rfl, h out hs hb⟩
end
/-- sorted(xs), ints, of a list or a tuple -/
def rSortedIA (K : PySem.W.Frag) : List V → Hp → VK → Prop := fun vs H Q => ∃ (a : Addr) (ns : List Int), vs = [V.ref a] ∧ (SqL K H a (ns.map V.int) ∨ SqT K H a (ns.map V.int)) ∧
  ∀ (ns' : List Int) (p : Addr), ns'.Perm ns → ns'.Pairwise (· ≤ ·) → H p = none → Q (.ref p) (upd H p (.lst (ns'.map V.int)))
theorem cr_sortedIA {X : Cx} : CallR X (.builtin "sorted") (rSortedIA X.K) := by
  intro pins s σ H vs us Q I r h
  obtain ⟨a, ns, rfl, hs, q⟩ := h
  obtain ⟨its, rv, ⟨T, hT, hl⟩, hz⟩ : ∃ its, Vals (ns.map V.int) its ∧ (∃ T, (T = "list" ∨ T = "tuple") ∧ ∃ o, s.heap.get? a = some o ∧ o.cls = .type T ∧ ∃ n, o.data = .seq its.toArray n) ∧ (ns.map V.int).length ≤ sizeLine := by
    rcases hs with hs | hs
    · obtain ⟨its, rv, pl, hz⟩ := I.list hs
      obtain ⟨o, ho, hc, n, hd⟩ := pl.isList
      exact ⟨its, rv, ⟨"list", .inl rfl, o, ho, hc, n, hd⟩, hz⟩
    · obtain ⟨its, rv, pl, hz⟩ := I.tuple hs
      obtain ⟨o, ho, hc, n, hd⟩ := pl
      exact ⟨its, rv, ⟨"tuple", .inr rfl, o, ho, hc, n, hd⟩, hz⟩
  rw [Vals.ref1 r]
  have hi := rv.ints
  refine sorted_seq SrtO.swo_int hT hl (by rw [← rv.length]; exact hz) (fun h2 h₁ a' _ _ => SrtO.ints_sortable hi h2) fun out h1 h2 => ?_
  obtain ⟨k1, k2, k3⟩ := SrtO.ints_out hi h1 h2
  obtain ⟨ep, he'⟩ := PyProof.Rows.sortedAll_at s.heap its out.toArray
  have hlen : ((out.map SrtO.iv).map V.int).length ≤ sizeLine := by
    rw [List.length_map, k2.length_eq]
    rw [List.length_map] at hz
    exact hz
  exact ⟨.ref _, upd H (s.heap.objs.size + 1) (.lst ((out.map SrtO.iv).map V.int)), I.laid (t' := s.toks) (fun _ _ => PyProof.Rows.sortedAll_old) (Nat.le_succ _) ⟨hlen, out, ep, vals_of_ints k1, he'⟩, rfl, q _ _ k2 k3 (I.hok.fresh (Nat.le_succ _))⟩
end Ev

namespace Ev
open PySem PySem.Spec PyProof.Rows L2

/-! ### built-ins by values -/
abbrev OpN := List D → Sto → Option (D × Sto)
def CallS (K : PySem.W.Frag) (r : List V → Hp → VK → Prop) (o : OpN) : Prop := ∀ (w : Wo) (S : Sto) (H : Hp) (ds : List D) (vs : List V) (d : D) (S' : Sto) (Q : VK), Sim K w S H → RVs K w H ds vs → o ds S = some (d, S') →
  (∀ w' H' z, Ext w H w' H' → Sim K w' S' H' → RV K w' H' d z → Q z H') → r vs H Q
def liftP (x : Option (D × Sto)) : R D := match x with
  | some (d, S) => .ok d S
  | none => .no
@[simp] theorem liftP_some (d : D) (S : Sto) : liftP (some (d, S)) = .ok d S := rfl
@[simp] theorem liftP_none : liftP none = .no := rfl
def eCb (o : OpN) (fa : AF) : EF := fun ρ S => (fa ρ S).bind fun ds S1 => liftP (o ds S1)
/-- what does not touch the store -/
def pure1 (g : List D → Sto → Option D) : OpN := fun ds S => (g ds S).map fun d => (d, S)
section
variable {X : Cx} {W : WX} {x : Str} {p pos : Pos} {e : Expr} {es : List Expr} {fa : AF} {id T : String} {r : List V → Hp → VK → Prop} {o : OpN}
theorem tCB_of {σ : St} {H : Hp} {Q : VK} (hs : CallS X.K r o) (h : tE X.K W (eCb o fa) σ H Q) : tCB r (tA X.K W fa) σ H Q := by
  obtain ⟨w, S, ρ, s, re, p⟩ := h
  refine ⟨w, S, ρ, s, re, p.bind fun w1 H1 vs ds S1 e1 s1 rd p1 => ?_⟩
  cases ho : o ds S1 with
  | none => rw [ho] at p1; exact p1.elim
  | some q => obtain ⟨d, S2⟩ := q; rw [ho] at p1; exact hs w1 S1 H1 ds vs d S2 Q s1 rd ho fun w2 H2 z e2 s2 rz => p1 w2 H2 z e2 s2 rz
theorem E_cb (hc : CallR X (.builtin id) r) (hs : CallS X.K r o) (hm : X.mg x = none) (ha : PA X (e :: es) (tA X.K W fa)) (hg : Gl X x := by rfl) (hv : bootBuiltins x = some (.builtin id) := by decide +kernel) (hn : x ≠ "__name__" := by decide) (hdb : (x == ("__debug__" : Str)) = false := by decide)
    (he : starEach (e :: es) X.env = (false, eval e X.env) :: starEach es X.env := by rfl) (hpl : (backTo pos (starEach es X.env)).any (·.1) = false := by rfl) : PE X (.Call (.Name x p) (e :: es) [] pos) (tE X.K W (eCb o fa)) :=
  PE.weak (pe_callB hc hg hm hv ha hn hdb he hpl) fun σ H Q h => tCB_of hs h
theorem E_cty (hc : CallR X (.type T) r) (hs : CallS X.K r o) (hm : X.mg x = none) (ha : PA X (e :: es) (tA X.K W fa)) (hg : Gl X x := by rfl) (hv : bootBuiltins x = some (.type T) := by decide +kernel) (hn : x ≠ "__name__" := by decide) (hdb : (x == ("__debug__" : Str)) = false := by decide)
    (he : starEach (e :: es) X.env = (false, eval e X.env) :: starEach es X.env := by rfl) (hpl : (backTo pos (starEach es X.env)).any (·.1) = false := by rfl) : PE X (.Call (.Name x p) (e :: es) [] pos) (tE X.K W (eCb o fa)) :=
  PE.weak (pe_callTy hc hg hm hv ha hn hdb he hpl) fun σ H Q h => tCB_of hs h
theorem E_cbf (hc : CallR X (.builtin id) r) (hs : CallS X.K r o) (hm : X.mg x = some (.builtin id)) (ha : PA X (e :: es) (tA X.K W fa)) (hg : Gl X x := by rfl) (hdb : (x == ("__debug__" : Str)) = false := by decide)
    (he : starEach (e :: es) X.env = (false, eval e X.env) :: starEach es X.env := by rfl) (hpl : (backTo pos (starEach es X.env)).any (·.1) = false := by rfl) : PE X (.Call (.Name x p) (e :: es) [] pos) (tE X.K W (eCb o fa)) :=
  PE.weak (pe_callBfun hc hg hm ha hdb he hpl) fun σ H Q h => tCB_of hs h
end
theorem callS_pure {K : PySem.W.Frag} {r : List V → Hp → VK → Prop} {g : List D → Sto → Option D}
    (h : ∀ (w : Wo) (S : Sto) (H : Hp) (ds : List D) (vs : List V) (d : D) (Q : VK), Sim K w S H → RVs K w H ds vs → g ds S = some d → (∀ w' H' z, Ext w H w' H' → Sim K w' S H' → RV K w' H' d z → Q z H') → r vs H Q) : CallS K r (pure1 g) := by
  intro w S H ds vs d S' Q s rd e k
  unfold pure1 at e
  cases hg : g ds S with
  | none => rw [hg] at e; cases e
  | some d' => rw [hg] at e; cases e; exact h w S H ds vs d Q s rd hg k
/-- len -/
def gLen : List D → Sto → Option D := fun ds S => match ds with
  | [d] => match seqOf S d with
    | some es => some (.int es.length)
    | none => match d with
      | .str z => if z.length ≤ sizeLine then some (.int z.length) else none
      | _ => none
  | _ => none
theorem callS_len {K : PySem.W.Frag} : CallS K (fun xs H Q => ∃ x n, xs = [x] ∧ LenV K x H n ∧ Q (.int n) H) (pure1 gLen) := callS_pure fun w S H ds vs d Q s rd e k => by
  unfold gLen at e
  split at e
  · rename_i d0
    obtain ⟨v, rfl, rv⟩ := rd.one
    split at e
    · rename_i es he
      cases e
      obtain ⟨a, xs, rfl, h2, h3⟩ := seqOf_sq s rv he
      refine ⟨_, es.length, rfl, ?_, k w H _ .refl s (by simp only [RV])⟩
      rcases h2 with h2 | h2
      · exact .inl ⟨xs, h2, h3.length⟩
      · exact .inr ⟨xs, h2, h3.length⟩
    · split at e
      · split at e
        · rename_i z _ hz
          cases e
          simp only [RV] at rv
          subst rv
          exact ⟨_, z.length, rfl, ⟨hz, rfl⟩, k w H _ .refl s (by simp only [RV])⟩
        · cases e
      · cases e
  · cases e
/-- ints -/
def gAbs : List D → Sto → Option D := fun ds _ => match ds with
  | [.int i] => some (.int (if i < 0 then -i else i))
  | _ => none
theorem callS_abs {K : PySem.W.Frag} : CallS K (fun xs H Q => ∃ i, xs = [.int i] ∧ Q (.int (if i < 0 then -i else i)) H) (pure1 gAbs) := callS_pure fun w S H ds vs d Q s rd e k => by
  unfold gAbs at e
  split at e
  · obtain ⟨v, rfl, rv⟩ := rd.one
    simp only [RV] at rv
    subst rv
    cases e
    exact ⟨_, rfl, k w H _ .refl s (by simp only [RV])⟩
  · cases e
def gInt : List D → Sto → Option D := fun ds _ => match ds with
  | [.int i] => some (.int i)
  | [.bl b] => some (.int (if b then 1 else 0))
  | _ => none
theorem callS_int {K : PySem.W.Frag} : CallS K (fun xs H Q => (∃ i, xs = [.int i] ∧ Q (.int i) H) ∨ ∃ k, xs = [.bl k] ∧ Q (.int (if k then 1 else 0)) H) (pure1 gInt) := callS_pure fun w S H ds vs d Q s rd e k => by
  unfold gInt at e
  split at e
  · obtain ⟨v, rfl, rv⟩ := rd.one
    simp only [RV] at rv
    subst rv
    cases e
    exact .inl ⟨_, rfl, k w H _ .refl s (by simp only [RV])⟩
  · obtain ⟨v, rfl, rv⟩ := rd.one
    simp only [RV] at rv
    subst rv
    cases e
    exact .inr ⟨_, rfl, k w H _ .refl s (by simp only [RV])⟩
  · cases e
def gMin : List D → Sto → Option D := fun ds _ => match ds with
  | [.int i, .int j] => some (.int (if j < i then j else i))
  | _ => none
def gMax : List D → Sto → Option D := fun ds _ => match ds with
  | [.int i, .int j] => some (.int (if j > i then j else i))
  | _ => none
theorem callS_min {K : PySem.W.Frag} : CallS K (fun xs H Q => ∃ i j, xs = [.int i, .int j] ∧ Q (.int (if j < i then j else i)) H) (pure1 gMin) := callS_pure fun w S H ds vs d Q s rd e k => by
  unfold gMin at e
  split at e
  · obtain ⟨v, u, rfl, rv, ru⟩ := rd.two
    simp only [RV] at rv ru
    subst rv ru
    cases e
    exact ⟨_, _, rfl, k w H _ .refl s (by simp only [RV])⟩
  · cases e
theorem callS_max {K : PySem.W.Frag} : CallS K (fun xs H Q => ∃ i j, xs = [.int i, .int j] ∧ Q (.int (if j > i then j else i)) H) (pure1 gMax) := callS_pure fun w S H ds vs d Q s rd e k => by
  unfold gMax at e
  split at e
  · obtain ⟨v, u, rfl, rv, ru⟩ := rd.two
    simp only [RV] at rv ru
    subst rv ru
    cases e
    exact ⟨_, _, rfl, k w H _ .refl s (by simp only [RV])⟩
  · cases e
def gGcd : List D → Sto → Option D := fun ds _ => match ds with
  | [.int i, .int j] => some (.int ((Nat.gcd i.natAbs j.natAbs : Nat) : Int))
  | _ => none
theorem callS_gcd {K : PySem.W.Frag} : CallS K rGcd (pure1 gGcd) := callS_pure fun w S H ds vs d Q s rd e k => by
  unfold gGcd at e
  split at e
  · obtain ⟨v, u, rfl, rv, ru⟩ := rd.two
    simp only [RV] at rv ru
    subst rv ru
    cases e
    exact ⟨_, _, rfl, k w H _ .refl s (by simp only [RV])⟩
  · cases e
/-- over a list of ints, of bools -/
def blsOf : List D → Option (List Bool)
  | [] => some []
  | .bl i :: ds => (blsOf ds).map (i :: ·)
  | _ :: _ => none
theorem blsOf_eq : ∀ {ds : List D} {is : List Bool}, blsOf ds = some is → ds = is.map D.bl
  | [], is, h => by cases h; rfl
  | d :: ds, is, h => by
    cases d with
    | bl i =>
      simp only [blsOf] at h
      cases e : blsOf ds with
      | none => rw [e] at h; cases h
      | some js => rw [e] at h; cases h; rw [blsOf_eq e]; rfl
    | _ => cases h
@[simp] theorem blsOf_map (is : List Bool) : blsOf (is.map D.bl) = some is := by
  induction is with
  | nil => rfl
  | cons i is ih => simp only [List.map_cons, blsOf, ih, Option.map_some]
def gSum : List D → Sto → Option D := fun ds S => match ds with
  | [d] => ((seqOf S d).bind intsOf).map fun is => .int is.sum
  | _ => none
def gAny : List D → Sto → Option D := fun ds S => match ds with
  | [d] => ((lstOf S d).bind blsOf).map fun bs => .bl (bs.any id)
  | _ => none
def gAll : List D → Sto → Option D := fun ds S => match ds with
  | [d] => ((lstOf S d).bind blsOf).map fun bs => .bl (bs.all id)
  | _ => none
theorem sum_tupG {prog : Program} {w : World} {A : Around} {E : Value → Shared → Prop} {s : Shared} {l : Addr} {xs : Array (Int × Tok)} {Q : Value → Shared → Prop} (hh : A.handled = none) (hl : s.heap.IsTuple l (intItems xs))
    (h : ∀ h' tk t', (∀ b o, s.heap.get? b = some o → h'.get? b = some o) → Q (.int (preSum (numAt xs) xs.size) t') { s with heap := h', toks := tk }) : wpAny (model prog w) A (call (.builtin "sum") [.ref l]) Q E s := by
  have hlt : l < s.heap.objs.size := let ⟨_, e, _⟩ := hl; Heap.lt_size e
  refine call_sum_walkG (wpAny_pyIter_tuple hl ?_)
  refine ⟨_, [_, l], [_], _, _, _, numAt xs, rfl, Walks.tuple (A := A.in1) hh _ l (Nat.ne_of_lt hlt) (intItems xs),
    ⟨⟨_, Heap.get?_push_size _ rfl, rfl, rfl⟩, hl.push _⟩, fun c hc => ?_, (fun _ _ => intItems_at), fun h' tk t' hk => ?_⟩
  · show c < (s.heap.push _).objs.size
    rw [Heap.size_push]
    rcases List.mem_cons.mp hc with rfl | hc
    · exact Nat.lt_succ_self _
    · rcases List.mem_cons.mp hc with rfl | hc
      · exact Nat.lt_succ_of_lt hlt
      · cases hc
  · have hold : ∀ c o, s.heap.get? c = some o → h'.get? c = some o := fun c o e => by
      refine hk c o (fun hm => ?_) (Heap.get?_push_of_some _ e)
      rcases List.mem_cons.mp hm with e1 | hm
      · have := Heap.lt_size e; rw [e1] at this; exact Nat.lt_irrefl _ this
      · cases hm
    have := h h' tk t' hold
    simpa [intItems] using this
theorem sum_rawT {prog : Program} {w : World} {A : Around} {E : Value → Shared → Prop} {s : Shared} {l : Addr} {its : List Value} {ns : List Int} {Q : Value → Shared → Prop} (hh : A.handled = none) (hl : s.heap.IsTuple l its.toArray) (hi : IntsAre its ns)
    (h : ∀ h' tk t', (∀ b o, s.heap.get? b = some o → h'.get? b = some o) → Q (.int ns.sum t') { s with heap := h', toks := tk }) : wpAny (model prog w) A (call (.builtin "sum") [.ref l]) Q E s := by
  obtain ⟨xs, e⟩ := hi.allInts.items
  have hn : numsOf (intItems xs).toList = ns := by rw [← e]; exact hi.numsOf
  rw [nums_intItems] at hn
  rw [e] at hl
  refine sum_tupG hh hl fun h' tk t' hk => ?_
  have := h h' tk t' hk
  rw [preSum_eq, List.take_of_length_le (by simp), hn]; exact this
def rSumA (K : PySem.W.Frag) : List V → Hp → VK → Prop := fun vs H Q => ∃ (a : Addr) (ns : List Int), vs = [V.ref a] ∧ (SqL K H a (ns.map V.int) ∨ SqT K H a (ns.map V.int)) ∧ Q (.int ns.sum) H
theorem cr_sumA {X : Cx} (hc : X.calm = true) : CallR X (.builtin "sum") (rSumA X.K) := by
  intro pins s σ H vs us Q I r h
  obtain ⟨a, ns, rfl, hs | hs, q⟩ := h
  · obtain ⟨its, rv, hl, _⟩ := I.list hs
    rw [Vals.ref1 r]
    exact sum_raw (I.ok.hd hc) hl.isList rv.ints fun h' tk t' hk => ⟨.int _, H, I.kept hk, ⟨_, rfl⟩, q⟩
  · obtain ⟨its, rv, hl, _⟩ := I.tuple hs
    rw [Vals.ref1 r]
    exact sum_rawT (I.ok.hd hc) hl rv.ints fun h' tk t' hk => ⟨.int _, H, I.kept hk, ⟨_, rfl⟩, q⟩
theorem callS_sum {K : PySem.W.Frag} : CallS K (rSumA K) (pure1 gSum) := callS_pure fun w S H ds vs d Q s rd e k => by
  unfold gSum at e
  split at e
  · rename_i d0
    obtain ⟨v, rfl, rv⟩ := rd.one
    cases hl : seqOf S d0 with
    | none => rw [hl] at e; cases e
    | some es =>
      rw [hl] at e
      cases hi : intsOf es with
      | none => simp only [Option.bind_some, hi] at e; cases e
      | some is =>
        simp only [Option.bind_some, hi, Option.map_some] at e
        cases e
        obtain ⟨a, xs, rfl, h2, h3⟩ := seqOf_sq s rv hl
        rw [intsOf_eq hi] at h3
        rw [h3.ints] at h2
        exact ⟨a, is, rfl, h2, k w H _ .refl s (by simp only [RV])⟩
  · cases e
theorem callS_any {K : PySem.W.Frag} : CallS K (rAny K) (pure1 gAny) := callS_pure fun w S H ds vs d Q s rd e k => by
  unfold gAny at e
  split at e
  · rename_i d0
    obtain ⟨v, rfl, rv⟩ := rd.one
    cases hl : lstOf S d0 with
    | none => rw [hl] at e; cases e
    | some es =>
      rw [hl] at e
      cases hi : blsOf es with
      | none => simp only [Option.bind_some, hi] at e; cases e
      | some is =>
        simp only [Option.bind_some, hi, Option.map_some] at e
        cases e
        obtain ⟨a, xs, rfl, h2, h3⟩ := lstOf_sq s rv hl
        rw [blsOf_eq hi] at h3
        rw [h3.bls] at h2
        exact ⟨a, is, rfl, h2, k w H _ .refl s (by simp only [RV])⟩
  · cases e
theorem callS_all {K : PySem.W.Frag} : CallS K (rAll K) (pure1 gAll) := callS_pure fun w S H ds vs d Q s rd e k => by
  unfold gAll at e
  split at e
  · rename_i d0
    obtain ⟨v, rfl, rv⟩ := rd.one
    cases hl : lstOf S d0 with
    | none => rw [hl] at e; cases e
    | some es =>
      rw [hl] at e
      cases hi : blsOf es with
      | none => simp only [Option.bind_some, hi] at e; cases e
      | some is =>
        simp only [Option.bind_some, hi, Option.map_some] at e
        cases e
        obtain ⟨a, xs, rfl, h2, h3⟩ := lstOf_sq s rv hl
        rw [blsOf_eq hi] at h3
        rw [h3.bls] at h2
        exact ⟨a, is, rfl, h2, k w H _ .refl s (by simp only [RV])⟩
  · cases e
/-- sorted, of ints -/
def insI (x : Int) : List Int → List Int
  | [] => [x]
  | y :: ys => if x ≤ y then x :: y :: ys else y :: insI x ys
def isort : List Int → List Int
  | [] => []
  | x :: xs => insI x (isort xs)
theorem insI_perm (x : Int) : ∀ ys : List Int, (insI x ys).Perm (x :: ys)
  | [] => .refl _
  | y :: ys => by
    unfold insI
    split
    · exact .refl _
    · exact ((insI_perm x ys).cons y).trans (.swap x y ys)
theorem isort_perm : ∀ xs : List Int, (isort xs).Perm xs
  | [] => .refl _
  | x :: xs => (insI_perm x _).trans ((isort_perm xs).cons x)
theorem insI_sorted (x : Int) : ∀ ys : List Int, ys.Pairwise (· ≤ ·) → (insI x ys).Pairwise (· ≤ ·)
  | [], _ => List.pairwise_singleton _ _
  | y :: ys, h => by
    have h' := List.pairwise_cons.mp h
    unfold insI
    split
    · rename_i hx
      refine List.pairwise_cons.mpr ⟨fun z hz => ?_, h⟩
      rcases List.mem_cons.mp hz with e | e
      · rw [e]; exact hx
      · exact Int.le_trans hx (h'.1 z e)
    · rename_i hx
      refine List.pairwise_cons.mpr ⟨fun z hz => ?_, insI_sorted x ys h'.2⟩
      rcases List.mem_cons.mp ((insI_perm x ys).mem_iff.mp hz) with e | e
      · rw [e]; omega
      · exact h'.1 z e
theorem isort_sorted : ∀ xs : List Int, (isort xs).Pairwise (· ≤ ·)
  | [] => List.Pairwise.nil
  | x :: xs => insI_sorted x _ (isort_sorted xs)
theorem isort_same {a b : List Int} (hp : a.Perm b) (ha : a.Pairwise (· ≤ ·)) : a = isort b :=
  PySem.W.ksm_same (hp.trans (isort_perm b).symm) ha (isort_sorted b)
def oSort (al : Bool) : OpN := fun ds S => match ds with
  | [d] => ((seqOf S d).bind intsOf).map fun is => if al then (.loc S.length, S ++ [.lst ((isort is).map D.int)]) else (.lst ((isort is).map D.int), S)
  | _ => none
/-- a new list: a value, or in the store -/
theorem newList {K : PySem.W.Frag} {w : Wo} {S : Sto} {H : Hp} {es : List D} {xs : List V} {Q : VK} {al : Bool} {d : D} {S' : Sto} {q : Addr} (s : Sim K w S H) (r : RVs K w H es xs) (hq : H q = none)
    (e : (if al then ((.loc S.length : D), S ++ [Cel.lst es]) else (.lst es, S)) = (d, S')) (k : ∀ w' H' z, Ext w H w' H' → Sim K w' S' H' → RV K w' H' d z → Q z H') : Q (.ref q) (upd H q (.lst xs)) := by
  cases al with
  | true => cases e; exact k (w.add q) _ _ (Ext.alloc hq) (s.alloc hq (RC.newLst hq r)) (RV.newLoc s.len)
  | false => cases e; exact k w _ _ (Ext.fresh hq) (s.fresh hq) (RV.newLst s hq r)
theorem callS_sort {K : PySem.W.Frag} (al : Bool) : CallS K (rSortedIA K) (oSort al) := by
  intro w S H ds vs d S' Q s rd e k
  unfold oSort at e
  split at e
  · rename_i d0
    obtain ⟨v, rfl, rv⟩ := rd.one
    cases hl : seqOf S d0 with
    | none => rw [hl] at e; cases e
    | some es =>
      rw [hl] at e
      cases hi : intsOf es with
      | none => simp only [Option.bind_some, hi] at e; cases e
      | some is =>
        simp only [Option.bind_some, hi, Option.map_some] at e
        obtain ⟨a, xs, rfl, h2, h3⟩ := seqOf_sq s rv hl
        rw [intsOf_eq hi] at h3
        rw [h3.ints] at h2
        refine ⟨a, is, rfl, h2, fun ns' p hp ho hn => ?_⟩
        rw [isort_same hp ho]
        exact newList s (.of_ints _) hn (Option.some.inj e) k
  · cases e
def oList (al : Bool) : OpN := fun ds S => match ds with
  | [d] => (seqOf S d).map fun es => if al then (.loc S.length, S ++ [.lst es]) else (.lst es, S)
  | _ => none
theorem callS_list {K : PySem.W.Frag} (al : Bool) : CallS K (fun xs H Q => ∃ p ys, xs = [.ref p] ∧ (SqL K H p ys ∨ SqT K H p ys) ∧ ∀ l, H l = none → Q (.ref l) (upd H l (.lst ys))) (oList al) := by
  intro w S H ds vs d S' Q s rd e k
  unfold oList at e
  split at e
  · rename_i d0
    obtain ⟨v, rfl, rv⟩ := rd.one
    cases hl : seqOf S d0 with
    | none => rw [hl] at e; cases e
    | some es =>
      rw [hl] at e
      obtain ⟨a, xs, rfl, h2, h3⟩ := seqOf_sq s rv hl
      exact ⟨a, xs, rfl, h2, fun l hn => newList s h3 hn (Option.some.inj e) k⟩
  · cases e
def gTuple : List D → Sto → Option D := fun ds S => match ds with
  | [d] => match tupOf d with
    | some _ => some d
    | none => (lstOf S d).map D.tup
  | _ => none
theorem callS_tuple {K : PySem.W.Frag} : CallS K (fun xs H Q => ∃ p ys, xs = [.ref p] ∧ ((SqL K H p ys ∧ ∀ l, H l = none → Q (.ref l) (upd H l (.tup ys))) ∨ (SqT K H p ys ∧ Q (.ref p) H))) (pure1 gTuple) := callS_pure fun w S H ds vs d Q s rd e k => by
  unfold gTuple at e
  split at e
  · rename_i d0
    obtain ⟨v, rfl, rv⟩ := rd.one
    split at e
    · rename_i es he
      cases e
      obtain ⟨a, xs, rfl, h2, h3⟩ := tupOf_sq rv he
      exact ⟨a, xs, rfl, .inr ⟨h2, k w H _ .refl s rv⟩⟩
    · cases hl : lstOf S d0 with
      | none => rw [hl] at e; cases e
      | some es =>
        rw [hl] at e
        cases e
        obtain ⟨a, xs, rfl, h2, h3⟩ := lstOf_sq s rv hl
        exact ⟨a, xs, rfl, .inl ⟨h2, fun l hn => k w _ _ (Ext.fresh hn) (s.fresh hn) (RV.newTup hn h3)⟩⟩
  · cases e
section
variable {X : Cx} {W : WX} {p pos : Pos} {e : Expr} {es : List Expr} {fa : AF}
theorem E_len (hm : X.mg "len" = none) (ha : PA X (e :: es) (tA X.K W fa)) (hg : Gl X "len" := by rfl)
    (he : starEach (e :: es) X.env = (false, eval e X.env) :: starEach es X.env := by rfl) (hpl : (backTo pos (starEach es X.env)).any (·.1) = false := by rfl) : PE X (.Call (.Name "len" p) (e :: es) [] pos) (tE X.K W (eCb (pure1 gLen) fa)) :=
  E_cb call_len callS_len hm ha hg boot_len (by decide) (by decide) he hpl
theorem E_abs (hm : X.mg "abs" = none) (ha : PA X (e :: es) (tA X.K W fa)) (hg : Gl X "abs" := by rfl)
    (he : starEach (e :: es) X.env = (false, eval e X.env) :: starEach es X.env := by rfl) (hpl : (backTo pos (starEach es X.env)).any (·.1) = false := by rfl) : PE X (.Call (.Name "abs" p) (e :: es) [] pos) (tE X.K W (eCb (pure1 gAbs) fa)) :=
  E_cb call_abs callS_abs hm ha hg (by decide +kernel) (by decide) (by decide) he hpl
theorem E_intc (hm : X.mg "int" = none) (ha : PA X (e :: es) (tA X.K W fa)) (hg : Gl X "int" := by rfl)
    (he : starEach (e :: es) X.env = (false, eval e X.env) :: starEach es X.env := by rfl) (hpl : (backTo pos (starEach es X.env)).any (·.1) = false := by rfl) : PE X (.Call (.Name "int" p) (e :: es) [] pos) (tE X.K W (eCb (pure1 gInt) fa)) :=
  E_cty call_int1 callS_int hm ha hg (by decide +kernel) (by decide) (by decide) he hpl
theorem E_min (hc : X.calm = true) (hm : X.mg "min" = none) (ha : PA X (e :: es) (tA X.K W fa)) (hg : Gl X "min" := by rfl)
    (he : starEach (e :: es) X.env = (false, eval e X.env) :: starEach es X.env := by rfl) (hpl : (backTo pos (starEach es X.env)).any (·.1) = false := by rfl) : PE X (.Call (.Name "min" p) (e :: es) [] pos) (tE X.K W (eCb (pure1 gMin) fa)) :=
  E_cb (call_min2 hc) callS_min hm ha hg (by decide +kernel) (by decide) (by decide) he hpl
theorem E_max (hc : X.calm = true) (hm : X.mg "max" = none) (ha : PA X (e :: es) (tA X.K W fa)) (hg : Gl X "max" := by rfl)
    (he : starEach (e :: es) X.env = (false, eval e X.env) :: starEach es X.env := by rfl) (hpl : (backTo pos (starEach es X.env)).any (·.1) = false := by rfl) : PE X (.Call (.Name "max" p) (e :: es) [] pos) (tE X.K W (eCb (pure1 gMax) fa)) :=
  E_cb (call_max2 hc) callS_max hm ha hg (by decide +kernel) (by decide) (by decide) he hpl
theorem E_sum (hc : X.calm = true) (hm : X.mg "sum" = none) (ha : PA X (e :: es) (tA X.K W fa)) (hg : Gl X "sum" := by rfl)
    (he : starEach (e :: es) X.env = (false, eval e X.env) :: starEach es X.env := by rfl) (hpl : (backTo pos (starEach es X.env)).any (·.1) = false := by rfl) : PE X (.Call (.Name "sum" p) (e :: es) [] pos) (tE X.K W (eCb (pure1 gSum) fa)) :=
  E_cb (cr_sumA hc) callS_sum hm ha hg (by decide +kernel) (by decide) (by decide) he hpl
theorem E_any (hc : X.calm = true) (hm : X.mg "any" = none) (ha : PA X (e :: es) (tA X.K W fa)) (hg : Gl X "any" := by rfl)
    (he : starEach (e :: es) X.env = (false, eval e X.env) :: starEach es X.env := by rfl) (hpl : (backTo pos (starEach es X.env)).any (·.1) = false := by rfl) : PE X (.Call (.Name "any" p) (e :: es) [] pos) (tE X.K W (eCb (pure1 gAny) fa)) :=
  E_cb (cr_any hc) callS_any hm ha hg (by decide +kernel) (by decide) (by decide) he hpl
theorem E_all (hc : X.calm = true) (hm : X.mg "all" = none) (ha : PA X (e :: es) (tA X.K W fa)) (hg : Gl X "all" := by rfl)
    (he : starEach (e :: es) X.env = (false, eval e X.env) :: starEach es X.env := by rfl) (hpl : (backTo pos (starEach es X.env)).any (·.1) = false := by rfl) : PE X (.Call (.Name "all" p) (e :: es) [] pos) (tE X.K W (eCb (pure1 gAll) fa)) :=
  E_cb (cr_all hc) callS_all hm ha hg (by decide +kernel) (by decide) (by decide) he hpl
theorem E_sorted (al : Bool) (hm : X.mg "sorted" = none) (ha : PA X (e :: es) (tA X.K W fa)) (hg : Gl X "sorted" := by rfl)
    (he : starEach (e :: es) X.env = (false, eval e X.env) :: starEach es X.env := by rfl) (hpl : (backTo pos (starEach es X.env)).any (·.1) = false := by rfl) : PE X (.Call (.Name "sorted" p) (e :: es) [] pos) (tE X.K W (eCb (oSort al) fa)) :=
  E_cb cr_sortedIA (callS_sort al) hm ha hg (by decide +kernel) (by decide) (by decide) he hpl
theorem E_list (al : Bool) (hm : X.mg "list" = none) (ha : PA X (e :: es) (tA X.K W fa)) (hg : Gl X "list" := by rfl)
    (he : starEach (e :: es) X.env = (false, eval e X.env) :: starEach es X.env := by rfl) (hpl : (backTo pos (starEach es X.env)).any (·.1) = false := by rfl) : PE X (.Call (.Name "list" p) (e :: es) [] pos) (tE X.K W (eCb (oList al) fa)) :=
  E_cty call_list_of (callS_list al) hm ha hg (by decide +kernel) (by decide) (by decide) he hpl
theorem E_tuple (hm : X.mg "tuple" = none) (ha : PA X (e :: es) (tA X.K W fa)) (hg : Gl X "tuple" := by rfl)
    (he : starEach (e :: es) X.env = (false, eval e X.env) :: starEach es X.env := by rfl) (hpl : (backTo pos (starEach es X.env)).any (·.1) = false := by rfl) : PE X (.Call (.Name "tuple" p) (e :: es) [] pos) (tE X.K W (eCb (pure1 gTuple) fa)) :=
  E_cty call_tuple_of callS_tuple hm ha hg (by decide +kernel) (by decide) (by decide) he hpl
theorem E_gcd (hm : X.mg "gcd" = some (.builtin "math.gcd")) (ha : PA X (e :: es) (tA X.K W fa)) (hg : Gl X "gcd" := by rfl)
    (he : starEach (e :: es) X.env = (false, eval e X.env) :: starEach es X.env := by rfl) (hpl : (backTo pos (starEach es X.env)).any (·.1) = false := by rfl) : PE X (.Call (.Name "gcd" p) (e :: es) [] pos) (tE X.K W (eCb (pure1 gGcd) fa)) :=
  E_cbf cr_gcd callS_gcd hm ha hg (by decide) he hpl
end

/-! ### list(range(..)) -/
def okRg (a b : Int) : Bool := decide (-(2 ^ 62) ≤ a ∧ a < 2 ^ 62 ∧ -(2 ^ 62) ≤ b ∧ b < 2 ^ 62 ∧ (b - a).toNat ≤ 2 ^ 24)
def mkRg (al : Bool) (a b : Int) (S : Sto) : R D := if okRg a b then (if al then .ok (.loc S.length) (S ++ [.lst (rngD a (b - a).toNat)]) else .ok (.lst (rngD a (b - a).toNat)) S) else .no
def eLr1 (al : Bool) (fa : EF) : EF := fun ρ S => (fa ρ S).bind fun x S1 => match x with
  | .int n => mkRg al 0 n S1
  | _ => .no
def eLr2 (al : Bool) (fa fb : EF) : EF := fun ρ S => (fa ρ S).bind fun x S1 => (fb ρ S1).bind fun y S2 => match x, y with
  | .int i, .int j => mkRg al i j S2
  | _, _ => .no
theorem rng_rel {K : PySem.W.Frag} {w : Wo} {H : Hp} (a b : Int) : RVs K w H (rngD a (b - a).toNat) (rgV a b) := by
  unfold rngD rgV
  generalize (b - a).toNat = n
  generalize List.range n = l
  induction l with
  | nil => exact .nil
  | cons i l ih => exact .cons (by simp only [RV]) ih
theorem mkRg_of {K : PySem.W.Frag} {W : WX} {w : Wo} {S : Sto} {H : Hp} {σ : St} {Q : VK} {al : Bool} {a b : Int} (s : Sim K w S H) (p : PostG K (RV K) W w H σ (mkRg al a b S) Q) : RgOk a b ∧ ∀ q, H q = none → Q (.ref q) (upd H q (.lst (rgV a b))) := by
  unfold mkRg at p
  split at p
  · rename_i hk
    refine ⟨by have h := hk; unfold okRg at h; have h2 := of_decide_eq_true h; exact h2, fun q hq => ?_⟩
    cases al with
    | true => exact newList (al := true) s (rng_rel a b) hq rfl p
    | false => exact newList (al := false) s (rng_rel a b) hq rfl p
  · exact p.elim
section
variable {X : Cx} {W : WX} {p pos p2 pos2 : Pos} {a b : Expr} {fa fb : EF}
theorem E_lr1 (al : Bool) (hc : X.calm = true) (hl : X.mg "list" = none) (hr : X.mg "range" = none) (ha : PE X a (tE X.K W fa)) (hg : Gl X "list" := by rfl) (hg2 : Gl X "range" := by rfl) (na : starEach [a] X.env = (false, eval a X.env) :: starEach [] X.env := by rfl)
    (na2 : starEach [Expr.Call (.Name "range" p2) [a] [] pos2] X.env = (false, eval (.Call (.Name "range" p2) [a] [] pos2) X.env) :: starEach [] X.env := by rfl) : PE X (.Call (.Name "list" p) [.Call (.Name "range" p2) [a] [] pos2] [] pos) (tE X.K W (eLr1 al fa)) :=
  PE.weak (pe_listRg hc hg hl (prg_1 hg2 hr ha na) na2) fun σ H Q h => by
    obtain ⟨w, S, ρ, s, re, p⟩ := h
    refine ⟨w, S, ρ, s, re, p.bind fun w1 H1 v x S1 e1 s1 rx p1 => ?_⟩
    cases x with
    | int n =>
      simp only [RV] at rx
      exact ⟨n, rx, mkRg_of s1 p1⟩
    | _ => exact p1.elim
theorem E_lr2 (al : Bool) (hc : X.calm = true) (hl : X.mg "list" = none) (hr : X.mg "range" = none) (ha : PE X a (tE X.K W fa)) (hb : PE X b (tE X.K W fb)) (hg : Gl X "list" := by rfl) (hg2 : Gl X "range" := by rfl)
    (na : starEach [a, b] X.env = (false, eval a X.env) :: starEach [b] X.env := by rfl) (nb : starEach [b] X.env = (false, eval b X.env) :: starEach [] X.env := by rfl) (hp : (backTo pos2 (starEach [b] X.env)).any (·.1) = false := by rfl)
    (na2 : starEach [Expr.Call (.Name "range" p2) [a, b] [] pos2] X.env = (false, eval (.Call (.Name "range" p2) [a, b] [] pos2) X.env) :: starEach [] X.env := by rfl) : PE X (.Call (.Name "list" p) [.Call (.Name "range" p2) [a, b] [] pos2] [] pos) (tE X.K W (eLr2 al fa fb)) :=
  PE.weak (pe_listRg hc hg hl (prg_2 hg2 hr ha hb na nb hp) na2) fun σ H Q h => by
    obtain ⟨w, S, ρ, s, re, p⟩ := h
    refine ⟨w, S, ρ, s, re, p.bind fun w1 H1 v x S1 e1 s1 rx p1 => ?_⟩
    refine ⟨w1, S1, ρ, s1, re.mono e1, p1.bind fun w2 H2 u y S2 e2 s2 ry p2 => ?_⟩
    cases x with
    | int i =>
      cases y with
      | int j =>
        simp only [RV] at rx ry
        exact ⟨i, j, rx, ry, mkRg_of s2 p2⟩
      | _ => exact p2.elim
    | _ => exact p2.elim
end

/-! ### isinstance(x, T) -/
def isiD (T : String) (S : Sto) : D → Option Bool
  | .non => L2.kitB "NoneType" T
  | .bl _ => kitB "bool" T
  | .int _ => kitB "int" T
  | .str _ => kitB "str" T
  | .tup _ => kitB "tuple" T
  | .con _ => kitB "tuple" T
  | .lst _ => kitB "list" T
  | .frz _ => kitB "list" T
  | .loc n => match S[n]? with
    | some (.lst _) => kitB "list" T
    | _ => none
  | _ => none
def eIsi (T : String) (fa : EF) : EF := fun ρ S => (fa ρ S).bind fun x S1 => liftO ((isiD T S1 x).map D.bl) S1
section
variable {X : Cx} {W : WX} {p pos q : Pos} {a : Expr} {fa : EF} {T : String} {t : Str}
theorem tyx_of {K : PySem.W.Frag} {w : Wo} {S : Sto} {H : Hp} {x : D} {v : V} {b : Bool} (s : Sim K w S H) (rx : RV K w H x v) (h : isiD T S x = some b) : ∃ u, TyX K H v u ∧ PySem.W.kitOne K u (.type T) = some b := by
  cases x with
  | non => simp only [RV] at rx; subst rx; exact ⟨_, .base .non, kit_ty h⟩
  | bl k => simp only [RV] at rx; subst rx; exact ⟨_, .base (.bl k), kit_ty h⟩
  | int k => simp only [RV] at rx; subst rx; exact ⟨_, .base (.int k), kit_ty h⟩
  | str k => simp only [RV] at rx; subst rx; exact ⟨_, .base (.str k), kit_ty h⟩
  | tup ds => simp only [RV] at rx; obtain ⟨a, xs, rfl, h2, h3⟩ := rx; exact ⟨_, .base (.tup h2), kit_ty h⟩
  | con ds => simp only [RV] at rx; obtain ⟨a, xs, rfl, ⟨o, its, n, h2, h4, _⟩, h3⟩ := rx; exact ⟨_, .kTuple h2 h4, kit_ty h⟩
  | lst ds => simp only [RV] at rx; obtain ⟨a, xs, rfl, h2, _, h3⟩ := rx; exact ⟨_, .base (.lst h2), kit_ty h⟩
  | frz ds =>
    simp only [RV] at rx
    obtain ⟨a, xs, rfl, h2, h3⟩ := rx
    rcases h2 with ⟨o, h2, _⟩ | ⟨o, its, n, h2, h4, _⟩
    · exact ⟨_, .base (.frz h2), kit_ty h⟩
    · exact ⟨_, .kList h2 h4, kit_ty h⟩
  | loc n =>
    simp only [isiD] at h
    split at h
    · rename_i ds hd
      obtain ⟨a, rfl, h2, xs, h3, h4⟩ := s.get hd rx
      exact ⟨_, .base (.lst h3), kit_ty h⟩
    · cases h
  | fn x => cases h
  | exc _ _ _ _ => cases h
theorem E_isi (hm : X.mg "isinstance" = none) (hm2 : X.mg t = none) (ha : PE X a (tE X.K W fa)) (hv : bootBuiltins t = some (.type T) := by decide +kernel) (hg : Gl X "isinstance" := by rfl) (hg2 : Gl X t := by rfl) (hn : t ≠ "__name__" := by decide) (hd : (t == ("__debug__" : Str)) = false := by decide)
    (na : starEach [a, .Name t q] X.env = (false, eval a X.env) :: starEach [.Name t q] X.env := by rfl) (nb : starEach [.Name t q] X.env = (false, eval (.Name t q) X.env) :: starEach [] X.env := by rfl) (hpl : (backTo pos (starEach [.Name t q] X.env)).any (·.1) = false := by rfl) :
    PE X (.Call (.Name "isinstance" p) [a, .Name t q] [] pos) (tE X.K W (eIsi T fa)) :=
  PE.weak (pe_callB call_isi hg hm (by decide +kernel) (pa_cons ha (pa_cons (pe_bltn (v := .ty T) hg2 hm2 hv rfl hn hd) pa_nil nb) na) (by decide) (by decide) na hpl) fun σ H Q h => by
    obtain ⟨w, S, ρ, s, re, p⟩ := h
    refine ⟨w, S, ρ, s, re, p.bind fun w1 H1 v x S1 e1 s1 rx p1 => ?_⟩
    cases hb : isiD T S1 x with
    | none => rw [hb] at p1; exact p1.elim
    | some b =>
      rw [hb] at p1
      obtain ⟨u, h1, h2⟩ := tyx_of s1 rx hb
      exact ⟨v, .ty T, u, .type T, b, rfl, .ty _, h1, h2, p1 w1 H1 _ .refl s1 (by simp only [RV])⟩
end
end Ev

namespace Ev
open PySem PySem.Spec PyProof.Rows L2

/-! ### slices -/
abbrev PF := En → Sto → R (Option Int)
def relP : Wo → Hp → Option Int → Option Int → Prop := fun _ _ a b => b = a
def tP (K : PySem.W.Frag) (W : WX) (f : PF) : TO := tG K relP W f
def pNone : PF := fun _ S => .ok none S
def pSome (fe : EF) : PF := fun ρ S => (fe ρ S).bind fun x S1 => match x with
  | .int i => .ok (some i) S1
  | _ => .no
def cutD {α : Type} (xs : List α) (lo hi : Option Int) : List α := (xs.drop (HT.sIx xs.length 0 lo)).take (HT.sIx xs.length xs.length hi - HT.sIx xs.length 0 lo)
/-- of a list (a new one), of a tuple -/
def oSl (al : Bool) (x : D) (lo hi : Option Int) (S : Sto) : R D := match tupOf x with
  | some ds => if HT.sIx ds.length 0 lo = 0 ∧ HT.sIx ds.length ds.length hi = ds.length then .ok x S else .ok (.tup (cutD ds lo hi)) S
  | none => match lstOf S x with
    | some ds => if al then .ok (.loc S.length) (S ++ [.lst (cutD ds lo hi)]) else .ok (.lst (cutD ds lo hi)) S
    | none => .no
def eSl (al : Bool) (fe : EF) (fl fh : PF) : EF := fun ρ S => (fe ρ S).bind fun x S1 => (fl ρ S1).bind fun l S2 => (fh ρ S2).bind fun h S3 => oSl al x l h S3
section
variable {X : Cx} {W : WX} {pos p2 : Pos} {e : Expr} {fe : EF} {fl fh : PF} {lo hi : Option Expr}
theorem PO.weak {t t' : TO} {lo : Option Expr} (h : PO X lo t) (k : ∀ σ H Q, t' σ H Q → t σ H Q) : PO X lo t' := ⟨fun pins s σ H Q I q => h.run pins s σ H Q I (k σ H Q q)⟩
theorem P_none : PO X none (tP X.K W pNone) := PO.weak po_none fun σ H Q h => let ⟨w, S, ρ, s, re, p⟩ := h; p.ret s rfl
theorem P_some (he : PE X e (tE X.K W fe)) : PO X (some e) (tP X.K W (pSome fe)) :=
  PO.weak (po_some he) fun σ H Q h => by
    obtain ⟨w, S, ρ, s, re, p⟩ := h
    refine ⟨w, S, ρ, s, re, p.bind fun w1 H1 v x S1 e1 s1 rx p1 => ?_⟩
    cases x with
    | int i => simp only [RV] at rx; exact ⟨i, rx, p1 w1 H1 _ .refl s1 rfl⟩
    | _ => exact p1.elim
theorem cut_rel {K : PySem.W.Frag} {w : Wo} {H : Hp} {ds : List D} {xs : List V} (r : RVs K w H ds xs) (lo hi : Option Int) : RVs K w H (cutD ds lo hi) (cutV xs lo hi) := by
  unfold cutD cutV
  rw [← r.length]
  exact (r.drop _).take _
theorem E_slice (al : Bool) (he : PE X e (tE X.K W fe)) (hl : PO X lo (tP X.K W fl)) (hh : PO X hi (tP X.K W fh)) : PE X (.Subscript e (.Slice lo hi none p2) pos) (tE X.K W (eSl al fe fl fh)) :=
  PE.weak (pe_slice (sl_list.or sl_tupA) he hl hh) fun σ H Q h => by
    obtain ⟨w, S, ρ, s, re, p⟩ := h
    refine ⟨w, S, ρ, s, re, p.bind fun w1 H1 v x S1 e1 s1 rx p1 => ?_⟩
    refine ⟨w1, S1, ρ, s1, re.mono e1, p1.bind fun w2 H2 l l' S2 e2 s2 rl p2 => ?_⟩
    cases rl
    refine ⟨w2, S2, ρ, s2, (re.mono e1).mono e2, p2.bind fun w3 H3 u u' S3 e3 s3 ru p3 => ?_⟩
    cases ru
    have rx := (rx.mono e2).mono e3
    unfold oSl at p3
    split at p3
    · rename_i ds hd
      obtain ⟨a, xs, rfl, h2, h3⟩ := tupOf_sq rx hd
      rw [h3.length] at p3
      refine .inr ⟨a, xs, rfl, h2, fun hc => ?_, fun hc q hq => ?_⟩
      · rw [if_pos hc] at p3; exact p3 w3 H3 _ .refl s3 rx
      · rw [if_neg hc] at p3; exact p3 w3 _ _ (Ext.fresh hq) (s3.fresh hq) (RV.newTup hq (cut_rel h3 _ _))
    · split at p3
      · rename_i ds hd
        obtain ⟨a, xs, rfl, h2, h3⟩ := lstOf_sq s3 rx hd
        refine .inl ⟨a, xs, rfl, h2, fun q hq => ?_⟩
        cases al with
        | true => exact newList (al := true) s3 (cut_rel h3 _ _) hq rfl p3
        | false => exact newList (al := false) s3 (cut_rel h3 _ _) hq rfl p3
      · exact p3.elim
end

/-! ### methods of lists -/
abbrev OpM := D → List D → Sto → Option (D × Sto)
def MethS (K : PySem.W.Frag) (r : V → List V → Hp → VK → Prop) (o : OpM) : Prop := ∀ (w : Wo) (S : Sto) (H : Hp) (x : D) (v : V) (ds : List D) (vs : List V) (d : D) (S' : Sto) (Q : VK), Sim K w S H → RV K w H x v → RVs K w H ds vs → o x ds S = some (d, S') →
  (∀ w' H' z, Ext w H w' H' → Sim K w' S' H' → RV K w' H' d z → Q z H') → r v vs H Q
def isLst (S : Sto) (x : D) : Bool := (lstOf S x).isSome
def eLm (o : OpM) (fx : EF) (fa : AF) : EF := fun ρ S => (fx ρ S).bind fun x S1 => if isLst S1 x = true then (fa ρ S1).bind fun ds S2 => liftP (o x ds S2) else .no
theorem isLst_ty {K : PySem.W.Frag} {w : Wo} {S : Sto} {H : Hp} {x : D} {v : V} (s : Sim K w S H) (rx : RV K w H x v) (h : isLst S x = true) : tyV K "list" v H := by
  unfold isLst at h
  cases hl : lstOf S x with
  | none => rw [hl] at h; cases h
  | some ds =>
    obtain ⟨a, xs, rfl, h2, h3⟩ := lstOf_sq s rx hl
    exact .inl ⟨rfl, xs, h2⟩
section
variable {X : Cx} {W : WX} {o e : Expr} {es : List Expr} {fx : EF} {fa : AF} {name : Str} {apos cpos : Pos} {id : String} {r : V → List V → Hp → VK → Prop} {op : OpM}
theorem E_lm (pa : PlainAttrs "list") (slot : Slot "list" name id) (hty : typeOf (.builtin id) = pure (.type "method_descriptor")) (hm : MtR X id r) (hs : MethS X.K r op) (ho : PE X o (tE X.K W fx)) (ha : PA X (e :: es) (tA X.K W fa))
    (hbase : attributeBase o name X.env (eval o X.env) = eval o X.env := by rfl)
    (hfew : ((backTo cpos (starEach (e :: es) X.env)).all (fun x => !x.1) && (backToKw cpos (keywordEach [] X.env)).all (fun x => x.1.isSome)
      && decide ((e :: es).length + ([] : List Keyword).length + (if ([] : List Keyword).isEmpty then 0 else 1) < 30)) = true := by rfl)
    (hline : (apos.endLine == cpos.line) = true := by rfl) (hst : starEach (e :: es) X.env = (false, eval e X.env) :: starEach es X.env := by rfl) (hplain : (backTo cpos (starEach es X.env)).any (·.1) = false := by rfl) :
    PE X (.Call (.Attribute o name apos) (e :: es) [] cpos) (tE X.K W (eLm op fx fa)) :=
  PE.weak (pe_bm pa slot hty hm ho ha hbase hfew hline hst hplain) fun σ H Q h => by
    obtain ⟨w, S, ρ, s, re, p⟩ := h
    refine ⟨w, S, ρ, s, re, p.bind fun w1 H1 v x S1 e1 s1 rx p1 => ?_⟩
    by_cases hl : isLst S1 x = true
    · rw [if_pos hl] at p1
      refine ⟨isLst_ty s1 rx hl, w1, S1, ρ, s1, re.mono e1, p1.bind fun w2 H2 vs ds S2 e2 s2 rd p2 => ?_⟩
      cases hop : op x ds S2 with
      | none => rw [hop] at p2; exact p2.elim
      | some q => obtain ⟨d, S3⟩ := q; rw [hop] at p2; exact hs w2 S2 H2 x v ds vs d S3 Q s2 (rx.mono e2) rd hop fun w3 H3 z e3 s3 rz => p2 w3 H3 z e3 s3 rz
    · rw [if_neg hl] at p1; exact p1.elim
end
def mAppend : OpM := fun x ds S => match x, ds with
  | .loc n, [d] => match S[n]? with
    | some (.lst es) => if es.length < sizeLine then some (.non, S.set n (.lst (es ++ [d]))) else none
    | _ => none
  | _, _ => none
def mInsert : OpM := fun x ds S => match x, ds with
  | .loc n, [.int i, d] => match S[n]? with
    | some (.lst es) => if es.length < sizeLine ∧ 0 ≤ i ∧ i < 2 ^ 63 then some (.non, S.set n (.lst (es.take i.toNat ++ [d] ++ es.drop i.toNat))) else none
    | _ => none
  | _, _ => none
def mExtend : OpM := fun x ds S => match x, ds with
  | .loc n, [d] => match S[n]? with
    | some (.lst es) => match lstX S d with
      | some fs => if es.length + fs.length ≤ sizeLine then some (.non, S.set n (.lst (es ++ fs))) else none
      | none => none
    | _ => none
  | _, _ => none
theorem setCell {K : PySem.W.Frag} {w : Wo} {S : Sto} {H : Hp} {n : Nat} {a : Addr} {c : Cel} {o : HO} {Q : Hp → Prop} (s : Sim K w S H) (hn : w.m[n]? = some a) (hf : Free H a) (hc : RC K w (upd H a o) a c)
    (k : ∀ w' H', Ext w H w' H' → Sim K w' (S.set n c) H' → Q H') : Q (upd H a o) := k w _ (Ext.write s (List.mem_of_getElem? hn) hf) (s.write hn hf hc)
theorem RVs.wr {K : PySem.W.Frag} {w : Wo} {S : Sto} {H : Hp} {n : Nat} {a : Addr} {o : HO} {ds : List D} {vs : List V} (s : Sim K w S H) (hn : w.m[n]? = some a) (hf : Free H a) (r : RVs K w H ds vs) : RVs K w (upd H a o) ds vs := r.mono (Ext.write s (List.mem_of_getElem? hn) hf)
theorem methS_append {K : PySem.W.Frag} : MethS K rAppend mAppend := by
  intro w S H x v ds vs d S' Q s rx rd e k
  unfold mAppend at e
  split at e
  · rename_i n d0
    split at e
    · rename_i es he
      split at e
      · rename_i hz
        cases e
        obtain ⟨a, rfl, h2, xs, h3, h4⟩ := s.get he rx
        obtain ⟨u, rfl, ru⟩ := rd.one
        refine ⟨a, xs, u, rfl, rfl, h3, by rw [← h4.length]; exact hz, ?_⟩
        exact k w _ _ (Ext.write s (List.mem_of_getElem? h2) (free_of h3 fun _ _ z => nomatch z)) (s.write h2 (free_of h3 fun _ _ z => nomatch z) ⟨_, upd_same, (h4.snoc ru).wr s h2 (free_of h3 fun _ _ z => nomatch z)⟩) (by simp only [RV])
      · cases e
    · cases e
  · cases e
theorem methS_insert {K : PySem.W.Frag} : MethS K (fun x vs H Q => ∃ (l : Addr) (xs : List V) (i : Int) (y : V), x = .ref l ∧ vs = [.int i, y] ∧ H l = some (.lst xs) ∧ xs.length < sizeLine ∧ 0 ≤ i ∧ i < 2 ^ 63 ∧
    Q .non (upd H l (.lst (xs.take i.toNat ++ [y] ++ xs.drop i.toNat)))) mInsert := by
  intro w S H x v ds vs d S' Q s rx rd e k
  unfold mInsert at e
  split at e
  · rename_i n i d0
    split at e
    · rename_i es he
      split at e
      · rename_i hz
        cases e
        obtain ⟨a, rfl, h2, xs, h3, h4⟩ := s.get he rx
        obtain ⟨u, u2, rfl, ru, ru2⟩ := rd.two
        simp only [RV] at ru
        subst ru
        refine ⟨a, xs, i, u2, rfl, rfl, h3, by rw [← h4.length]; exact hz.1, hz.2.1, hz.2.2, ?_⟩
        exact k w _ _ (Ext.write s (List.mem_of_getElem? h2) (free_of h3 fun _ _ z => nomatch z)) (s.write h2 (free_of h3 fun _ _ z => nomatch z) ⟨_, upd_same, (((h4.take _).snoc ru2).append (h4.drop _)).wr s h2 (free_of h3 fun _ _ z => nomatch z)⟩) (by simp only [RV])
      · cases e
    · cases e
  · cases e
theorem methS_extend {K : PySem.W.Frag} : MethS K rExtend mExtend := by
  intro w S H x v ds vs d S' Q s rx rd e k
  unfold mExtend at e
  split at e
  · rename_i n d0
    split at e
    · rename_i es he
      split at e
      · rename_i fs hf
        split at e
        · rename_i hz
          cases e
          obtain ⟨a, rfl, h2, xs, h3, h4⟩ := s.get he rx
          obtain ⟨u, rfl, ru⟩ := rd.one
          obtain ⟨b, zs, rfl, g2, g3⟩ := lstX_sq s ru hf
          refine ⟨a, b, xs, zs, rfl, rfl, h3, g2, by rw [← h4.length, ← g3.length]; exact hz, ?_⟩
          exact k w _ _ (Ext.write s (List.mem_of_getElem? h2) (free_of h3 fun _ _ z => nomatch z)) (s.write h2 (free_of h3 fun _ _ z => nomatch z) ⟨_, upd_same, (h4.append g3).wr s h2 (free_of h3 fun _ _ z => nomatch z)⟩) (by simp only [RV])
        · cases e
      · cases e
    · cases e
  · cases e
section
variable {X : Cx} {W : WX} {o e : Expr} {es : List Expr} {fx : EF} {fa : AF} {apos cpos : Pos}
theorem E_append (ho : PE X o (tE X.K W fx)) (ha : PA X (e :: es) (tA X.K W fa)) (hbase : attributeBase o "append" X.env (eval o X.env) = eval o X.env := by rfl)
    (hfew : ((backTo cpos (starEach (e :: es) X.env)).all (fun x => !x.1) && (backToKw cpos (keywordEach [] X.env)).all (fun x => x.1.isSome)
      && decide ((e :: es).length + ([] : List Keyword).length + (if ([] : List Keyword).isEmpty then 0 else 1) < 30)) = true := by rfl)
    (hline : (apos.endLine == cpos.line) = true := by rfl) (hst : starEach (e :: es) X.env = (false, eval e X.env) :: starEach es X.env := by rfl) (hplain : (backTo cpos (starEach es X.env)).any (·.1) = false := by rfl) :
    PE X (.Call (.Attribute o "append" apos) (e :: es) [] cpos) (tE X.K W (eLm mAppend fx fa)) :=
  E_lm PySem.F.plainAttrs_list PySem.F.slot_list_append PySem.F.type_list_append mt_append methS_append ho ha hbase hfew hline hst hplain
theorem E_insert (ho : PE X o (tE X.K W fx)) (ha : PA X (e :: es) (tA X.K W fa)) (hbase : attributeBase o "insert" X.env (eval o X.env) = eval o X.env := by rfl)
    (hfew : ((backTo cpos (starEach (e :: es) X.env)).all (fun x => !x.1) && (backToKw cpos (keywordEach [] X.env)).all (fun x => x.1.isSome)
      && decide ((e :: es).length + ([] : List Keyword).length + (if ([] : List Keyword).isEmpty then 0 else 1) < 30)) = true := by rfl)
    (hline : (apos.endLine == cpos.line) = true := by rfl) (hst : starEach (e :: es) X.env = (false, eval e X.env) :: starEach es X.env := by rfl) (hplain : (backTo cpos (starEach es X.env)).any (·.1) = false := by rfl) :
    PE X (.Call (.Attribute o "insert" apos) (e :: es) [] cpos) (tE X.K W (eLm mInsert fx fa)) :=
  E_lm PySem.F.plainAttrs_list PySem.F.slot_list_insert PySem.F.type_list_insert mt_insert methS_insert ho ha hbase hfew hline hst hplain
theorem E_extend (ho : PE X o (tE X.K W fx)) (ha : PA X (e :: es) (tA X.K W fa)) (hbase : attributeBase o "extend" X.env (eval o X.env) = eval o X.env := by rfl)
    (hfew : ((backTo cpos (starEach (e :: es) X.env)).all (fun x => !x.1) && (backToKw cpos (keywordEach [] X.env)).all (fun x => x.1.isSome)
      && decide ((e :: es).length + ([] : List Keyword).length + (if ([] : List Keyword).isEmpty then 0 else 1) < 30)) = true := by rfl)
    (hline : (apos.endLine == cpos.line) = true := by rfl) (hst : starEach (e :: es) X.env = (false, eval e X.env) :: starEach es X.env := by rfl) (hplain : (backTo cpos (starEach es X.env)).any (·.1) = false := by rfl) :
    PE X (.Call (.Attribute o "extend" apos) (e :: es) [] cpos) (tE X.K W (eLm mExtend fx fa)) :=
  E_lm PySem.F.plainAttrs_list PySem.F.slot_list_extend PySem.F.type_list_extend mt_extend methS_extend ho ha hbase hfew hline hst hplain
end

/-! ### xs[i] = v -/
def sSub (fo fi fe : EF) : SF := fun ρ S => sB (fe ρ S) ρ fun d S1 => sB (fo ρ S1) ρ fun x S2 => sB (fi ρ S2) ρ fun y S3 => match x, y with
  | .loc n, .int i => match S3[n]? with
    | some (.lst es) => match ixN es.length i with
      | some j => .nx ρ (S3.set n (.lst (es.set j d)))
      | none => .no
    | _ => .no
  | _, _ => .no
section
variable {X : Cx} {W : WX} {pos pos' : Pos} {o i e : Expr} {fo fi fe : EF}
theorem S_sub (he : PE X e (tE X.K W fe)) (ho : PE X o (tE X.K W fo)) (hi : PE X i (tE X.K W fi))
    (ha : ∀ v, assign (.Subscript o i pos') X.env v = (do
      let ov ← holding [v] (eval o X.env)
      let iv ← holding [v, ov] (eval i X.env)
      standAt pos'
      holding [v, ov, iv] (setItem ov iv v)
      release [v, ov, iv] []) := by intro _; rfl) (hs : swapsWithSole [.Subscript o i pos'] e pos.line X.env = pure false := by rfl) (hw : swappedStores [.Subscript o i pos'] e X.env = pure none := by rfl)
    (h1 : (assignEach [.Subscript o i pos'] X.env).map (·.2) = [assign (.Subscript o i pos') X.env] := by rfl) : PS X (.Assign [.Subscript o i pos'] e pos) (tS X.K W (sSub fo fi fe)) :=
  PS.weak (ps_asg he (pg_sub ho hi set_list ha) hs hw h1) fun D0 σ H h => by
    obtain ⟨w, S, ρ, s, re, p⟩ := h
    refine ⟨w, S, ρ, s, re, PostS.bind p re fun w1 H1 v d S1 e1 s1 rd p1 => ?_⟩
    refine ⟨w1, S1, ρ, s1, re.mono e1, PostS.bind p1 (re.mono e1) fun w2 H2 u x S2 e2 s2 rx p2 => ?_⟩
    refine ⟨w2, S2, ρ, s2, (re.mono e1).mono e2, PostS.bind p2 ((re.mono e1).mono e2) fun w3 H3 t y S3 e3 s3 ry p3 => ?_⟩
    split at p3
    · rename_i n i0
      split at p3
      · rename_i es hes
        split at p3
        · rename_i j hj
          simp only [RV] at ry
          subst ry
          obtain ⟨a, rfl, h2, xs, h3, h4⟩ := s3.get hes (rx.mono e3)
          refine ⟨a, xs, i0, j, rfl, rfl, h3, by rw [← h4.length]; exact hj, ?_⟩
          have ew := Ext.write (o := .lst (xs.set j v)) s3 (List.mem_of_getElem? h2) (free_of h3 fun _ _ z => nomatch z)
          exact p3 w3 _ σ ew (s3.write h2 (free_of h3 fun _ _ z => nomatch z) ⟨_, upd_same, (h4.set j ((rd.mono e2).mono e3)).wr s3 h2 (free_of h3 fun _ _ z => nomatch z)⟩) ((((re.mono e1).mono e2).mono e3).mono ew)
        · exact p3.elim
      · exact p3.elim
    · exact p3.elim
end
end Ev

namespace Ev
open PySem PySem.Spec PyProof.Rows L2

/-! ### a for over a list or a tuple -/
def seqW (d : D) (S : Sto) : R Wk := match tupOf d with
  | some ds => .ok ⟨ds, none⟩ S
  | none => match d with
    | .lst ds => .ok ⟨ds, none⟩ S
    | .frz ds => .ok ⟨ds, none⟩ S
    | .loc n => match S[n]? with
      | some (.lst ds) => .ok ⟨ds, some (n, .lst ds)⟩ S
      | _ => .no
    | _ => .no
def iSeqD (fe : EF) : IF := fun ρ S => (fe ρ S).bind seqW
section
variable {X : Cx} {W : WX} {tg e : Expr} {fe : EF}
theorem pi_seq {l : Expr} {tl : TE} (hl : PE X l tl) : PI X tg l (fun σ H R => tl σ H fun x H1 => ∃ a, x = .ref a ∧ (((∃ xs, SqL X.K H1 a xs) ∧ R (Itl X.K a) H1) ∨ ((∃ xs, SqT X.K H1 a xs) ∧ R (Itt X.K a) H1))) := by
  refine ⟨fun pins s σ H R I h => ?_⟩
  refine thn (hl.run pins s σ H _ I h) fun v s1 ⟨x, H1, I1, r1, q1⟩ => ?_
  obtain ⟨a, e, q⟩ := q1
  subst e
  cases r1
  rcases q with ⟨⟨xs, hq⟩, q⟩ | ⟨⟨xs, hq⟩, q⟩
  · obtain ⟨its, rv, p, hz⟩ := I1.list hq
    refine wpAny_pyIter_list p.isList ?_
    refine ⟨s1.heap.objs.size, [s1.heap.objs.size], _, _, H1, rfl, I1.kept (t' := s1.toks) fun b o e => Heap.get?_push_of_some _ e, turn_list a _, ⟨_, Heap.get?_push_size _ rfl, rfl, rfl⟩, fun b hb => ?_, q⟩
    have e : b = s1.heap.objs.size := by simpa using hb
    subst e
    exact I1.fpOk (Nat.le_refl _) (I1.hok.fresh (Nat.le_refl _))
  · obtain ⟨its, rv, p, hz⟩ := I1.tuple hq
    refine wpAny_pyIter_tuple (show s1.heap.IsTuple a its.toArray from p) ?_
    refine ⟨s1.heap.objs.size, [s1.heap.objs.size], _, _, H1, rfl, I1.kept (t' := s1.toks) fun b o e => Heap.get?_push_of_some _ e, turn_tuple a _, ⟨_, Heap.get?_push_size _ rfl, rfl, rfl⟩, fun b hb => ?_, q⟩
    have e : b = s1.heap.objs.size := by simpa using hb
    subst e
    exact I1.fpOk (Nat.le_refl _) (I1.hok.fresh (Nat.le_refl _))
theorem seqW_walks {K : PySem.W.Frag} {w : Wo} {S : Sto} {H : Hp} {σ : St} {d : D} {v : V} {R0 : It → Hp → Prop} (s : Sim K w S H) (rd : RV K w H d v) (p : PostG K (Walks K) W w H σ (seqW d S) R0) :
    ∃ a, v = .ref a ∧ (((∃ xs, SqL K H a xs) ∧ R0 (Itl K a) H) ∨ ((∃ xs, SqT K H a xs) ∧ R0 (Itt K a) H)) := by
  unfold seqW at p
  split at p
  · rename_i ds hd
    obtain ⟨a, xs, h1, h2, h3⟩ := tupOf_sq rd hd
    exact ⟨a, h1, .inr ⟨⟨xs, h2⟩, p w H _ .refl s (walks_tup s h2 h3)⟩⟩
  · cases d with
    | lst ds =>
      simp only [RV] at rd
      obtain ⟨a, xs, h1, h2, h4, h3⟩ := rd
      exact ⟨a, h1, .inl ⟨⟨xs, SqL.of h2⟩, p w H _ .refl s (walks_lst ⟨⟨_, h2⟩, h4.1⟩ (.inl h2) h3)⟩⟩
    | frz ds =>
      simp only [RV] at rd
      obtain ⟨a, xs, h1, h2, h3⟩ := rd
      exact ⟨a, h1, .inl ⟨⟨xs, h2.sq⟩, p w H _ .refl s (walks_frz h2 h3)⟩⟩
    | loc n =>
      dsimp only at p
      split at p
      · rename_i ds hd
        obtain ⟨a, h1, h2, xs, h3, h4⟩ := s.get hd rd
        exact ⟨a, h1, .inl ⟨⟨xs, SqL.of h3⟩, p w H _ .refl s (walks_loc h2)⟩⟩
      · exact p.elim
    | _ => exact p.elim
theorem I_seq (he : PE X e (tE X.K W fe)) : PI X tg e (tI X.K W (iSeqD fe)) :=
  PI.weak (pi_seq he) fun σ H R h => by
    obtain ⟨w, S, ρ, s, re, p⟩ := h
    exact ⟨w, S, ρ, s, re, p.bind fun w1 H1 v d S1 e1 s1 rd p1 => seqW_walks s1 rd p1⟩
end

/-! ### a op b op c -/
def eChain (o o' : Op2) (fa fb fc : EF) : EF := fun ρ S => (fa ρ S).bind fun x S1 => (fb ρ S1).bind fun y S2 => (liftB (o x y S2) S2).bind fun k S3 => if k = true then (fc ρ S3).bind fun z S4 => liftO (o' y z S4) S4 else .ok (.bl false) S3
def bChain (o o' : Op2) (fa fb fc : EF) : BF := fun ρ S => (fa ρ S).bind fun x S1 => (fb ρ S1).bind fun y S2 => (liftB (o x y S2) S2).bind fun k S3 => if k = true then (fc ρ S3).bind fun z S4 => liftB (o' y z S4) S4 else .ok false S3
section
variable {X : Cx} {W : WX} {pos : Pos} {a b c : Expr} {fa fb fc : EF} {r r' : R2} {o o' : Op2} {op op' : CmpOp}
theorem E_chain (ho : OpR X (compareOp op) r) (hs : OpS X.K r o) (ho' : OpR X (compareOp op') r') (hs' : OpS X.K r' o') (ha : PE X a (tE X.K W fa)) (hb : PE X b (tE X.K W fb)) (hc : PE X c (tE X.K W fc)) (hm : lastMarks [op, op'] [b, c] = false := by with_unfolding_all rfl) :
    PE X (.Compare a [op, op'] [b, c] pos) (tE X.K W (eChain o o' fa fb fc)) :=
  PE.weak (pe_chain ho ho' ha hb hc hm) fun σ H Q h => by
    obtain ⟨w, S, ρ, s, re, p⟩ := h
    refine ⟨w, S, ρ, s, re, p.bind fun w1 H1 v x S1 e1 s1 rx p1 => ?_⟩
    refine ⟨w1, S1, ρ, s1, re.mono e1, p1.bind fun w2 H2 u y S2 e2 s2 ry p2 => ?_⟩
    cases hd : o x y S2 with
    | none => rw [hd] at p2; exact p2.elim
    | some d =>
      rw [hd] at p2
      refine hs w2 S2 H2 x y d v u _ s2 (rx.mono e2) ry hd fun w3 H3 z e3 s3 rz => ?_
      cases d with
      | bl k =>
        simp only [RV] at rz
        refine ⟨k, rz, ?_⟩
        simp only [liftB_bl, R.bind_ok] at p2
        split
        · rename_i hk
          rw [if_pos hk] at p2
          have p2 := p2.shift e3
          refine ⟨w3, S2, ρ, s3, ((re.mono e1).mono e2).mono e3, p2.bind fun w4 H4 t zz S4 e4 s4 rt p4 => ?_⟩
          cases hd' : o' y zz S4 with
          | none => rw [hd'] at p4; exact p4.elim
          | some d' => rw [hd'] at p4; exact hs' w4 S4 H4 y zz d' u t Q s4 ((ry.mono e3).mono e4) rt hd' fun w5 H5 q e5 s5 rq => p4 w5 H5 q e5 s5 rq
        · rename_i hk
          rw [if_neg hk] at p2
          exact p2 w3 H3 _ e3 s3 (by simp only [RV])
      | _ => exact p2.elim
theorem T_chain (ho : OpR X (compareOp op) r) (hs : OpS X.K r o) (ho' : OpR X (compareOp op') r') (hs' : OpS X.K r' o') (ha : PE X a (tE X.K W fa)) (hb : PE X b (tE X.K W fb)) (hc : PE X c (tE X.K W fc)) (hm : lastMarks [op, op'] [b, c] = false := by with_unfolding_all rfl) :
    PT X (.Compare a [op, op'] [b, c] pos) (tT X.K W (bChain o o' fa fb fc)) :=
  PT.weak (pt_chain ho ho' ha hb hc hm) fun σ H Q h => by
    obtain ⟨w, S, ρ, s, re, p⟩ := h
    refine ⟨w, S, ρ, s, re, p.bind fun w1 H1 v x S1 e1 s1 rx p1 => ?_⟩
    refine ⟨w1, S1, ρ, s1, re.mono e1, p1.bind fun w2 H2 u y S2 e2 s2 ry p2 => ?_⟩
    cases hd : o x y S2 with
    | none => rw [hd] at p2; exact p2.elim
    | some d =>
      rw [hd] at p2
      refine hs w2 S2 H2 x y d v u _ s2 (rx.mono e2) ry hd fun w3 H3 z e3 s3 rz => ?_
      cases d with
      | bl k =>
        simp only [RV] at rz
        refine ⟨k, rz, ?_⟩
        simp only [liftB_bl, R.bind_ok] at p2
        split
        · rename_i hk
          rw [if_pos hk] at p2
          have p2 := p2.shift e3
          refine ⟨w3, S2, ρ, s3, ((re.mono e1).mono e2).mono e3, p2.bind fun w4 H4 t zz S4 e4 s4 rt p4 => ?_⟩
          cases hd' : o' y zz S4 with
          | none => rw [hd'] at p4; exact p4.elim
          | some d' =>
            rw [hd'] at p4
            refine hs' w4 S4 H4 y zz d' u t _ s4 ((ry.mono e3).mono e4) rt hd' fun w5 H5 q e5 s5 rq => ?_
            cases d' with
            | bl k' => simp only [RV] at rq; exact ⟨k', rq, p4 w5 H5 k' e5 s5 rfl⟩
            | _ => exact p4.elim
        · rename_i hk
          rw [if_neg hk] at p2
          exact ⟨false, rfl, p2 w3 H3 _ e3 s3 rfl⟩
      | _ => exact p2.elim
end
/-- the lid of a while -/
def bigW : Nat := 1000000000

/-! ### the end -/
theorem law_sp {K : PySem.W.Frag} {H : Hp} {a : Addr} {ns : List Int} {F : List D → Sto → R D} (ho : Only H) (hS : SqL K H a (ns.map V.int)) (h : ∃ S', F [.frz (ns.map D.int)] [] = .ok (.bl true) S') :
    spOf K 1 F [.ref a] H (fun v _ => v = .bl true) fun _ _ _ => False := by
  obtain ⟨S', e⟩ := h
  refine ⟨⟨[], []⟩, [], [.frz (ns.map D.int)], rfl, ⟨rfl, List.nodup_nil, fun i c q => by simp at q, fun a h => by simp at h⟩, .cons ?_ .nil, ?_⟩
  · simp only [RV]
    refine ⟨a, _, rfl, ?_, .of_ints ns⟩
    rcases hS with (h | ⟨o, h⟩) | h
    · rcases ho a with z | ⟨o, xs, z⟩
      · rw [h] at z; cases z
      · rw [h] at z; cases z
    · exact .inl ⟨o, h, by simp, by simp⟩
    · exact .inr h
  · rw [e]
    intro w' H' b _ _ r
    simpa only [RV] using r
end Ev

namespace Ev
open PySem PySem.Spec PyProof.Rows L2
/-! ### enumerate(x), x a tuple or a list -/
theorem enumMade {v : Value} {o : Obj} {H : Heap → Prop} (B : Begins v o H) :
    Meets (Builtin.«enumerate.__new__» ⟨[.type "enumerate", v], []⟩) (fun _ R s => H s.heap ∧
      R (.ok (.ret (.ref (s.heap.push o).objs.size))) { s with heap := (s.heap.push o).push { cls := .type "enumerate", data := .fields #[.none, .bool false, .ref s.heap.objs.size, rawInt 0, .none, .none] } }) :=
  .of_wp fun prog w A R s hyp => by
    obtain ⟨hp, gg, dd, tk, os⟩ := s
    obtain ⟨hh1, hh2⟩ := hyp
    have hsub := sub_enumerate
    have go1 : ∀ {A' : Around} {E : Value → Shared → Prop} {Q : Value → Shared → Prop}, Q (.ref hp.objs.size) ⟨hp.push o, gg, dd, tk, os⟩ → wpAny (model prog w) A' (pyIter v) Q E ⟨hp, gg, dd, tk, os⟩ :=
      fun hq => B.iter prog w _ _ ⟨hp, gg, dd, tk, os⟩ _ hh1 hq
    wp_walk using go1
    refine wpAny_stack_any fun _ => wpAny_pure ?_
    split
    · rename_i cc _ _ _ _ _
      cases (cc == Value.type "enumerate") <;> (wp_walk using go1; exact ⟨_, rfl, hh2⟩)
    · wp_walk using go1
      exact ⟨_, rfl, hh2⟩
theorem enumCall {prog : Program} {w : World} {A : Around} {E : Value → Shared → Prop} {s : Shared} {v : Value} {o : Obj} {H : Heap → Prop} {Q : Value → Shared → Prop} (B : Begins v o H) (h1 : H s.heap)
    (k : ∀ h', IsEnum h' (s.heap.objs.size + 1) s.heap.objs.size 0 .none → h'.get? s.heap.objs.size = some o → (∀ b ob, s.heap.get? b = some ob → h'.get? b = some ob) → Q (.ref (s.heap.objs.size + 1)) { s with heap := h' }) :
    wpAny (model prog w) A (call (.type "enumerate") [v]) Q E s := by
  refine callType_new F.called_enumerate (by decide) (F.typeCall_enumerate_1 _) (F.newCall_enumerate_1 _) (fun ob => F.args_object_init_2 ob _) F.entry_enumerate_new (enumMade B) ⟨h1, ?_⟩
  have z1 : (s.heap.push o).objs.size = s.heap.objs.size + 1 := Heap.size_push ..
  have at1 := Heap.get?_push_size (s.heap.push o) (o := { cls := .type "enumerate", data := .fields #[.none, .bool false, .ref s.heap.objs.size, rawInt 0, .none, .none] }) rfl
  rw [z1] at at1
  show _ ∧ _
  rw [z1]
  exact ⟨⟨_, at1, rfl⟩, k _ at1 (Heap.get?_push_of_some _ (Heap.get?_push_size _ B.free)) fun b ob e => Heap.get?_push_of_some _ (Heap.get?_push_of_some _ e)⟩
/-- what enumerate gives: the items of a tuple, each in a new pair -/
def Iet (K : PySem.W.Frag) (a : Addr) : It :=
  ⟨fun i H => ∃ (xs : List V) (x : V), SqT K H a xs ∧ xs[i]? = some x,
   fun i H v H' => ∃ T x, v = .ref T ∧ H T = none ∧ H' = upd H T (.tup [.int (i : Nat), x]) ∧ ∀ xs, SqT K H a xs → xs[i]? = some x,
   fun i H => ∃ xs : List V, SqT K H a xs ∧ xs.length ≤ i⟩
theorem tup_ne {h : Heap} {a b : Addr} {items vs : Array Value} {o : Obj} (ht : h.IsTuple a items) (hb : h.get? b = some o) (hd : o.data = .fields vs) : a ≠ b := by
  intro q
  subst q
  obtain ⟨o2, e2, _, n2, d2⟩ := ht
  rw [hb] at e2
  cases e2
  rw [hd] at d2
  cases d2
theorem turnEt {P : Program} {w : World} {K : PySem.W.Frag} {elts : List Expr} {kk : Nat} {tpos : Pos} (a e it : Addr) :
    Turn P w K (.Tuple elts kk tpos) (Iet K a) [e, it] e (fun i h => (∃ old, IsEnum h e it ((i : Nat) : Int) old) ∧ h.IsTupleIter it a i ∧ e ≠ it) where
  mem := List.mem_cons_self
  obj := by
    rintro i h ⟨⟨old, he⟩, ⟨o, ho, hc, hd⟩, -⟩ b hb
    simp only [List.mem_cons, List.not_mem_nil, or_false] at hb
    rcases hb with rfl | rfl
    · exact ⟨_, he, fun v q => nomatch q⟩
    · exact ⟨o, ho, fun v q => by rw [hd] at q; cases q⟩
  keep := by
    rintro i h h' ⟨⟨old, he⟩, hi, hne⟩ k
    exact ⟨⟨old, k e (by simp) _ he⟩, hi.at fun o q => k it (by simp) o q, hne⟩
  item := by
    intro X hP hw hK hc i pins s σ H E I hf st hg
    subst hP hw hK
    obtain ⟨⟨old, he⟩, hit, hne⟩ := st
    obtain ⟨xs, x, hq, hx⟩ := hg
    obtain ⟨its, rv, p, hz⟩ := I.tuple hq
    have p : s.heap.IsTuple a its.toArray := p
    obtain ⟨u, hu, ru⟩ := rv.get hx
    obtain ⟨oi, hoi, _, hdi⟩ := id hit
    have hai : a ≠ it := tup_ne p hoi hdi
    have hae : a ≠ e := tup_ne p he rfl
    have hel : e < s.heap.objs.size := Heap.lt_size he
    have hil : it < s.heap.objs.size := Heap.lt_size hoi
    have hlt : i < its.toArray.size := by
      have := (List.getElem?_eq_some_iff.mp hu).1
      simpa using this
    refine wpAny_pyNext_enum_itemD (Draws.tuple (A := X.A.in1) (I.ok.hd hc) it a hai its.toArray) he ⟨hit, p⟩ hlt hne (by simp [hne, Ne.symm hae]) fun x' h' tk hx' ho hst' hT hsz hk => ?_
    have ex : x' = u := by
      have hu' : its.toArray[i]? = some u := by simpa using hu
      exact Option.some.inj (hx'.symm.trans hu')
    subst ex
    refine ⟨_, rfl, wpAny_letOwnedTupleGo_enum (s := { s with heap := h', toks := tk + 1 }) ho fun h'' he' sb => ?_⟩
    have hT2 : h''.get? s.heap.objs.size = some { cls := .type "tuple", data := .seq #[.int i tk, x'] } := (sb.2 _ (Nat.ne_of_gt hel)).trans hT
    have ok2 : ObjOk X.prog X.w (upd H s.heap.objs.size (.tup [.int (i : Nat), x])) h'' s.heap.objs.size (.tup [.int (i : Nat), x]) :=
      ⟨by show 2 ≤ sizeLine; decide, [.int i tk, x'], .cons ⟨_, rfl⟩ (.cons ru .nil), ⟨_, hT2, rfl, _, rfl⟩⟩
    have I1 : Inv X pins σ (upd H s.heap.objs.size (.tup [.int (i : Nat), x])) { s with heap := h'', toks := tk + 1 } :=
      I.turnedNew (ch := [e, it]) (fun b ob hb q => (sb.2 b (fun z => hb (by simp [z]))).trans (hk b ob (fun z => hb (by simp [z])) (fun z => hb (by simp [z])) q)) hf (Nat.le_refl _) ok2
    have e1 : ((i + 1 : Nat) : Int) = (i : Int) + 1 := by omega
    refine ⟨.ref s.heap.objs.size, _, I1, rfl, ⟨_, x, rfl, I.hok.fresh (Nat.le_refl _), rfl, fun ys hy => by rw [I.tuple_inj hy hq]; exact hx⟩, ⟨⟨x', by rw [e1]; exact he'⟩, hst'.1.at fun o q => (sb.2 it (Ne.symm hne)).trans q, hne⟩, fun b hb => ?_⟩
    have hb' : b < s.heap.objs.size := by
      simp only [List.mem_cons, List.not_mem_nil, or_false] at hb
      rcases hb with rfl | rfl
      · exact hel
      · exact hil
    rw [upd_ne (Nat.ne_of_lt hb')]
    exact (hf b hb).1
  done := by
    intro X hP hw hK hc i pins s σ H E I hf st hg
    subst hP hw hK
    obtain ⟨⟨old, he⟩, hit, hne⟩ := st
    obtain ⟨xs, hq, hx⟩ := hg
    obtain ⟨its, rv, p, hz⟩ := I.tuple hq
    have p : s.heap.IsTuple a its.toArray := p
    obtain ⟨oi, hoi, _, hdi⟩ := id hit
    obtain ⟨f0, f1, f2, f3, f4, f5⟩ := hf it (by simp)
    have hl := rv.length
    unfold pyNext
    have hT : s.TypeIs (.ref e) "enumerate" := ⟨_, he, rfl⟩
    refine wpAny_bind (wpAny_attempt (wpAny_callSpecial?_slot (name := Str.ofString "__next__") hT F.slot_enumerate_next
      (wpAny_call_entry F.slot_enumerate_next hT F.entry_enumerate_next ?_ (F.args_enumerate_next_1 _))))
    show wpAny _ _ (field (.ref e) 2 >>= _) _ _ _
    refine wpAny_bind (wpAny_field he rfl (x := .ref it) rfl ?_)
    refine wpAny_bind (wpAny_nextOf_tuple_end (I.ok.hd hc) hit p (by simp; omega) fun h' x he' hx' => ?_)
    obtain ⟨ox, hox, hcx⟩ := hx'
    refine wpAny_bind (wpAny_isInstance (T := "StopIteration") (b := true) ⟨ox, hox, hcx⟩ isSubtype_stop ?_)
    exact wpAny_pure ⟨rfl, I.turned (t' := s.toks) (fun b o hb q => he' b o hb q) f0 f1 f3 f4 f5⟩
  self := fun A i s Q E st h => let ⟨⟨_, he⟩, _⟩ := st; wpAny_pyIter_enum he h
section
variable {X : Cx} {W : WX} {e : Expr} {fa : AF} {p pos tpos : Pos} {elts : List Expr} {kk : Nat}
/-- the two, as the call's argument says -/
theorem piEn {ta : TA} (hg : Gl X "enumerate") (hm : X.mg "enumerate" = none) (ha : PA X [e] ta) (hs : starEach [e] X.env = [(false, eval e X.env)]) :
    PI X (.Tuple elts kk tpos) (.Call (.Name "enumerate" p) [e] [] pos) (fun σ H R => ta σ H fun vs H1 => ∃ a, vs = [.ref a] ∧ (((∃ xs, SqL X.K H1 a xs) ∧ R (Ite X.K a) H1) ∨ ((∃ xs, SqT X.K H1 a xs) ∧ R (Iet X.K a) H1))) := by
  refine ⟨fun pins s σ H R I h => ?_⟩
  refine Call_ (ld_blt I hg hm boot_enumerate (PyProof.Rows.callWith_type1 (thn (ha.run pos pins s σ H _ I h) fun us s1 ⟨vs, H1, I1, r1, q1⟩ => ?_) hs rfl))
  obtain ⟨a, ex, q⟩ := q1
  subst ex
  cases r1 with
  | cons r rr =>
    cases rr
    cases r
    have fpo : ∀ b ∈ [s1.heap.objs.size + 1, s1.heap.objs.size], FpOk X pins H1 b := fun b hb => by
      have hle : s1.heap.objs.size ≤ b := by
        simp only [List.mem_cons, List.not_mem_nil, or_false] at hb
        rcases hb with rfl | rfl
        · exact Nat.le_succ _
        · exact Nat.le_refl _
      exact I1.fpOk hle (I1.hok.fresh hle)
    rcases q with ⟨⟨xs, hq⟩, q⟩ | ⟨⟨xs, hq⟩, q⟩
    · obtain ⟨its, rv, p', hz⟩ := I1.list hq
      refine enumCall (begins_list a its.toArray) p'.isList fun h' he hit hk => wpAny_pyIter_enum he ?_
      have I2 : Inv X pins σ H1 { s1 with heap := h' } := I1.kept (t' := s1.toks) hk
      exact ⟨s1.heap.objs.size + 1, [s1.heap.objs.size + 1, s1.heap.objs.size], _, _, H1, rfl, I2, turn_enum a (s1.heap.objs.size + 1) s1.heap.objs.size, ⟨⟨.none, he⟩, ⟨_, hit, rfl, rfl⟩, Nat.succ_ne_self _⟩, fpo, q⟩
    · obtain ⟨its, rv, p', hz⟩ := I1.tuple hq
      refine enumCall (begins_tuple a its.toArray) p' fun h' he hit hk => wpAny_pyIter_enum he ?_
      have I2 : Inv X pins σ H1 { s1 with heap := h' } := I1.kept (t' := s1.toks) hk
      exact ⟨s1.heap.objs.size + 1, [s1.heap.objs.size + 1, s1.heap.objs.size], _, _, H1, rfl, I2, turnEt a (s1.heap.objs.size + 1) s1.heap.objs.size, ⟨⟨.none, he⟩, ⟨_, hit, rfl, rfl⟩, Nat.succ_ne_self _⟩, fpo, q⟩
end
def enumDs : Nat → List D → List D
  | _, [] => []
  | i, d :: ds => .tup [.int i, d] :: enumDs (i + 1) ds
theorem enumDs_get : ∀ (ds : List D) (k i : Nat), (enumDs k ds)[i]? = (ds[i]?).map fun d => .tup [.int (k + i : Nat), d]
  | [], k, i => by simp [enumDs]
  | d :: ds, k, 0 => rfl
  | d :: ds, k, i + 1 => by
    show (enumDs (k + 1) ds)[i]? = (ds[i]?).map _
    rw [enumDs_get ds (k + 1) i, Nat.add_right_comm k 1 i]
    rfl
@[simp] theorem enumDs_len : ∀ (ds : List D) (k : Nat), (enumDs k ds).length = ds.length
  | [], _ => rfl
  | d :: ds, k => congrArg (· + 1) (enumDs_len ds (k + 1))
/-- enumerate of a tuple, or of a list that nobody changes -/
def enW (d : D) (S : Sto) : R Wk := match tupOf d with
  | some ds => .ok ⟨enumDs 0 ds, none⟩ S
  | none => match d with
    | .lst ds => .ok ⟨enumDs 0 ds, none⟩ S
    | .frz ds => .ok ⟨enumDs 0 ds, none⟩ S
    | _ => .no
def iEnumD (fa : AF) : IF := fun ρ S => (fa ρ S).bind fun ds S1 => match ds with
  | [d] => enW d S1
  | _ => .no
theorem walksEt {K : PySem.W.Frag} {w : Wo} {H : Hp} {a : Addr} {ds : List D} {xs : List V} {S0 : Sto} (s0 : Sim K w S0 H) (h : SqT K H a xs) (r : RVs K w H ds xs) : Walks K w H ⟨enumDs 0 ds, none⟩ (Iet K a) := fun w1 H1 S e s _ => by
  have h1 := SqT.ext s0 e h
  have r1 := r.mono e
  refine ⟨fun i d hd => ?_, ⟨xs, h1, by rw [enumDs_len, r.length]; exact Nat.le_refl _⟩⟩
  rw [enumDs_get] at hd
  obtain ⟨d0, hd0, rfl⟩ := Option.map_eq_some_iff.mp hd
  obtain ⟨v, hv, rv⟩ := r1.get hd0
  refine ⟨⟨xs, v, h1, hv⟩, fun x H' hy => ?_⟩
  obtain ⟨T, y, rfl, hT, rfl, hy⟩ := hy
  have : y = v := Option.some.inj ((hy xs h1).symm.trans hv)
  subst this
  refine ⟨Ext.fresh hT, s.fresh hT, RV.newTup hT ?_⟩
  simp only [RVs]
  exact ⟨_, _, rfl, by simp only [RV, Nat.zero_add], _, _, rfl, rv, rfl⟩
theorem walksEl {K : PySem.W.Frag} {w : Wo} {H : Hp} {a : Addr} {ds : List D} {xs : List V} (h1 : ∀ w1 H1, Ext w H w1 H1 → SqL K H1 a xs) (r : RVs K w H ds xs) : Walks K w H ⟨enumDs 0 ds, none⟩ (Ite K a) := fun w1 H1 S e s _ => by
  have h1 := h1 w1 H1 e
  have r1 := r.mono e
  refine ⟨fun i d hd => ?_, ⟨xs, h1, by rw [enumDs_len, r.length]; exact Nat.le_refl _⟩⟩
  rw [enumDs_get] at hd
  obtain ⟨d0, hd0, rfl⟩ := Option.map_eq_some_iff.mp hd
  obtain ⟨v, hv, rv⟩ := r1.get hd0
  refine ⟨⟨xs, v, h1, hv⟩, fun x H' hy => ?_⟩
  obtain ⟨T, y, rfl, hT, rfl, hy⟩ := hy
  have : y = v := Option.some.inj ((hy xs h1).symm.trans hv)
  subst this
  refine ⟨Ext.fresh hT, s.fresh hT, RV.newTup hT ?_⟩
  simp only [RVs]
  exact ⟨_, _, rfl, by simp only [RV, Nat.zero_add], _, _, rfl, rv, rfl⟩
theorem I_enum {X : Cx} {W : WX} {e : Expr} {fa : AF} {p pos tpos : Pos} {elts : List Expr} {kk : Nat} (hm : X.mg "enumerate" = none) (ha : PA X [e] (tA X.K W fa)) (hg : Gl X "enumerate" := by rfl) (hs : starEach [e] X.env = [(false, eval e X.env)] := by rfl) :
    PI X (.Tuple elts kk tpos) (.Call (.Name "enumerate" p) [e] [] pos) (tI X.K W (iEnumD fa)) :=
  PI.weak (piEn hg hm ha hs) fun σ H R h => by
    obtain ⟨w, S, ρ, s, re, p⟩ := h
    refine ⟨w, S, ρ, s, re, p.bind fun w1 H1 vs ds S1 e1 s1 rd p1 => ?_⟩
    split at p1
    · rename_i d
      obtain ⟨v, rfl, rv⟩ := rd.one
      unfold enW at p1
      split at p1
      · rename_i es hd
        obtain ⟨a, xs, h1, h2, h3⟩ := tupOf_sq rv hd
        exact ⟨a, by rw [h1], .inr ⟨⟨xs, h2⟩, p1 w1 H1 _ .refl s1 (walksEt s1 h2 h3)⟩⟩
      · split at p1
        · simp only [RV] at rv
          obtain ⟨a, xs, h1, h2, h4, h3⟩ := rv
          exact ⟨a, by rw [h1], .inl ⟨⟨xs, SqL.of h2⟩, p1 w1 H1 _ .refl s1 (walksEl (fun w2 H2 e2 => .inl (e2.rd (.inl h2) h4.1)) h3)⟩⟩
        · simp only [RV] at rv
          obtain ⟨a, xs, h1, h2, h3⟩ := rv
          exact ⟨a, by rw [h1], .inl ⟨⟨xs, h2.sq⟩, p1 w1 H1 _ .refl s1 (walksEl (fun w2 H2 e2 => (h2.mono e2).sq) h3)⟩⟩
        · exact p1.elim
    · exact p1.elim
end Ev

namespace Ev
open PySem PySem.Spec PyProof.Rows L2
/-! ### own classes: instances in cells, their attributes -/
theorem ClsN.uniq {K : PySem.W.Frag} {c : Str} {C C' : Addr} (h : ClsN K c C) (h' : ClsN K c C') : C = C' := by
  unfold ClsN at h h'
  rw [h] at h'
  injection h' with h'
  injection h' with h'
  injection h' with h'
def lookD (f : Str) : List (Str × D) → Option D
  | [] => none
  | p :: ps => if f = p.1 then some p.2 else lookD f ps
def putD (f : Str) (d : D) : List (Str × D) → List (Str × D)
  | [] => [(f, d)]
  | p :: ps => if f = p.1 then (f, d) :: ps else p :: putD f d ps
section
variable {K : PySem.W.Frag} {w : Wo} {H : Hp}
theorem RP.nil_iff {κ : Type} {ps : List (κ × D)} {vs : List (κ × V)} (h : RP K w H ps vs) : ps = [] ↔ vs = [] := by
  obtain ⟨h1, _⟩ := h
  have := congrArg List.length h1
  simp only [List.length_map] at this
  constructor <;> rintro rfl <;> (simp at this; first | exact this | exact List.length_eq_zero_iff.mp this | exact List.length_eq_zero_iff.mp this.symm)
theorem RP.cons {κ : Type} {k : κ} {d : D} {ps : List (κ × D)} {vs : List (κ × V)} (h : RP K w H ((k, d) :: ps) vs) : ∃ v us, vs = (k, v) :: us ∧ RV K w H d v ∧ RP K w H ps us := by
  obtain ⟨h1, h2⟩ := h
  cases vs with
  | nil => cases h1
  | cons u us =>
    obtain ⟨k', v⟩ := u
    simp only [List.map_cons, List.cons.injEq] at h1
    simp only [List.map_cons, RVs] at h2
    obtain ⟨v', r, e, h3, h4⟩ := h2
    cases e
    exact ⟨v, us, by rw [h1.1], h3, h1.2, h4⟩
theorem RP.mk {κ : Type} {k : κ} {d : D} {v : V} {ps : List (κ × D)} {vs : List (κ × V)} (h1 : RV K w H d v) (h2 : RP K w H ps vs) : RP K w H ((k, d) :: ps) ((k, v) :: vs) := by
  refine ⟨by simp only [List.map_cons, h2.1], ?_⟩
  simp only [List.map_cons, RVs]
  exact ⟨_, _, rfl, h1, h2.2⟩
theorem RP.emp {κ : Type} : RP K w H ([] : List (κ × D)) [] := ⟨rfl, by simp only [List.map_nil, RVs]⟩
theorem RP.look {f : Str} : ∀ {ps : List (Str × D)} {vs : List (Str × V)} {d : D}, RP K w H ps vs → lookD f ps = some d → ∃ v, vs.lookup f = some v ∧ RV K w H d v
  | [], vs, d, h, e => by cases e
  | (k, x) :: ps, vs, d, h, e => by
    obtain ⟨v, us, rfl, h1, h2⟩ := h.cons
    simp only [lookD] at e
    by_cases q : f = k
    · rw [if_pos q] at e
      cases e
      exact ⟨v, by simp [List.lookup, q], h1⟩
    · rw [if_neg q] at e
      obtain ⟨v', g1, g2⟩ := RP.look h2 e
      exact ⟨v', by simp [List.lookup, beq_eq_false_iff_ne.mpr q, g1], g2⟩
theorem RP.lookN {f : Str} : ∀ {ps : List (Str × D)} {vs : List (Str × V)}, RP K w H ps vs → lookD f ps = none → vs.lookup f = none
  | [], vs, h, e => by rw [h.nil_iff.1 rfl]; rfl
  | (k, x) :: ps, vs, h, e => by
    obtain ⟨v, us, rfl, h1, h2⟩ := h.cons
    simp only [lookD] at e
    by_cases q : f = k
    · rw [if_pos q] at e; cases e
    · rw [if_neg q] at e
      simp [List.lookup, beq_eq_false_iff_ne.mpr q, RP.lookN h2 e]
theorem RP.put {f : Str} {d : D} {v : V} (hv : RV K w H d v) : ∀ {ps : List (Str × D)} {vs : List (Str × V)}, RP K w H ps vs → RP K w H (putD f d ps) (L2.putF f v vs)
  | [], vs, h => by
    rw [h.nil_iff.1 rfl]
    exact .mk hv .emp
  | (k, x) :: ps, vs, h => by
    obtain ⟨u, us, rfl, h1, h2⟩ := h.cons
    simp only [putD, L2.putF]
    by_cases q : f = k
    · subst q
      simp only [if_true, beq_self_eq_true]
      exact .mk hv h2
    · have q1 : ¬ k = f := fun z => q z.symm
      simp only [q, q1, if_false, beq_eq_false_iff_ne.mpr q, beq_eq_false_iff_ne.mpr q1, Bool.false_eq_true]
      exact .mk h1 (RP.put hv h2)
theorem RP.len {κ : Type} {ps : List (κ × D)} {vs : List (κ × V)} (h : RP K w H ps vs) : ps.length = vs.length := by
  have := congrArg List.length h.1
  simpa using this
theorem RP.wr {κ : Type} {S : Sto} {n : Nat} {a : Addr} {o : HO} {ps : List (κ × D)} {vs : List (κ × V)} (s : Sim K w S H) (hn : w.m[n]? = some a) (hf : Free H a) (r : RP K w H ps vs) : RP K w (upd H a o) ps vs := ⟨r.1, r.2.wr s hn hf⟩
end
/-- e.f of an instance of the class c -/
def eFld (c : Str) (fe : EF) (f : Str) : EF := fun ρ S => (fe ρ S).bind fun x S1 => match x with
  | .loc n => match S1[n]? with
    | some (.ins c' fs) => if c' = c then liftO (lookD f fs) S1 else .no
    | _ => .no
  | _ => .no
/-- e.f = value -/
def sFld (c : Str) (fo : EF) (f : Str) (fe : EF) : SF := fun ρ S => sB (fe ρ S) ρ fun d S1 => sB (fo ρ S1) ρ fun x S2 => match x with
  | .loc n => match S2[n]? with
    | some (.ins c' fs) => if c' = c ∧ fs.length < 1000 then .nx ρ (S2.set n (.ins c (putD f d fs))) else .no
    | _ => .no
  | _ => .no
/-- what is known of a class -/
structure CI (K : PySem.W.Frag) (c : Str) (C : Addr) : Prop where
  nm : ClsN K c C
  cl : Cls K C
section
variable {X : Cx} {W : WX} {pos pos' : Pos} {o e value : Expr} {fo fe : EF} {c f : Str} {C : Addr}
theorem E_fld (hc : CI X.K c C) (hn : NoAttr X.K C f) (he : PE X e (tE X.K W fe)) (hb : attributeBase e f X.env (eval e X.env) = eval e X.env := by rfl) : PE X (.Attribute e f pos) (tE X.K W (eFld c fe f)) :=
  PE.weak (pe_fld he hb) fun σ H Q h => by
    obtain ⟨w, S, ρ, s, re, p⟩ := h
    refine ⟨w, S, ρ, s, re, p.bind fun w1 H1 v d S1 e1 s1 rd p1 => ?_⟩
    split at p1
    · rename_i n
      split at p1
      · rename_i c' fs hn'
        split at p1
        · rename_i hcc
          subst hcc
          obtain ⟨a, rfl, h2, C', dx, vs, h3, h4, h5⟩ := s1.get hn' rd
          cases hc.nm.uniq h3
          cases hl : lookD f fs with
          | none => rw [hl] at p1; exact p1.elim
          | some d0 =>
            rw [hl] at p1
            obtain ⟨v, g1, g2⟩ := h5.look hl
            exact ⟨a, C, dx, vs, v, rfl, h4, hc.cl, hn, g1, p1 w1 H1 v .refl s1 g2⟩
        · exact p1.elim
      · exact p1.elim
    · exact p1.elim
theorem S_fld (hc : CI X.K c C) (hn : NoAttr X.K C f) (hv : PE X value (tE X.K W fe)) (ho : PE X o (tE X.K W fo)) (hs : swapsWith value (some (.Attribute o f pos')) pos.line X.env = pure false := by rfl) :
    PS X (.Assign [.Attribute o f pos'] value pos) (tS X.K W (sFld c fo f fe)) :=
  PS.weak (ps_fld ho hv hs) fun D σ H h => by
    obtain ⟨w, S, ρ, s, re, p⟩ := h
    refine ⟨w, S, ρ, s, re, p.bind re fun w1 H1 v d S1 e1 s1 rd p1 => ?_⟩
    refine ⟨w1, S1, ρ, s1, re.mono e1, p1.bind (re.mono e1) fun w2 H2 xv x S2 e2 s2 rx p2 => ?_⟩
    split at p2
    · rename_i n
      split at p2
      · rename_i c' fs hn'
        split at p2
        · rename_i hcc
          obtain ⟨hcc, hlen⟩ := hcc
          subst hcc
          obtain ⟨a, rfl, h2, C', dx, vs, h3, h4, h5⟩ := s2.get hn' rx
          cases hc.nm.uniq h3
          refine ⟨a, C, dx, vs, rfl, h4, hc.cl, hn, by rw [← h5.len]; exact hlen, ?_⟩
          have rd2 := rd.mono e2
          have cell : RC X.K w2 (upd H2 a (.ins C dx (L2.putF f v vs))) a (.ins c' (putD f d fs)) :=
            ⟨C, dx, L2.putF f v vs, hc.nm, upd_same, RP.wr s2 h2 (free_of h4 fun _ _ z => nomatch z) (RP.put rd2 h5)⟩
          refine p2 w2 _ σ (Ext.write s2 (List.mem_of_getElem? h2) (free_of h4 fun _ _ z => nomatch z)) (s2.write h2 (free_of h4 fun _ _ z => nomatch z) cell) ?_
          exact ((re.mono e1).mono e2).mono (Ext.write s2 (List.mem_of_getElem? h2) (free_of h4 fun _ _ z => nomatch z))
        · exact p2.elim
      · exact p2.elim
    · exact p2.elim
end
end Ev

namespace Ev
open PySem PySem.Spec PyProof.Rows L2
/-! ### methods, new instances -/
abbrev MethTree (X : Cx) (o : Expr) (m : Str) (apos pos : Pos) (es : List Expr) (pl : Sem Bool) : Prop :=
  eval (.Call (.Attribute o m apos) es [] pos) X.env = (do let ov ← eval o X.env; standAt apos.atName; let (f, first) ← holding [ov] (getMethod ov m pl); callWith pos f first (backTo pos (starEach es X.env)) (backToKw pos (keywordEach [] X.env)))
def tMethA (C : Addr) (m : Str) (sp : Sp) (E : St → XK) (ta : TE) (t : TA) : TE := fun σ H Q =>
  ta σ H fun x H1 => ∃ a dx fs, x = .ref a ∧ H1 a = some (.ins C dx fs) ∧ fs.lookup m = none ∧ t σ H1 fun vs H2 => sp (x :: vs) H2 Q (E σ)
def tMakeA (C : Addr) (sp : Sp) (E : St → XK) (t : TA) : TE := fun σ H Q =>
  t σ H fun vs H1 => ∀ x dx, H1 x = none → H1 dx = none → dx ≠ x → sp (.ref x :: vs) (upd (upd H1 dx (.own x)) x (.ins C dx [])) (fun v H2 => v = .non ∧ Q (.ref x) H2) (E σ)
section
variable {X : Cx} {CX : CXT} {k : Nat} {f C : Addr} {fd : FuncData} {ps : List Str} {sp : Sp} {E : St → XK} {x m : Str} {p pos apos : Pos} {e o : Expr} {es : List Expr} {ta : TE} {t : TA}
theorem pe_methA {pl : Sem Bool} (G : FnOk X.prog X.w X.K X.mg X.base CX k f fd ps sp) (rm : Room k X.A) (bd : Binds X.K fd ps []) (thru : ∀ σ, PassesAt CX X σ (E σ)) (hc : Cls X.K C) (hm : Meth X.K C m f) (ho : PE X o ta) (ha : PA X (e :: es) t)
    (st : starEach (e :: es) X.env = (false, eval e X.env) :: starEach es X.env := by rfl) (nst : (backTo pos (starEach es X.env)).any (·.1) = false := by rfl) (tree : MethTree X o m apos pos (e :: es) pl := by rfl) :
    PE X (.Call (.Attribute o m apos) (e :: es) [] pos) (tMethA C m sp E ta t) := by
  constructor
  intro pins s σ H Q I h
  refine PySem.W.methodCall_KW (pl := pl) (thn (ho.run pins s σ H _ I h) ?_) tree
  rintro u s1 ⟨xv, H1, I1, rx, a, dx, fs, rfl, ea, l, q⟩
  cases (show u = Value.ref a from rx)
  refine getmeth_ok I1 ea hc hm l ?_
  refine PySem.W.callWith_K (first := [.ref a]) (h₀ := X.base) I.ok.mod.kin hm.kp (thn (ha.run pos pins s1 σ H1 _ I1 q) ?_) st nst
  rintro us s2 ⟨vs, H2, I2, r, q2⟩
  exact ⟨I2.kIn, run_fnS (us := .ref a :: us) (vs := .ref a :: vs) G rm bd (thru σ) I2 (.cons rfl r) q2⟩
theorem pe_methA0 {pl : Sem Bool} (G : FnOk X.prog X.w X.K X.mg X.base CX k f fd ps sp) (rm : Room k X.A) (bd : Binds X.K fd ps []) (thru : ∀ σ, PassesAt CX X σ (E σ)) (hc : Cls X.K C) (hm : Meth X.K C m f) (ho : PE X o ta)
    (tree : MethTree X o m apos pos [] pl := by rfl) : PE X (.Call (.Attribute o m apos) [] [] pos) (tMethA C m sp E ta tNil) := by
  constructor
  intro pins s σ H Q I h
  refine PySem.W.methodCall_KW (pl := pl) (thn (ho.run pins s σ H _ I h) ?_) tree
  rintro u s1 ⟨xv, H1, I1, rx, a, dx, fs, rfl, ea, l, q⟩
  cases (show u = Value.ref a from rx)
  refine getmeth_ok I1 ea hc hm l ?_
  exact PySem.W.callWith_K0 (first := [.ref a]) I1.kIn hm.kp (run_fnS (us := [.ref a]) (vs := [.ref a]) G rm bd (thru σ) I1 (.cons rfl .nil) q)
theorem run_makeA {pins : List (Addr × Obj)} {σ : St} {H : Hp} {s : Shared} {Q : VK} {us : List Value} {vs : List V} (M : Mk X.K C f) (G : FnOk X.prog X.w X.K X.mg X.base CX k f fd ps sp) (rm : Room (k + 1) X.A) (bd : Binds X.K fd ps [])
    (thru : PassesAt CX X σ (E σ)) (I : Inv X pins σ H s) (r : Vals vs us)
    (h : ∀ x dx, H x = none → H dx = none → dx ≠ x → sp (.ref x :: vs) (upd (upd H dx (.own x)) x (.ins C dx [])) (fun v H2 => v = .non ∧ Q (.ref x) H2) (E σ)) : wpAny (model X.prog X.w) X.A (call (.ref C) us) (EP X pins σ Q) X.xe s := by
  have n1 : s.heap.objs.size ≠ s.heap.objs.size + 1 := Nat.ne_of_lt (Nat.lt_succ_self _)
  have q0 := h (s.heap.objs.size + 1) s.heap.objs.size (I.hok.fresh (Nat.le_succ _)) (I.hok.fresh (Nat.le_refl _)) n1
  have J := Inv.made (C := C) I
  have r1 : Vals (V.ref (s.heap.objs.size + 1) :: vs) (Value.ref (s.heap.objs.size + 1) :: us) := .cons rfl r
  have len : (Value.ref (s.heap.objs.size + 1) :: us).length = ps.length := by rw [← r1.length]; exact G.len _ _ _ _ q0
  have bs := bd _ (Value.ref (s.heap.objs.size + 1) :: us) J.kIn (by rw [List.append_nil]; exact len)
  rw [List.append_nil] at bs
  have body := G.run _ X.stack _ _ ⟨Value.ref (s.heap.objs.size + 1) :: us, []⟩ _ _ _ (E σ) (rm.make C us []) (J.env0.make C us []) bs r1 q0
  refine wpAny_call (make_map (f := f) I.kIn M.makes M.init (beq_iff_eq.mp M.fn) (codeAny_mono body ?_))
  intro res s' hres
  cases res with
  | error e => exact thru pins _ _ e s' J hres
  | ok fl =>
    cases fl with
    | ret u =>
      obtain ⟨v, H', I3, rv, rfl, q3⟩ := J.after hres
      exact ⟨rv, V.ref (s.heap.objs.size + 1), H', I3, rfl, q3⟩
    | next => exact hres.elim
    | brk => exact hres.elim
    | cont => exact hres.elim
theorem pe_makeA (M : Mk X.K C f) (G : FnOk X.prog X.w X.K X.mg X.base CX k f fd ps sp) (rm : Room (k + 1) X.A) (hg : Gl X x) (hx : X.mg x = some (.ref C)) (bd : Binds X.K fd ps []) (thru : ∀ σ, PassesAt CX X σ (E σ)) (ha : PA X (e :: es) t)
    (db : (x == ("__debug__" : Str)) = false := by decide) (st : starEach (e :: es) X.env = (false, eval e X.env) :: starEach es X.env := by rfl) (nst : (backTo pos (starEach es X.env)).any (·.1) = false := by rfl) :
    PE X (.Call (.Name x p) (e :: es) [] pos) (tMakeA C sp E t) := by
  constructor
  intro pins s σ H Q I h
  refine wpAny_Call_Name_kw (ld_glob I hg hx ?_ db)
  refine PySem.W.callWith_K (h₀ := X.base) I.ok.mod.kin M.kp (thn (ha.run pos pins s σ H _ I h) ?_) st nst
  rintro us s1 ⟨vs, H1, I1, r, q⟩
  exact ⟨I1.kIn, run_makeA M G rm bd (thru σ) I1 r q⟩
theorem pe_makeA0 (M : Mk X.K C f) (G : FnOk X.prog X.w X.K X.mg X.base CX k f fd ps sp) (rm : Room (k + 1) X.A) (hg : Gl X x) (hx : X.mg x = some (.ref C)) (bd : Binds X.K fd ps []) (thru : ∀ σ, PassesAt CX X σ (E σ))
    (db : (x == ("__debug__" : Str)) = false := by decide) : PE X (.Call (.Name x p) [] [] pos) (tMakeA C sp E tNil) := by
  constructor
  intro pins s σ H Q I h
  refine wpAny_Call_Name_kw (ld_glob I hg hx ?_ db)
  exact PySem.W.callWith_K0 I.kIn M.kp (run_makeA (us := []) M G rm bd (thru σ) I .nil h)
end
/-- a method that can be called on an instance of the class c -/
structure CalM (P : Program) (w : World) (K : PySem.W.Frag) (mg : Str → Option Value) (base : Heap) (CX : CXT) (k : Nat) (c m : Str) (n : Nat) (F : List D → Sto → R D) : Prop where
  ex : ∃ C f fd ps, CI K c C ∧ Meth K C m f ∧ FnOk P w K mg base CX k f fd ps (spOf K n F) ∧ Binds K fd ps []
/-- a class that can be made -/
structure CalC (P : Program) (w : World) (K : PySem.W.Frag) (mg : Str → Option Value) (base : Heap) (CX : CXT) (k : Nat) (c : Str) (n : Nat) (F : List D → Sto → R D) : Prop where
  ex : ∃ C f fd ps, CI K c C ∧ Mk K C f ∧ mg c = some (.ref C) ∧ FnOk P w K mg base CX k f fd ps (spOf K n F) ∧ Binds K fd ps []
def eMeth (c m : Str) (n : Nat) (F : List D → Sto → R D) (fo : EF) (fa : AF) : EF := fun ρ S => (fo ρ S).bind fun x S1 => match x with
  | .loc i => match S1[i]? with
    | some (.ins c' fs) => if c' = c ∧ lookD m fs = none then (fa ρ S1).bind fun ds S2 => if ds.length + 1 = n then F (.loc i :: ds) S2 else .no else .no
    | _ => .no
  | _ => .no
def asNew (i : Nat) (x : D) (S : Sto) : R D := match x with
  | .non => .ok (.loc i) S
  | _ => .no
def eMake (c : Str) (n : Nat) (F : List D → Sto → R D) (fa : AF) : EF := fun ρ S => (fa ρ S).bind fun ds S1 => if ds.length + 1 = n then (F (.loc S1.length :: ds) (S1 ++ [.ins c []])).bind (asNew S1.length) else .no
section
variable {X : Cx} {W : WX} {CXc : CXT} {x c m : Str} {p pos apos : Pos} {e o : Expr} {es : List Expr} {fa : AF} {fo : EF} {k j n : Nat} {F : List D → Sto → R D}
theorem tMeth_of {C : Addr} {σ : St} {H : Hp} {Q : VK} (hc : CI X.K c C) (h : tE X.K W (eMeth c m n F fo fa) σ H Q) : tMethA C m (spOf X.K n F) (WE W) (tE X.K W fo) (tA X.K W fa) σ H Q := by
  obtain ⟨w, S, ρ, s, re, p⟩ := h
  refine ⟨w, S, ρ, s, re, p.bind fun w1 H1 xv x S1 e1 s1 rx p1 => ?_⟩
  split at p1
  · rename_i i
    split at p1
    · rename_i c' fs hi
      split at p1
      · rename_i hcc
        obtain ⟨hcc, hl⟩ := hcc
        subst hcc
        obtain ⟨a, rfl, h2, C', dx, vs, h3, h4, h5⟩ := s1.get hi rx
        cases hc.nm.uniq h3
        refine ⟨a, dx, vs, rfl, h4, h5.lookN hl, w1, S1, ρ, s1, re.mono e1, p1.bind fun w2 H2 us ds S2 e2 s2 rd p2 => ?_⟩
        split at p2
        · rename_i hn
          refine ⟨w2, S2, .loc i :: ds, by rw [List.length_cons, ← rd.length, hn], s2, ?_, p2.toE⟩
          simp only [RVs]
          exact ⟨_, _, rfl, rx.mono e2, rd⟩
        · exact p2.elim
      · exact p1.elim
    · exact p1.elim
  · exact p1.elim
theorem E_meth {pl : Sem Bool} (cm : CalM X.prog X.w X.K X.mg X.base CXc k c m n F) (rm : Room j X.A) (thru : ∀ σ, PassesAt CXc X σ (WE W σ)) (ho : PE X o (tE X.K W fo)) (ha : PA X (e :: es) (tA X.K W fa)) (hk : k ≤ j := by first | decide | omega)
    (st : starEach (e :: es) X.env = (false, eval e X.env) :: starEach es X.env := by rfl) (nst : (backTo pos (starEach es X.env)).any (·.1) = false := by rfl) (tree : MethTree X o m apos pos (e :: es) pl := by rfl) :
    PE X (.Call (.Attribute o m apos) (e :: es) [] pos) (tE X.K W (eMeth c m n F fo fa)) := by
  obtain ⟨C, f, fd, ps, hc, hm, G, bd⟩ := cm.ex
  exact PE.weak (pe_methA G (rm.mono hk) bd thru hc.cl hm ho ha st nst tree) fun σ H Q h => tMeth_of hc h
theorem E_meth0 {pl : Sem Bool} (cm : CalM X.prog X.w X.K X.mg X.base CXc k c m n F) (rm : Room j X.A) (thru : ∀ σ, PassesAt CXc X σ (WE W σ)) (ho : PE X o (tE X.K W fo)) (hk : k ≤ j := by first | decide | omega)
    (tree : MethTree X o m apos pos [] pl := by rfl) : PE X (.Call (.Attribute o m apos) [] [] pos) (tE X.K W (eMeth c m n F fo aNil)) := by
  obtain ⟨C, f, fd, ps, hc, hm, G, bd⟩ := cm.ex
  refine PE.weak (pe_methA0 G (rm.mono hk) bd thru hc.cl hm ho tree) fun σ H Q h => ?_
  obtain ⟨w, S, ρ, s, re, p⟩ := tMeth_of hc h
  refine ⟨w, S, ρ, s, re, p.imp fun b H1 hb => ?_⟩
  obtain ⟨a, dx, fs, h1, h2, h3, w1, S1, ρ1, s1, re1, p1⟩ := hb
  exact ⟨a, dx, fs, h1, h2, h3, p1 w1 H1 [] .refl s1 (by simp only [RVs])⟩
theorem tMake_of {C : Addr} {σ : St} {H : Hp} {Q : VK} (hc : CI X.K c C) (h : tE X.K W (eMake c n F fa) σ H Q) : tMakeA C (spOf X.K n F) (WE W) (tA X.K W fa) σ H Q := by
  obtain ⟨w, S, ρ, s, re, p⟩ := h
  refine ⟨w, S, ρ, s, re, p.bind fun w1 H1 vs ds S1 e1 s1 rd p1 => ?_⟩
  split at p1
  · rename_i hn
    intro x dx hx hdx hne
    have hx2 : upd H1 dx (.own x) x = none := by rw [upd_ne (Ne.symm hne)]; exact hx
    have ea : Ext w1 H1 w1 (upd H1 dx (.own x)) := Ext.fresh hdx
    have sa : Sim X.K w1 S1 (upd H1 dx (.own x)) := s1.fresh hdx
    have eb : Ext w1 (upd H1 dx (.own x)) (w1.add x) (upd (upd H1 dx (.own x)) x (.ins C dx [])) := Ext.alloc hx2
    have sb : Sim X.K (w1.add x) (S1 ++ [.ins c []]) (upd (upd H1 dx (.own x)) x (.ins C dx [])) := sa.alloc hx2 ⟨C, dx, [], hc.nm, upd_same, .emp⟩
    have e2 := ea.trans eb
    have rl : RV X.K (w1.add x) (upd (upd H1 dx (.own x)) x (.ins C dx [])) (.loc S1.length) (.ref x) := RV.newLoc s1.len
    refine ⟨w1.add x, S1 ++ [.ins c []], .loc S1.length :: ds, by rw [List.length_cons, ← rd.length, hn], sb, ?_, ?_⟩
    · simp only [RVs]
      exact ⟨_, _, rfl, rl, rd.mono e2⟩
    · have p2 := (p1.shift e2).toE (σ' := [])
      refine PostG.bind p2 fun w3 H3 b a S3 e3 s3 ra p3 => ?_
      cases a with
      | non =>
        simp only [RV] at ra
        exact ⟨ra, p3 w3 H3 _ .refl s3 (rl.mono e3)⟩
      | _ => exact p3.elim
  · exact p1.elim
theorem E_make (cc : CalC X.prog X.w X.K X.mg X.base CXc k c n F) (rm : Room j X.A) (thru : ∀ σ, PassesAt CXc X σ (WE W σ)) (ha : PA X (e :: es) (tA X.K W fa)) (hk : k + 1 ≤ j := by first | decide | omega) (hg : Gl X c := by rfl)
    (db : (c == ("__debug__" : Str)) = false := by decide) (st : starEach (e :: es) X.env = (false, eval e X.env) :: starEach es X.env := by rfl) (nst : (backTo pos (starEach es X.env)).any (·.1) = false := by rfl) :
    PE X (.Call (.Name c p) (e :: es) [] pos) (tE X.K W (eMake c n F fa)) := by
  obtain ⟨C, f, fd, ps, hc, M, hx, G, bd⟩ := cc.ex
  exact PE.weak (pe_makeA M G (rm.mono hk) hg hx bd thru ha db st nst) fun σ H Q h => tMake_of hc h
theorem E_make0 (cc : CalC X.prog X.w X.K X.mg X.base CXc k c n F) (rm : Room j X.A) (thru : ∀ σ, PassesAt CXc X σ (WE W σ)) (hk : k + 1 ≤ j := by first | decide | omega) (hg : Gl X c := by rfl)
    (db : (c == ("__debug__" : Str)) = false := by decide) : PE X (.Call (.Name c p) [] [] pos) (tE X.K W (eMake c n F aNil)) := by
  obtain ⟨C, f, fd, ps, hc, M, hx, G, bd⟩ := cc.ex
  refine PE.weak (pe_makeA0 M G (rm.mono hk) hg hx bd thru db) fun σ H Q h => ?_
  obtain ⟨w, S, ρ, s, re, p⟩ := tMake_of hc h
  exact p w H [] .refl s (by simp only [RVs])
end
end Ev

namespace Ev
open PySem PySem.Spec PyProof.Rows L2
/-! ### dicts: keys ints and texts, or tuples of them -/
section
variable {κ : Type} [DecidableEq κ]
def valD (k : κ) : List (κ × D) → Option D
  | [] => none
  | p :: ps => if p.1 = k then some p.2 else valD k ps
def hasD (k : κ) : List (κ × D) → Bool
  | [] => false
  | p :: ps => decide (p.1 = k) || hasD k ps
def setD (k : κ) (d : D) : List (κ × D) → List (κ × D)
  | [] => []
  | p :: ps => (if p.1 = k then (p.1, d) else p) :: setD k d ps
def insD (k : κ) (d : D) (ps : List (κ × D)) : List (κ × D) := if hasD k ps = true then setD k d ps else ps ++ [(k, d)]
variable {K : PySem.W.Frag} {w : Wo} {H : Hp}
theorem RP.val {k : κ} : ∀ {ps : List (κ × D)} {vs : List (κ × V)}, RP K w H ps vs → (∀ d, valD k ps = some d → ∃ v, valV vs k = some v ∧ RV K w H d v) ∧ (valD k ps = none → valV vs k = none)
  | [], vs, h => by
    rw [h.nil_iff.1 rfl]
    exact ⟨fun d z => (by cases z), fun _ => rfl⟩
  | (k0, x) :: ps, vs, h => by
    obtain ⟨v, us, rfl, h1, h2⟩ := h.cons
    obtain ⟨i1, i2⟩ := RP.val (k := k) h2
    by_cases q : k0 = k
    · refine ⟨fun d z => ?_, fun z => ?_⟩
      · simp only [valD, q, if_true] at z
        cases z
        exact ⟨v, valV_pos (p := (k0, v)) q, h1⟩
      · simp only [valD, q, if_true] at z
        cases z
    · refine ⟨fun d z => ?_, fun z => ?_⟩
      · simp only [valD, q, if_false] at z
        obtain ⟨v', g1, g2⟩ := i1 d z
        exact ⟨v', (valV_neg (p := (k0, v)) q).trans g1, g2⟩
      · simp only [valD, q, if_false] at z
        exact (valV_neg (p := (k0, v)) q).trans (i2 z)
theorem RP.has {k : κ} : ∀ {ps : List (κ × D)} {vs : List (κ × V)}, RP K w H ps vs → hasD k ps = vs.any fun kv => decide (kv.1 = k)
  | [], vs, h => by rw [h.nil_iff.1 rfl]; rfl
  | (k0, x) :: ps, vs, h => by
    obtain ⟨v, us, rfl, h1, h2⟩ := h.cons
    simp only [hasD, List.any_cons, RP.has h2]
theorem RP.set {k : κ} {d : D} {v : V} (hv : RV K w H d v) : ∀ {ps : List (κ × D)} {vs : List (κ × V)}, RP K w H ps vs → RP K w H (setD k d ps) (vs.map fun kv => if kv.1 = k then (kv.1, v) else kv)
  | [], vs, h => by rw [h.nil_iff.1 rfl]; exact .emp
  | (k0, x) :: ps, vs, h => by
    obtain ⟨u, us, rfl, h1, h2⟩ := h.cons
    simp only [setD, List.map_cons]
    by_cases q : k0 = k
    · simp only [q, if_true]
      exact .mk hv (RP.set hv h2)
    · simp only [q, if_false]
      exact .mk h1 (RP.set hv h2)
theorem RP.snoc {k : κ} {d : D} {v : V} (hv : RV K w H d v) : ∀ {ps : List (κ × D)} {vs : List (κ × V)}, RP K w H ps vs → RP K w H (ps ++ [(k, d)]) (vs ++ [(k, v)])
  | [], vs, h => by rw [h.nil_iff.1 rfl]; exact .mk hv .emp
  | (k0, x) :: ps, vs, h => by
    obtain ⟨u, us, rfl, h1, h2⟩ := h.cons
    exact .mk h1 (RP.snoc hv h2)
theorem RP.ins {k : κ} {d : D} {v : V} {ps : List (κ × D)} {vs : List (κ × V)} (hv : RV K w H d v) (h : RP K w H ps vs) : RP K w H (insD k d ps) (L2.putK vs k v) := by
  unfold insD L2.putK
  rw [h.has (k := k)]
  split
  · exact h.set hv
  · exact h.snoc hv
end
/-- a tuple of ints and texts, as a key -/
def key1 : D → Option Key
  | .int i => some (.inl i)
  | .str x => some (.inr x)
  | _ => none
def keysOf : List D → Option (List Key)
  | [] => some []
  | d :: ds => match key1 d, keysOf ds with
    | some k, some ks => some (k :: ks)
    | _, _ => none
def keyT : D → Option (List Key)
  | .tup ds => keysOf ds
  | _ => none
section
variable {K : PySem.W.Frag} {w : Wo} {H : Hp}
theorem key1_v {d : D} {k : Key} {v : V} (h : key1 d = some k) (r : RV K w H d v) : v = kV k := by
  cases d with
  | int i => simp only [RV] at r; cases h; exact r
  | str x => simp only [RV] at r; cases h; exact r
  | _ => cases h
theorem keysOf_v : ∀ {ds : List D} {ks : List Key} {vs : List V}, keysOf ds = some ks → RVs K w H ds vs → vs = ks.map kV
  | [], ks, vs, h, r => by
    cases h
    simp only [RVs] at r
    exact r
  | d :: ds, ks, vs, h, r => by
    simp only [RVs] at r
    obtain ⟨v, us, rfl, r1, r2⟩ := r
    simp only [keysOf] at h
    split at h
    · rename_i k0 ks0 e1 e2
      cases h
      rw [key1_v e1 r1, keysOf_v e2 r2]
      rfl
    · cases h
theorem keyT_v {d : D} {ks : List Key} {v : V} (h : keyT d = some ks) (r : RV K w H d v) : ∃ b, v = .ref b ∧ H b = some (.tup (ks.map kV)) := by
  cases d with
  | tup ds =>
    simp only [RV] at r
    obtain ⟨b, xs, rfl, h1, h2⟩ := r
    exact ⟨b, rfl, by rw [h1, keysOf_v (show keysOf ds = some ks from h) h2]⟩
  | _ => cases h
/-- the cell of a dict, what it holds at a key -/
def dGet (S : Sto) (x y : D) : Option (Option D) := match x with
  | .loc n => match S[n]? with
    | some (.dT kvs) => (keyT y).map fun k => valD k kvs
    | some (.fT kvs) => (keyT y).map fun k => valD k kvs
    | some (.dK kvs) => (key1 y).map fun k => valD k kvs
    | _ => none
  | _ => none
def dPut (S : Sto) (x y d : D) : Option Sto := match x with
  | .loc n => match S[n]? with
    | some (.dT kvs) => (keyT y).bind fun k => if kvs.length < sizeLine then some (S.set n (.dT (insD k d kvs))) else none
    | some (.dK kvs) => (key1 y).bind fun k => if kvs.length < sizeLine then some (S.set n (.dK (insD k d kvs))) else none
    | _ => none
  | _ => none
theorem dGet_of {S : Sto} {x y : D} {xv yv : V} {r : Option D} (s : Sim K w S H) (rx : RV K w H x xv) (ry : RV K w H y yv) (h : dGet S x y = some r) :
    ∃ a o, xv = .ref a ∧ DGet H a yv o ∧ IsD H a ∧ (∀ d, r = some d → ∃ v, o = some v ∧ RV K w H d v) ∧ (r = none → o = none) := by
  unfold dGet at h
  split at h
  · rename_i n
    split at h
    · rename_i kvs hn
      obtain ⟨k, hk, rfl⟩ := Option.map_eq_some_iff.mp h
      obtain ⟨a, rfl, h2, vs, h3, h4⟩ := s.get hn rx
      obtain ⟨b, rfl, hb⟩ := keyT_v hk ry
      obtain ⟨g1, g2⟩ := h4.val (k := k)
      exact ⟨a, valV vs k, rfl, DGet.t h3 hb, .inr ⟨vs, .inl h3⟩, g1, g2⟩
    · rename_i kvs hn
      obtain ⟨k, hk, rfl⟩ := Option.map_eq_some_iff.mp h
      obtain ⟨a, rfl, h2, od, vs, h3, h4⟩ := s.get hn rx
      obtain ⟨b, rfl, hb⟩ := keyT_v hk ry
      obtain ⟨g1, g2⟩ := h4.val (k := k)
      exact ⟨a, valV vs k, rfl, .inr ⟨vs, k, b, .inr ⟨od, h3⟩, rfl, hb, rfl⟩, .inr ⟨vs, .inr ⟨od, h3⟩⟩, g1, g2⟩
    · rename_i kvs hn
      obtain ⟨k, hk, rfl⟩ := Option.map_eq_some_iff.mp h
      obtain ⟨a, rfl, h2, vs, h3, h4⟩ := s.get hn rx
      cases key1_v hk ry
      obtain ⟨g1, g2⟩ := h4.val (k := k)
      exact ⟨a, valV vs k, rfl, DGet.k h3, .inl ⟨vs, .inl h3⟩, g1, g2⟩
    · cases h
  · cases h
theorem dPut_of {S S' : Sto} {x y d : D} {xv yv v : V} (s : Sim K w S H) (rx : RV K w H x xv) (ry : RV K w H y yv) (rd : RV K w H d v) (h : dPut S x y d = some S') :
    ∃ a H', xv = .ref a ∧ DPut H a yv v H' ∧ Ext w H w H' ∧ Sim K w S' H' := by
  unfold dPut at h
  split at h
  · rename_i n
    split at h
    · rename_i kvs hn
      obtain ⟨k, hk, h⟩ := Option.bind_eq_some_iff.mp h
      split at h
      · rename_i hl
        cases h
        obtain ⟨a, rfl, h2, vs, h3, h4⟩ := s.get hn rx
        obtain ⟨b, rfl, hb⟩ := keyT_v hk ry
        exact ⟨a, _, rfl, DPut.t h3 hb (by rw [← h4.len]; exact hl), Ext.write s (List.mem_of_getElem? h2) (free_of h3 fun _ _ z => nomatch z), s.write h2 (free_of h3 fun _ _ z => nomatch z) ⟨_, upd_same, (h4.ins rd).wr s h2 (free_of h3 fun _ _ z => nomatch z)⟩⟩
      · cases h
    · rename_i kvs hn
      obtain ⟨k, hk, h⟩ := Option.bind_eq_some_iff.mp h
      split at h
      · rename_i hl
        cases h
        obtain ⟨a, rfl, h2, vs, h3, h4⟩ := s.get hn rx
        cases key1_v hk ry
        exact ⟨a, _, rfl, DPut.k h3 (by rw [← h4.len]; exact hl), Ext.write s (List.mem_of_getElem? h2) (free_of h3 fun _ _ z => nomatch z), s.write h2 (free_of h3 fun _ _ z => nomatch z) ⟨_, upd_same, (h4.ins rd).wr s h2 (free_of h3 fun _ _ z => nomatch z)⟩⟩
      · cases h
    · cases h
  · cases h
end
def eDNew (t : Bool) : EF := fun _ S => .ok (.loc S.length) (S ++ [if t then .dT [] else .dK []])
def eDGet (fd fk : EF) : EF := fun ρ S => (fd ρ S).bind fun x S1 => (fk ρ S1).bind fun y S2 => match dGet S2 x y with
  | some (some d) => .ok d S2
  | _ => .no
def isDct (S : Sto) (x : D) : Bool := match x with
  | .loc n => match S[n]? with
    | some (.dT _) => true
    | some (.dK _) => true
    | _ => false
  | _ => false
/-- d.get(k, z) -/
def eDGet2 (fd fk fz : EF) : EF := fun ρ S => (fd ρ S).bind fun x S1 => if isDct S1 x = true then (fk ρ S1).bind fun y S2 => (fz ρ S2).bind fun z S3 => match dGet S3 x y with
  | some r => .ok (r.getD z) S3
  | none => .no
  else .no
def bDIn (neg : Bool) (fk fd : EF) : BF := fun ρ S => (fk ρ S).bind fun y S1 => (fd ρ S1).bind fun x S2 => match dGet S2 x y with
  | some r => .ok (if neg then !r.isSome else r.isSome) S2
  | none => .no
def sDPut (fd fk fe : EF) : SF := fun ρ S => sB (fe ρ S) ρ fun d S1 => sB (fd ρ S1) ρ fun x S2 => sB (fk ρ S2) ρ fun y S3 => match dPut S3 x y d with
  | some S4 => .nx ρ S4
  | none => .no
theorem isDct_of {K : PySem.W.Frag} {w : Wo} {H : Hp} {S : Sto} {x : D} {v : V} (s : Sim K w S H) (rx : RV K w H x v) (h : isDct S x = true) : ∃ a, v = .ref a ∧ IsD H a := by
  unfold isDct at h
  split at h
  · split at h
    · rename_i n kvs hn
      obtain ⟨a, rfl, h2, vs, h3, h4⟩ := s.get hn rx
      exact ⟨a, rfl, .inr ⟨vs, .inl h3⟩⟩
    · rename_i n kvs hn
      obtain ⟨a, rfl, h2, vs, h3, h4⟩ := s.get hn rx
      exact ⟨a, rfl, .inl ⟨vs, .inl h3⟩⟩
    · cases h
  · cases h
section
variable {X : Cx} {W : WX} {k : Nat} {pos pos' apos : Pos} {o i e z : Expr} {fd fk fe fz : EF}
theorem E_dnewT : PE X (.Dict [] [] pos) (tE X.K W (eDNew true)) :=
  PE.weak pe_dnewT fun σ H Q h => by
    obtain ⟨w, S, ρ, s, re, p⟩ := h
    intro q hq
    exact p (w.add q) _ _ (Ext.alloc hq) (s.alloc hq ⟨[], upd_same, .emp⟩) (RV.newLoc s.len)
theorem E_dnewK : PE X (.Dict [] [] pos) (tE X.K W (eDNew false)) :=
  PE.weak pe_dnewK fun σ H Q h => by
    obtain ⟨w, S, ρ, s, re, p⟩ := h
    intro q hq
    exact p (w.add q) _ _ (Ext.alloc hq) (s.alloc hq ⟨[], upd_same, .emp⟩) (RV.newLoc s.len)
theorem E_dget (c : Ctx X k) (ho : PE X o (tE X.K W fd)) (hi : PE X i (tE X.K W fk)) (hs : NoSl i := by exact fun _ _ => rfl) : PE X (.Subscript o i pos) (tE X.K W (eDGet fd fk)) :=
  PE.weak (pe_dget (by have := c.hu; omega) ho hi hs) fun σ H Q h => by
    obtain ⟨w, S, ρ, s, re, p⟩ := h
    refine ⟨w, S, ρ, s, re, p.bind fun w1 H1 xv x S1 e1 s1 rx p1 => ?_⟩
    refine ⟨w1, S1, ρ, s1, re.mono e1, p1.bind fun w2 H2 yv y S2 e2 s2 ry p2 => ?_⟩
    split at p2
    · rename_i d hd
      obtain ⟨a, ov, rfl, g, _, h1, _⟩ := dGet_of s2 (rx.mono e2) ry hd
      obtain ⟨v, rfl, rv⟩ := h1 d rfl
      exact ⟨a, v, rfl, g, p2 w2 H2 v .refl s2 rv⟩
    · exact p2.elim
theorem E_dget2 (c : Ctx X k) (ho : PE X o (tE X.K W fd)) (hi : PE X i (tE X.K W fk)) (hz : PE X z (tE X.K W fz)) (m : M2 X o "get" apos i z pos := by exact ⟨rfl, rfl, rfl, rfl⟩) : PE X (.Call (.Attribute o "get" apos) [i, z] [] pos) (tE X.K W (eDGet2 fd fk fz)) :=
  PE.weak (pe_dget2 (by have := c.hu; omega) ho hi hz m) fun σ H Q h => by
    obtain ⟨w, S, ρ, s, re, p⟩ := h
    refine ⟨w, S, ρ, s, re, p.bind fun w1 H1 xv x S1 e1 s1 rx p1 => ?_⟩
    split at p1
    · rename_i hx
      obtain ⟨a, rfl, hD⟩ := isDct_of s1 rx hx
      refine ⟨a, rfl, hD, w1, S1, ρ, s1, re.mono e1, p1.bind fun w2 H2 yv y S2 e2 s2 ry p2 => ?_⟩
      refine ⟨w2, S2, ρ, s2, (re.mono e1).mono e2, p2.bind fun w3 H3 zv zd S3 e3 s3 rz p3 => ?_⟩
      split at p3
      · rename_i r hr
        obtain ⟨a', ov, ea, g, _, h1, h2⟩ := dGet_of s3 ((rx.mono e2).mono e3) (ry.mono e3) hr
        cases ea
        refine ⟨ov, g, ?_⟩
        cases r with
        | none =>
          rw [h2 rfl]
          exact p3 w3 H3 _ .refl s3 rz
        | some d =>
          obtain ⟨v, rfl, rv⟩ := h1 d rfl
          exact p3 w3 H3 _ .refl s3 rv
      · exact p3.elim
    · exact p1.elim
theorem S_dput (c : Ctx X k) (hv : PE X e (tE X.K W fe)) (ho : PE X o (tE X.K W fd)) (hi : PE X i (tE X.K W fk)) (hs : swapsWith e (some (.Subscript o i pos')) pos.line X.env = pure false := by rfl) :
    PS X (.Assign [.Subscript o i pos'] e pos) (tS X.K W (sDPut fd fk fe)) :=
  PS.weak (ps_dput (by have := c.hu; omega) ho hi hv hs) fun D σ H h => by
    obtain ⟨w, S, ρ, s, re, p⟩ := h
    refine ⟨w, S, ρ, s, re, p.bind re fun w1 H1 v d S1 e1 s1 rd p1 => ?_⟩
    refine ⟨w1, S1, ρ, s1, re.mono e1, p1.bind (re.mono e1) fun w2 H2 xv x S2 e2 s2 rx p2 => ?_⟩
    refine ⟨w2, S2, ρ, s2, (re.mono e1).mono e2, p2.bind ((re.mono e1).mono e2) fun w3 H3 yv y S3 e3 s3 ry p3 => ?_⟩
    split at p3
    · rename_i S4 h4
      obtain ⟨a, H4, rfl, g, e4, s4⟩ := dPut_of s3 (rx.mono e3) ry ((rd.mono e2).mono e3) h4
      exact ⟨a, H4, rfl, g, p3 w3 H4 σ e4 s4 ((((re.mono e1).mono e2).mono e3).mono e4)⟩
    · exact p3.elim
end
end Ev

namespace Ev
open PySem PySem.Spec PyProof.Rows L2
/-! ### super().__init__(..) ahead of a def's other words -/
/-- what the top's text tells of such a def: f the def, cda its code, cc its cell, D its class, f2 the def above -/
structure SupF (P : Program) (K : PySem.W.Frag) (D : Addr) (f f2 cda cc : Addr) (qual file : Str) (params : Arguments) (sc : Scope) : Prop where
  code : ∃ ccl cdd vs ccs tf, K.lookup cda = some ⟨ccl, cdd, .fields vs, ccs⟩ ∧ vs[2]? = some (.str file tf)
  file : ((P.main.file : Str) == file) = true
  cell : ∃ cl cld csl, K.lookup cc = some ⟨cl, cld, .cell (some (.ref D)), csl⟩
  cls : ∃ cd, PySem.W.clsIn K D = some cd
  sub : PySem.W.mroIn K D (.ref D) = some true
  top : (P.main.scope.names.lookup ("super" : Str)).isSome = false
  tp : PySem.W.nsIn K cStatics "thirdparty.any" = some none
  up : PySem.W.ks_superIn K D D "__init__" = some (some (.ref f2))
  ty : PySem.W.typeIn K (.ref f2) = some (.type "function")
  fi : PySem.W.fnIn K f2 = true
  cl : Cls K D
section
variable {X : Cx} {CX : CXT} {E : XK} {k : Nat} {D f f2 cda cc a dx : Addr} {fd fd2 : FuncData} {ps2 : List Str} {sp2 : Sp} {qual file : Str} {params : Arguments} {sc : Scope} {ar : Arg} {e : Expr} {es : List Expr} {t : TA} {p0 p1 apos pos epos : Pos} {body : List Stmt} {fs : List (Str × V)}
theorem cls_obj {h : Heap} {cd : ClassData} (KX : X.K.In h) (hD : PySem.W.clsIn X.K D = some cd) : ∃ oD, h.get? D = some oD ∧ oD.data = .cls cd := by
  unfold PySem.W.clsIn at hD
  split at hD
  · rename_i c d cd' sl ho
    cases hD
    exact ⟨_, KX _ _ ho, rfl⟩
  · cases hD
theorem super_stmt {pins : List (Addr × Obj)} {s : Shared} {σ : L2.St} {H : Hp} {R : Hp → Prop} (T : SupF X.prog X.K D f f2 cda cc qual file params sc) (hs : X.env.kindOf "super" = some .globalImplicit) (hc : X.env.kindOf "__class__" = some .free) (ha1 : X.env.kindOf ar.arg = some .local)
    (hf : X.env.func = some f) (hco : X.env.code = .ref cda) (hcl : X.env.cells.lookup ("__class__" : Str) = some cc) (hfd : ∃ oc od osl, X.K.lookup f = some ⟨oc, od, .func fd, osl⟩) (hp : (fd.params.posonlyargs ++ fd.params.args).head? = some ar) (hN : X.N[0]? = some ar.arg)
    (hv : Vis X.env.scope ar.arg) (hms : X.mg "super" = none) (G : FnOk X.prog X.w X.K X.mg X.base CX k f2 fd2 ps2 sp2) (rm : Room k X.A) (bd : Binds X.K fd2 ps2 []) (thru : PassesAt CX X σ E) (ha : PA X (e :: es) t)
    (I : Inv X pins σ H s) (self : σ[0]? = some (some (.ref a))) (ea : H a = some (.ins D dx fs)) (h : t σ H fun vs H1 => sp2 (.ref a :: vs) H1 (fun _ H2 => R H2) E)
    (st : starEach (e :: es) X.env = (false, eval e X.env) :: starEach es X.env) (nst : (backTo pos (starEach es X.env)).any (·.1) = false) (hi : interactive X.env = false)
    (hsw : swapsWith (.Call (.Attribute (.Call (.Name "super" p0) [] [] p1) "__init__" apos) (e :: es) [] pos) none epos.line X.env = pure false) {pl : Sem Bool}
    (tree : eval (.Call (.Attribute (.Call (.Name "super" p0) [] [] p1) "__init__" apos) (e :: es) [] pos) X.env = (do let ov ← attributeBase (.Call (.Name "super" p0) [] [] p1) "__init__" X.env (eval (.Call (.Name "super" p0) [] [] p1) X.env); standAt apos.atName; let (f, first) ← holding [ov] (getMethod ov "__init__" pl); callWith pos f first (backTo pos (starEach (e :: es) X.env)) [])) :
    _root_.PySem.wpAt (model X.prog X.w) X.A (.func body X.env) (exec (.Expr (.Call (.Attribute (.Call (.Name "super" p0) [] [] p1) "__init__" apos) (e :: es) [] pos) epos) X.env) (fun fl s' => fl = .next ∧ ∃ H2, Inv X pins σ H2 s' ∧ R H2) X.xe s := by
  obtain ⟨ccl, cdd, vs, ccs, tf, hcode, hvs⟩ := T.code
  obtain ⟨cl, cld, csl, hcell⟩ := T.cell
  obtain ⟨cd, hD⟩ := T.cls
  obtain ⟨oc, od, osl, hfl⟩ := hfd
  have KX := I.kIn
  obtain ⟨oD, hD1, hD2⟩ := cls_obj KX hD
  obtain ⟨mb, hb1, hb2⟩ := I.mod.blt
  obtain ⟨m, ns, look⟩ := I.loc
  obtain ⟨u, ru, lk⟩ := look 0 ar.arg _ hN self hv
  cases (show u = Value.ref a from ru)
  have hm : m ar.arg = some (.ref a) := by
    rcases lk with ⟨_, z⟩ | ⟨z, _⟩
    · exact z
    · rw [ha1] at z
      rcases z with z | z <;> cases z
  obtain ⟨mA, O, _, _, _, _⟩ := ins_get I.hok ea
  obtain ⟨ox, J, _⟩ := O.look
  refine ks_wpAt_Expr_any (ks_wpAt_MethodCall (pl := pl) ?_ tree) hi hsw
  refine ks_wpAt_super_base hs hc (by decide) hf (KX _ _ hfl) rfl hp hco (KX _ _ hcode) rfl hvs T.file T.top ?_
  refine PySem.W.ks_loadName_global I.ok.kind hs (Calls.loadGlobal_builtin (by rw [I.ok.glob]; exact I.mod.glob.keeps I.bk) hms (by rw [I.ok.blt]; exact hb1.keeps I.bk) ((hb2 "super" (by decide)).trans (show bootBuiltins "super" = some (.type "super") by decide +kernel)) ⟨rfl, ?_⟩)
  refine wpAny_loadName_free I.ok.kind hc hcl ⟨_, KX _ _ hcell, rfl⟩ ?_
  refine wpAny_loadName_local I.ok.kind ha1 ns hm ?_
  obtain ⟨hh, g, d, tk, os⟩ := s
  refine ks_wpAny_isType_cls hD1 hD2 ⟨rfl, ?_⟩
  refine ks_wpAny_call_super hD1 hD2 J.at_ J.cls (fun c ec => ?_) (PySem.W.looks_mroIn KX T.sub) (fun h' es' kp => ?_)
  · have := J.no
    unfold PySem.W.notCls at this
    rw [ec] at this
    exact Bool.noConfusion this
  · have I1 : Inv X pins σ H ⟨h', g, d, tk, os⟩ := I.kept (t' := tk) kp
    obtain ⟨of, hof, hofc⟩ : ∃ of, h'.get? f2 = some of ∧ of.cls = .type "function" := by
      have ht' : (X.K.lookup f2).map (·.cls) = some (.type "function") := T.ty
      cases z : X.K.lookup f2 with
      | none => rw [z] at ht'; cases ht'
      | some of => rw [z] at ht'; exact ⟨of, I1.kIn _ _ z, Option.some.inj ht'⟩
    have up := T.up
    unfold PySem.W.ks_superIn at up
    rw [hD, Option.bind_some] at up
    refine ks_wpAny_getMethod_super es' (PySem.W.looks_opaque I1.kIn T.tp) (l₀ := cd.mro) ?_ rfl I1.kIn up hof hofc ?_ (by decide) ?_
    · exact fun A Q E s k q => wpAny_bind ((PySem.W.looks_clsIn I1.kIn hD) A _ E s k (wpAny_pure q))
    · exact PySem.W.ks_ne KX J hD
    · have I2 : Inv X ((h'.objs.size, PySem.W.methodObj (.ref f2) (.ref a)) :: pins) σ H ⟨h'.push (PySem.W.methodObj (.ref f2) (.ref a)), g, d, tk + 1, os⟩ :=
        ClX.pin_new I1 (fun _ _ z => Heap.get?_push_of_some _ z) (Nat.le_refl _) (Heap.get?_push_size h' rfl) (fun v z => nomatch z)
      have bn : X.base.get? h'.objs.size = none := ClX.base_none I1 (Nat.le_refl _)
      have hL : h'.objs.size ≠ X.env.locals := (I2.pin (h'.objs.size, PySem.W.methodObj (.ref f2) (.ref a)) (List.mem_append_right _ List.mem_cons_self)).2.2.1
      refine PySem.W.callWith_M (K := X.K) (h₀ := X.base) (first := []) I.ok.mod.kin (news_at hL bn (ClX.pin_at I2)) List.mem_cons_self T.fi ?_ st nst
      refine thn (ha.run pos _ _ σ H _ I2 h) ?_
      rintro us s3 ⟨vs, H1, I3, rv, q3⟩
      refine ⟨⟨ClX.pin_at I3, I3.kIn⟩, ?_⟩
      have r1 : Vals (V.ref a :: vs) (Value.ref a :: us) := .cons rfl rv
      have len : (Value.ref a :: us).length = ps2.length := by rw [← r1.length]; exact G.len _ _ _ _ q3
      have bs := bd s3 (Value.ref a :: us) I3.kIn (by rw [List.append_nil]; exact len)
      rw [List.append_nil] at bs
      have I4 := ClX.unpin I3
      have run := G.run X.A X.stack s3 H1 ⟨Value.ref a :: us, []⟩ _ _ _ E rm I4.env0 bs r1 q3
      refine wpAny_call (PySem.W.method_call (ClX.pin_at I3) (codeAny_mono run ?_))
      intro res s' hres
      cases res with
      | error er => exact thru pins _ _ er s' I4 hres
      | ok fl =>
        cases fl with
        | ret u =>
          obtain ⟨v, H', I5, rv5, q5⟩ := I4.after hres
          exact ⟨rfl, H', I5, q5⟩
        | next => exact hres.elim
        | brk => exact hres.elim
        | cont => exact hres.elim
end
/-- super().__init__(..), the class c's own def above it being F -/
def sSup (c : Str) (n : Nat) (F : List D → Sto → R D) (fa : AF) : SF := fun ρ S => match ρ[0]? with
  | some (some (D.loc i)) => match S[i]? with
    | some (.ins c' _) => if c' = c then sB (fa ρ S) ρ fun ds S1 => if ds.length + 1 = n then sB (F (D.loc i :: ds) S1) ρ fun _ S2 => .nx ρ S2 else .no else .no
    | _ => .no
  | _ => .no
section
variable {P : Program} {w : World} {K : PySem.W.Frag} {mg : Str → Option Value} {base : Heap}
abbrev supNF (x qual : Str) (st : Stmt) (cc cda : Addr) : NdefX.NF := ⟨x, qual, defArgs st, defBody st, defScope st, [(("__class__" : Str), cc)], cda⟩
/-- the rule for such a def -/
theorem fun_okS {x qual file c : Str} {st : Stmt} {f f2 cda cc Dc : Addr} {fd2 : FuncData} {N ps ps2 : List Str} {k n : Nat} {fa : AF} {b : SF} {F : List D → Sto → R D} {oc : Value} {od : Option Addr} {osl : Array (Option Value)} {doc pm ct : Value}
    {p0 p1 apos pos epos : Pos} {e : Expr} {es : List Expr} {rest : List Stmt} {ar : Arg} {pl : Sem Bool}
    (lk : K.lookup f = some ⟨oc, od, .func ((supNF x qual st cc cda).fd doc pm ct), osl⟩) (hcd : PySem.W.codeIn K (.ref cda) qual = true) (S : NdefX.NScope N ps [("__class__" : Str)] (defScope st)) (hc : CI K c Dc)
    (T : SupF P K Dc f f2 cda cc qual file (defArgs st) (defScope st)) (G : FnOk P w K mg base CX0 k f2 fd2 ps2 (spOf K n F)) (bd : Binds K fd2 ps2 []) (hms : mg "super" = none)
    (body : defBody st = .Expr (.Call (.Attribute (.Call (.Name "super" p0) [] [] p1) "__init__" apos) (e :: es) [] pos) epos :: rest)
    (hp : ((defArgs st).posonlyargs ++ (defArgs st).args).head? = some ar) (hps : ps[0]? = some ar.arg)
    (hs : (defScope st).names.lookup ("super" : Str) = some .globalImplicit) (hk : (defScope st).names.lookup ("__class__" : Str) = some .free)
    (hb : ∀ (X : Cx) (W : WX) (A : Around) (outer : List Env) (s : Shared) (H : Hp) (E : XK), Room k (A.deeper (NdefX.envF (supNF x qual st cc cda) f s.heap.objs.size)) → X = (NdefX.ncx CX0 P w K mg base N (supNF x qual st cc cda) f A outer s H E).nox →
      PA X (e :: es) (tA K W fa) ∧ PSs X rest (tS K W b) ∧ starEach (e :: es) X.env = (false, eval e X.env) :: starEach es X.env ∧ (backTo pos (starEach es X.env)).any (·.1) = false ∧ interactive X.env = false ∧
      swapsWith (.Call (.Attribute (.Call (.Name "super" p0) [] [] p1) "__init__" apos) (e :: es) [] pos) none epos.line X.env = pure false ∧
      eval (.Call (.Attribute (.Call (.Name "super" p0) [] [] p1) "__init__" apos) (e :: es) [] pos) X.env = (do let ov ← attributeBase (.Call (.Name "super" p0) [] [] p1) "__init__" X.env (eval (.Call (.Name "super" p0) [] [] p1) X.env); standAt apos.atName; let (f, first) ← holding [ov] (getMethod ov "__init__" pl); callWith pos f first (backTo pos (starEach (e :: es) X.env)) [])) :
    FnOk P w K mg base CX0 (k + 1) f ((supNF x qual st cc cda).fd doc pm ct) ps (spOf K ps.length (runF N.length (sSeq (sSup c n F fa) b))) := by
  refine ⟨fun vs H Q E h => let ⟨_, _, _, h, _⟩ := h; h, fun A outer s H args us vs Q E hr e0 hbd r hsp => ?_⟩
  obtain ⟨w0, S0, ds, hl, sm, rd, p⟩ := hsp
  have KX : K.In s.heap := e0.mod.kin.keeps fun b o e => (e0.bs b o e).1
  have lim : s.heap.NoLimit := e0.mod.nolimit.keeps fun b o e => (e0.bs b o e).1
  obtain ⟨cl, cld, csl, hcell⟩ := T.cell
  have cellb := e0.bs cc _ (e0.mod.kin _ _ hcell)
  have C : NdefX.CellsAt (supNF x qual st cc cda).cl [("__class__" : Str)] [none] s.heap H := by
    have one : ∀ (y : Str) (c' : Addr), List.lookup y [(("__class__" : Str), cc)] = some c' → y = "__class__" ∧ c' = cc := fun y c' h => by
      by_cases q : y = ("__class__" : Str)
      · subst q
        refine ⟨rfl, ?_⟩
        have h : some cc = some c' := by simpa [List.lookup] using h
        exact (Option.some.inj h).symm
      · have : (y == ("__class__" : Str)) = false := beq_eq_false_iff_ne.mpr q
        simp [List.lookup, this] at h
    refine ⟨rfl, fun y c' h => ?_, fun y z c' h1 h2 => ?_, fun i y h => ?_⟩
    · obtain ⟨rfl, rfl⟩ := one y c' h
      exact ⟨cellb.2, _, _, cellb.1, rfl⟩
    · rw [(one y c' h1).1, (one z c' h2).1]
    · cases i with
      | zero =>
        cases h
        exact ⟨cc, rfl, fun v z => by cases z⟩
      | succ i => cases h
  refine ks_codeAny_call_defAt (fd := (supNF x qual st cc cda).fd doc pm ct) (body := defBody st) (binds := ps.zip us) hr.depth (KX _ _ lk) rfl lim (PySem.W.codeRec_of KX hcd) rfl hbd S.nocell (fun y hy => S.par y.1 (List.of_mem_zip hy).1) (fun h₀ hns kp => ?_) S.co S.gen S.kind
  have I0 := NdefX.inv_startN (CX := CX0) (P := P) (w := w) (K := K) (mg := mg) (base := base) (E := E) (F := supNF x qual st cc cda) (f := f) (tk := s.toks + (ps.zip us).length) S hr.hd e0 hl r C hns kp
  have I1 := I0.wish (fun _ _ => False)
  obtain ⟨hPA, hPS, h1, h2, h3, h4, h5⟩ := hb _ (fun c d _ H => E c d H) A outer s H E (hr.deeper _) rfl
  have env0 : REnv K w0 H (ds.map some ++ List.replicate (N.length - ds.length) none) (NdefX.startF N vs [none]) := by
    have hpl : ps.length + 1 ≤ N.length := by
      have q := congrArg List.length S.pre
      rw [List.length_take, List.length_append] at q
      have : ([("__class__" : Str)] : List Str).length = 1 := rfl
      omega
    have e1 : NdefX.startF N vs [none] = L2.start N vs := by
      unfold NdefX.startF L2.start
      rw [show N.length - vs.length = (N.length - vs.length - 1) + 1 by omega, List.replicate_succ]
      rfl
    rw [e1]
    exact start_env rd
  have p0 : PostS K (fun c d _ H => E c d H) w0 H (sSeq (sSup c n F fa) b (ds.map some ++ List.replicate (N.length - ds.length) none) S0) { nx := fun _ H' => Q .non H', rt := Q } := by
    unfold runF at p
    cases hbb : sSeq (sSup c n F fa) b (ds.map some ++ List.replicate (N.length - ds.length) none) S0 with
    | nx ρ S' => rw [hbb] at p; exact fun w' H' σ' e s' r' => gc_post sm e s' (by simp only [RV]) p
    | rt d S' => rw [hbb] at p; exact fun w' H' v e s' r' => gc_post sm e s' r' p
    | ex x ρ S' => rw [hbb] at p; exact fun w' H' σ' dx v C e s' _ h0 h1 hn h2 => p w' H' dx v C e s' h0 h1 hn h2
    | bk ρ S' => rw [hbb] at p; exact p.elim
    | ct ρ S' => rw [hbb] at p; exact p.elim
    | no => rw [hbb] at p; exact p.elim
  clear p
  generalize ds.map some ++ List.replicate (N.length - ds.length) none = ρ at p0 env0
  have need : ∃ a dx fs, (NdefX.startF N vs [none])[0]? = some (some (.ref a)) ∧ H a = some (.ins Dc dx fs) ∧ tA K (fun c d _ H => E c d H) fa (NdefX.startF N vs [none]) H (fun us H1 => spOf K n F (.ref a :: us) H1 (fun _ H2 =>
      ∃ w2 S2, Ext w0 H w2 H2 ∧ Sim K w2 S2 H2 ∧ PostS K (fun c d _ H => E c d H) w2 H2 (b ρ S2) { nx := fun _ H' => Q .non H', rt := Q }) E) := by
    unfold sSeq sSup at p0
    split at p0
    · rename_i ρ1 S1 heq
      split at heq
      · rename_i i hi
        split at heq
        · rename_i c' fs0 hS
          split at heq
          · rename_i hcc
            subst hcc
            obtain ⟨v, hv, rv⟩ := env0.2 0 _ hi
            obtain ⟨a, rfl, h2, C', dx, us0, h3, h4, h5⟩ := sm.get hS rv
            cases hc.nm.uniq h3
            refine ⟨a, dx, us0, hv, h4, w0, S0, ρ, sm, env0, ?_⟩
            cases hfa : fa ρ S0 with
            | ok es1 S2 =>
              rw [hfa] at heq
              simp only [sB_ok] at heq
              split at heq
              · rename_i hn
                intro w1 H1 us e1 s1 r1
                refine ⟨w1, S2, .loc i :: es1, by rw [List.length_cons, ← r1.length, hn], s1, ?_, ?_⟩
                · simp only [RVs]
                  exact ⟨_, _, rfl, rv.mono e1, r1⟩
                · cases hF : F (.loc i :: es1) S2 with
                  | ok r S3 =>
                    rw [hF] at heq
                    simp only [sB_ok] at heq
                    cases heq
                    exact fun w2 H2 b' e2 s2 _ => ⟨w2, S1, e1.trans e2, s2, p0.shift (e1.trans e2)⟩
                  | ex x S3 => rw [hF] at heq; cases heq
                  | no => rw [hF] at heq; cases heq
              · cases heq
            | ex x S2 => rw [hfa] at heq; cases heq
            | no => rw [hfa] at heq; cases heq
          · cases heq
        · cases heq
      · cases heq
    · rename_i x hx
      split at p0
      · rename_i i hi
        split at p0
        · rename_i c' fs0 hS
          split at p0
          · rename_i hcc
            subst hcc
            obtain ⟨v, hv, rv⟩ := env0.2 0 _ hi
            obtain ⟨a, rfl, h2, C', dx, us0, h3, h4, h5⟩ := sm.get hS rv
            cases hc.nm.uniq h3
            refine ⟨a, dx, us0, hv, h4, w0, S0, ρ, sm, env0, ?_⟩
            simp only [hi, hS, if_true] at hx
            cases hfa : fa ρ S0 with
            | ok es1 S2 =>
              rw [hfa] at p0 hx
              simp only [sB_ok] at p0 hx
              split at p0
              · rename_i hn
                simp only [hn, if_true] at hx
                intro w1 H1 us e1 s1 r1
                refine ⟨w1, S2, .loc i :: es1, by rw [List.length_cons, ← r1.length, hn], s1, ?_, ?_⟩
                · simp only [RVs]
                  exact ⟨_, _, rfl, rv.mono e1, r1⟩
                · cases hF : F (.loc i :: es1) S2 with
                  | ok r S5 => rw [hF] at hx; exact absurd rfl (hx ρ S5)
                  | ex x S3 =>
                    rw [hF] at p0
                    exact fun w2 H2 dx v C e2 s2 q0 q1 qn q2 => p0 w2 H2 _ dx v C (e1.trans e2) s2 (env0.mono (e1.trans e2)) q0 q1 qn q2
                  | no => rw [hF] at p0; exact p0.elim
              · exact p0.elim
            | ex x S2 =>
              rw [hfa] at p0
              exact fun w2 H2 dx v C e2 s2 q0 q1 qn q2 => p0 w2 H2 _ dx v C e2 s2 (env0.mono e2) q0 q1 qn q2
            | no => rw [hfa] at p0; exact p0.elim
          · exact p0.elim
        · exact p0.elim
      · exact p0.elim
  obtain ⟨a, dx, fs, g1, g2, g3⟩ := need
  rw [body]
  refine ks_wpAt_execs_cons (ks_wpAt_mono (super_stmt (X := (NdefX.ncx CX0 P w K mg base N (supNF x qual st cc cda) f A outer s H E).nox) (E := E) (ar := ar) (pl := pl) T hs hk ?_ rfl rfl rfl ⟨_, _, _, lk⟩ hp ?_ ?_ hms G ?_ bd (fun _ _ _ _ _ _ h => h.elim) hPA I1 g1 g2 g3 h1 h2 h3 h4 h5) ?_ fun e s' z => z.elim)
  · exact S.par _ (List.mem_of_getElem? hps)
  · show N[0]? = some ar.arg
    have q : (N.take (ps.length + ([("__class__" : Str)] : List Str).length))[0]? = (ps ++ [("__class__" : Str)])[0]? := by rw [S.pre]
    rw [List.getElem?_take_of_lt (by simp), List.getElem?_append_left (List.getElem?_eq_some_iff.mp hps).1] at q
    rw [q, hps]
  · exact .inl (S.par _ (List.mem_of_getElem? hps))
  · exact hr.deeper _
  · rintro fl s' ⟨rfl, H2, I2, w2, S2, e2, s2, p2⟩
    refine wpAt_of_wpAny ?_
    have q2 : tS K (fun c d _ H => E c d H) b { nx := fun _ H' => Q .non H', rt := Q } (NdefX.startF N vs [none]) H2 := ⟨w2, S2, ρ, s2, env0.mono e2, p2⟩
    refine wpAny_mono (hPS.run [] s' _ H2 _ I2 q2) (fun fl s3 hs3 => ?_) fun e s' z => z.elim
    have fin : ∀ {σ' : L2.St} {H' : Hp} {v : V} {u : Value}, Inv (NdefX.ncx CX0 P w K mg base N (supNF x qual st cc cda) f A outer s H E).nox [] σ' H' s3 → L2.RelV v u → Q v H' → CE outer P w H s Q u s3 :=
      fun {σ' H' v u} J rv q => ⟨v, H', J.os, J.bare, J.base, J.hok, rv, q⟩
    cases fl with
    | ret u =>
      obtain ⟨v, σ', H', J, rv, q⟩ := hs3
      exact fin J rv q
    | next =>
      obtain ⟨σ', H', J, q⟩ := hs3
      exact fin (v := V.non) (u := Value.none) J rfl q
    | brk =>
      obtain ⟨_, _, _, q⟩ := hs3
      exact q.elim
    | cont =>
      obtain ⟨_, _, _, q⟩ := hs3
      exact q.elim
end
end Ev

namespace Ev
open PySem PySem.Spec PyProof.Rows L2
/-! ### defs with defaults (ints) -/
section
variable {P : Program} {w : World} {K : PySem.W.Frag} {mg : Str → Option Value} {base : Heap}
theorem fun_okD {x qual : Str} {st : Stmt} {dvs : List V} {f : Addr} {fd : FuncData} {N ps : List Str} {k : Nat} {b : SF} (F : FunD K x qual (defArgs st) (defBody st) (defScope st) dvs [] f fd) (Sc : FnScope N ps (defScope st))
    (hb : ∀ (X : Cx) (W : WX) (cdv : Value) (A : Around) (outer : List Env) (s : Shared) (H : Hp) (E : XK), Room k (A.deeper (envOfC qual (defScope st) s.heap.objs.size f cdv)) →
      X = (cxOf CX0 P w K mg base N qual (defScope st) f cdv A outer s H E).nox → PSs X (defBody st) (tS K W b)) :
    FnOk P w K mg base CX0 (k + 1) f fd ps (spOf K ps.length (runF N.length b)) := by
  refine F.ok (CX := CX0) Sc (fun vs H Q E h => let ⟨_, _, _, h, _⟩ := h; h) (fun cdv A outer s H vs Q E hr h => ?_)
  obtain ⟨w, S, ds, hl, sm, r, p⟩ := h
  refine ⟨_, (hb _ (fun c d _ H => E c d H) cdv A outer s H E hr rfl).nox, w, S, _, sm, start_env r, ?_⟩
  unfold runF at p
  cases hbb : b (ds.map some ++ List.replicate (N.length - ds.length) none) S with
  | nx ρ S' => rw [hbb] at p; exact fun w' H' σ' e s' r' => gc_post sm e s' (by simp only [RV]) p
  | rt d S' => rw [hbb] at p; exact fun w' H' v e s' r' => gc_post sm e s' r' p
  | ex x ρ S' => rw [hbb] at p; exact fun w' H' σ' dx v C e s' _ h0 h1 hn h2 => p w' H' dx v C e s' h0 h1 hn h2
  | bk ρ S' => rw [hbb] at p; exact p.elim
  | ct ρ S' => rw [hbb] at p; exact p.elim
  | no => rw [hbb] at p; exact p.elim
/-- a def called with its last parameters by default: is -/
structure CalD (P : Program) (w : World) (K : PySem.W.Frag) (mg : Str → Option Value) (base : Heap) (CX : CXT) (k : Nat) (x : Str) (n : Nat) (is : List Int) (F : List D → Sto → R D) : Prop where
  ex : ∃ f fd ps ds, FnOk P w K mg base CX k f fd ps (spOf K n F) ∧ mg x = some (.ref f) ∧ PySem.W.keepIn K (.ref f) = true ∧ Binds K fd ps ds ∧ Vals (is.map V.int) ds
end
def eCallD (n : Nat) (is : List Int) (F : List D → Sto → R D) (fa : AF) : EF := fun ρ S => (fa ρ S).bind fun ds S1 => if ds.length + is.length = n then F (ds ++ is.map D.int) S1 else .no
theorem RVs.app {K : PySem.W.Frag} {w : Wo} {H : Hp} : ∀ {ds es : List D} {vs us : List V}, RVs K w H ds vs → RVs K w H es us → RVs K w H (ds ++ es) (vs ++ us)
  | [], es, vs, us, h, h2 => by
    simp only [RVs] at h
    subst h
    exact h2
  | d :: ds, es, vs, us, h, h2 => by
    simp only [RVs] at h
    obtain ⟨v, r, rfl, h1, h3⟩ := h
    simp only [List.cons_append, RVs]
    exact ⟨v, r ++ us, rfl, h1, RVs.app h3 h2⟩
section
variable {X : Cx} {W : WX} {CXc : CXT} {x : Str} {p pos : Pos} {e : Expr} {es : List Expr} {fa : AF} {k j n : Nat} {F : List D → Sto → R D} {is : List Int}
theorem E_callD (c : CalD X.prog X.w X.K X.mg X.base CXc k x n is F) (hr : Room j X.A) (hx : ∀ σ, PassesAt CXc X σ (WE W σ)) (ha : PA X (e :: es) (tA X.K W fa)) (hk : k ≤ j := by first | decide | omega) (hg : Gl X x := by rfl)
    (hdb : (x == ("__debug__" : Str)) = false := by decide) (he : starEach (e :: es) X.env = (false, eval e X.env) :: starEach es X.env := by rfl) (hpl : (backTo pos (starEach es X.env)).any (·.1) = false := by rfl) :
    PE X (.Call (.Name x p) (e :: es) [] pos) (tE X.K W (eCallD n is F fa)) := by
  obtain ⟨f, fd, ps, ds, G, hm, hkp, hb, hd⟩ := c.ex
  refine PE.weak (pe_callSD G (hr.mono hk) hg hm hkp hb hd hx ha hdb he hpl) fun σ H Q h => ?_
  obtain ⟨w, S, ρ, s, re, p⟩ := h
  refine ⟨w, S, ρ, s, re, p.bind fun w1 H1 vs ds S1 e1 s1 rd p1 => ?_⟩
  split at p1
  · rename_i hl
    exact ⟨w1, S1, ds ++ is.map D.int, by rw [List.length_append, List.length_map, ← rd.length, hl], s1, rd.app (.of_ints is), p1.toE⟩
  · exact p1.elim
end
end Ev

namespace Ev
open PySem PySem.Spec PyProof.Rows L2
/-! ### sorted, of tuples of ints -/
def lexL : List Int → List Int → Bool
  | [], ys => !ys.isEmpty
  | _ :: _, [] => false
  | x :: xs, y :: ys => if x = y then lexL xs ys else decide (x < y)
theorem lexL_irr : ∀ xs : List Int, lexL xs xs = false
  | [] => rfl
  | x :: xs => by simp only [lexL, if_true]; exact lexL_irr xs
theorem lexL_asym : ∀ {xs ys : List Int}, lexL xs ys = true → lexL ys xs = false
  | [], [], h => by cases h
  | [], _ :: _, _ => rfl
  | _ :: _, [], h => by cases h
  | x :: xs, y :: ys, h => by
    simp only [lexL] at h ⊢
    by_cases e : x = y
    · subst e
      simp only [if_true] at h ⊢
      exact lexL_asym h
    · have e2 : ¬ y = x := fun q => e q.symm
      simp only [e, e2, if_false, decide_eq_true_eq] at h ⊢
      exact decide_eq_false (by omega)
theorem lexL_total : ∀ {xs ys : List Int}, lexL xs ys = false → lexL ys xs = false → xs = ys
  | [], [], _, _ => rfl
  | [], _ :: _, h, _ => by cases h
  | _ :: _, [], _, h => by cases h
  | x :: xs, y :: ys, h, h2 => by
    simp only [lexL] at h h2
    by_cases e : x = y
    · subst e
      simp only [if_true] at h h2
      rw [lexL_total h h2]
    · have e2 : ¬ y = x := fun q => e q.symm
      simp only [e, e2, if_false, decide_eq_false_iff_not] at h h2
      omega
theorem lexL_tr : ∀ {xs ys zs : List Int}, lexL xs ys = false → lexL ys zs = false → lexL xs zs = false
  | [], [], zs, _, h => h
  | [], _ :: _, _, h, _ => by cases h
  | _ :: _, _, [], _, _ => rfl
  | _ :: _, [], _ :: _, _, h => by cases h
  | x :: xs, y :: ys, z :: zs, h, h2 => by
    simp only [lexL] at h h2 ⊢
    by_cases e : x = y
    · subst e
      simp only [if_true] at h
      by_cases e2 : x = z
      · simp only [e2, if_true] at h2 ⊢
        exact lexL_tr h h2
      · simp only [e2, if_false] at h2 ⊢
        exact h2
    · simp only [e, if_false, decide_eq_false_iff_not] at h
      by_cases e2 : y = z
      · subst e2
        simp only [e, if_false]
        exact decide_eq_false h
      · simp only [e2, if_false, decide_eq_false_iff_not] at h2
        have : ¬ x = z := by omega
        simp only [this, if_false]
        exact decide_eq_false (by omega)
def lexZ (fin : Bool) : List (Int × Int) → Bool
  | [] => fin
  | p :: r => if p.1 = p.2 then lexZ fin r else decide (p.1 < p.2)
theorem lexZ_zip : ∀ (xs ys : List Int) (a b : Nat), lexZ (decide (a + xs.length < a + ys.length)) (xs.zip ys) = lexL xs ys
  | [], ys, a, b => by
    cases ys with
    | nil => simp [lexZ, lexL]
    | cons y ys => simp [lexZ, lexL]
  | x :: xs, [], a, b => by simp [lexZ, lexL]
  | x :: xs, y :: ys, a, b => by
    simp only [List.zip_cons_cons, lexZ, lexL]
    by_cases e : x = y
    · subst e
      simp only [if_true]
      rw [← lexZ_zip xs ys (a + 1) b]
      congr 1
      simp only [List.length_cons]
      refine decide_eq_decide.mpr ?_
      omega
    · simp only [e, if_false]
section
variable {prog : Program} {w : World} {A : Around} {s : Shared} {b fin : Bool} {Q : Bool → Shared → Prop}
theorem oneLt_b (c : Bool) {p q : Int} {t u : Tok} {E : Value → Shared → Prop} (h : Q (decide (p < q)) s) : wpAny (model prog w) A (oneLt' c (.int p t) (.int q u)) Q E s := by
  cases c with
  | true => exact oneLt_int h
  | false => exact PySem.W.kat_one _ _ (PyProof.Rows.lt_int (Q := PySem.W.BoolBack Q) h)
theorem kat_ints : ∀ {us vs : List Value} {xs ys : List Int} {i : Nat}, IntsAre us xs → IntsAre vs ys → Q (lexZ fin (xs.zip ys)) s → PySem.W.KatLex prog w A b fin Q (us.zip vs) i s
  | _, _, _, _, _, .nil, h2, q => PySem.W.kat_nil (by simpa [lexZ] using q)
  | _, _, _, _, _, .cons x t h1, .nil, q => PySem.W.kat_nil (by simpa [lexZ] using q)
  | _, _, _, _, i, .cons x t h1, .cons y t' h2, q => by
    simp only [List.zip_cons_cons, lexZ] at q ⊢
    refine PySem.W.kat_cons (SeqAt.EqAt.int_int x t y t' prog w _ _ ?_)
    refine PySem.W.kat_go (fun e1 => ?_) (fun e1 => ?_)
    · have ex : x = y := by simpa using e1
      rw [if_pos ex] at q
      exact PySem.W.kat_yes (kat_ints h1 h2 q)
    · have ex : ¬ x = y := by simpa using e1
      rw [if_neg ex] at q
      exact PySem.W.kat_no (oneLt_b _ q)
end
/-- a tuple of ints in the heap -/
def IsInts (h : Heap) (v : Value) (ns : List Int) : Prop := ∃ a o its n, v = .ref a ∧ h.get? a = some o ∧ o.cls = .type "tuple" ∧ o.data = .seq its n ∧ IntsAre its.toList ns
theorem IsInts.keeps {h h' : Heap} {v : Value} {ns : List Int} (p : IsInts h v ns) (k : ∀ b o, h.get? b = some o → o.cls = .type "tuple" → h'.get? b = some o) : IsInts h' v ns := by
  obtain ⟨a, o, its, n, e, ho, hc, hd, hi⟩ := p
  exact ⟨a, o, its, n, e, k _ _ ho hc, hc, hd, hi⟩
theorem swo_lexL {α : Type} (k : α → List Int) : SrtO.Swo fun v u => lexL (k v) (k u) := ⟨fun x y h => lexL_asym h, fun x y z h1 h2 => lexL_tr h2 h1⟩
theorem heads_of {h : Heap} {k : Value → List Int} : ∀ {vs : List Value}, (∀ v ∈ vs, IsInts h v (k v) ∧ k v ≠ []) → ∃ fs : List Value, PySem.W.KatTups h vs fs ∧ fs.length = vs.length ∧ ∀ f ∈ fs, ∃ x t, f = Value.int x t
  | [], _ => ⟨[], PySem.W.KatTups.nil, rfl, fun _ hm => by simp at hm⟩
  | v :: vs, hp => by
    obtain ⟨fs, h1, h2, h3⟩ := heads_of (vs := vs) fun v' hm => hp v' (List.mem_cons_of_mem _ hm)
    obtain ⟨⟨a, o, its, n, e, ho, hc, hd, hi⟩, hne⟩ := hp v List.mem_cons_self
    obtain ⟨its⟩ := its
    cases its with
    | nil =>
      generalize k v = ns at hi hne
      cases hi
      exact absurd rfl hne
    | cons u us =>
      have : ∃ x t, u = Value.int x t := by
        generalize k v = ns at hi
        cases hi
        exact ⟨_, _, rfl⟩
      obtain ⟨x, t, rfl⟩ := this
      subst e
      refine ⟨.int x t :: fs, PySem.W.KatTups.cons ho hc hd rfl h1, by rw [List.length_cons, List.length_cons, h2], fun f hm => ?_⟩
      rcases List.mem_cons.mp hm with rfl | hm
      · exact ⟨x, t, rfl⟩
      · exact h3 f hm
section
variable {prog : Program} {w : World} {A : Around} {s : Shared} {E : Value → Shared → Prop}
theorem ints_cmp {vs : List Value} {k : Value → List Int} (hp : ∀ v ∈ vs, IsInts s.heap v (k v)) : SrtO.Cmp prog w A s (tuples' true) (fun p => p.1 ∈ vs) (SrtO.lt2 fun v u => lexL (k v) (k u)) := by
  intro p q hm hm'
  show wpAny (model prog w) A (keyLt' (tuples' true) p.1 q.1) (fun r s' => s' = s ∧ r = lexL (k p.1) (k q.1)) (fun _ _ => False) s
  have h1 := hp _ hm
  have h2 := hp _ hm'
  obtain ⟨a, o, its, n, e, ho, hc, hd, hi⟩ := h1
  obtain ⟨a', o', its', n', e', ho', hc', hd', hi'⟩ := h2
  rw [← lexZ_zip (k p.1) (k q.1) 0 0]
  generalize k p.1 = ns at hi ⊢
  generalize k q.1 = ms at hi' ⊢
  rw [e, e']
  refine PySem.W.kat_lt ho hd ho' hd' (kat_ints hi hi' ⟨rfl, ?_⟩)
  have l1 : its.size = ns.length := by have := hi.length; simpa using this
  have l2 : its'.size = ms.length := by have := hi'.length; simpa using this
  rw [l1, l2, Nat.zero_add, Nat.zero_add]
theorem ints_sortable {a : Addr} {vs : List Value} {k : Value → List Int} (h0 : 0 < vs.length) (hp : ∀ v ∈ vs, IsInts s.heap v (k v) ∧ k v ≠ []) (ha : ∀ o, s.heap.get? a = some o → o.cls ≠ .type "tuple") : SrtO.SortableO prog w A s a vs fun v u => lexL (k v) (k u) := by
  intro h' keep
  have hp' : ∀ v ∈ vs, IsInts h' v (k v) ∧ k v ≠ [] := fun v hm => ⟨(hp v hm).1.keeps fun b o e c => keep b o (fun z => by subst z; exact ha o e c) e, (hp v hm).2⟩
  obtain ⟨fs, h1, h2, h3⟩ := heads_of hp'
  refine ⟨tuples' true, fun Q E hq => ?_, ints_cmp fun v hv => (hp' v hv).1⟩
  refine PySem.W.kat_kind (T := .type "int") h1 (by omega) (fun f hm => ?_) rfl ?_
  · obtain ⟨x, t, rfl⟩ := h3 f hm
    exact PySem.W.Looks.now
  · rw [show (Value.type "int" != Value.type "tuple") = true by decide +kernel]
    exact hq
theorem sorted_tups {l : Addr} {vs : List Value} {k : Value → List Int} {Q : Value → Shared → Prop} (hl : s.heap.IsList l vs.toArray) (hz : vs.length ≤ sizeLine) (hp : ∀ v ∈ vs, IsInts s.heap v (k v) ∧ k v ≠ [])
    (q : ∀ (h' : Heap) (d : Addr) (out : List Value), out.Perm vs → out.Pairwise (fun x y => lexL (k y) (k x) = false) → (∀ b o, s.heap.get? b = some o → h'.get? b = some o) → s.heap.objs.size ≤ d → (∃ n, h'.get? d = some (seqObj "list" out.toArray n)) → Q (.ref d) { s with heap := h' }) :
    wpAny (model prog w) A (call (.builtin "sorted") [.ref l]) Q E s := by
  refine SrtO.sorted_ord (swo_lexL k) hl hz (fun h2 h₁ a ha kk => ?_) fun out hs hb => ?_
  · refine ints_sortable (s := { s with heap := h₁ }) (by omega) (fun v hm => ⟨(hp v hm).1.keeps fun b o e _ => (kk b o e).2, (hp v hm).2⟩) fun o e c => ?_
    have e' : some o = some (seqObj "list" vs.toArray 0) := e.symm.trans ha
    cases e'
    exact absurd (Value.type.inj c) (by decide)
  · exact q _ _ out hb.perm hs (fun b o e => sortedAll_old e) (Nat.le_succ _) (sortedAll_at s.heap vs out.toArray)
end
def rSortedTu (K : PySem.W.Frag) : List V → Hp → VK → Prop := fun vs H Q => ∃ (a : Addr) (xs : List V) (k : V → List Int), vs = [V.ref a] ∧ SqL K H a xs ∧ (∀ x ∈ xs, ∃ t, x = V.ref t ∧ H t = some (.tup ((k x).map V.int)) ∧ k x ≠ []) ∧
  ∀ ys p, ys.Perm xs → ys.Pairwise (fun x y => lexL (k y) (k x) = false) → H p = none → Q (.ref p) (upd H p (.lst ys))
theorem cr_sortedTu {X : Cx} : CallR X (.builtin "sorted") (rSortedTu X.K) := by
  intro pins s σ H vs us Q I r h
  obtain ⟨a, xs, k, rfl, hs, hx, q⟩ := h
  obtain ⟨its, rv, hl, hz⟩ := I.list hs
  obtain ⟨u, rfl, ru⟩ := vals1 r
  cases (show u = Value.ref a from ru)
  obtain ⟨e1, e2⟩ := refs_back rv fun x m => let ⟨t, e, _⟩ := hx x m; ⟨t, e⟩
  refine sorted_tups (k := fun u => k (backV u)) hl.isList (by rw [← rv.length]; exact hz) (fun v hv => ?_) fun h' d out h1 h2 kp hd hn => ?_
  · obtain ⟨t, rfl⟩ := e2 v hv
    have hm : V.ref t ∈ xs := by rw [e1]; exact List.mem_map.mpr ⟨_, hv, rfl⟩
    obtain ⟨t', e, ht, hne⟩ := hx _ hm
    cases e
    obtain ⟨_, its2, r2, o, ho, hc, n, hd⟩ := I.hok _ _ ht
    exact ⟨⟨t, o, _, n, rfl, ho, hc, hd, r2.ints⟩, hne⟩
  · have h3 : ∀ u ∈ out, ∃ a, u = Value.ref a := fun u hu => e2 u (h1.mem_iff.mp hu)
    obtain ⟨n, hn⟩ := hn
    have hp : (out.map backV).Perm xs := by rw [e1]; exact h1.map _
    refine ⟨.ref d, upd H d (.lst (out.map backV)), I.laid (t' := s.toks) kp hd ⟨?_, out, n, vals_back h3, hn⟩, rfl, q _ d hp (List.pairwise_map.mpr h2) (I.hok.fresh hd)⟩
    rw [hp.length_eq]
    exact hz
/-! ### the same by data -/
def intss : List D → Option (List (List Int))
  | [] => some []
  | .tup ds :: r => match intsOf ds, intss r with
    | some is, some iss => some (is :: iss)
    | _, _ => none
  | _ :: _ => none
def insL (x : List Int) : List (List Int) → List (List Int)
  | [] => [x]
  | y :: ys => if lexL y x = true then y :: insL x ys else x :: y :: ys
def isortL : List (List Int) → List (List Int)
  | [] => []
  | x :: xs => insL x (isortL xs)
theorem insL_perm (x : List Int) : ∀ ys : List (List Int), (insL x ys).Perm (x :: ys)
  | [] => .refl _
  | y :: ys => by
    unfold insL
    split
    · exact ((insL_perm x ys).cons y).trans (.swap x y ys)
    · exact .refl _
theorem isortL_perm : ∀ xs : List (List Int), (isortL xs).Perm xs
  | [] => .refl _
  | x :: xs => (insL_perm x _).trans ((isortL_perm xs).cons x)
abbrev SrtL (xs : List (List Int)) : Prop := xs.Pairwise fun x y => lexL y x = false
theorem insL_srt (x : List Int) : ∀ ys : List (List Int), SrtL ys → SrtL (insL x ys)
  | [], _ => List.pairwise_singleton _ _
  | y :: ys, h => by
    obtain ⟨h1, h2⟩ := List.pairwise_cons.mp h
    unfold insL
    split
    · rename_i hlt
      refine List.pairwise_cons.mpr ⟨fun z hz => ?_, insL_srt x ys h2⟩
      rcases List.mem_cons.mp ((insL_perm x ys).mem_iff.mp hz) with e | e
      · rw [e]; exact lexL_asym hlt
      · exact h1 z e
    · rename_i hlt
      have hlt : lexL y x = false := by simpa using hlt
      refine List.pairwise_cons.mpr ⟨fun z hz => ?_, h⟩
      rcases List.mem_cons.mp hz with e | e
      · rw [e]; exact hlt
      · exact lexL_tr (h1 z e) hlt
theorem isortL_srt : ∀ xs : List (List Int), SrtL (isortL xs)
  | [] => List.Pairwise.nil
  | x :: xs => insL_srt x _ (isortL_srt xs)
theorem srtL_uniq : ∀ {xs ys : List (List Int)}, xs.Perm ys → SrtL xs → SrtL ys → xs = ys
  | [], ys, p, _, _ => (List.perm_nil.mp p.symm).symm
  | x :: xs, [], p, _, _ => absurd p.length_eq (by simp)
  | x :: xs, y :: ys, p, h1, h2 => by
    obtain ⟨a1, a2⟩ := List.pairwise_cons.mp h1
    obtain ⟨b1, b2⟩ := List.pairwise_cons.mp h2
    have e : x = y := by
      have m1 : y ∈ x :: xs := p.symm.mem_iff.mp List.mem_cons_self
      have m2 : x ∈ y :: ys := p.mem_iff.mp List.mem_cons_self
      rcases List.mem_cons.mp m1 with q | q
      · exact q.symm
      · rcases List.mem_cons.mp m2 with r | r
        · exact r
        · exact lexL_total (b1 x r) (a1 y q)
    subst e
    rw [srtL_uniq (p.cons_inv) a2 b2]
def tupsD (iss : List (List Int)) : List D := iss.map fun is => .tup (is.map D.int)
def oSortT : OpN := fun ds S => match ds with
  | [d] => ((lstOf S d).bind intss).bind fun iss => if iss.all (fun is => !is.isEmpty) then some (.lst (tupsD (isortL iss)), S) else none
  | _ => none
theorem intss_eq : ∀ {ds : List D} {iss : List (List Int)}, intss ds = some iss → ds = tupsD iss
  | [], iss, h => by cases h; rfl
  | d :: ds, iss, h => by
    cases d with
    | tup es =>
      simp only [intss] at h
      split at h
      · rename_i is iss0 e1 e2
        cases h
        rw [intsOf_eq e1, intss_eq e2]
        rfl
      · cases h
    | _ => cases h
theorem RVs.mem {K : PySem.W.Frag} {w : Wo} {H : Hp} : ∀ {ds : List D} {xs : List V} {x : V}, RVs K w H ds xs → x ∈ xs → ∃ d ∈ ds, RV K w H d x
  | [], xs, x, h, m => by
    simp only [RVs] at h
    rw [h] at m
    simp at m
  | d :: ds, xs, x, h, m => by
    simp only [RVs] at h
    obtain ⟨v, r, rfl, h1, h2⟩ := h
    rcases List.mem_cons.mp m with e | e
    · exact ⟨d, List.mem_cons_self, e ▸ h1⟩
    · obtain ⟨d', a, b⟩ := RVs.mem h2 e
      exact ⟨d', List.mem_cons_of_mem _ a, b⟩
open Classical in
/-- the ints of a tuple that stands in H -/
noncomputable def keyV (H : Hp) (v : V) : List Int := if h : ∃ (t : Addr) (is : List Int), v = .ref t ∧ H t = some (.tup (is.map V.int)) then h.choose_spec.choose else []
theorem map_int_inj {a b : List Int} (h : a.map V.int = b.map V.int) : a = b := (List.map_inj_right (f := V.int) fun x y q => by injection q).1 h
theorem keyV_of {H : Hp} {t : Addr} {is : List Int} (h : H t = some (.tup (is.map V.int))) : keyV H (.ref t) = is := by
  have ex : ∃ (t' : Addr) (is' : List Int), V.ref t = .ref t' ∧ H t' = some (.tup (is'.map V.int)) := ⟨t, is, rfl, h⟩
  have key : ∀ (t' : Addr) (is' : List Int), V.ref t = .ref t' → H t' = some (.tup (is'.map V.int)) → is' = is := by
    intro t' is' e h'
    cases e
    rw [h] at h'
    injection h' with h'
    injection h' with h'
    exact (map_int_inj h').symm
  unfold keyV
  rw [dif_pos ex]
  exact key _ _ ex.choose_spec.choose_spec.1 ex.choose_spec.choose_spec.2
theorem tups_keys {K : PySem.W.Frag} {w : Wo} {H : Hp} : ∀ {iss : List (List Int)} {xs : List V}, RVs K w H (tupsD iss) xs → xs.map (keyV H) = iss ∧ ∀ x ∈ xs, ∃ (t : Addr) (is : List Int), x = .ref t ∧ is ∈ iss ∧ H t = some (.tup (is.map V.int))
  | [], xs, h => by
    simp only [tupsD, List.map_nil, RVs] at h
    rw [h]
    exact ⟨rfl, fun x m => by simp at m⟩
  | is :: iss, xs, h => by
    simp only [tupsD, List.map_cons, RVs] at h
    obtain ⟨v, r, rfl, h1, h2⟩ := h
    simp only [RV] at h1
    obtain ⟨t, zs, rfl, h3, h4⟩ := h1
    rw [h4.ints] at h3
    obtain ⟨i1, i2⟩ := tups_keys (iss := iss) h2
    refine ⟨by rw [List.map_cons, keyV_of h3, i1], fun x m => ?_⟩
    rcases List.mem_cons.mp m with e | e
    · exact ⟨t, is, e, List.mem_cons_self, h3⟩
    · obtain ⟨t', is', a, b, c⟩ := i2 x e
      exact ⟨t', is', a, List.mem_cons_of_mem _ b, c⟩
theorem tups_rel {K : PySem.W.Frag} {w : Wo} {H : Hp} : ∀ {ys : List V}, (∀ y ∈ ys, ∃ (t : Addr) (is : List Int), y = .ref t ∧ H t = some (.tup (is.map V.int))) → RVs K w H (tupsD (ys.map (keyV H))) ys
  | [], _ => by simp only [List.map_nil, tupsD, RVs]
  | y :: ys, h => by
    obtain ⟨t, is, rfl, ht⟩ := h y List.mem_cons_self
    have ih := tups_rel (K := K) (w := w) (ys := ys) fun z hz => h z (List.mem_cons_of_mem _ hz)
    simp only [List.map_cons, tupsD, RVs]
    refine ⟨_, _, rfl, ?_, ih⟩
    rw [keyV_of ht]
    simp only [RV]
    exact ⟨t, _, rfl, ht, .of_ints is⟩
theorem callS_sortT {K : PySem.W.Frag} : CallS K (rSortedTu K) oSortT := by
  intro w S H ds vs d S' Q s rd e k
  unfold oSortT at e
  split at e
  · rename_i d0
    obtain ⟨v, rfl, rv⟩ := rd.one
    cases hl : lstOf S d0 with
    | none => rw [hl] at e; cases e
    | some es =>
      rw [hl] at e
      cases hi : intss es with
      | none => simp only [Option.bind_some, hi] at e; cases e
      | some iss =>
        simp only [Option.bind_some, hi] at e
        split at e
        · rename_i hne
          cases e
          obtain ⟨a, xs, rfl, h2, h3⟩ := lstOf_sq s rv hl
          rw [intss_eq hi] at h3
          obtain ⟨k1, k2⟩ := tups_keys h3
          refine ⟨a, xs, keyV H, rfl, h2, fun x m => ?_, fun ys p hp hs hn => ?_⟩
          · obtain ⟨t, is, rfl, hm, ht⟩ := k2 x m
            refine ⟨t, rfl, by rw [keyV_of ht]; exact ht, ?_⟩
            rw [keyV_of ht]
            have := List.all_eq_true.mp hne is hm
            intro z
            rw [z] at this
            cases this
          · have r1 : RVs K w H (tupsD (ys.map (keyV H))) ys := tups_rel fun y hy => by
              obtain ⟨t, is, a, _, c⟩ := k2 y (hp.mem_iff.mp hy)
              exact ⟨t, is, a, c⟩
            have e1 : ys.map (keyV H) = isortL iss := srtL_uniq ((hp.map _).trans (by rw [k1]; exact (isortL_perm iss).symm)) (List.pairwise_map.mpr hs) (isortL_srt iss)
            rw [e1] at r1
            exact k w _ _ (Ext.fresh hn) (s.fresh hn) (RV.newLst s hn r1)
        · cases e
  · cases e
theorem E_sortT {X : Cx} {W : WX} {p pos : Pos} {e : Expr} {es : List Expr} {fa : AF} (hm : X.mg "sorted" = none) (ha : PA X (e :: es) (tA X.K W fa)) (hg : Gl X "sorted" := by rfl)
    (he : starEach (e :: es) X.env = (false, eval e X.env) :: starEach es X.env := by rfl) (hpl : (backTo pos (starEach es X.env)).any (·.1) = false := by rfl) : PE X (.Call (.Name "sorted" p) (e :: es) [] pos) (tE X.K W (eCb oSortT fa)) :=
  E_cb cr_sortedTu callS_sortT hm ha hg (by decide +kernel) (by decide) (by decide) he hpl
end Ev

namespace Ev
open PySem PySem.Spec PyProof.Rows L2
/-! ### a dict with tuple keys, walked: it is locked meanwhile -/
def keyD1 : Key → D
  | .inl i => .int i
  | .inr x => .str x
def keyD (k : List Key) : D := .tup (k.map keyD1)
theorem keyD_rv {K : PySem.W.Frag} {w : Wo} {H : Hp} : ∀ k : List Key, RVs K w H (k.map keyD1) (k.map kV)
  | [] => by simp only [List.map_nil, RVs]
  | x :: k => by
    simp only [List.map_cons, RVs]
    refine ⟨_, _, rfl, ?_, keyD_rv k⟩
    cases x <;> simp only [keyD1, kV, RV]
section
variable {K : PySem.W.Frag} {w w' : Wo} {H H' : Hp} {S : Sto} {a d : Addr} {od : Obj} {vs : List (List Key × V)}
mutual
theorem RV.ud (hm : d ∈ w.m) (hd : H d = some (.frz od (.dT vs))) : ∀ {x : D} {v : V}, RV K w H x v → RV K w (upd H d (.dT vs)) x v
  | .non, v, h => by simpa only [RV] using h
  | .bl b, v, h => by simpa only [RV] using h
  | .int i, v, h => by simpa only [RV] using h
  | .str x, v, h => by simpa only [RV] using h
  | .tup ds, v, h => by
    simp only [RV] at h ⊢
    obtain ⟨a, zs, h1, h2, h3⟩ := h
    have : a ≠ d := fun z => by rw [z, hd] at h2; cases h2
    exact ⟨a, zs, h1, by rw [upd_ne this]; exact h2, RVs.ud hm hd h3⟩
  | .con ds, v, h => by
    simp only [RV] at h ⊢
    obtain ⟨a, zs, h1, h2, h3⟩ := h
    exact ⟨a, zs, h1, h2, RVs.ud hm hd h3⟩
  | .lst ds, v, h => by
    simp only [RV] at h ⊢
    obtain ⟨a, zs, h1, h2, h3, h5⟩ := h
    have : a ≠ d := fun z => h3.1 (z ▸ hm)
    exact ⟨a, zs, h1, by rw [upd_ne this]; exact h2, h3, RVs.ud hm hd h5⟩
  | .frz ds, v, h => by
    simp only [RV] at h ⊢
    obtain ⟨a, zs, h1, h2, h5⟩ := h
    refine ⟨a, zs, h1, ?_, RVs.ud hm hd h5⟩
    rcases h2 with ⟨o, h2, h3⟩ | h2
    · have : a ≠ d := fun z => h3.1 (z ▸ hm)
      exact .inl ⟨o, by rw [upd_ne this]; exact h2, h3⟩
    · exact .inr h2
  | .loc n, v, h => by simpa only [RV] using h
  | .fn x, v, h => by simpa only [RV] using h
  | .exc a dd f x, v, h => by
    simp only [RV] at h ⊢
    obtain ⟨h1, y, h2, h3, h5⟩ := h
    have : dd ≠ d := fun z => h3.1 (z ▸ hm)
    exact ⟨h1, y, by rw [upd_ne this]; exact h2, h3, RV.ud hm hd h5⟩
theorem RVs.ud (hm : d ∈ w.m) (hd : H d = some (.frz od (.dT vs))) : ∀ {ds : List D} {us : List V}, RVs K w H ds us → RVs K w (upd H d (.dT vs)) ds us
  | [], us, h => by simpa only [RVs] using h
  | x :: ds, us, h => by
    simp only [RVs] at h ⊢
    obtain ⟨v, r, h1, h2, h3⟩ := h
    exact ⟨v, r, h1, RV.ud hm hd h2, RVs.ud hm hd h3⟩
end
theorem RP.ud {κ : Type} (hm : d ∈ w.m) (hd : H d = some (.frz od (.dT vs))) {ps : List (κ × D)} {us : List (κ × V)} (h : RP K w H ps us) : RP K w (upd H d (.dT vs)) ps us := ⟨h.1, h.2.ud hm hd⟩
theorem RC.ud {c : Cel} (hm : d ∈ w.m) (hd : H d = some (.frz od (.dT vs))) (hn : a ≠ d) (h : RC K w H a c) : RC K w (upd H d (.dT vs)) a c := by
  cases c with
  | lst ds => obtain ⟨xs, h1, h2⟩ := h; exact ⟨xs, by rw [upd_ne hn]; exact h1, h2.ud hm hd⟩
  | dK kvs => obtain ⟨us, h1, h2⟩ := h; exact ⟨us, by rw [upd_ne hn]; exact h1, h2.ud hm hd⟩
  | dT kvs => obtain ⟨us, h1, h2⟩ := h; exact ⟨us, by rw [upd_ne hn]; exact h1, h2.ud hm hd⟩
  | fT kvs => obtain ⟨o, us, h1, h2⟩ := h; exact ⟨o, us, by rw [upd_ne hn]; exact h1, h2.ud hm hd⟩
  | ins c fs => obtain ⟨C, dx, us, h0, h1, h2⟩ := h; exact ⟨C, dx, us, h0, by rw [upd_ne hn]; exact h1, h2.ud hm hd⟩
theorem Sim.unlock {n : Nat} {kvs : List (List Key × D)} (s : Sim K w S H) (hi : w.m[n]? = some d) (hd : H d = some (.frz od (.dT vs))) (hr : RP K w H kvs vs) : Sim K w (S.set n (.dT kvs)) (upd H d (.dT vs)) := by
  have hm : d ∈ w.m := List.mem_of_getElem? hi
  refine ⟨by rw [List.length_set]; exact s.len, s.nd, fun j c' e => ?_, fun b hb => ?_⟩
  · by_cases hj : j = n
    · subst hj
      have hl : j < S.length := by rw [← s.len]; exact (List.getElem?_eq_some_iff.mp hi).1
      rw [List.getElem?_set_self hl] at e
      cases e
      exact ⟨d, hi, vs, upd_same, hr.ud hm hd⟩
    · rw [List.getElem?_set_ne (Ne.symm hj)] at e
      obtain ⟨b, h1, h2⟩ := s.at_ j c' e
      exact ⟨b, h1, h2.ud hm hd fun z => hj (nd_inj s.nd h1 (z ▸ hi))⟩
  · obtain ⟨h1, o', h2⟩ := s.priv b hb
    have nb : b ≠ d := fun z => h1 (z ▸ hm)
    exact ⟨h1, o', by rw [upd_ne nb]; exact h2⟩
theorem Ext.unlock (hm : d ∈ w.m) (h0 : H d = some (.dT vs)) (e : Ext w (upd H d (.frz od (.dT vs))) w' H') : Ext w H w' (upd H' d (.dT vs)) := by
  have ne : ∀ {a : Addr} {o : HO}, H a = some o → a ≠ d → upd H d (.frz od (.dT vs)) a = some o := fun h n => by rw [upd_ne n]; exact h
  have nn : ∀ {a : Addr}, upd H d (.frz od (.dT vs)) a = none → H a = none := fun {a} h => by
    by_cases z : a = d
    · rw [z, upd_same] at h; cases h
    · rw [upd_ne z] at h; exact h
  refine ⟨e.pre, e.q, fun a h => (e.newq a h).imp id nn, fun a h => (e.new a h).imp id nn, fun a xs h => ?_, fun a o h hn => ?_, fun a o h => ?_, fun a o u h => ?_⟩
  · have n : a ≠ d := fun z => by rw [z, h0] at h; cases h
    rw [upd_ne n]
    exact e.tup a xs (ne h n)
  · have n : a ≠ d := fun z => hn (z ▸ hm)
    rw [upd_ne n]
    exact e.keep a o (ne h n) hn
  · by_cases n : a = d
    · exact ⟨_, by rw [n, upd_same]⟩
    · rw [upd_ne n]
      exact e.live a o (ne h n)
  · have n : a ≠ d := fun z => by rw [z, h0] at h; cases h
    rw [upd_ne n]
    exact e.frz a o u (ne h n)
end
/-- while fe is evaluated, the dict that the i-th name holds is locked -/
def eLock (i : Nat) (fe : EF) : EF := fun ρ S => match ρ[i]? with
  | some (some (D.loc n)) => match S[n]? with
    | some (.dT kvs) => (fe ρ (S.set n (.fT kvs))).nox.bind fun x S1 => match S1[n]? with
      | some (.fT kvs') => .ok x (S1.set n (.dT kvs'))
      | _ => .no
    | _ => .no
  | _ => .no
/-- its keys -/
def iKeysD (fe : EF) : IF := fun ρ S => (fe ρ S).bind fun x S1 => match x with
  | .loc n => match S1[n]? with
    | some (.fT kvs) => .ok ⟨kvs.map fun kv => keyD kv.1, some (n, .fT kvs)⟩ S1
    | _ => .no
  | _ => .no
section
variable {K : PySem.W.Frag} {w : Wo} {H : Hp} {a : Addr} {n : Nat} {od : Obj} {kvs : List (List Key × D)} {vs : List (List Key × V)}
theorem walks_keys (hn : w.m[n]? = some a) (h : H a = some (.frz od (.dT vs))) (r : RP K w H kvs vs) : Walks K w H ⟨kvs.map fun kv => keyD kv.1, some (n, .fT kvs)⟩ (Itkt a od vs) := fun w1 H1 S e s ok => by
  have h1 := e.frz a od _ h
  have hl : kvs.length = vs.length := r.len
  refine ⟨fun i d hd => ?_, h1, by rw [List.length_map, hl]; exact Nat.le_refl _⟩
  have hi : i < kvs.length := by
    have := (List.getElem?_eq_some_iff.mp hd).1
    simpa using this
  refine ⟨⟨h1, by omega⟩, fun x H' hy => ?_⟩
  obtain ⟨rfl, k, v, q, g1, rfl, g3⟩ := hy
  refine ⟨.refl, s, ?_⟩
  have e1 : (kvs.map (·.1))[i]? = some k := by rw [r.1, List.getElem?_map, g1]; rfl
  rw [List.getElem?_map] at e1 hd
  obtain ⟨kv, z1, rfl⟩ := Option.map_eq_some_iff.mp e1
  rw [z1] at hd
  cases hd
  simp only [keyD, RV]
  exact ⟨q, _, rfl, g3, keyD_rv _⟩
end
section
variable {X : Cx} {W : WX} {tg e : Expr} {fe : EF}
theorem I_keys (he : PE X e (tE X.K W fe)) : PI X tg e (tI X.K W (iKeysD fe)) :=
  PI.weak (pi_keys he) fun σ H R h => by
    obtain ⟨w, S, ρ, s, re, p⟩ := h
    refine ⟨w, S, ρ, s, re, p.bind fun w1 H1 v x S1 e1 s1 rx p1 => ?_⟩
    split at p1
    · rename_i n
      split at p1
      · rename_i kvs hn
        obtain ⟨a, rfl, h2, od, vs, h3, h4⟩ := s1.get hn rx
        exact ⟨a, od, rfl, .inr ⟨vs, h3, p1 w1 H1 _ .refl s1 (walks_keys h2 h3 h4)⟩⟩
      · exact p1.elim
    · exact p1.elim
theorem E_lock (i : Nat) (he : PE X e (tE X.K W fe)) : PE X e (tE X.K W (eLock i fe)) :=
  PE.weak (pe_lock he) fun σ H Q h => by
    obtain ⟨w, S, ρ, s, re, p⟩ := h
    unfold eLock at p
    split at p
    · rename_i n hρ
      split at p
      · rename_i kvs hn
        obtain ⟨v, hv, rv⟩ := re.2 i _ hρ
        obtain ⟨d, rfl, h2, vs, h3, h4⟩ := s.get hn rv
        have hm := List.mem_of_getElem? h2
        have fr : Free H d := free_of h3 fun _ _ z => nomatch z
        refine ⟨d, .dT vs, h3, True.intro, fun od => ?_⟩
        have ew : Ext w H w (upd H d (.frz od (.dT vs))) := Ext.write s hm fr
        refine ⟨w, S.set n (.fT kvs), ρ, s.write h2 fr ⟨od, vs, upd_same, h4.wr s h2 fr⟩, re.mono ew, ?_⟩
        cases hf : fe ρ (S.set n (.fT kvs)) with
        | ok x S1 =>
          rw [hf] at p
          simp only [R.nox_ok, R.bind_ok] at p
          intro w1 H1 b e1 s1 rb
          have hd1 := e1.frz d od _ upd_same
          refine ⟨hd1, ?_⟩
          split at p
          · rename_i kvs' hn1
            obtain ⟨t, ht⟩ := e1.pre
            have h21 : w1.m[n]? = some d := by rw [← ht, List.getElem?_append_left (List.getElem?_eq_some_iff.mp h2).1]; exact h2
            obtain ⟨d', g1, od', vs', g2, g3⟩ := s1.at_ n _ hn1
            rw [h21] at g1
            cases g1
            rw [hd1] at g2
            cases g2
            exact p w1 _ b (Ext.unlock hm h3 e1) (s1.unlock h21 hd1 g3) (rb.ud (List.mem_of_getElem? h21) hd1)
          · exact p.elim
        | ex x S1 =>
          rw [hf] at p
          exact p.elim
        | no => rw [hf] at p; exact p.elim
      · exact p.elim
    · exact p.elim
end
end Ev

namespace Ev
open PySem PySem.Spec PyProof.Rows L2
/-- an attribute of a class's instances -/
def FldI (K : PySem.W.Frag) (c f : Str) : Prop := ∃ C, CI K c C ∧ NoAttr K C f
section
variable {X : Cx} {W : WX} {pos pos' : Pos} {o e value : Expr} {fo fe : EF} {c f : Str}
theorem E_fldI (h : FldI X.K c f) (he : PE X e (tE X.K W fe)) (hb : attributeBase e f X.env (eval e X.env) = eval e X.env := by rfl) : PE X (.Attribute e f pos) (tE X.K W (eFld c fe f)) :=
  let ⟨_, hc, hn⟩ := h
  E_fld hc hn he hb
theorem S_fldI (h : FldI X.K c f) (hv : PE X value (tE X.K W fe)) (ho : PE X o (tE X.K W fo)) (hs : swapsWith value (some (.Attribute o f pos')) pos.line X.env = pure false := by rfl) :
    PS X (.Assign [.Attribute o f pos'] value pos) (tS X.K W (sFld c fo f fe)) :=
  let ⟨_, hc, hn⟩ := h
  S_fld hc hn hv ho hs
end
/-- x, y = e1, e2, both written -/
def sPar (i j : Nat) (fa : AF) : SF := fun ρ S => sB (fa ρ S) ρ fun ds S1 => match ds with
  | [x, y] => .nx ((ρ.set i (some x)).set j (some y)) S1
  | _ => .no
theorem S_par {X : Cx} {W : WX} {x y : Str} {a b : Expr} {fa : AF} {px py pt pos : Pos} {kt k2 pt2} (i j : Nat) (hc : X.calm = true) (hN : X.N.Nodup) (hx : X.env.scope.names.lookup x = some .local) (hy : X.env.scope.names.lookup y = some .local) (ha : PA X [a, b] (tA X.K W fa))
    (hw : swappedStores [.Tuple [.Name x px, .Name y py] kt pt] (.Tuple [a, b] k2 pt2) X.env = pure (some [x, y])) (hi : X.N[i]? = some x := by rfl) (hj : X.N[j]? = some y := by rfl) (hij : i ≠ j := by decide)
    (hs : swapsWithSole [.Tuple [.Name x px, .Name y py] kt pt] (.Tuple [a, b] k2 pt2) pos.line X.env = pure false := by rfl) :
    PS X (.Assign [.Tuple [.Name x px, .Name y py] kt pt] (.Tuple [a, b] k2 pt2) pos) (tS X.K W (sPar i j fa)) :=
  PS.weak (ps_par hc hN hi hj hij hx hy ha hw hs) fun D σ H h => by
    obtain ⟨w, S, ρ, s, re, p⟩ := h
    refine ⟨w, S, ρ, s, re, p.bind re fun w1 H1 vs ds S1 e1 s1 rd p1 => ?_⟩
    split at p1
    · obtain ⟨v, u, rfl, rv, ru⟩ := rd.two
      exact ⟨v, u, rfl, p1 w1 H1 _ .refl s1 (((re.mono e1).set rv).set ru)⟩
    · exact p1.elim
/-! ### reversed, of a list that nobody changes -/
def iRevD (fa : AF) : IF := fun ρ S => (fa ρ S).bind fun ds S1 => match ds with
  | [.lst es] => .ok ⟨es.reverse, none⟩ S1
  | _ => .no
theorem walksRev {K : PySem.W.Frag} {w : Wo} {H : Hp} {a : Addr} {ds : List D} {xs : List V} (h1 : ∀ w1 H1, Ext w H w1 H1 → SqL K H1 a xs) (r : RVs K w H ds xs) : Walks K w H ⟨ds.reverse, none⟩ (Itv K a xs.length) := fun w1 H1 S e s _ => by
  have h1 := h1 w1 H1 e
  have r1 := r.mono e
  have hl := r1.length
  refine ⟨fun i d hd => ?_, Nat.le_of_eq (by rw [List.length_reverse, hl])⟩
  have hi : i < ds.length := by
    have := (List.getElem?_eq_some_iff.mp hd).1
    rwa [List.length_reverse] at this
  rw [List.getElem?_reverse hi, hl] at hd
  obtain ⟨v, hv, rv⟩ := r1.get hd
  refine ⟨⟨by omega, xs, v, h1, hv⟩, fun x H' hy => ?_⟩
  obtain ⟨rfl, hy⟩ := hy
  have : x = v := Option.some.inj ((hy xs h1).symm.trans hv)
  subst this
  exact ⟨.refl, s, rv⟩
theorem I_rev {X : Cx} {W : WX} {e tg : Expr} {fa : AF} {p pos : Pos} (hm : X.mg "reversed" = none) (ha : PA X [e] (tA X.K W fa)) (hg : Gl X "reversed" := by rfl) (hs : starEach [e] X.env = [(false, eval e X.env)] := by rfl) :
    PI X tg (.Call (.Name "reversed" p) [e] [] pos) (tI X.K W (iRevD fa)) :=
  PI.weak (pi_reversed hg hm ha hs) fun σ H R h => by
    obtain ⟨w, S, ρ, s, re, p⟩ := h
    refine ⟨w, S, ρ, s, re, p.bind fun w1 H1 vs ds S1 e1 s1 rd p1 => ?_⟩
    split at p1
    · obtain ⟨v, rfl, rv⟩ := rd.one
      simp only [RV] at rv
      obtain ⟨a, xs, h1, h2, h4, h3⟩ := rv
      exact ⟨a, xs, by rw [h1], SqL.of h2, p1 w1 H1 _ .refl s1 (walksRev (fun w2 H2 e2 => .inl (e2.rd (.inl h2) h4.1)) h3)⟩
    · exact p1.elim
end Ev

namespace Ev
open PySem PySem.Spec PyProof.Rows L2
/-! ### sorted(d), of a dict whose keys are tuples of ints -/
section
variable {prog : Program} {w : World} {A : Around} {E : Value → Shared → Prop} {s : Shared}
theorem sorted_src {T : String} {r d : Addr} {n : Nat} {P : Nat → Value → Prop} {OK : Heap → Prop} {ltv : Value → Value → Bool} {Q : Value → Shared → Prop} (K : PySem.W.KdlSrc prog w T r d n P OK) (O : SrtO.Swo ltv) (hh : A.handled = none) (hok : OK s.heap) (hn : n ≤ sizeLine)
    (hS : ∀ (vs : List Value) (s₁ : Shared) (a : Addr), vs.length = n → (∀ j v, vs[j]? = some v → P j v) → s₁.heap.get? a = some (seqObj "list" vs.toArray 0) → (∀ b o, s.heap.get? b = some o → b ≠ a ∧ s₁.heap.get? b = some o) → 2 ≤ vs.length → SrtO.SortableO prog w A.in1.in1 s₁ a vs ltv)
    (h : ∀ (vs out : List Value) (h' : Heap) (tk : Nat), vs.length = n → (∀ j v, vs[j]? = some v → P j v) → SrtO.Srtd ltv out → SrtO.Stb ltv out vs → (∀ b o, s.heap.get? b = some o → h'.get? b = some o) → Q (.ref h'.objs.size) { s with heap := sortedHeap (h'.push (seqObj "list" vs.toArray 0)) h'.objs.size vs out.toArray, toks := tk }) :
    wpAny (model prog w) A (call (.builtin "sorted") [.ref r]) Q E s := by
  refine Calls.call_function_entry kind_sorted plain_sorted entry_sorted (args_sorted1 _) ?_
  unfold Builtin.«sorted»
  refine wpAny_bind (m := checkCount "sorted" 1 1 _) (wpAny_pure ?_)
  refine wpAny_bind (PySem.W.kdu_collect (A := A.in1) K hh hok hn fun h' tk acc hk hacc => ?_)
  have hl : acc.toList.length = n := by rw [Array.length_toList]; exact hacc.1
  have hp : ∀ j v, acc.toList[j]? = some v → P j v := fun j v e => hacc.2 j v (by rw [← Array.getElem?_toList]; exact e)
  refine wpAny_bind (wpAny_newList ?_ (by rw [hl]; exact hn))
  have hoL : (h'.push (seqObj "list" acc.toList.toArray 0)).get? h'.objs.size = some (seqObj "list" acc.toList.toArray 0) := Heap.get?_push_size _ rfl
  have keep : ∀ b o, s.heap.get? b = some o → b ≠ h'.objs.size ∧ (h'.push (seqObj "list" acc.toList.toArray 0)).get? b = some o := fun b o q => by
    have hlt := Heap.lt_size (hk b o q)
    exact ⟨Nat.ne_of_lt hlt, Heap.get?_push_of_some _ (hk b o q)⟩
  show wpAny _ _ _ _ _ { s with heap := h'.push (seqObj "list" acc.toList.toArray 0), toks := tk }
  refine wpAny_bind (wpAny_holding (wpAny_call_entry slot_list_sort ⟨_, hoL, rfl⟩ entry_list_sort (SrtO.list_sort_ord O hoL (by rw [hl]; exact hn) (fun h2 => hS _ _ _ hl hp hoL keep h2) fun out hs hb => ⟨_, rfl, ?_⟩) (args_list_sort _)))
  exact wpAny_pure ⟨_, rfl, h acc.toList out h' tk hl hp hs hb hk⟩
end
/-- the ints of a key -/
def keyI : List Key → Option (List Int)
  | [] => some []
  | .inl i :: k => (keyI k).map (i :: ·)
  | .inr _ :: _ => none
theorem keyI_eq : ∀ {k : List Key} {is : List Int}, keyI k = some is → k.map kV = is.map V.int
  | [], is, h => by cases h; rfl
  | .inl i :: k, is, h => by
    unfold keyI at h
    obtain ⟨js, h1, rfl⟩ := Option.map_eq_some_iff.mp h
    rw [List.map_cons, keyI_eq h1]
    rfl
  | .inr _ :: _, is, h => by cases h
/-- sorted(d), all keys tuples of ints, none empty -/
def rSortedDT (K : PySem.W.Frag) : List V → Hp → VK → Prop := fun vs H Q => ∃ (a : Addr) (kvs : List (List Key × V)) (k : V → List Int) (iss : List (List Int)), vs = [V.ref a] ∧ Rd H a (.dT kvs) ∧ kvs.map (fun p => keyI p.1) = iss.map some ∧ (∀ is ∈ iss, is ≠ []) ∧
  (∀ (t : Addr) (is : List Int), H t = some (.tup (is.map V.int)) → k (.ref t) = is) ∧
  ∀ ys p, (ys.map k).Perm iss → ys.Pairwise (fun x y => lexL (k y) (k x) = false) → (∀ y ∈ ys, ∃ t, y = V.ref t ∧ H t = some (.tup ((k y).map V.int))) → H p = none → Q (.ref p) (upd H p (.lst ys))
theorem isKeys_ints {H : Hp} {k : V → List Int} (hk : ∀ (t : Addr) (is : List Int), H t = some (.tup (is.map V.int)) → k (.ref t) = is) : ∀ {kvs : List (List Key × V)} {bs : List Addr} {iss : List (List Int)}, IsKeys H kvs bs → kvs.map (fun p => keyI p.1) = iss.map some → bs.map (fun b => k (.ref b)) = iss ∧ ∀ b ∈ bs, H b = some (.tup ((k (.ref b)).map V.int)) ∧ k (.ref b) ∈ iss
  | [], [], iss, _, h => by
    cases iss with
    | nil => exact ⟨rfl, fun b hb => by cases hb⟩
    | cons i l => cases h
  | p :: kvs, b :: bs, iss, r, h => by
    cases iss with
    | nil => cases h
    | cons is iss =>
      rw [List.map_cons, List.map_cons, List.cons.injEq] at h
      cases r with
      | cons h1 t =>
        rw [keyI_eq h.1] at h1
        have e := hk b is h1
        obtain ⟨i1, i2⟩ := isKeys_ints hk t h.2
        refine ⟨by rw [List.map_cons, e, i1], fun c hc => ?_⟩
        rcases List.mem_cons.mp hc with rfl | hc
        · rw [e]; exact ⟨h1, List.mem_cons_self⟩
        · exact ⟨(i2 c hc).1, List.mem_cons_of_mem _ (i2 c hc).2⟩
  | [], _ :: _, _, r, _ => by cases r
  | _ :: _, [], _, r, _ => by cases r
theorem cr_sortedDT {X : Cx} (hc : X.calm = true) : CallR X (.builtin "sorted") (rSortedDT X.K) := by
  intro pins s σ H vs us Q I r h
  obtain ⟨d, kvs, k, iss, rfl, hd, hki, hne, hk, q⟩ := h
  obtain ⟨u, rfl, rx⟩ := r.one
  cases rx
  obtain ⟨z, hs, ks, pr, o, es, ep, ho, hx, hdt, he, hn⟩ := (show ObjOk X.prog X.w H s.heap d (.dT kvs) from hd.ok I.hok)
  have l1 : es.size = ks.length := size_of_entries he
  have l2 : kvs.length = ks.length := Paired.length pr
  obtain ⟨i1, i2⟩ := isKeys_ints hk (isKeys_of pr) hki
  have shape : ∀ vs : List Value, vs.length = es.size → (∀ (j : Nat) (v : Value), vs[j]? = some v → ∃ en : DictEntry, es[j]? = some en ∧ v = en.key) → vs = (ks.map fun x => x.2.1).map Value.ref := by
    intro vs hv hp
    rw [List.map_map]
    apply List.ext_getElem?
    intro j
    rw [List.getElem?_map]
    cases hj : vs[j]? with
    | none =>
      have h1 := List.getElem?_eq_none_iff.mp hj
      rw [List.getElem?_eq_none (by omega)]
      all_goals rfl
    | some v =>
      obtain ⟨en, hen, hv⟩ := hp j v hj
      have qe := entry_at he j
      rw [hen] at qe
      cases hb : ks[j]? with
      | none =>
        rw [hb] at qe
        exact nomatch (show some en = none from qe)
      | some b =>
        rw [hb] at qe
        have e2 : en = entryOfKey (tupleKind (mixKind X.prog X.w)) b := Option.some.inj qe
        rw [hv, e2]
        all_goals rfl
  have hints : ∀ (h' : Heap), (∀ b o, s.heap.get? b = some o → h'.get? b = some o) → ∀ v ∈ (ks.map fun x => x.2.1).map Value.ref, IsInts h' v (k (backV v)) ∧ k (backV v) ≠ [] := by
    intro h' kp v hv
    obtain ⟨b, hb, rfl⟩ := List.mem_map.mp hv
    obtain ⟨hb1, hb2⟩ := i2 b hb
    obtain ⟨_, its2, r2, o, ho, hc, n, hd⟩ := I.hok _ _ hb1
    exact ⟨⟨b, o, _, n, rfl, kp _ _ ho, hc, hd, r2.ints⟩, hne _ hb2⟩
  refine sorted_src (kdl_raw hs hx hdt) (swo_lexL fun u => k (backV u)) (I.ok.hd hc) ho (by omega) (fun vs s₁ a hv hp ha kk h2 => ?_) fun vs out h' tk hv hp h1 h2 kp => ?_
  · rw [shape vs hv hp] at h2 ha ⊢
    refine ints_sortable (k := fun u => k (backV u)) (by omega) (hints s₁.heap fun b o e => (kk b o e).2) fun o e c => ?_
    have e' : some o = some (seqObj "list" _ 0) := e.symm.trans ha
    cases e'
    exact absurd (Value.type.inj c) (by decide)
  · have I2 : Inv X pins σ H { s with heap := h', toks := tk } := I.kept kp
    have ev := shape vs hv hp
    have hperm := h2.perm
    rw [ev] at hperm
    have h3 : ∀ u ∈ out, ∃ a, u = Value.ref a := fun u hu => by
      obtain ⟨b, _, rfl⟩ := List.mem_map.mp (hperm.mem_iff.mp hu)
      exact ⟨b, rfl⟩
    have hoL : (h'.push (seqObj "list" vs.toArray 0)).get? h'.objs.size = some (seqObj "list" vs.toArray 0) := Heap.get?_push_size _ rfl
    obtain ⟨e0, hat⟩ := sortedHeap_at (out := out.toArray) hoL
    have kp2 : ∀ b o, h'.get? b = some o → (sortedHeap (h'.push (seqObj "list" vs.toArray 0)) h'.objs.size vs out.toArray).get? b = some o := fun b o e => by
      have hlt := Heap.lt_size e
      have e2 := Heap.get?_push_of_some (seqObj "list" vs.toArray 0) e
      rw [sortedHeap_old (Nat.ne_of_lt hlt) (Heap.lt_size e2)]
      exact e2
    have hp2 : (out.map backV).Perm ((ks.map fun x => x.2.1).map V.ref) := by
      have := hperm.map backV
      rw [List.map_map] at this
      exact this
    have mm : ∀ y ∈ out.map backV, ∃ t, y = V.ref t ∧ H t = some (.tup ((k y).map V.int)) := fun y hy => by
      obtain ⟨b, hb, rfl⟩ := List.mem_map.mp (hp2.mem_iff.mp hy)
      exact ⟨b, rfl, (i2 b hb).1⟩
    refine ⟨.ref h'.objs.size, upd H h'.objs.size (.lst (out.map backV)), I2.laid (t' := tk) kp2 (Nat.le_refl _) ⟨?_, out, e0, vals_back h3, hat⟩, rfl, q _ _ ?_ (List.pairwise_map.mpr h1) mm (I2.hok.fresh (Nat.le_refl _))⟩
    · rw [hp2.length_eq, List.length_map, List.length_map]
      omega
    · have h4 := hp2.map k
      refine h4.trans (List.Perm.of_eq ?_)
      rw [← i1, List.map_map, List.map_map, List.map_map]
      rfl
/-! the same by data -/
def keysI {α : Type} : List (List Key × α) → Option (List (List Int))
  | [] => some []
  | p :: ps => match keyI p.1, keysI ps with
    | some is, some iss => some (is :: iss)
    | _, _ => none
theorem keysI_map {α : Type} : ∀ {ps : List (List Key × α)} {iss : List (List Int)}, keysI ps = some iss → ps.map (fun p => keyI p.1) = iss.map some
  | [], iss, h => by cases h; rfl
  | p :: ps, iss, h => by
    unfold keysI at h
    split at h
    · rename_i is iss0 h1 h2
      cases h
      rw [List.map_cons, List.map_cons, h1, keysI_map h2]
    · cases h
theorem keysI_fst {α β : Type} : ∀ {ps : List (List Key × α)} {qs : List (List Key × β)}, ps.map (·.1) = qs.map (·.1) → keysI ps = keysI qs
  | [], [], _ => rfl
  | [], _ :: _, h => by cases h
  | _ :: _, [], h => by cases h
  | p :: ps, q :: qs, h => by
    rw [List.map_cons, List.map_cons, List.cons.injEq] at h
    simp only [keysI, h.1, keysI_fst h.2]
def oSortK : OpN := fun ds S => match ds with
  | [.loc n] => match S[n]? with
    | some (.dT kvs) => (keysI kvs).bind fun iss => if iss.all (fun is => !is.isEmpty) then some (.lst (tupsD (isortL iss)), S) else none
    | _ => none
  | _ => none
theorem callS_sortK {K : PySem.W.Frag} : CallS K (rSortedDT K) oSortK := by
  intro w S H ds vs d S' Q s rd e k
  unfold oSortK at e
  split at e
  · rename_i n
    obtain ⟨v, rfl, rv⟩ := rd.one
    split at e
    · rename_i kvs hn
      obtain ⟨a, rfl, ha, us, h1, h2⟩ := s.get hn rv
      cases hi : keysI kvs with
      | none => rw [hi] at e; cases e
      | some iss =>
        rw [hi] at e
        simp only [Option.bind_some] at e
        split at e
        · rename_i hne
          cases e
          have hki := keysI_map ((keysI_fst h2.1.symm).trans hi)
          refine ⟨a, us, keyV H, iss, rfl, .inl h1, hki, fun is hm => ?_, fun t is ht => keyV_of ht, fun ys p hp hs hm hn2 => ?_⟩
          · have := List.all_eq_true.mp hne is hm
            intro z
            rw [z] at this
            cases this
          · have r1 : RVs K w H (tupsD (ys.map (keyV H))) ys := tups_rel fun y hy => by
              obtain ⟨t, rfl, c⟩ := hm y hy
              exact ⟨t, _, rfl, c⟩
            have e1 : ys.map (keyV H) = isortL iss := srtL_uniq (hp.trans (isortL_perm iss).symm) (List.pairwise_map.mpr hs) (isortL_srt iss)
            rw [e1] at r1
            exact k w _ _ (Ext.fresh hn2) (s.fresh hn2) (RV.newLst s hn2 r1)
        · cases e
    · cases e
  · cases e
theorem E_sortK {X : Cx} {W : WX} {p pos : Pos} {e : Expr} {es : List Expr} {fa : AF} (hc : X.calm = true) (hm : X.mg "sorted" = none) (ha : PA X (e :: es) (tA X.K W fa)) (hg : Gl X "sorted" := by rfl)
    (he : starEach (e :: es) X.env = (false, eval e X.env) :: starEach es X.env := by rfl) (hpl : (backTo pos (starEach es X.env)).any (·.1) = false := by rfl) : PE X (.Call (.Name "sorted" p) (e :: es) [] pos) (tE X.K W (eCb oSortK fa)) :=
  E_cb (cr_sortedDT hc) callS_sortK hm ha hg (by decide +kernel) (by decide) (by decide) he hpl
end Ev

namespace Ev
open PySem PySem.Spec PyProof.Rows L2
/-! ### min, of a list of ints -/
def minI (i : Int) (is : List Int) : Int := is.foldl (fun a b => if b < a then b else a) i
theorem minI_spec : ∀ (is : List Int) (i : Int), minI i is ∈ i :: is ∧ ∀ y ∈ i :: is, minI i is ≤ y
  | [], i => ⟨List.mem_cons_self, fun y hy => by rw [List.mem_singleton.mp hy]; exact Int.le_refl _⟩
  | j :: is, i => by
    unfold minI
    rw [List.foldl_cons]
    obtain ⟨h1, h2⟩ := minI_spec is (if j < i then j else i)
    unfold minI at h1 h2
    refine ⟨?_, fun y hy => ?_⟩
    · rcases List.mem_cons.mp h1 with z | z
      · rw [z]
        split
        · exact List.mem_cons_of_mem _ List.mem_cons_self
        · exact List.mem_cons_self
      · exact List.mem_cons_of_mem _ (List.mem_cons_of_mem _ z)
    · have h0 := h2 _ List.mem_cons_self
      rcases List.mem_cons.mp hy with rfl | hy
      · refine Int.le_trans h0 ?_
        split <;> omega
      · rcases List.mem_cons.mp hy with rfl | hy
        · refine Int.le_trans h0 ?_
          split <;> omega
        · exact h2 y (List.mem_cons_of_mem _ hy)
def gMinL : List D → Sto → Option D := fun ds S => match ds with
  | [d] => match (lstOf S d).bind intsOf with
    | some (i :: is) => some (.int (minI i is))
    | _ => none
  | _ => none
theorem callS_minL {K : PySem.W.Frag} : CallS K (rMin K) (pure1 gMinL) := callS_pure fun w S H ds vs d Q s rd e k => by
  unfold gMinL at e
  split at e
  · rename_i d0
    obtain ⟨v, rfl, rv⟩ := rd.one
    split at e
    · rename_i i is he
      cases e
      obtain ⟨es, hl, hi⟩ := Option.bind_eq_some_iff.mp he
      obtain ⟨a, xs, rfl, h2, h3⟩ := lstOf_sq s rv hl
      rw [intsOf_eq hi] at h3
      rw [h3.ints] at h2
      refine ⟨a, i :: is, rfl, h2, by simp, fun m hm hy => ?_⟩
      obtain ⟨m1, m2⟩ := minI_spec is i
      have e1 : m = minI i is := Int.le_antisymm (hy _ m1) (m2 _ hm)
      rw [e1]
      exact k w H _ .refl s (by simp only [RV])
    · cases e
  · cases e
theorem E_minL {X : Cx} {W : WX} {p pos : Pos} {e : Expr} {es : List Expr} {fa : AF} (hc : X.calm = true) (hm : X.mg "min" = none) (ha : PA X (e :: es) (tA X.K W fa)) (hg : Gl X "min" := by rfl)
    (he : starEach (e :: es) X.env = (false, eval e X.env) :: starEach es X.env := by rfl) (hpl : (backTo pos (starEach es X.env)).any (·.1) = false := by rfl) : PE X (.Call (.Name "min" p) (e :: es) [] pos) (tE X.K W (eCb (pure1 gMinL) fa)) :=
  E_cb (cr_min hc) callS_minL hm ha hg (by decide +kernel) (by decide) (by decide) he hpl
end Ev

namespace HT
open PySem PySem.Spec PyProof.Rows
section
variable {prog : Program} {w : World} {A : Around} {E : Value → Shared → Prop} {s : Shared}
theorem sliceApplied_rev {sl : Addr} {vl vu vs : Value} {n : Nat} {Q : Int × Int × Nat → Shared → Prop} (hs : s.heap.IsSliceOf sl vl vu vs) (pl : IsPart vl none) (pu : IsPart vu none) (ps : IsPart vs (some (-1)))
    (h : Q ((n : Int) - 1, -1, n) s) : wpAny (model prog w) A (Builtin.Slice.sliceApplied (.ref sl) (pure (n : Int))) Q E s := by
  obtain ⟨os, hos, hcs, hds⟩ := id hs
  unfold Builtin.Slice.sliceApplied Builtin.Slice.sliceFields
  refine wpAny_bind (wpAny_bind (wpAny_field hos hds (x := vl) rfl (wpAny_bind (wpAny_field hos hds (x := vu) rfl (wpAny_bind (wpAny_field hos hds (x := vs) rfl (wpAny_pure ?_)))))))
  refine wpAny_bind (slicePart_ ps ?_)
  show wpAny _ _ (if ((-1 : Int) == 0) = true then _ else _) _ _ s
  rw [if_neg (by decide)]
  refine wpAny_bind (slicePart_ pl (wpAny_bind (slicePart_ pu (wpAny_bind (wpAny_pure ?_)))))
  show wpAny _ _ (pure (((n : Int) - 1), (-1 : Int), Builtin.Slice.slicePlaces ((n : Int) - 1) (-1) (-1))) _ _ s
  have e : Builtin.Slice.slicePlaces ((n : Int) - 1) (-1) (-1) = n := by
    unfold Builtin.Slice.slicePlaces
    rw [if_neg (by decide)]
    by_cases hn : 0 < n
    · rw [if_pos (by omega)]
      have : ((n : Int) - 1 - -1 - 1) / (- -1) + 1 = (n : Int) := by
        rw [show (- -1 : Int) = 1 by decide, Int.ediv_one]
        omega
      rw [this]
      rfl
    · rw [if_neg (by omega)]
      have : n = 0 := by omega
      rw [this]
      rfl
  rw [e]
  exact wpAny_pure h
theorem pick_rev (xs : List Value) : ((List.range xs.length).filterMap fun (m : Nat) => xs.toArray[(((xs.length : Int) - 1) + (m : Int) * (-1)).toNat]?) = xs.reverse := by
  apply List.ext_getElem?
  intro i
  have e : ∀ l : List Nat, (∀ m ∈ l, m < xs.length) → (l.filterMap fun (m : Nat) => xs.toArray[(((xs.length : Int) - 1) + (m : Int) * (-1)).toNat]?) = l.map fun m => xs.reverse.getD m .none := by
    intro l hl
    induction l with
    | nil => rfl
    | cons m l ih =>
      have hm := hl m List.mem_cons_self
      have ih := ih fun k hk => hl k (List.mem_cons_of_mem _ hk)
      have e1 : (((xs.length : Int) - 1) + (m : Int) * (-1)).toNat = xs.length - 1 - m := by omega
      have e2 : xs.toArray[(((xs.length : Int) - 1) + (m : Int) * (-1)).toNat]? = some (xs.reverse.getD m .none) := by
        rw [e1, List.getElem?_toArray, List.getD_eq_getElem?_getD, List.getElem?_reverse hm, List.getElem?_eq_getElem (by omega)]
        rfl
      rw [List.filterMap_cons, e2, List.map_cons, ih]
  rw [e _ fun m hm => List.mem_range.mp hm]
  by_cases hi : i < xs.length
  · rw [List.getElem?_map, List.getElem?_range hi, Option.map_some, List.getD_eq_getElem?_getD, List.getElem?_eq_getElem (by rw [List.length_reverse]; exact hi)]
    rfl
  · rw [List.getElem?_eq_none (by simpa using hi), List.getElem?_eq_none (by simpa using hi)]
theorem getItem_tuple_rev {t sl : Addr} {its : List Value} {vl vu vs : Value} {Q : Value → Shared → Prop} (ht : IsTup s.heap t its.toArray) (hs : s.heap.IsSliceOf sl vl vu vs) (pl : IsPart vl none) (pu : IsPart vu none) (ps : IsPart vs (some (-1)))
    (h : Q (.ref s.heap.objs.size) { s with heap := s.heap.push { cls := .type "tuple", data := .seq its.reverse.toArray } })
    (hsz : its.length ≤ sizeLine) : wpAny (model prog w) A (getItem (.ref t) (.ref sl)) Q E s := by
  have htake : sizeOk (.seq its.reverse.toArray) := by
    show its.reverse.toArray.size ≤ sizeLine
    rw [List.size_toArray, List.length_reverse]
    exact hsz
  obtain ⟨os, hos, hcs, hds⟩ := id hs
  have hTs : s.TypeIs (.ref sl) "slice" := ⟨os, hos, hcs⟩
  unfold getItem
  try with_reducible refine wpAny_holding ?_
  first | refine wpAny_bind (wpAny_pure ?_) | skip
  refine wpAny_bind (wpAny_sequenceKey ht.typeIs (by decide) ?_)
  refine wpAny_bind (wpAny_callSpecial?_slot (name := Str.ofString "__getitem__") ht.typeIs PyProof.Rows.slot_tuple_getitem
    (wpAny_call_entry PyProof.Rows.slot_tuple_getitem ht.typeIs entry_tuple_getitem ?_ (args_tuple_getitem _ _)))
  show wpAny _ _ (Builtin.Tuple.tupleItemsOf (.ref t) >>= _) _ _ s
  refine wpAny_bind (tupleItemsOf_ ht ?_)
  refine wpAny_bind (wpAny_typeOf hTs ?_)
  rw [if_pos (by decide)]
  have hz : its.toArray.size = its.length := List.size_toArray
  refine wpAny_bind (sliceApplied_rev (n := its.toArray.size) hs pl pu ps ?_)
  show wpAny _ _ (if (((its.toArray.size : Int) - 1) == 0 && (-1 : Int) == 1 && its.toArray.size == its.toArray.size) = true then _ else _) _ _ s
  rw [if_neg (by simp)]
  have pk : ((List.range its.toArray.size).filterMap fun (m : Nat) => its.toArray[(((its.toArray.size : Int) - 1) + (m : Int) * (-1)).toNat]?) = its.reverse := by
    rw [hz]
    exact pick_rev its
  rw [pk]
  first
    | exact wpAny_bind (m := Builtin.Tuple.tupleExact _) (wpAny_newObj_type (wpAny_pure ⟨_, rfl, wpAny_pure h⟩) htake)
    | exact wpAny_bind (m := Builtin.Tuple.tupleExact _) (wpAny_newObj_type (wpAny_bind (wpAny_pure (wpAny_pure ⟨_, rfl, wpAny_pure h⟩))) htake)
    | exact wpAny_bind (wpAny_bind (m := Builtin.Tuple.tupleExact _) (wpAny_newObj_type (wpAny_pure (wpAny_pure ⟨_, rfl, wpAny_pure h⟩)) htake))
    | exact wpAny_bind (wpAny_bind (m := Builtin.Tuple.tupleExact _) (wpAny_newObj_type (wpAny_pure ⟨_, rfl, wpAny_pure h⟩) htake))
end
end HT
namespace L2
open PySem PySem.Spec PyProof.Rows
section
variable {X : Cx}
def tRevT (K : PySem.W.Frag) (te : TE) : TE := fun σ H Q => te σ H fun x H1 => ∃ a xs, x = .ref a ∧ SqT K H1 a xs ∧ ∀ p, H1 p = none → Q (.ref p) (upd H1 p (.tup xs.reverse))
theorem pe_revT {e : Expr} {te : TE} {k : Nat} {p1 p2 p3 pos : Pos} (he : PE X e te) : PE X (.Subscript e (.Slice none none (some (.UnaryOp .USub (.Constant (.int 1) k p1) p2)) p3) pos) (tRevT X.K te) := by
  refine ⟨fun pins s σ H Q I h => ?_⟩
  refine Subscript_ (thn (he.run pins s σ H _ I h) fun v s1 ⟨x, H1, I1, r1, q1⟩ => ?_)
  obtain ⟨a, xs, ex, hx, q⟩ := q1
  subst ex
  cases r1
  have hst : PO X (some (.UnaryOp .USub (.Constant (.int 1) k p1) p2)) (tPart (tUn (rU fun i => .int (-i)) (tC (.int 1)))) := po_some (pe_un un_neg pe_int)
  refine wpAny_Slice (thn (po_none.run pins s1 σ H1 (fun o H2 => o = none ∧ H2 = H1) I1 ⟨rfl, rfl⟩) fun vl s2 ⟨l, H2, I2, pl, el, e2⟩ => ?_)
  subst el e2
  refine thn (po_none.run pins s2 σ H2 (fun o H3 => o = none ∧ H3 = H2) I2 ⟨rfl, rfl⟩) fun vu s3 ⟨u, H3, I3, pu, eu, e3⟩ => ?_
  subst eu e3
  refine thn (hst.run pins s3 σ H3 (fun o H4 => o = some (-1) ∧ H4 = H3) I3 ⟨1, rfl, -1, rfl, rfl, rfl⟩) fun vs s4 ⟨o, H4, I4, ps, eo, e4⟩ => ?_
  subst eo e4
  have I5 : Inv X pins σ H4 { s4 with heap := s4.heap.push { cls := .type "slice", data := .fields #[vl, vu, vs] } } := I4.kept (t' := s4.toks) fun b ob q => Heap.get?_push_of_some _ q
  obtain ⟨its, r, ht, hz⟩ := I5.tuple hx
  have hlen := r.length
  show wpAny (model X.prog X.w) X.A (subscriptTail e (.Slice none none (some (.UnaryOp .USub (.Constant (.int 1) k p1) p2)) p3) (.ref a) (.ref s4.heap.objs.size)) (EP X pins σ Q) X.xe { s4 with heap := s4.heap.push { cls := .type "slice", data := .fields #[vl, vu, vs] } }
  refine tail_any (ops := [.ref a, .ref s4.heap.objs.size]) ht.typeIs (PyProof.Rows.slot_tuple_getitem.lookup) ?_ (by with_unfolding_all rfl)
  refine HT.getItem_tuple_rev ht (Heap.IsSliceOf.new _ vl vu vs) pl pu ps ?_ (by omega)
  refine ⟨.ref _, _, I5.laid (t' := s4.toks) (o := .tup xs.reverse) (fun b ob q => Heap.get?_push_of_some _ q) (Nat.le_refl _) ?_, rfl, q _ (I5.hok.fresh (Nat.le_refl _))⟩
  refine ⟨by rw [List.length_reverse]; exact hz, _, r.reverse, ?_⟩
  exact IsTup.new _ _
end
end L2
namespace Ev
open PySem PySem.Spec PyProof.Rows L2
/-- t[::-1], of a tuple -/
def eRevT (fe : EF) : EF := fun ρ S => (fe ρ S).bind fun x S1 => match tupOf x with
  | some ds => .ok (.tup ds.reverse) S1
  | none => .no
theorem RVs.reverse {K : PySem.W.Frag} {w : Wo} {H : Hp} : ∀ {ds : List D} {vs : List V}, RVs K w H ds vs → RVs K w H ds.reverse vs.reverse
  | [], vs, h => by simp only [RVs] at h; subst h; exact .nil
  | d :: ds, vs, h => by
    simp only [RVs] at h
    obtain ⟨v, r, h1, h2, h3⟩ := h
    subst h1
    rw [List.reverse_cons, List.reverse_cons]
    exact RVs.snoc (RVs.reverse h3) h2
theorem E_revT {X : Cx} {W : WX} {e : Expr} {fe : EF} {k : Nat} {p1 p2 p3 pos : Pos} (he : PE X e (tE X.K W fe)) : PE X (.Subscript e (.Slice none none (some (.UnaryOp .USub (.Constant (.int 1) k p1) p2)) p3) pos) (tE X.K W (eRevT fe)) :=
  PE.weak (pe_revT he) fun σ H Q h => by
    obtain ⟨w, S, ρ, s, re, p⟩ := h
    refine ⟨w, S, ρ, s, re, p.bind fun w1 H1 v x S1 e1 s1 rx p1 => ?_⟩
    split at p1
    · rename_i ds hd
      obtain ⟨a, xs, rfl, h2, h3⟩ := tupOf_sq rx hd
      exact ⟨a, xs, rfl, h2, fun q hq => p1 w1 _ _ (Ext.fresh hq) (s1.fresh hq) (RV.newTup hq h3.reverse)⟩
    · exact p1.elim
end Ev

namespace Ev
open PySem PySem.Spec PyProof.Rows L2
/-! ### sets of tuples of ints: add, len -/
section
variable {P : Program} {w : World} {A : Around} {E : Value → Shared → Prop} {s : Shared}
variable {a : Addr} {L : List (Addr × List Int)} {es : Array (Int × Value)} {ep : Nat} {t : SetTable}
theorem setT_add {x : Addr} {k : List Int} {Q : Value → Shared → Prop} (R : SetTR P w s.heap a L es ep t) (hx : IsT P w s.heap k x) (hu : A.units + 8 < cLine) (hfew : L.length + 1 < 64)
    (hQ : ∀ h' L' es' ep' t', Heap.SameBut a s.heap h' → SetTR P w h' a L' es' ep' t' → (k ∈ L.map (·.2) → L' = L) → (k ∉ L.map (·.2) → L'.Perm ((x, k) :: L)) → Q .none { s with heap := h', toks := s.toks + (k.length + 1) }) :
    wpAny (model P w) A (call (.builtin "set.add") [.ref a, .ref x]) Q E s := by
  have hu1 : A.in1.units < cLine := Nat.lt_of_le_of_lt (show A.units + 1 ≤ A.units + 8 by omega) hu
  obtain ⟨o, ho, hex, hd⟩ := R.ob
  have hT : s.TypeIs (.ref a) "set" := ⟨o, ho, hex.1⟩
  refine wpAny_call_entry F.slot_set_add hT F.entry_set_add ?_ (F.args_set_add_2 _ _)
  unfold Builtin.«set.add» Builtin.Frozenset.oneOther
  simp only [List.isEmpty_nil, bind_assoc]
  unfold Builtin.Frozenset.addrOf setAdd
  refine wpAny_bind (wpAny_pure ?_)
  try dsimp only
  refine wpAny_bind (wpAny_pure ?_)
  try dsimp only
  refine wpAny_bind ?_
  refine wpAny_holding ?_
  refine wpAny_bind (wpAny_pyHash_tuple hu1 hx ?_)
  refine add_at (s := { s with toks := s.toks + (k.length + 1) }) R hx hu1 hfew fun b h' L' es' ep' t' hsb hS2 c1 c2 => ?_
  show wpAny _ _ (ret Value.none) _ _ _
  exact wpAny_pure ⟨_, rfl, hQ h' L' es' ep' t' hsb hS2 c1 c2⟩
end
section
variable {X : Cx}
theorem setTO_get {pins : List (Addr × Obj)} {σ : St} {H : Hp} {s : Shared} {a : Addr} {L : List (Addr × List Int)} (I : Inv X pins σ H s) (ha : H a = some (SetTO X.prog X.w a L)) : SetT0 X.prog X.w s.heap a L := (I.hok a _ ha).1
theorem addT_ok {pins : List (Addr × Obj)} {σ : St} {H : Hp} {s : Shared} {E : Value → Shared → Prop} {D x : Addr} {k : List Int} {L : List (Addr × List Int)} {Q : Value → Shared → Prop} (hu : X.A.units + 64 < cLine) (I : Inv X pins σ H s) (hD : H D = some (SetTO X.prog X.w D L))
    (hx : SqT X.K H x (k.map V.int)) (hL : ∀ p ∈ L, SqT X.K H p.1 (p.2.map V.int)) (hf : L.length + 1 < 64)
    (h : ∀ s' L', Inv X pins σ (upd H D (SetTO X.prog X.w D L')) s' → (k ∈ L.map (·.2) → L' = L) → (k ∉ L.map (·.2) → L'.Perm ((x, k) :: L)) → Q .none s') : wpAny (model X.prog X.w) X.A (call (.builtin "set.add") [.ref D, .ref x]) Q E s := by
  have R0 := setTO_get I hD
  obtain ⟨es, ep, t, R⟩ := R0.full fun p hp => I.isT (hL p hp)
  refine setT_add R (I.isT hx) (by omega) hf fun h' L' es' ep' t' sb new c1 c2 => ?_
  have he : ∃ u, h'.get? D = some u := by
    obtain ⟨o, ho, _⟩ := new.ob
    exact ⟨o, ho⟩
  exact h _ L' (I.write (e := D) (t' := s.toks + (k.length + 1)) (by rw [hD]; trivial) (.inl rfl) (fun b u hb hu => (sb.2 b hb).trans hu) he (setTO_new new.t0)) c1 c2
/-- len(set) -/
def rLenT (P : Program) (w : World) : List V → Hp → VK → Prop := fun vs H Q => ∃ (a : Addr) (L : List (Addr × List Int)), vs = [V.ref a] ∧ H a = some (SetTO P w a L) ∧ Q (.int L.length) H
theorem cr_lenT : CallR X (.builtin "len") (rLenT X.prog X.w) := by
  intro pins s σ H vs us Q I r h
  obtain ⟨a, L, rfl, ha, q⟩ := h
  rw [Vals.ref1 r]
  obtain ⟨es, ep, t, ⟨o, ho, hex, hd⟩, hr, ht, hn, hp, hl, hz, hf⟩ := (setTO_get I ha).ex
  have e1 : es.size = L.length := by
    rw [← Array.length_toList, hr]
    unfold rowsOf
    rw [List.length_map]
  have hfit : t.fits es.size = true := by
    have h1 := ht.sz
    rw [List.length_map] at h1
    unfold SetTable.fits SetTable.fill
    rw [ht.dm, Bool.and_eq_true, beq_iff_eq, decide_eq_true_eq]
    show t.place.size = es.size ∧ t.place.size + 0 ≤ t.mask
    omega
  refine call_len_set ho hex hd hfit (by omega) ⟨.int L.length, H, I.tok _, ⟨_, by rw [e1]⟩, q⟩
end
/-! ### the comprehension -/
section
variable {X : Cx}
open PpSet
/-- {elt for target in iter if ..}, elt a tuple of ints: D the new set -/
def tScT (P : Program) (w : World) (K : PySem.W.Frag) (wi : TI) (g : TG) (tt : TT) (te : TE) (vs : List Nat) : TE := fun σ H Q => wi σ H fun J H1 => ∀ D, H1 D = none → ∃ W : Nat → Nat → Hp → Prop, (∃ m, W 0 m (upd H1 D (SetTO P w D []))) ∧ ∀ i m H, W i m H →
  (J.stop i H ∧ Q (.ref D) H) ∨ (J.go i H ∧ ∃ Nx : Hp → Prop, (∀ H', Nx H' → ∃ m', m' < m ∧ W (i + 1) m' H') ∧ ∀ x H', J.yld i H x H' → g x (wipe σ vs) H' fun σ2 H2 => wipe σ2 vs = wipe σ vs ∧ tt σ2 H2 fun b H3 =>
    if b = true then te σ2 H3 fun y H4 => ∃ (x : Addr) (k : List Int) (L : List (Addr × List Int)), y = .ref x ∧ SqT K H4 x (k.map V.int) ∧ H4 D = some (SetTO P w D L) ∧ (∀ p ∈ L, SqT K H4 p.1 (p.2.map V.int)) ∧ L.length + 1 < 64 ∧
      ∀ L', (k ∈ L.map (·.2) → L' = L) → (k ∉ L.map (·.2) → L'.Perm ((x, k) :: L)) → Nx (upd H4 D (SetTO P w D L')) else Nx H3)
theorem scT_core {pins : List (Addr × Obj)} {s : Shared} {σ : St} {H : Hp} {Q : VK} {elt tg iter : Expr} {ifs : List Expr} {scope : Scope} {own : List (Str × Nat)} {pos pos' : Pos} {wi : TI} {g : TG} {tt : TT} {te : TE} {use : Option (Value → Sem Unit)} {Qf : Value → Shared → Prop}
    (hu : X.A.units + 64 < cLine) (hc : X.calm = true) (hN : X.N.Nodup) (I : Inv X pins σ H s) (hi : PI X tg iter wi) (ok : BlkOk X.N X.env.scope scope own)
    (hg : ∀ (s : Shared) (H : Hp) (C : Addr) (cl : List (Str × Addr)) (fp : List Addr), PG (X.blk s H scope (compEnvC scope cl C X.env) fp) tg g) (ht : ∀ (s : Shared) (H : Hp) (C : Addr) (cl : List (Str × Addr)) (fp : List Addr), PTs (X.blk s H scope (compEnvC scope cl C X.env) fp) ifs tt)
    (he : ∀ (s : Shared) (H : Hp) (C : Addr) (cl : List (Str × Addr)) (fp : List Addr), PE (X.blk s H scope (compEnvC scope cl C X.env) fp) elt te) (hs : ∀ x, foldedSetIterable iter X.env x = pure x)
    (h : tScT X.prog X.w X.K wi g tt te (own.map (·.2)) σ H Q)
    (hRR : ∀ D C s' m H', Inv X pins σ H' s' → Q (.ref D) H' → s'.heap.Ns C m → FpOk X pins H' C → compPost (model X.prog X.w) X.A X.xe use Qf (.ref D) C (.ok .next) s') :
    wpAny (model X.prog X.w) X.A (comprehension (.SetComp elt [⟨tg, iter, ifs, 0⟩] scope pos) scope X.env pos' (newSet (.type "set")) false (eval iter X.env) use) Qf X.xe s := by
  have hfree : ∀ y ∈ scope.names, y.2 = .free → ∃ c, X.env.cells.lookup y.1 = some c := fun y hy e => by
    rcases ok.free y hy e with k | k
    · exact I.ok.has _ (.inl k)
    · exact I.ok.has _ (.inr k)
  refine wpAny_comprehension_free (use := use) rfl hs (closure_ok hfree) ok.kind (fun y hy e => by rw [ok.uniq y hy, e])
    (thn (hi.run pins s σ H _ I h) fun xv s1 hx => thn hx fun itv s2 h2 => ?_)
  obtain ⟨it, fp, tn, J, H2, e, I2, T, st2, f2, q⟩ := h2
  subst e
  refine newSet_ok (newEnv_comp ?_)
  generalize hD : s2.heap.objs.size = D
  have hDn : H2 D = none := I2.hok.fresh (Nat.le_of_eq hD)
  obtain ⟨W, ⟨m0, w0⟩, turn⟩ := q D hDn
  -- the new list
  generalize hs3 : ({ s2 with heap := s2.heap.push { cls := .type "set", dict := none, data := .set #[] 0 (.fresh 0 0 (!X.w.params.followText "set-order")) } } : Shared) = s3
  have I3 : Inv X pins σ (upd H2 D (SetTO X.prog X.w D [])) s3 := by
    rw [← hs3]
    refine I2.laid (t' := s2.toks) (fun b o e => Heap.get?_push_of_some _ e) (Nat.le_of_eq hD) ?_
    rw [← hD]
    exact setTO_new (setTR_fresh (Heap.get?_push_size _ rfl)).t0
  have h3 : s3.heap = s2.heap.push { cls := .type "set", dict := none, data := .set #[] 0 (.fresh 0 0 (!X.w.params.followText "set-order")) } := by rw [← hs3]
  have sz : ∀ b ∈ fp, b < s2.heap.objs.size := fun b hb => by
    obtain ⟨o, e, _⟩ := T.obj _ _ st2 b hb
    exact Heap.lt_size e
  have f3 : ∀ b ∈ fp, FpOk X pins (upd H2 D (SetTO X.prog X.w D [])) b ∧ b < s3.heap.objs.size := fun b hb => by
    have hlt := sz b hb
    refine ⟨⟨?_, (f2 b hb).2⟩, by rw [h3, Heap.size_push]; exact Nat.lt_succ_of_lt hlt⟩
    rw [upd_ne (by rw [← hD]; exact Nat.ne_of_lt hlt)]
    exact (f2 b hb).1
  have st3 : tn 0 s3.heap := T.keep _ _ _ st2 fun b _ o e => by rw [h3]; exact Heap.get?_push_of_some _ e
  have I4 := block_start I3 ok hN f3
  have pg := hg s3 (upd H2 D (SetTO X.prog X.w D [])) s3.heap.objs.size (cellsFrom (s3.heap.objs.size + 1) scope.names (cloFrom X.env.cells scope.names [])) fp
  have pt := ht s3 (upd H2 D (SetTO X.prog X.w D [])) s3.heap.objs.size (cellsFrom (s3.heap.objs.size + 1) scope.names (cloFrom X.env.cells scope.names [])) fp
  have pe := he s3 (upd H2 D (SetTO X.prog X.w D [])) s3.heap.objs.size (cellsFrom (s3.heap.objs.size + 1) scope.names (cloFrom X.env.cells scope.names [])) fp
  show codeAny _ _ (.compStart (.SetComp elt [⟨tg, iter, ifs, 0⟩] scope pos) 0 (.ref it) (.ref D) (compEnvC scope (cellsFrom (s3.heap.objs.size + 1) scope.names (cloFrom X.env.cells scope.names [])) s3.heap.objs.size X.env)) (compPost (model X.prog X.w) X.A X.xe use Qf (.ref D) s3.heap.objs.size) { s3 with heap := pushCells (s3.heap.push { cls := .type "dict", data := .dict #[] }) scope.names }
  have nfp : ∀ b ∈ fp, (upd H2 D (SetTO X.prog X.w D [])) b = none := fun b hb => (f3 b hb).1.1
  generalize hce : compEnvC scope (cellsFrom (s3.heap.objs.size + 1) scope.names (cloFrom X.env.cells scope.names [])) s3.heap.objs.size X.env = ce at I4 pg pt pe ⊢
  have cL : ce.locals = s3.heap.objs.size := by subst hce; rfl
  generalize hH3 : upd H2 D (SetTO X.prog X.w D []) = H3 at I3 I4 pg pt pe w0 nfp f3
  generalize hs4 : ({ s3 with heap := pushCells (s3.heap.push { cls := .type "dict", data := .dict #[] }) scope.names } : Shared) = s4 at I4 ⊢
  have st4 : tn 0 s4.heap := T.keep _ _ _ st3 fun b _ o e => by rw [← hs4]; exact pushCells_keeps _ _ _ _ (Heap.get?_push_of_some _ e)
  have stat : ∀ {σ' : St} {H' : Hp} {s' : Shared}, Inv (X.blk s3 H3 scope ce fp) [] σ' H' s' → (∀ b ∈ fp, H' b = none) → ∀ b ∈ fp, FpOk (X.blk s3 H3 scope ce fp) [] H' b := fun {σ' H' s'} I' hn b hb =>
    ⟨hn b hb, (I'.ok.exf b hb).1, I'.ok.exfs b hb, .inl hb, fun x c e => (I'.ok.exf b hb).2 x c e, fun p hp => absurd (show p ∈ ([] : List (Addr × Obj)) ++ [] from hp) (by simp)⟩
  have loop : codeAny (model X.prog X.w) X.A (.compLoop (.SetComp elt [⟨tg, iter, ifs, 0⟩] scope pos) 0 (.ref it) (.ref D) ce) (compPost (model X.prog X.w) X.A X.xe use Qf (.ref D) s3.heap.objs.size) s4 := by
    refine compLoopS_any (fun n s' => ∃ i H', Inv (X.blk s3 H3 scope ce fp) [] (wipe σ (own.map (·.2))) H' s' ∧ tn i s'.heap ∧ (∀ b ∈ fp, H' b = none) ∧ W i n H') ?_ m0 ⟨0, H3, I4, st4, nfp, w0⟩
    rintro n s5 ⟨i, H5, I5, st5, n5, w5⟩
    rcases turn i n H5 w5 with ⟨stop, qq⟩ | ⟨go, Nx, hNx, step⟩
    · have td := T.done (X.blk s3 H3 scope ce fp) rfl rfl rfl hc i [] s5 _ H5 (fun _ _ => False) I5 (stat I5 n5) st5 stop
      refine thnF td fun r s6 ⟨hr, I6⟩ => ?_
      subst hr
      -- back in the def's context
      have I7 : Inv X pins σ H5 s6 := I3.call' (ch := fp) I6.os I6.base I6.hok I6.bare fun b hb => ⟨(f3 b hb).1.2.2.2.1, (f3 b hb).1.2.1, (f3 b hb).1.2.2.2.2.1, (f3 b hb).1.2.2.2.2.2⟩
      have nC : H5 s3.heap.objs.size = none := by
        have z : H5 ce.locals = none := I6.free
        rw [cL] at z
        exact z
      obtain ⟨m, hn, _⟩ := I6.loc
      have hn : s6.heap.Ns ce.locals m := hn
      rw [cL] at hn
      exact hRR D s3.heap.objs.size s6 m H5 I7 qq hn (I3.fpOk (Nat.le_refl _) nC)
    · have ti := T.item (X.blk s3 H3 scope ce fp) rfl rfl rfl hc i [] s5 _ H5 (fun _ _ => False) I5 (stat I5 n5) st5 go
      refine thnF ti fun r s6 ⟨u, hr, h6⟩ => ?_
      subst hr
      refine thnF h6 fun _ s7 ⟨x, H7, I7, r7, y7, st7, n7⟩ => ?_
      have I7' := I7.pinned (stat I7 n7) (T.obj _ _ st7)
      refine thnF (pg.run _ s7 _ H7 x u _ I7' r7 (step x H7 y7)) fun _ s8 ⟨σ8, H8, I8, hw8, q8⟩ => ?_
      refine thnF (pt.run _ s8 σ8 H8 _ I8 q8) fun b s9 ⟨H9, I9, q9⟩ => ?_
      -- the turn's end
      have fin : ∀ {s' : Shared} {H' : Hp}, Inv (X.blk s3 H3 scope ce fp) ([] ++ pinsAt fp s7.heap) σ8 H' s' → Nx H' → ∃ m, m < n ∧ ∃ i H', Inv (X.blk s3 H3 scope ce fp) [] (wipe σ (own.map (·.2))) H' s' ∧ tn i s'.heap ∧ (∀ b ∈ fp, H' b = none) ∧ W i m H' := fun {s' H'} I' nx => by
        obtain ⟨m', hm, w'⟩ := hNx H' nx
        have pin' : ∀ b ∈ fp, ∀ o, s7.heap.get? b = some o → s'.heap.get? b = some o ∧ H' b = none := fun b hb o e =>
          let z := I'.pin (b, o) (List.mem_append_right _ (List.mem_append_right _ (mem_pinsAt hb e)))
          ⟨z.1, z.2.1⟩
        have hl : (wipe σ (own.map (·.2))).length = σ8.length := by rw [← hw8, wipe_length]
        refine ⟨m', hm, i + 1, H', (I'.unpinned (pins := [])).weak hl (fun j v e => ?_), T.keep _ _ _ st7 fun b hb o e => (pin' b hb o e).1, fun b hb => ?_, w'⟩
        · rw [← hw8] at e
          exact (wipe_some e).1
        · obtain ⟨o, e, _⟩ := T.obj _ _ st7 b hb
          exact (pin' b hb o e).2
      cases b with
      | false =>
        simp only [Bool.false_eq_true, if_false] at q9 ⊢
        exact fin I9 q9
      | true =>
        simp only [if_true] at q9 ⊢
        refine thnF (pe.run _ s9 σ8 H9 _ I9 q9) fun z s10 ⟨yv, H10, I10, r10, xa, kk, Ls, ey, hxa, hD10, hLs, hz10, nx⟩ => ?_
        subst ey
        cases (show z = Value.ref xa from r10)
        exact addT_ok (X := X.blk s3 H3 scope ce fp) hu I10 hD10 hxa hLs hz10 fun s11 L' I11 c1 c2 => fin I11 (nx L' c1 c2)
  exact codeAny_compStart_set loop (T.self X.A 0 _ _ _ st4 loop)
/-- as a value -/
theorem pe_scT {elt tg iter : Expr} {ifs : List Expr} {scope : Scope} {own : List (Str × Nat)} {pos : Pos} {wi : TI} {g : TG} {tt : TT} {te : TE} (hu : X.A.units + 64 < cLine) (hc : X.calm = true) (hN : X.N.Nodup) (hi : PI X tg iter wi) (ok : BlkOk X.N X.env.scope scope own)
    (hg : ∀ (s : Shared) (H : Hp) (C : Addr) (cl : List (Str × Addr)) (fp : List Addr), PG (X.blk s H scope (compEnvC scope cl C X.env) fp) tg g) (ht : ∀ (s : Shared) (H : Hp) (C : Addr) (cl : List (Str × Addr)) (fp : List Addr), PTs (X.blk s H scope (compEnvC scope cl C X.env) fp) ifs tt)
    (he : ∀ (s : Shared) (H : Hp) (C : Addr) (cl : List (Str × Addr)) (fp : List Addr), PE (X.blk s H scope (compEnvC scope cl C X.env) fp) elt te) (hs : ∀ x, foldedSetIterable iter X.env x = pure x := by intro _; rfl) :
    PE X (.SetComp elt [⟨tg, iter, ifs, 0⟩] scope pos) (tScT X.prog X.w X.K wi g tt te (own.map (·.2))) := by
  refine ⟨fun pins s σ H Q I h => ?_⟩
  rw [eval_SetComp]
  refine scT_core hu hc hN I hi ok hg ht he hs h fun D C s' m H' I' q hn f => ⟨m, hn, fun h'' sb => ?_⟩
  obtain ⟨f0, f1, f2, f3, f4, f5⟩ := f
  exact ⟨.ref D, H', I'.turned (t' := s'.toks) (fun b o hb e => (sb.2 b hb).trans e) f0 f1 f3 f4 f5, rfl, q⟩
end
end Ev

namespace Ev
open PySem PySem.Spec PyProof.Rows L2
/-! ### len({..}), of tuples of ints, by data -/
def tupI (d : D) : Option (List Int) := (tupOf d).bind intsOf
def tupsI : List D → Option (List (List Int))
  | [] => some []
  | d :: ds => match tupI d, tupsI ds with
    | some k, some ks => some (k :: ks)
    | _, _ => none
/-- without what comes again -/
def ndl : List (List Int) → List (List Int)
  | [] => []
  | x :: xs => if x ∈ xs then ndl xs else x :: ndl xs
theorem mem_ndl {y : List Int} : ∀ {xs : List (List Int)}, y ∈ ndl xs ↔ y ∈ xs
  | [] => Iff.rfl
  | x :: xs => by
    unfold ndl
    split
    · rename_i h
      rw [mem_ndl, List.mem_cons]
      exact ⟨.inr, fun z => z.elim (fun e => e ▸ h) id⟩
    · rw [List.mem_cons, List.mem_cons, mem_ndl]
theorem ndl_nodup : ∀ {xs : List (List Int)}, (ndl xs).Nodup
  | [] => .nil
  | x :: xs => by
    unfold ndl
    split
    · exact ndl_nodup
    · rename_i h
      exact List.nodup_cons.mpr ⟨fun z => h (mem_ndl.mp z), ndl_nodup⟩
theorem tupsI_append : ∀ {a b : List D} {ks : List (List Int)}, tupsI (a ++ b) = some ks → ∃ k1 k2, tupsI a = some k1 ∧ tupsI b = some k2 ∧ ks = k1 ++ k2
  | [], b, ks, h => ⟨[], ks, rfl, h, rfl⟩
  | d :: a, b, ks, h => by
    simp only [List.cons_append, tupsI] at h ⊢
    cases h1 : tupI d with
    | none => rw [h1] at h; cases h
    | some k =>
      cases h2 : tupsI (a ++ b) with
      | none => rw [h1, h2] at h; cases h
      | some k2 =>
        rw [h1, h2] at h
        cases h
        obtain ⟨q1, q2, e1, e2, rfl⟩ := tupsI_append h2
        exact ⟨k :: q1, q2, by rw [e1], e2, rfl⟩
theorem tupsI_snoc {a : List D} {d : D} {ks : List (List Int)} {k : List Int} (h : tupsI a = some ks) (hk : tupI d = some k) : tupsI (a ++ [d]) = some (ks ++ [k]) := by
  induction a generalizing ks with
  | nil =>
    cases h
    simp only [List.nil_append, tupsI, hk]
  | cons x a ih =>
    simp only [List.cons_append, tupsI] at h ⊢
    cases h1 : tupI x with
    | none => rw [h1] at h; cases h
    | some k0 =>
      cases h2 : tupsI a with
      | none => rw [h1, h2] at h; cases h
      | some k2 =>
        rw [h1, h2] at h
        cases h
        rw [ih h2]
        rfl
theorem tupsI_length : ∀ {a : List D} {ks : List (List Int)}, tupsI a = some ks → ks.length = a.length
  | [], ks, h => by cases h; rfl
  | d :: a, ks, h => by
    simp only [tupsI] at h
    cases h1 : tupI d with
    | none => rw [h1] at h; cases h
    | some k =>
      cases h2 : tupsI a with
      | none => rw [h1, h2] at h; cases h
      | some k2 =>
        rw [h1, h2] at h
        cases h
        rw [List.length_cons, List.length_cons, tupsI_length h2]
theorem tupI_sq {K : PySem.W.Frag} {w : Wo} {H : Hp} {d : D} {v : V} {k : List Int} (h : tupI d = some k) (r : RV K w H d v) : ∃ a, v = .ref a ∧ SqT K H a (k.map V.int) := by
  obtain ⟨ds, h1, h2⟩ := Option.bind_eq_some_iff.mp h
  obtain ⟨a, xs, e, h3, h4⟩ := tupOf_sq r h1
  rw [intsOf_eq h2] at h4
  rw [h4.ints] at h3
  exact ⟨a, e, h3⟩
def finS : List D → Sto → R D := fun ys S => match tupsI ys with
  | some ks => if ks.length < 64 then .ok (.int (ndl ks).length) S else .no
  | none => .no
noncomputable def eLenS (fi : IF) (tg : Tg) (tt : BF) (te : EF) (vs : List Nat) : EF := fun ρ S => (fi ρ S).bind fun k S1 => (lcGo k tg tt te (wipeD ρ vs) k.ds S1).bind finS
section
variable {K : PySem.W.Frag} {w w' : Wo} {S : Sto} {H H' : Hp} {ρ : En} {σ : St} {p : Addr} {o o' : HO}
mutual
theorem RV.upx (hq : p ∈ w.q) (hp : H p = some o) (ho : ∀ xs, o ≠ .tup xs) : ∀ {d : D} {v : V}, RV K w H d v → RV K w (upd H p o') d v
  | .non, v, h => by simpa only [RV] using h
  | .bl b, v, h => by simpa only [RV] using h
  | .int i, v, h => by simpa only [RV] using h
  | .str x, v, h => by simpa only [RV] using h
  | .tup ds, v, h => by
    simp only [RV] at h ⊢
    obtain ⟨a, zs, h1, h2, h3⟩ := h
    have na : a ≠ p := fun z => ho zs (Option.some.inj (hp.symm.trans (z ▸ h2)))
    exact ⟨a, zs, h1, by rw [upd_ne na]; exact h2, RVs.upx hq hp ho h3⟩
  | .con ds, v, h => by
    simp only [RV] at h ⊢
    obtain ⟨a, zs, h1, h2, h3⟩ := h
    exact ⟨a, zs, h1, h2, RVs.upx hq hp ho h3⟩
  | .lst ds, v, h => by
    simp only [RV] at h ⊢
    obtain ⟨a, zs, h1, h2, h3, h5⟩ := h
    have na : a ≠ p := fun z => h3.2 (by rw [z]; exact hq)
    exact ⟨a, zs, h1, by rw [upd_ne na]; exact h2, h3, RVs.upx hq hp ho h5⟩
  | .frz ds, v, h => by
    simp only [RV] at h ⊢
    obtain ⟨a, zs, h1, h2, h5⟩ := h
    refine ⟨a, zs, h1, ?_, RVs.upx hq hp ho h5⟩
    rcases h2 with ⟨od, h2, h3⟩ | h2
    · have na : a ≠ p := fun z => h3.2 (by rw [z]; exact hq)
      exact .inl ⟨od, by rw [upd_ne na]; exact h2, h3⟩
    · exact .inr h2
  | .loc n, v, h => by simpa only [RV] using h
  | .fn x, v, h => by simpa only [RV] using h
  | .exc a dd f d, v, h => by
    simp only [RV] at h ⊢
    obtain ⟨h1, x, h2, h3, h5⟩ := h
    have na : dd ≠ p := fun z => h3.2 (by rw [z]; exact hq)
    exact ⟨h1, x, by rw [upd_ne na]; exact h2, h3, RV.upx hq hp ho h5⟩
theorem RVs.upx (hq : p ∈ w.q) (hp : H p = some o) (ho : ∀ xs, o ≠ .tup xs) : ∀ {ds : List D} {vs : List V}, RVs K w H ds vs → RVs K w (upd H p o') ds vs
  | [], vs, h => by simpa only [RVs] using h
  | d :: ds, vs, h => by
    simp only [RVs] at h ⊢
    obtain ⟨v, r, h1, h2, h3⟩ := h
    exact ⟨v, r, h1, RV.upx hq hp ho h2, RVs.upx hq hp ho h3⟩
end
theorem RC.upx {a : Addr} {c : Cel} (hq : p ∈ w.q) (hp : H p = some o) (ho : ∀ xs, o ≠ .tup xs) (ha : a ≠ p) (h : RC K w H a c) : RC K w (upd H p o') a c := by
  cases c with
  | lst ds => obtain ⟨xs, h1, h2⟩ := h; exact ⟨xs, by rw [upd_ne ha]; exact h1, h2.upx hq hp ho⟩
  | dK kvs => obtain ⟨vs, h1, h2, h3⟩ := h; exact ⟨vs, by rw [upd_ne ha]; exact h1, h2, h3.upx hq hp ho⟩
  | dT kvs => obtain ⟨vs, h1, h2, h3⟩ := h; exact ⟨vs, by rw [upd_ne ha]; exact h1, h2, h3.upx hq hp ho⟩
  | fT kvs => obtain ⟨od, vs, h1, h2, h3⟩ := h; exact ⟨od, vs, by rw [upd_ne ha]; exact h1, h2, h3.upx hq hp ho⟩
  | ins c fs => obtain ⟨C, dx, vs, h0, h1, h2, h3⟩ := h; exact ⟨C, dx, vs, h0, by rw [upd_ne ha]; exact h1, h2, h3.upx hq hp ho⟩
theorem Sim.upx (s : Sim K w S H) (hq : p ∈ w.q) (hp : H p = some o) (ho : ∀ xs, o ≠ .tup xs) : Sim K w S (upd H p o') := by
  have np := (s.priv p hq).1
  refine ⟨s.len, s.nd, fun i c e => ?_, fun a ha => ?_⟩
  · obtain ⟨a, h1, h2⟩ := s.at_ i c e
    exact ⟨a, h1, h2.upx hq hp ho fun z => np (z ▸ List.mem_of_getElem? h1)⟩
  · obtain ⟨h1, u, h2⟩ := s.priv a ha
    by_cases z : a = p
    · exact ⟨h1, _, by rw [z, upd_same]⟩
    · exact ⟨h1, u, by rw [upd_ne z]; exact h2⟩
theorem REnv.upx (hq : p ∈ w.q) (hp : H p = some o) (ho : ∀ xs, o ≠ .tup xs) (h : REnv K w H ρ σ) : REnv K w (upd H p o') ρ σ := ⟨h.1, fun i d q => let ⟨v, a, b⟩ := h.2 i d q; ⟨v, a, b.upx hq hp ho⟩⟩
theorem Ext.upx {H0 : Hp} {w0 : Wo} (e : Ext w0 H0 w H) (h0 : H0 p = none) : Ext w0 H0 w (upd H p o') :=
  ⟨e.pre, e.q, e.newq, e.new, fun a zs h => by rw [upd_ne (ne_of_none h h0)]; exact e.tup a zs h, fun a o h hm => by rw [upd_ne (ne_of_none h h0)]; exact e.keep a o h hm, fun a o h => by rw [upd_ne (ne_of_none h h0)]; exact e.live a o h, fun a od u h => by rw [upd_ne (ne_of_none h h0)]; exact e.frz a od u h⟩
theorem setTO_ne {P : Program} {ww : World} {L : List (Addr × List Int)} : ∀ xs, SetTO P ww p L ≠ .tup xs := fun xs z => by unfold SetTO at z; cases z
end
theorem lc_noex {k : Wk} {tg : Tg} {tt : BF} {te : EF} {ρ0 : En} : ∀ (ds : List D) (S : Sto) (e : Exn) (S' : Sto), lcGo k tg tt te ρ0 ds S ≠ .ex e S'
  | [], S, e, S', q => by unfold lcGo Wk.guard at q; split at q <;> cases q
  | d :: ds, S, e, S', q => by
    unfold lcGo Wk.guard at q
    split at q
    · split at q
      · rename_i ρ1 _
        cases h1 : tt ρ1 S with
        | ok b S1 =>
          rw [h1] at q
          simp only [R.nox_ok, R.bind_ok] at q
          split at q
          · cases h2 : te ρ1 S1 with
            | ok y S2 =>
              rw [h2] at q
              simp only [R.nox_ok, R.bind_ok] at q
              cases h3 : lcGo k tg tt te ρ0 ds S2 with
              | ok r S3 => rw [h3] at q; cases q
              | ex e1 S3 => exact lc_noex _ _ _ _ h3
              | no => rw [h3] at q; cases q
            | ex e1 S3 => rw [h2] at q; cases q
            | no => rw [h2] at q; cases q
          · exact lc_noex _ _ _ _ q
        | ex e1 S3 => rw [h1] at q; cases q
        | no => rw [h1] at q; cases q
      · cases q
    · cases q
/-- the reading of the comprehension -/
theorem scT_of {P : Program} {ww : World} {K : PySem.W.Frag} {W : WX} {fi : IF} {tg : Tg} {tt : BF} {te : EF} {vs : List Nat} {σ : St} {H : Hp} {Q : VK} (hv : ∀ i ∈ tg.slots, i ∈ vs)
    (h : ∃ w S ρ, Sim K w S H ∧ REnv K w H ρ σ ∧ PostG K (RV K) W w H σ (eLenS fi tg tt te vs ρ S) Q) :
    tScT P ww K (tI K W fi) (gT K tg) (tT K WF tt) (tE K WF te) vs σ H (fun x H1 => ∃ a L, x = .ref a ∧ H1 a = some (SetTO P ww a L) ∧ Q (.int L.length) H1) := by
  obtain ⟨w, S, ρ, s, re, p⟩ := h
  refine ⟨w, S, ρ, s, re, p.bind fun w0 H0 J k S0 e0 s0 wk p0 => ?_⟩
  intro D0 hD
  have r0 := (re.mono e0).wipe vs
  have hD0 : D0 ∉ w0.q := fun z => by
    obtain ⟨_, o, e⟩ := s0.priv D0 z
    rw [hD] at e; cases e
  have fin_ok : ∀ {ys : List D} {S3 : Sto}, PostG K (RV K) W w0 H0 σ (finS ys S3) Q → ∃ ks, tupsI ys = some ks ∧ ks.length < 64 := fun {ys S3} q => by
    unfold finS at q
    split at q
    · rename_i ks hk
      split at q
      · rename_i hl
        exact ⟨ks, hk, hl⟩
      · exact q.elim
    · exact q.elim
  refine ⟨fun i m H => ∃ w1 S1 acc ks L, m = k.ds.length - i ∧ i ≤ k.ds.length ∧ Ext w0 H0 w1 H ∧ Sim K w1 S1 H ∧ REnv K w1 H (wipeD ρ vs) (wipe σ vs) ∧ H D0 = some (SetTO P ww D0 L) ∧ D0 ∈ w1.q ∧ tupsI acc = some ks ∧
      (∀ p ∈ L, ∃ d, tupI d = some p.2 ∧ RV K w1 H d (.ref p.1)) ∧ (L.map (·.2)).Nodup ∧ (∀ x, x ∈ L.map (·.2) ↔ x ∈ ks) ∧ L.length ≤ ks.length ∧
      PostG K (RV K) W w0 H0 σ ((lcGo k tg tt te (wipeD ρ vs) (k.ds.drop i) S1).bind fun r S3 => finS (acc ++ r) S3) Q,
    ⟨_, w0.pr D0, S0, [], [], [], rfl, Nat.zero_le _, Ext.pr hD, s0.pr hD, r0.mono (Ext.pr hD), upd_same, List.mem_cons_self, rfl, (fun p hp => by cases hp), .nil, (fun x => Iff.rfl), Nat.le_refl _, by simpa using p0⟩, ?_⟩
  rintro i m H1 ⟨w1, S1, acc, ks, L, rfl, hi, e1, s1, r1, hx, hq, hks, hL, hnd, hmem, hle, p1⟩
  rcases Nat.lt_or_ge i k.ds.length with hlt | hge
  · rw [List.drop_eq_getElem_cons hlt] at p1
    unfold lcGo at p1
    obtain ⟨ok, p1⟩ := guardR p1
    obtain ⟨g1, _⟩ := wk w1 H1 S1 e1 s1 ok
    obtain ⟨g1, g2⟩ := g1 i _ (List.getElem?_eq_getElem hlt)
    refine .inr ⟨g1, fun H => ∃ w1 S1 acc ks L, Ext w0 H0 w1 H ∧ Sim K w1 S1 H ∧ REnv K w1 H (wipeD ρ vs) (wipe σ vs) ∧ H D0 = some (SetTO P ww D0 L) ∧ D0 ∈ w1.q ∧ tupsI acc = some ks ∧
      (∀ p ∈ L, ∃ d, tupI d = some p.2 ∧ RV K w1 H d (.ref p.1)) ∧ (L.map (·.2)).Nodup ∧ (∀ x, x ∈ L.map (·.2) ↔ x ∈ ks) ∧ L.length ≤ ks.length ∧
      PostG K (RV K) W w0 H0 σ ((lcGo k tg tt te (wipeD ρ vs) (k.ds.drop (i + 1)) S1).bind fun r S3 => finS (acc ++ r) S3) Q, ?_, fun x H2 hy => ?_⟩
    · rintro H' ⟨w2, S2, acc2, ks2, L2, q⟩
      exact ⟨k.ds.length - (i + 1), by omega, w2, S2, acc2, ks2, L2, rfl, hlt, q⟩
    · obtain ⟨e2, s2, rx⟩ := g2 x H2 hy
      have hL1 : D0 ∉ w1.m := (s1.priv D0 hq).1
      cases ha : tg.asg k.ds[i] (wipeD ρ vs) S1 with
      | none => rw [ha] at p1; exact p1.elim
      | some ρ2 =>
        rw [ha] at p1
        dsimp only at p1
        refine ⟨w1, S1, wipeD ρ vs, k.ds[i], ρ2, s2, r1.mono e2, rx, ha, fun σ2 r2 wp => ⟨?_, ?_⟩⟩
        · rw [wp vs hv, wipe_wipe]
        · refine ⟨w1, S1, ρ2, s2, r2, ?_⟩
          cases hb : tt ρ2 S1 with
          | ex e S3 => rw [hb] at p1; exact p1.elim
          | no => rw [hb] at p1; exact p1.elim
          | ok b S3 =>
            rw [hb] at p1
            simp only [R.nox_ok, R.bind_ok] at p1
            intro w3 H3 b' e3 s3 rb
            cases rb
            have e23 := e2.trans e3
            have hx3 : H3 D0 = some (SetTO P ww D0 L) := e23.keep _ _ hx hL1
            have hq3 : D0 ∈ w3.q := e23.q D0 hq
            by_cases hbt : b = true
            · rw [if_pos hbt] at p1 ⊢
              refine ⟨w3, S3, ρ2, s3, r2.mono e3, ?_⟩
              cases hc : te ρ2 S3 with
              | ex e S3 => rw [hc] at p1; exact p1.elim
              | no => rw [hc] at p1; exact p1.elim
              | ok y S4 =>
                rw [hc] at p1
                simp only [R.nox_ok, R.bind_ok, R.bind_assoc] at p1
                intro w4 H4 v e4 s4 rv
                have hL3 : D0 ∉ w3.m := (s3.priv D0 hq3).1
                have hx4 : H4 D0 = some (SetTO P ww D0 L) := e4.keep _ _ hx3 hL3
                have hq4 : D0 ∈ w4.q := e4.q D0 hq3
                have e24 := e23.trans e4
                -- the item is a tuple of ints, and few they are
                have tail : ∃ r S5, PostG K (RV K) W w0 H0 σ (finS (acc ++ y :: r) S5) Q := by
                  cases hr : lcGo k tg tt te (wipeD ρ vs) (k.ds.drop (i + 1)) S4 with
                  | ok r S5 =>
                    rw [hr] at p1
                    simp only [R.bind_ok] at p1
                    exact ⟨r, S5, p1⟩
                  | no => rw [hr] at p1; exact p1.elim
                  | ex e S5 => exact absurd hr (lc_noex _ _ _ _)
                obtain ⟨r, S5, pt⟩ := tail
                obtain ⟨kall, hka, hkl⟩ := fin_ok pt
                obtain ⟨k1, k2, h1, h2, rfl⟩ := tupsI_append hka
                rw [hks] at h1
                cases h1
                simp only [tupsI] at h2
                cases hy1 : tupI y with
                | none => rw [hy1] at h2; cases h2
                | some ky =>
                  cases hr1 : tupsI r with
                  | none => rw [hy1, hr1] at h2; cases h2
                  | some kr =>
                    rw [hy1, hr1] at h2
                    cases h2
                    rw [List.length_append, List.length_cons] at hkl
                    obtain ⟨xa, rfl, hsq⟩ := tupI_sq hy1 rv
                    have hL4 : ∀ p ∈ L, ∃ d, tupI d = some p.2 ∧ RV K w4 H4 d (.ref p.1) := fun p hp => let ⟨d, a, b⟩ := hL p hp; ⟨d, a, b.mono e24⟩
                    have hLs : ∀ p ∈ L, SqT K H4 p.1 (p.2.map V.int) := fun p hp => by
                      obtain ⟨d, a, b⟩ := hL4 p hp
                      obtain ⟨a2, e, q⟩ := tupI_sq a b
                      cases e
                      exact q
                    refine ⟨xa, ky, L, rfl, hsq, hx4, hLs, by omega, fun L' c1 c2 => ?_⟩
                    have acc2 := tupsI_snoc hks hy1
                    have p2 : PostG K (RV K) W w0 H0 σ ((lcGo k tg tt te (wipeD ρ vs) (k.ds.drop (i + 1)) S4).bind fun r S3 => finS (acc ++ [y] ++ r) S3) Q := by simpa using p1
                    rcases Classical.em (ky ∈ L.map (·.2)) with c | c
                    · have eL := c1 c
                      subst eL
                      refine ⟨w4, S4, acc ++ [y], ks ++ [ky], L', ((e1.trans e24).upx hD), s4.upx hq4 hx4 setTO_ne, (r1.mono e24).upx hq4 hx4 setTO_ne, upd_same, hq4, acc2, fun p hp => ?_, hnd, fun x => ?_, ?_, p2⟩
                      · obtain ⟨d, a, b⟩ := hL4 p hp
                        exact ⟨d, a, b.upx hq4 hx4 setTO_ne⟩
                      · rw [List.mem_append, List.mem_singleton, hmem x]
                        exact ⟨.inl, fun z => z.elim id fun e => e ▸ (hmem ky).mp c⟩
                      · rw [List.length_append, List.length_singleton]
                        omega
                    · have pm := c2 c
                      have pm2 := pm.map (·.2)
                      refine ⟨w4, S4, acc ++ [y], ks ++ [ky], L', ((e1.trans e24).upx hD), s4.upx hq4 hx4 setTO_ne, (r1.mono e24).upx hq4 hx4 setTO_ne, upd_same, hq4, acc2, fun p hp => ?_, ?_, fun x => ?_, ?_, p2⟩
                      · rcases List.mem_cons.mp (pm.mem_iff.mp hp) with rfl | hp
                        · exact ⟨y, hy1, rv.upx hq4 hx4 setTO_ne⟩
                        · obtain ⟨d, a, b⟩ := hL4 p hp
                          exact ⟨d, a, b.upx hq4 hx4 setTO_ne⟩
                      · exact pm2.nodup_iff.mpr (List.nodup_cons.mpr ⟨c, hnd⟩)
                      · rw [pm2.mem_iff, List.map_cons, List.mem_cons, List.mem_append, List.mem_singleton, hmem x]
                        exact Or.comm
                      · rw [pm.length_eq, List.length_append, List.length_singleton, List.length_cons]
                        omega
            · rw [if_neg hbt] at p1 ⊢
              exact ⟨w3, S3, acc, ks, L, e1.trans e23, s3, r1.mono e23, hx3, hq3, hks, fun p hp => let ⟨d, a, b⟩ := hL p hp; ⟨d, a, b.mono e23⟩, hnd, hmem, hle, p1⟩
  · have hi' : i = k.ds.length := Nat.le_antisymm hi hge
    subst hi'
    rw [List.drop_length] at p1
    unfold lcGo at p1
    obtain ⟨ok, p1⟩ := guardR p1
    obtain ⟨_, g2⟩ := wk w1 H1 S1 e1 s1 ok
    simp only [R.bind_ok, List.append_nil] at p1
    refine .inl ⟨g2, D0, L, rfl, hx, ?_⟩
    unfold finS at p1
    rw [hks] at p1
    simp only at p1
    split at p1
    · have el : L.length = (ndl ks).length := by
        rw [← List.length_map (·.2)]
        exact ((List.perm_ext_iff_of_nodup hnd ndl_nodup).mpr fun x => by rw [hmem x, mem_ndl]).length_eq
      rw [el]
      exact p1 ⟨w1.m, w0.q⟩ H1 _ e1.shrink (s1.shrink e1.q) (by simp only [RV])
    · exact p1.elim
section
variable {X : Cx} {W : WX} {pos p spos : Pos} {elt tg iter : Expr} {ifs : List Expr} {scope : Scope} {own : List (Str × Nat)} {fi : IF} {t : Tg} {tt : BF} {te : EF} {vs : List Nat}
theorem E_lenS (hu : X.A.units + 64 < cLine) (hm : X.mg "len" = none) (hc : X.calm = true) (hN : X.N.Nodup) (hi : PI X tg iter (tI X.K W fi)) (ok : BlkOk X.N X.env.scope scope own)
    (hg : ∀ (s : Shared) (H : Hp) (C : Addr) (cl : List (Str × Addr)) (fp : List Addr), PG (X.blk s H scope (compEnvC scope cl C X.env) fp) tg (gT X.K t)) (ht : ∀ (s : Shared) (H : Hp) (C : Addr) (cl : List (Str × Addr)) (fp : List Addr), PTs (X.blk s H scope (compEnvC scope cl C X.env) fp) ifs (tT X.K WF tt))
    (he : ∀ (s : Shared) (H : Hp) (C : Addr) (cl : List (Str × Addr)) (fp : List Addr), PE (X.blk s H scope (compEnvC scope cl C X.env) fp) elt (tE X.K WF te)) (hgl : Gl X "len" := by rfl) (hvs : own.map (·.2) = vs := by rfl) (hv : ∀ i ∈ t.slots, i ∈ vs := by decide) (hs : ∀ x, foldedSetIterable iter X.env x = pure x := by intro _; rfl)
    (na : starEach [Expr.SetComp elt [⟨tg, iter, ifs, 0⟩] scope spos] X.env = (false, eval (.SetComp elt [⟨tg, iter, ifs, 0⟩] scope spos) X.env) :: starEach [] X.env := by rfl) :
    PE X (.Call (.Name "len" p) [.SetComp elt [⟨tg, iter, ifs, 0⟩] scope spos] [] pos) (tE X.K W (eLenS fi t tt te vs)) := by
  have he := pe_scT (pos := spos) hu hc hN hi ok hg ht he hs
  refine ⟨fun pins s σ H Q I h => ?_⟩
  subst hvs
  refine Call_ (ld_blt I hgl hm PySem.boot_len ?_)
  refine PyProof.Rows.callWith_builtin1 (PyProof.Rows.args_cons (thn (he.run pins s σ H _ I (scT_of (P := X.prog) (ww := X.w) hv h)) fun v s1 ⟨x, H1, I1, r1, q1⟩ => PyProof.Rows.args_nil ?_) na) na rfl
  obtain ⟨a, L, rfl, ha, q⟩ := q1
  exact cr_lenT pins s1 σ H1 [.ref a] [v] Q I1 (.cons r1 .nil) ⟨a, L, rfl, ha, q⟩
end
end Ev

namespace Ev
open PySem PySem.Spec PyProof.Rows L2
/-! ### sorted(set(t)), t a tuple of ints -/
def ndI : List Int → List Int
  | [] => []
  | x :: xs => if x ∈ xs then ndI xs else x :: ndI xs
theorem mem_ndI {y : Int} : ∀ {xs : List Int}, y ∈ ndI xs ↔ y ∈ xs
  | [] => Iff.rfl
  | x :: xs => by
    unfold ndI
    split
    · rename_i h
      rw [mem_ndI, List.mem_cons]
      exact ⟨.inr, fun z => z.elim (fun e => e ▸ h) id⟩
    · rw [List.mem_cons, List.mem_cons, mem_ndI]
theorem ndI_nodup : ∀ {xs : List Int}, (ndI xs).Nodup
  | [] => .nil
  | x :: xs => by
    unfold ndI
    split
    · exact ndI_nodup
    · rename_i h
      exact List.nodup_cons.mpr ⟨fun z => h (mem_ndI.mp z), ndI_nodup⟩
theorem ndI_uniq {a xs : List Int} (h : a.Pairwise (· < ·)) (hm : ∀ k, k ∈ a ↔ k ∈ xs) : a = isort (ndI xs) :=
  isort_same ((List.perm_ext_iff_of_nodup (h.imp fun {x y} q e => by omega) ndI_nodup).mpr fun k => by rw [hm k, mem_ndI]) (h.imp fun {x y} q => Int.le_of_lt q)
def eSortS (fe : EF) : EF := fun ρ S => (fe ρ S).bind fun d S1 => match tupI d with
  | some is => if is.length < 64 then .ok (.lst ((isort (ndI is)).map D.int)) S1 else .no
  | none => .no
section
variable {X : Cx} {W : WX} {p p2 q pos : Pos} {a : Expr} {fe : EF}
theorem E_sortS (hc : X.calm = true) (hm : X.mg "sorted" = none) (hm2 : X.mg "set" = none) (ha : PE X a (tE X.K W fe)) (hg : Gl X "sorted" := by rfl) (hg2 : Gl X "set" := by rfl)
    (na : starEach [a] X.env = (false, eval a X.env) :: starEach [] X.env := by rfl)
    (nb : starEach [Expr.Call (.Name "set" p2) [a] [] q] X.env = (false, eval (.Call (.Name "set" p2) [a] [] q) X.env) :: starEach [] X.env := by rfl) : PE X (.Call (.Name "sorted" p) [.Call (.Name "set" p2) [a] [] q] [] pos) (tE X.K W (eSortS fe)) := by
  refine ⟨fun pins s σ H Q I h => ?_⟩
  obtain ⟨w, S, ρ, s0, re, p0⟩ := h
  have h2 : tE X.K W fe σ H (fun x H1 => ∃ (t : Addr) (is : List Int), x = .ref t ∧ SqT X.K H1 t (is.map V.int) ∧ is.length < 64 ∧ ∀ p, H1 p = none → Q (.ref p) (upd H1 p (.lst ((isort (ndI is)).map V.int)))) :=
    ⟨w, S, ρ, s0, re, PostG.bind (r := fe ρ S) p0 fun w1 H1 v d S1 e1 s1 rd p1 => by
      split at p1
      · rename_i is hi
        split at p1
        · rename_i hl
          obtain ⟨t, rfl, hs⟩ := tupI_sq hi rd
          exact ⟨t, is, rfl, hs, hl, fun p hp => p1 w1 _ _ (Ext.fresh hp) (s1.fresh hp) (RV.newLst s1 hp (.of_ints _))⟩
        · exact p1.elim
      · exact p1.elim⟩
  refine Call_ (ld_blt I hg hm boot_sorted ?_)
  refine PyProof.Rows.callWith_builtin1 (PyProof.Rows.args_cons ?_ nb) nb rfl
  refine Call_ (ld_blt I hg2 hm2 PyProof.Rows.boot_set ?_)
  refine PyProof.Rows.callWith_type1 (PyProof.Rows.args_cons (thn (ha.run pins s σ H _ I h2) fun v s1 ⟨x, H1, I1, r1, q1⟩ => PyProof.Rows.args_nil ?_) na) na rfl
  obtain ⟨t, is, rfl, hq, hl, q1⟩ := q1
  cases r1
  obtain ⟨its, rv, pt, hz⟩ := I1.tuple hq
  have hi : IntsAre its.toArray.toList is := ints_of_vals rv
  have hd := I1.ok.hd hc
  refine call_set_tupI is hd (show s1.heap.IsTuple t its.toArray from pt) hi (by unfold scanBound; omega) fun h' tk c R1 hcn k => PyProof.Rows.args_nil ?_
  have I2 : Inv X pins σ H1 { s1 with heap := h', toks := tk } := I1.kept k
  have R2 : SetR X.w ({ s1 with heap := h', toks := tk } : Shared).heap s1.heap.objs.size (fun j => decide (j ∈ is)) c := R1
  generalize ({ s1 with heap := h', toks := tk } : Shared) = s2 at I2 R2 ⊢
  refine sorted_set R2 hd (by omega) fun s' p out c2 ns kk g o hp hg3 hi2 hpw hmem hln => ?_
  have hn : H1 p = none := I2.hok.fresh hp
  have en : ns = isort (ndI is) := ndI_uniq hpw fun j => by rw [hmem j, decide_eq_true_eq]
  have hlen : (ns.map V.int).length ≤ sizeLine := by rw [List.length_map, sizeLine_eq]; omega
  have J : Inv X pins σ (upd H1 p (.lst (ns.map V.int))) { s2 with heap := s'.heap, gens := s'.gens, drawn := s'.drawn, toks := s'.toks } :=
    I2.call (ch := []) (Un.laid kk hp hn) (I2.hok.laid kk hp ⟨hlen, out.toList, c2, vals_of_ints hi2, hg3⟩) (by rw [g]; exact I2.bare) (fun _ z => nomatch z)
  have e : s' = { s2 with heap := s'.heap, gens := s'.gens, drawn := s'.drawn, toks := s'.toks } := by
    cases s'
    cases s2
    cases o
    rfl
  rw [e]
  refine ⟨.ref p, _, J, rfl, ?_⟩
  rw [en]
  exact q1 p hn
end
end Ev

namespace Ev
open PySem PySem.Spec PyProof.Rows L2
/-! ### a locked dict, wherever it is found -/
abbrev Wh := En → Sto → Option Nat
/-- the dict of a name -/
def whN (i : Nat) : Wh := fun ρ _ => match ρ[i]? with
  | some (some (D.loc n)) => some n
  | _ => none
/-- the dict of a field -/
def whF (i : Nat) (f : Str) : Wh := fun ρ S => match ρ[i]? with
  | some (some (D.loc m)) => match S[m]? with
    | some (.ins _ fs) => match lookD f fs with
      | some (.loc n) => some n
      | _ => none
    | _ => none
  | _ => none
def unlk (n : Nat) (S : Sto) : Option Sto := match S[n]? with
  | some (.fT kvs) => some (S.set n (.dT kvs))
  | _ => none
def eLockW (wh : Wh) (fe : EF) : EF := fun ρ S => match wh ρ S with
  | some n => match S[n]? with
    | some (.dT kvs) => match fe ρ (S.set n (.fT kvs)) with
      | .ok x S1 => match unlk n S1 with
        | some S2 => .ok x S2
        | none => .no
      | _ => .no
    | _ => .no
  | none => .no
def sLockW (wh : Wh) (f : SF) : SF := fun ρ S => match wh ρ S with
  | some n => match S[n]? with
    | some (.dT kvs) => match f ρ (S.set n (.fT kvs)) with
      | .nx ρ1 S1 => match unlk n S1 with
        | some S2 => .nx ρ1 S2
        | none => .no
      | .bk ρ1 S1 => match unlk n S1 with
        | some S2 => .bk ρ1 S2
        | none => .no
      | .ct ρ1 S1 => match unlk n S1 with
        | some S2 => .ct ρ1 S2
        | none => .no
      | .rt x S1 => match unlk n S1 with
        | some S2 => .rt x S2
        | none => .no
      | _ => .no
    | _ => .no
  | none => .no
section
variable {K : PySem.W.Frag} {w w1 : Wo} {H H1 : Hp} {S S1 S2 : Sto} {d : Addr} {n : Nat} {od : Obj} {vs : List (List Key × V)}
theorem unlk_ok (s1 : Sim K w1 S1 H1) (hd : H1 d = some (.frz od (.dT vs))) (hi : w1.m[n]? = some d) (h : unlk n S1 = some S2) : Sim K w1 S2 (upd H1 d (.dT vs)) := by
  unfold unlk at h
  split at h
  · rename_i kvs' hn1
    cases h
    obtain ⟨d', g1, od', vs', g2, g3⟩ := s1.at_ n _ hn1
    rw [hi] at g1
    cases g1
    rw [hd] at g2
    cases g2
    exact s1.unlock hi hd g3
  · cases h
theorem REnv.ud {ρ : En} {σ : St} (hm : d ∈ w.m) (hd : H d = some (.frz od (.dT vs))) (h : REnv K w H ρ σ) : REnv K w (upd H d (.dT vs)) ρ σ := ⟨h.1, fun i x q => let ⟨v, a, b⟩ := h.2 i x q; ⟨v, a, b.ud hm hd⟩⟩
end
section
variable {X : Cx} {W : WX} {e : Expr} {fe : EF} {st : Stmt} {f : SF}
theorem E_lockW (wh : Wh) (he : PE X e (tE X.K W fe)) : PE X e (tE X.K W (eLockW wh fe)) :=
  PE.weak (pe_lock he) fun σ H Q h => by
    obtain ⟨w, S, ρ, s, re, p⟩ := h
    unfold eLockW at p
    split at p
    · rename_i n hρ
      split at p
      · rename_i kvs hn
        obtain ⟨d, h2, vs, h3, h4⟩ := s.at_ n _ hn
        have hm := List.mem_of_getElem? h2
        have fr : Free H d := free_of h3 fun _ _ z => nomatch z
        refine ⟨d, .dT vs, h3, True.intro, fun od => ?_⟩
        have ew : Ext w H w (upd H d (.frz od (.dT vs))) := Ext.write s hm fr
        refine ⟨w, S.set n (.fT kvs), ρ, s.write h2 fr ⟨od, vs, upd_same, h4.wr s h2 fr⟩, re.mono ew, ?_⟩
        cases hf : fe ρ (S.set n (.fT kvs)) with
        | ok x S1 =>
          rw [hf] at p
          simp only at p
          intro w1 H1 b e1 s1 rb
          have hd1 := e1.frz d od _ upd_same
          refine ⟨hd1, ?_⟩
          cases hu : unlk n S1 with
          | none => rw [hu] at p; exact p.elim
          | some S2 =>
            rw [hu] at p
            simp only at p
            obtain ⟨t, ht⟩ := e1.pre
            have h21 : w1.m[n]? = some d := by rw [← ht, List.getElem?_append_left (List.getElem?_eq_some_iff.mp h2).1]; exact h2
            exact p w1 _ b (Ext.unlock hm h3 e1) (unlk_ok s1 hd1 h21 hu) (rb.ud (List.mem_of_getElem? h21) hd1)
        | ex x S1 => rw [hf] at p; exact p.elim
        | no => rw [hf] at p; exact p.elim
      · exact p.elim
    · exact p.elim
theorem S_lockW (wh : Wh) (hs : PS X st (tS X.K W f)) : PS X st (tS X.K W (sLockW wh f)) :=
  PS.weak (ps_lock hs) fun D σ H h => by
    obtain ⟨w, S, ρ, s, re, p⟩ := h
    unfold sLockW at p
    split at p
    · rename_i n hρ
      split at p
      · rename_i kvs hn
        obtain ⟨d, h2, vs, h3, h4⟩ := s.at_ n _ hn
        have hm := List.mem_of_getElem? h2
        have fr : Free H d := free_of h3 fun _ _ z => nomatch z
        refine ⟨d, .dT vs, h3, True.intro, fun od => ?_⟩
        have ew : Ext w H w (upd H d (.frz od (.dT vs))) := Ext.write s hm fr
        refine ⟨w, S.set n (.fT kvs), ρ, s.write h2 fr ⟨od, vs, upd_same, h4.wr s h2 fr⟩, re.mono ew, ?_⟩
        have pre : ∀ {w1 : Wo} {H1 : Hp}, Ext w (upd H d (.frz od (.dT vs))) w1 H1 → H1 d = some (.frz od (.dT vs)) ∧ w1.m[n]? = some d := fun {w1 H1} e1 => by
          obtain ⟨t, ht⟩ := e1.pre
          exact ⟨e1.frz d od _ upd_same, by rw [← ht, List.getElem?_append_left (List.getElem?_eq_some_iff.mp h2).1]; exact h2⟩
        cases hf : f ρ (S.set n (.fT kvs)) with
        | nx ρ1 S1 =>
          rw [hf] at p
          simp only at p
          intro w1 H1 σ1 e1 s1 r1
          obtain ⟨hd1, h21⟩ := pre e1
          refine ⟨hd1, ?_⟩
          cases hu : unlk n S1 with
          | none => rw [hu] at p; exact p.elim
          | some S2 => rw [hu] at p; exact p w1 _ σ1 (Ext.unlock hm h3 e1) (unlk_ok s1 hd1 h21 hu) (r1.ud (List.mem_of_getElem? h21) hd1)
        | bk ρ1 S1 =>
          rw [hf] at p
          simp only at p
          intro w1 H1 σ1 e1 s1 r1
          obtain ⟨hd1, h21⟩ := pre e1
          refine ⟨hd1, ?_⟩
          cases hu : unlk n S1 with
          | none => rw [hu] at p; exact p.elim
          | some S2 => rw [hu] at p; exact p w1 _ σ1 (Ext.unlock hm h3 e1) (unlk_ok s1 hd1 h21 hu) (r1.ud (List.mem_of_getElem? h21) hd1)
        | ct ρ1 S1 =>
          rw [hf] at p
          simp only at p
          intro w1 H1 σ1 e1 s1 r1
          obtain ⟨hd1, h21⟩ := pre e1
          refine ⟨hd1, ?_⟩
          cases hu : unlk n S1 with
          | none => rw [hu] at p; exact p.elim
          | some S2 => rw [hu] at p; exact p w1 _ σ1 (Ext.unlock hm h3 e1) (unlk_ok s1 hd1 h21 hu) (r1.ud (List.mem_of_getElem? h21) hd1)
        | rt x S1 =>
          rw [hf] at p
          simp only at p
          intro w1 H1 v e1 s1 r1
          obtain ⟨hd1, h21⟩ := pre e1
          refine ⟨hd1, ?_⟩
          cases hu : unlk n S1 with
          | none => rw [hu] at p; exact p.elim
          | some S2 => rw [hu] at p; exact p w1 _ v (Ext.unlock hm h3 e1) (unlk_ok s1 hd1 h21 hu) (r1.ud (List.mem_of_getElem? h21) hd1)
        | ex x ρ1 S1 => rw [hf] at p; exact p.elim
        | no => rw [hf] at p; exact p.elim
      · exact p.elim
    · exact p.elim
end
/-! ### is, of truth values -/
def oIsB : Op2 := fun x y _ => match x, y with
  | .bl a, .bl b => some (.bl (decide (a = b)))
  | _, _ => none
def oNotB : Op2 := fun x y _ => match x, y with
  | .bl a, .bl b => some (.bl (!decide (a = b)))
  | _, _ => none
theorem opS_isB {K : PySem.W.Frag} : OpS K rIsB oIsB := by
  intro w S H x y d v u Q s rx ry e k
  unfold oIsB at e
  split at e
  · cases e
    simp only [RV] at rx ry
    exact ⟨_, _, rx, ry, k w H _ .refl s (by simp only [RV])⟩
  · cases e
theorem opS_notB {K : PySem.W.Frag} : OpS K rNotB oNotB := by
  intro w S H x y d v u Q s rx ry e k
  unfold oNotB at e
  split at e
  · cases e
    simp only [RV] at rx ry
    exact ⟨_, _, rx, ry, k w H _ .refl s (by simp only [RV])⟩
  · cases e
end Ev

namespace Ev
open PySem PySem.Spec PyProof.Rows L2
/-! ### a comprehension with two sources; the list that is made is a cell of the store -/
noncomputable def lcIn (k : Wk) (tg : Tg) (tt : BF) (te : EF) (n : Nat) (ρ0 : En) : List D → Sto → R Unit
  | [], S => k.guard S .no (.ok () S)
  | d :: ds, S => k.guard S .no (match tg.asg d ρ0 S with
    | some ρ1 => (tt ρ1 S).nox.bind fun b S1 => if b = true then (te ρ1 S1).nox.bind fun y S2 => (match S2[n]? with
        | some (.lst acc) => if acc.length < sizeLine then lcIn k tg tt te n ρ0 ds (S2.set n (.lst (acc ++ [y]))) else .no
        | _ => .no)
      else lcIn k tg tt te n ρ0 ds S1
    | none => .no)
noncomputable def lcOut (k : Wk) (tg : Tg) (tt : BF) (fi1 : IF) (tg1 : Tg) (tt1 : BF) (te : EF) (n : Nat) (vs1 : List Nat) (ρ0 : En) : List D → Sto → R Unit
  | [], S => k.guard S .no (.ok () S)
  | d :: ds, S => k.guard S .no (match tg.asg d ρ0 S with
    | some ρ1 => (tt ρ1 S).nox.bind fun b S1 => if b = true then (fi1 ρ1 S1).nox.bind fun k1 S2 => (lcIn k1 tg1 tt1 te n (wipeD ρ1 vs1) k1.ds S2).bind fun _ S3 => lcOut k tg tt fi1 tg1 tt1 te n vs1 ρ0 ds S3
      else lcOut k tg tt fi1 tg1 tt1 te n vs1 ρ0 ds S1
    | none => .no)
noncomputable def eLc2 (fi : IF) (tg : Tg) (tt : BF) (fi1 : IF) (tg1 : Tg) (tt1 : BF) (te : EF) (vs vs1 : List Nat) : EF := fun ρ S => (fi ρ S).bind fun k S1 => (lcOut k tg tt fi1 tg1 tt1 te S1.length vs1 (wipeD ρ vs) k.ds (S1 ++ [.lst []])).bind fun _ S2 => .ok (.loc S1.length) S2
theorem pre_at {w w' : Wo} {H H' : Hp} {n : Nat} {L : Addr} (e : Ext w H w' H') (h : w.m[n]? = some L) : w'.m[n]? = some L := by
  obtain ⟨t, ht⟩ := e.pre
  rw [← ht, List.getElem?_append_left (List.getElem?_eq_some_iff.mp h).1]
  exact h
theorem lc_of2 {K : PySem.W.Frag} {W : WX} {fi fi1 : IF} {tg tg1 : Tg} {tt tt1 : BF} {te : EF} {vs vs1 : List Nat} {σ : St} {H : Hp} {Q : VK} (hv : ∀ i ∈ tg.slots, i ∈ vs) (hv1 : ∀ i ∈ tg1.slots, i ∈ vs1)
    (h : ∃ w S ρ, Sim K w S H ∧ REnv K w H ρ σ ∧ PostG K (RV K) W w H σ (eLc2 fi tg tt fi1 tg1 tt1 te vs vs1 ρ S) Q) :
    tLc2 (tI K W fi) (gT K tg) (tT K WF tt) (tI K WF fi1) (gT K tg1) (tT K WF tt1) (tE K WF te) vs vs1 σ H Q := by
  obtain ⟨w, S, ρ, s, re, p⟩ := h
  unfold eLc2 at p
  refine ⟨w, S, ρ, s, re, p.bind fun w0 H0 J k S0 e0 s0 wk p0 => ?_⟩
  intro L hL
  have r0 := (re.mono e0).wipe vs
  have hn : S0.length = w0.m.length := s0.len.symm
  have m0 : (w0.add L).m[S0.length]? = some L := by
    show (w0.m ++ [L])[S0.length]? = some L
    rw [hn, List.getElem?_append_right (Nat.le_refl _), Nat.sub_self]
    rfl
  refine ⟨fun i m H => ∃ w1 S1, m = k.ds.length - i ∧ i ≤ k.ds.length ∧ Ext w0 H0 w1 H ∧ Sim K w1 S1 H ∧ REnv K w1 H (wipeD ρ vs) (wipe σ vs) ∧ w1.m[S0.length]? = some L ∧
      PostG K (RV K) W w0 H0 σ ((lcOut k tg tt fi1 tg1 tt1 te S0.length vs1 (wipeD ρ vs) (k.ds.drop i) S1).bind fun _ S2 => .ok (.loc S0.length) S2) Q,
    ⟨_, w0.add L, S0 ++ [.lst []], rfl, Nat.zero_le _, Ext.alloc hL, s0.alloc (c := .lst []) hL ⟨[], upd_same, .nil⟩, r0.mono (Ext.alloc hL), m0, by simpa using p0⟩, ?_⟩
  rintro i m H1 ⟨w1, S1, rfl, hi, e1, s1, r1, hm, p1⟩
  rcases Nat.lt_or_ge i k.ds.length with hlt | hge
  · rw [List.drop_eq_getElem_cons hlt] at p1
    unfold lcOut at p1
    obtain ⟨ok, p1⟩ := guardR p1
    obtain ⟨g1, _⟩ := wk w1 H1 S1 e1 s1 ok
    obtain ⟨g1, g2⟩ := g1 i _ (List.getElem?_eq_getElem hlt)
    refine .inr ⟨g1, fun H => ∃ w1 S1, Ext w0 H0 w1 H ∧ Sim K w1 S1 H ∧ REnv K w1 H (wipeD ρ vs) (wipe σ vs) ∧ w1.m[S0.length]? = some L ∧
      PostG K (RV K) W w0 H0 σ ((lcOut k tg tt fi1 tg1 tt1 te S0.length vs1 (wipeD ρ vs) (k.ds.drop (i + 1)) S1).bind fun _ S2 => .ok (.loc S0.length) S2) Q, ?_, fun x H2 hy => ?_⟩
    · rintro H' ⟨w2, S2, q⟩
      exact ⟨k.ds.length - (i + 1), by omega, w2, S2, rfl, hlt, q⟩
    · obtain ⟨e2, s2, rx⟩ := g2 x H2 hy
      cases ha : tg.asg k.ds[i] (wipeD ρ vs) S1 with
      | none => rw [ha] at p1; exact p1.elim
      | some ρ2 =>
        rw [ha] at p1
        dsimp only at p1
        refine ⟨w1, S1, wipeD ρ vs, k.ds[i], ρ2, s2, r1.mono e2, rx, ha, fun σ2 r2 wp => ⟨?_, ?_⟩⟩
        · rw [wp vs hv, wipe_wipe]
        · refine ⟨w1, S1, ρ2, s2, r2, ?_⟩
          cases hb : tt ρ2 S1 with
          | ex e S3 => rw [hb] at p1; exact p1.elim
          | no => rw [hb] at p1; exact p1.elim
          | ok b S3 =>
            rw [hb] at p1
            simp only [R.nox_ok, R.bind_ok] at p1
            intro w3 H3 b' e3 s3 rb
            cases rb
            have e23 := e2.trans e3
            by_cases hbt : b = true
            · rw [if_pos hbt] at p1 ⊢
              refine ⟨w3, S3, ρ2, s3, r2.mono e3, ?_⟩
              cases hc : fi1 ρ2 S3 with
              | ex e S3 => rw [hc] at p1; exact p1.elim
              | no => rw [hc] at p1; exact p1.elim
              | ok k1 S4 =>
                rw [hc] at p1
                simp only [R.nox_ok, R.bind_ok, R.bind_assoc] at p1
                intro w4 H4 J1 e4 s4 wk1
                have e24 := e23.trans e4
                have ri := ((r2.mono e3).mono e4).wipe vs1
                refine ⟨fun j m H => ∃ w5 S5, m = k1.ds.length - j ∧ j ≤ k1.ds.length ∧ Ext w0 H0 w5 H ∧ Ext w4 H4 w5 H ∧ Sim K w5 S5 H ∧ REnv K w5 H (wipeD ρ vs) (wipe σ vs) ∧ REnv K w5 H (wipeD ρ2 vs1) (wipe σ2 vs1) ∧ w5.m[S0.length]? = some L ∧
                    PostG K (RV K) W w0 H0 σ ((lcIn k1 tg1 tt1 te S0.length (wipeD ρ2 vs1) (k1.ds.drop j) S5).bind fun _ S3 => (lcOut k tg tt fi1 tg1 tt1 te S0.length vs1 (wipeD ρ vs) (k.ds.drop (i + 1)) S3).bind fun _ S2 => .ok (.loc S0.length) S2) Q,
                  ⟨_, w4, S4, rfl, Nat.zero_le _, e1.trans e24, .refl, s4, r1.mono e24, ri, pre_at e24 hm, by simpa using p1⟩, ?_⟩
                rintro j m H5 ⟨w5, S5, rfl, hj, f1, f4, s5, ro, rn, hm5, p5⟩
                rcases Nat.lt_or_ge j k1.ds.length with jlt | jge
                · rw [List.drop_eq_getElem_cons jlt] at p5
                  unfold lcIn at p5
                  obtain ⟨ok5, p5⟩ := guardR p5
                  obtain ⟨g5, _⟩ := wk1 w5 H5 S5 f4 s5 ok5
                  obtain ⟨g5, g6⟩ := g5 j _ (List.getElem?_eq_getElem jlt)
                  refine .inr ⟨g5, fun H => ∃ w5 S5, Ext w0 H0 w5 H ∧ Ext w4 H4 w5 H ∧ Sim K w5 S5 H ∧ REnv K w5 H (wipeD ρ vs) (wipe σ vs) ∧ REnv K w5 H (wipeD ρ2 vs1) (wipe σ2 vs1) ∧ w5.m[S0.length]? = some L ∧
                    PostG K (RV K) W w0 H0 σ ((lcIn k1 tg1 tt1 te S0.length (wipeD ρ2 vs1) (k1.ds.drop (j + 1)) S5).bind fun _ S3 => (lcOut k tg tt fi1 tg1 tt1 te S0.length vs1 (wipeD ρ vs) (k.ds.drop (i + 1)) S3).bind fun _ S2 => .ok (.loc S0.length) S2) Q, ?_, fun x H6 hy6 => ?_⟩
                  · rintro H' ⟨w2, S2, q⟩
                    exact ⟨k1.ds.length - (j + 1), by omega, w2, S2, rfl, jlt, q⟩
                  · obtain ⟨e6, s6, rx6⟩ := g6 x H6 hy6
                    cases ha1 : tg1.asg k1.ds[j] (wipeD ρ2 vs1) S5 with
                    | none => rw [ha1] at p5; exact p5.elim
                    | some ρ3 =>
                      rw [ha1] at p5
                      dsimp only at p5
                      refine ⟨w5, S5, wipeD ρ2 vs1, k1.ds[j], ρ3, s6, rn.mono e6, rx6, ha1, fun σ3 r3 wp3 => ⟨?_, ?_⟩⟩
                      · rw [wp3 vs1 hv1, wipe_wipe]
                      · refine ⟨w5, S5, ρ3, s6, r3, ?_⟩
                        cases hb1 : tt1 ρ3 S5 with
                        | ex e S3 => rw [hb1] at p5; exact p5.elim
                        | no => rw [hb1] at p5; exact p5.elim
                        | ok b1 S7 =>
                          rw [hb1] at p5
                          simp only [R.nox_ok, R.bind_ok] at p5
                          intro w7 H7 b1' e7 s7 rb1
                          cases rb1
                          have e67 := e6.trans e7
                          by_cases hbt1 : b1 = true
                          · rw [if_pos hbt1] at p5 ⊢
                            refine ⟨w7, S7, ρ3, s7, r3.mono e7, ?_⟩
                            cases hd : te ρ3 S7 with
                            | ex e S3 => rw [hd] at p5; exact p5.elim
                            | no => rw [hd] at p5; exact p5.elim
                            | ok y S8 =>
                              rw [hd] at p5
                              simp only [R.nox_ok, R.bind_ok] at p5
                              intro w8 H8 v e8 s8 rv
                              have e68 := e67.trans e8
                              have hm8 := pre_at e68 hm5
                              cases hS : S8[S0.length]? with
                              | none => rw [hS] at p5; exact p5.elim
                              | some c =>
                                rw [hS] at p5
                                cases c with
                                | lst acc =>
                                  dsimp only at p5
                                  by_cases hz : acc.length < sizeLine
                                  · rw [if_pos hz] at p5
                                    obtain ⟨a, a1, xs, a2, a3⟩ := s8.at_ _ _ hS
                                    rw [hm8] at a1
                                    cases a1
                                    have fr : Free H8 L := free_of a2 fun _ _ z => nomatch z
                                    have ew : Ext w8 H8 w8 (upd H8 L (.lst (xs ++ [v]))) := Ext.write s8 (List.mem_of_getElem? hm8) fr
                                    refine ⟨xs, a2, by rw [← a3.length]; exact hz, w8, _, f1.trans (e68.trans ew), f4.trans (e68.trans ew), s8.write (c := .lst (acc ++ [y])) hm8 fr ⟨xs ++ [v], upd_same, (a3.snoc rv).mono ew⟩, ro.mono (e68.trans ew), rn.mono (e68.trans ew), hm8, p5⟩
                                  · rw [if_neg hz] at p5; exact p5.elim
                                | dK _ => exact p5.elim
                                | dT _ => exact p5.elim
                                | fT _ => exact p5.elim
                                | ins _ _ => exact p5.elim
                          · rw [if_neg hbt1] at p5 ⊢
                            exact ⟨w7, S7, f1.trans e67, f4.trans e67, s7, ro.mono e67, rn.mono e67, pre_at e67 hm5, p5⟩
                · have hj' : j = k1.ds.length := Nat.le_antisymm hj jge
                  subst hj'
                  rw [List.drop_length] at p5
                  unfold lcIn at p5
                  obtain ⟨ok5, p5⟩ := guardR p5
                  obtain ⟨_, g6⟩ := wk1 w5 H5 S5 f4 s5 ok5
                  exact .inl ⟨g6, w5, S5, f1, s5, ro, hm5, p5⟩
            · rw [if_neg hbt] at p1 ⊢
              exact ⟨w3, S3, e1.trans e23, s3, r1.mono e23, pre_at e23 hm, p1⟩
  · have hi' : i = k.ds.length := Nat.le_antisymm hi hge
    subst hi'
    rw [List.drop_length] at p1
    unfold lcOut at p1
    obtain ⟨ok, p1⟩ := guardR p1
    obtain ⟨_, g2⟩ := wk w1 H1 S1 e1 s1 ok
    exact .inl ⟨g2, p1 w1 H1 (.ref L) e1 s1 (by simp only [RV]; exact ⟨L, rfl, hm⟩)⟩
section
variable {X : Cx} {W : WX} {pos : Pos} {elt tg iter tg1 iter1 : Expr} {ifs ifs1 : List Expr} {scope : Scope} {own : List (Str × Nat)} {fi fi1 : IF} {t t1 : Tg} {tt tt1 : BF} {te : EF} {vs vs1 : List Nat}
theorem E_lc2 (hc : X.calm = true) (hN : X.N.Nodup) (hi : PI X tg iter (tI X.K W fi)) (ok : BlkOk X.N X.env.scope scope own)
    (hg : ∀ (s : Shared) (H : Hp) (C : Addr) (cl : List (Str × Addr)) (fp : List Addr), PG (X.blk s H scope (compEnvC scope cl C X.env) fp) tg (gT X.K t)) (ht : ∀ (s : Shared) (H : Hp) (C : Addr) (cl : List (Str × Addr)) (fp : List Addr), PTs (X.blk s H scope (compEnvC scope cl C X.env) fp) ifs (tT X.K WF tt))
    (hi1 : ∀ (s : Shared) (H : Hp) (C : Addr) (cl : List (Str × Addr)) (fp : List Addr), PI (X.blk s H scope (compEnvC scope cl C X.env) fp) tg1 iter1 (tI X.K WF fi1))
    (hg1 : ∀ (s : Shared) (H : Hp) (C : Addr) (cl : List (Str × Addr)) (fp : List Addr), PG (X.blk s H scope (compEnvC scope cl C X.env) fp) tg1 (gT X.K t1)) (ht1 : ∀ (s : Shared) (H : Hp) (C : Addr) (cl : List (Str × Addr)) (fp : List Addr), PTs (X.blk s H scope (compEnvC scope cl C X.env) fp) ifs1 (tT X.K WF tt1))
    (he : ∀ (s : Shared) (H : Hp) (C : Addr) (cl : List (Str × Addr)) (fp : List Addr), PE (X.blk s H scope (compEnvC scope cl C X.env) fp) elt (tE X.K WF te)) (hvs : own.map (·.2) = vs := by rfl) (hv : ∀ i ∈ t.slots, i ∈ vs := by decide) (hv1 : ∀ i ∈ t1.slots, i ∈ vs1 := by decide) (hv2 : ∀ i ∈ vs1, i ∈ vs := by decide) (hs : ∀ x, foldedSetIterable iter X.env x = pure x := by intro _; rfl) (hs1 : ∀ env x, foldedSetIterable iter1 env x = pure x := by intro _ _; rfl) :
    PE X (.ListComp elt [⟨tg, iter, ifs, 0⟩, ⟨tg1, iter1, ifs1, 0⟩] scope pos) (tE X.K W (eLc2 fi t tt fi1 t1 tt1 te vs vs1)) :=
  PE.weak (pe_lc2 (vs1 := vs1) hc hN hi ok (by rw [hvs]; exact hv2) hg ht hi1 hg1 ht1 he hs hs1) fun σ H Q h => by subst hvs; exact lc_of2 hv hv1 h
end
end Ev

namespace Ev
open PySem PySem.Spec PyProof.Rows L2
/-! ### list + list, to be changed: the list goes to the store -/
noncomputable def eAddA (fa fb : EF) : EF := fun ρ S => (fa ρ S).bind fun x S1 => (fb ρ S1).bind fun y S2 => match lstX S2 x, lstX S2 y with
  | some a, some b => if a.length + b.length ≤ sizeLine then .ok (.loc S2.length) (S2 ++ [.lst (a ++ b)]) else .no
  | _, _ => .no
section
variable {X : Cx} {W : WX} {pos : Pos} {a b : Expr} {fa fb : EF}
theorem E_addA (ha : PE X a (tE X.K W fa)) (hb : PE X b (tE X.K W fb)) : PE X (.BinOp a .Add b pos) (tE X.K W (eAddA fa fb)) :=
  PE.weak (pe_op op_cat ha hb) fun σ H Q h => by
    obtain ⟨w, S, ρ, s, re, p⟩ := h
    refine ⟨w, S, ρ, s, re, p.bind fun w1 H1 v x S1 e1 s1 rx p1 => ?_⟩
    refine ⟨w1, S1, ρ, s1, re.mono e1, p1.bind fun w2 H2 u y S2 e2 s2 ry p2 => ?_⟩
    cases hx : lstX S2 x with
    | none => rw [hx] at p2; exact p2.elim
    | some l =>
      cases hy : lstX S2 y with
      | none => rw [hx, hy] at p2; exact p2.elim
      | some m =>
        rw [hx, hy] at p2
        dsimp only at p2
        by_cases hz : l.length + m.length ≤ sizeLine
        · rw [if_pos hz] at p2
          obtain ⟨a1, xs, x1, x2, x3⟩ := lstX_sq s2 (rx.mono e2) hx
          obtain ⟨a2, ys, y1, y2, y3⟩ := lstX_sq s2 ry hy
          have r := RVs.append x3 y3
          exact ⟨a1, a2, xs, ys, x1, y1, x2, y2, by rw [← x3.length, ← y3.length]; exact hz, fun q hq => p2 (w2.add q) _ _ (Ext.alloc hq) (s2.alloc hq (RC.newLst hq r)) (RV.newLoc s2.len)⟩
        · rw [if_neg hz] at p2; exact p2.elim
theorem eAddA_ok {fa fb : EF} {ρ : En} {S S1 S2 : Sto} {x y : D} {l m : List D} (h1 : fa ρ S = .ok x S1) (h2 : fb ρ S1 = .ok y S2) (hx : lstX S2 x = some l) (hy : lstX S2 y = some m) (hz : l.length + m.length ≤ sizeLine) : eAddA fa fb ρ S = .ok (.loc S2.length) (S2 ++ [.lst (l ++ m)]) := by
  unfold eAddA
  rw [h1]
  simp only [R.bind_ok]
  rw [h2]
  simp only [R.bind_ok]
  rw [hx, hy]
  dsimp only
  rw [if_pos hz]
end
end Ev

namespace Ev
open PySem PySem.Spec PyProof.Rows L2
/-! ### tuple * int -/
theorem tuple_mul1 (l : Addr) (items : Array Value) (n : Nat) (dd : Option Addr) (sl : Array (Option Value)) (u : Tok) :
    Meets (Builtin.«tuple.__mul__» ⟨[.ref l, .int 1 u], []⟩) (fun _ R s => s.heap.get? l = some { cls := .type "tuple", dict := dd, data := .seq items n, slots := sl } ∧
      R (.ok (.ret (Value.ref l))) { s with heap := s.heap, toks := s.toks }) :=
  .of_wp fun prog w A R s h => by
    obtain ⟨hp, g, d, tk, os⟩ := s
    obtain ⟨hl, h⟩ := h
    have f1 := AutoSeq1.idx_int
    have c0 : (decide ((1 : Int) < -(2 ^ 63)) || decide ((1 : Int) ≥ 2 ^ 63)) = false := by decide
    have c1 : (items.isEmpty || (1 : Int) == 1) = true := by rw [show ((1 : Int) == 1) = true from rfl, Bool.or_true]
    wp_walk using wpAny_loadPart' hl
    repeat (first
      | (refine wpAny_ite_false (decide_eq_false (by rw [c0]; exact Bool.false_ne_true)) ?_; wp_walk using wpAny_loadPart' hl)
      | (refine wpAny_ite_true (decide_eq_true c1) ?_; wp_walk using wpAny_loadPart' hl))
    exact ⟨_, rfl, h⟩
def rRep1 (K : PySem.W.Frag) : R2 := fun x y H Q => ∃ l xs, x = .ref l ∧ y = .int 1 ∧ SqT K H l xs ∧ Q (.ref l) H
theorem op_rep1 {X : Cx} : OpR X (binaryOp .Mult) (rRep1 X.K) := by
  intro pins s σ H x y v u Q I rx ry h
  obtain ⟨l, xs, rfl, rfl, hT, q⟩ := h
  cases rx
  obtain ⟨t, rfl⟩ := ry
  obtain ⟨its, r, ⟨⟨cls, dd, data, sl⟩, ho, hc, n, hd⟩, hs⟩ := I.tuple hT
  simp only at hc hd
  subst hc hd
  refine wpAny_binaryOp_repeat_ref (T := "tuple") (U := "int") (by decide) ⟨_, ho, rfl⟩ (fun s' => typeIs_int s' 1 t) noFill_tuple_mul F.fills_int_mul F.slot_int_rmul repeat_tuple F.slot_int_index.lookup
    (call_meets F.slot_int_rmul (typeIs_int s 1 t) F.entry_int_rmul (F.args_int_rmul_2 _ _) (int_rmul_tuple 1 t l its.toArray n dd sl)
      ⟨ho, rfl, ⟨_, ho, rfl⟩, call_meets F.slot_tuple_mul ⟨_, ho, rfl⟩ F.entry_tuple_mul (F.args_tuple_mul_2 _ _) (tuple_mul1 l its.toArray n dd sl t) ⟨ho, ?_⟩⟩)
  exact ⟨.ref l, H, I, rfl, q⟩
def rRepA (K : PySem.W.Frag) : R2 := fun x y H Q => rRep1 K x y H Q ∨ rRepT K x y H Q
theorem op_repA {X : Cx} : OpR X (binaryOp .Mult) (rRepA X.K) := op_rep1.or op_repT
def oRepT : Op2 := fun x y _ => match tupOf x, y with
  | some ds, .int k => if k = 1 then some x else if ds ≠ [] ∧ 2 ≤ k ∧ k ≤ 1000 ∧ ds.length ≤ 1000 then some (.tup (List.replicate k.toNat ds).flatten) else none
  | _, _ => none
theorem RVs.rep {K : PySem.W.Frag} {w : Wo} {H : Hp} {ds : List D} {xs : List V} (r : RVs K w H ds xs) : ∀ m : Nat, RVs K w H (List.replicate m ds).flatten (List.replicate m xs).flatten
  | 0 => RVs.nil
  | m + 1 => by
    rw [List.replicate_succ, List.replicate_succ, List.flatten_cons, List.flatten_cons]
    exact RVs.append r (RVs.rep r m)
theorem opS_rep {K : PySem.W.Frag} : OpS K (rRepA K) oRepT := by
  intro w S H x y d v u Q s rx ry e k
  unfold oRepT at e
  cases hx : tupOf x with
  | none => rw [hx] at e; cases e
  | some ds =>
    rw [hx] at e
    obtain ⟨a, xs, rfl, ha, hr⟩ := tupOf_sq rx hx
    cases y with
    | int j =>
      simp only [RV] at ry
      subst ry
      dsimp only at e
      by_cases h1 : j = 1
      · rw [if_pos h1] at e
        cases e
        subst h1
        exact .inl ⟨a, xs, rfl, rfl, ha, k w H _ .refl s rx⟩
      · rw [if_neg h1] at e
        by_cases h2 : ds ≠ [] ∧ 2 ≤ j ∧ j ≤ 1000 ∧ ds.length ≤ 1000
        · rw [if_pos h2] at e
          cases e
          obtain ⟨a1, a2, a3, a4⟩ := h2
          have hl := hr.length
          have ne : xs ≠ [] := fun z => a1 (List.length_eq_zero_iff.mp (by rw [hl, z]; rfl))
          exact .inr ⟨a, j, xs, rfl, rfl, ha, ne, a2, a3, by omega, fun p hp => k w _ _ (Ext.fresh hp) (s.fresh hp) (RV.newTup hp (RVs.rep hr _))⟩
        · rw [if_neg h2] at e; cases e
    | _ => cases e
section
variable {X : Cx} {W : WX} {pos : Pos} {a b : Expr} {fa fb : EF}
theorem E_repT (ha : PE X a (tE X.K W fa)) (hb : PE X b (tE X.K W fb)) : PE X (.BinOp a .Mult b pos) (tE X.K W (eBin oRepT fa fb)) := E_bin op_repA opS_rep ha hb
end
theorem oRepT_ints {S : Sto} {a : Int} {n : Nat} (h1 : 1 ≤ n) (h2 : n ≤ 1000) : oRepT (.tup [.int a]) (.int (n : Nat)) S = some (.tup (List.replicate n (.int a))) := by
  unfold oRepT
  have e : ∀ m : Nat, (List.replicate m [D.int a]).flatten = List.replicate m (D.int a) := by
    intro m
    induction m with
    | zero => rfl
    | succ m ih => rw [List.replicate_succ, List.flatten_cons, ih, List.replicate_succ]; rfl
  show (if (n : Int) = 1 then some (D.tup [.int a]) else if [D.int a] ≠ [] ∧ (2 : Int) ≤ n ∧ (n : Int) ≤ 1000 ∧ [D.int a].length ≤ 1000 then some (.tup (List.replicate (n : Int).toNat [D.int a]).flatten) else none) = _
  by_cases h : n = 1
  · rw [if_pos (by omega), h]
    rfl
  · rw [if_neg (by omega), if_pos ⟨by simp, by omega, by omega, by simp only [List.length_cons, List.length_nil]; decide⟩, e, Int.toNat_natCast]
end Ev

namespace Ev
open PySem PySem.Spec PyProof.Rows L2
/-! ### sorted({.. for .. for ..}), of ints -/
abbrev SC2 (elt t0 i0 : Expr) (ifs0 : List Expr) (t1 i1 : Expr) (ifs1 : List Expr) (scope : Scope) (pos : Pos) : Expr := .SetComp elt [⟨t0, i0, ifs0, 0⟩, ⟨t1, i1, ifs1, 0⟩] scope pos
theorem turnS_out (elt t0 i0 t1 i1 : Expr) (ifs0 ifs1 : List Expr) (scope : Scope) (pos : Pos) (it acc : Value) (env : Env) :
    compTurn (SC2 elt t0 i0 ifs0 t1 i1 ifs1 scope pos) 0 it acc env = (do
      standAt i0.pos
      match ← pyNext it with
      | none => pure (.done .next)
      | some v =>
        letOwnedTupleGo t0 it v
        assign t0 env v
        let mut ok := true
        for c in ifs0 do
          if ok then ok ← isTrue c env (eval c env)
        if ok then
          let x ← eval i1 env
          standAt i1.pos
          let x ← foldedSetIterable i1 env x
          let _ ← runOwn (.compStart (SC2 elt t0 i0 ifs0 t1 i1 ifs1 scope pos) 1 (← holding [x] (pyIter x)) acc env) env
        again (.compLoop (SC2 elt t0 i0 ifs0 t1 i1 ifs1 scope pos) 0 it acc env)) := by rfl
theorem turnS_in (elt t0 i0 t1 i1 : Expr) (ifs0 ifs1 : List Expr) (scope : Scope) (pos : Pos) (it acc : Value) (env : Env) :
    compTurn (SC2 elt t0 i0 ifs0 t1 i1 ifs1 scope pos) 1 it acc env = (do
      standAt i1.pos
      match ← pyNext it with
      | none => pure (.done .next)
      | some v =>
        letOwnedTupleGo t1 it v
        assign t1 env v
        let mut ok := true
        for c in ifs1 do
          if ok then ok ← isTrue c env (eval c env)
        if ok then
          (do let v ← eval elt env; standAt elt.pos; let _ ← call (.builtin "set.add") [acc, v])
        again (.compLoop (SC2 elt t0 i0 ifs0 t1 i1 ifs1 scope pos) 1 it acc env)) := by rfl
section
variable {prog : Program} {w : World} {A : Around} {R : Result → Shared → Prop} {s : Shared} {elt t0 i0 t1 i1 : Expr} {ifs0 ifs1 : List Expr} {scope : Scope} {pos : Pos} {it acc : Value} {env : Env}
/-- what an error in the block does -/
abbrev NbX (prog : Program) (w : World) (A : Around) (env : Env) (R : Result → Shared → Prop) := notedBy (model prog w) A env fun e s' => R (.error e) s'
abbrev testsIn (ifs : List Expr) (env : Env) : Sem Bool := forIn ifs true fun c r => if r = true then do let ok ← isTrue c env (eval c env); pure (ForInStep.yield ok) else pure (ForInStep.yield r)
theorem loopS_out (hs : ∀ x, foldedSetIterable i1 env x = pure x) (I : Nat → Shared → Prop)
    (turn : ∀ n s, I n s → wpAny (model prog w) A (pyNext it) (fun r s₁ => match r with
      | none => R (.ok .next) s₁
      | some v => wpAny (model prog w) A (letOwnedTupleGo t0 it v) (fun _ s₁' => wpAny (model prog w) A (assign t0 env v) (fun _ s₂ =>
          wpAny (model prog w) A (testsIn ifs0 env) (fun ok s₃ =>
            if ok = true then wpAny (model prog w) A (eval i1 env) (fun x s₄ => wpAny (model prog w) A (pyIter x) (fun it1 s₅ =>
              codeAny (model prog w) A (.compStart (SC2 elt t0 i0 ifs0 t1 i1 ifs1 scope pos) 1 it1 acc env) (fun r s' => match r with
                | .ok _ => ∃ m, m < n ∧ I m s'
                | .error _ => False) s₅) (NbX prog w A env R) s₄) (NbX prog w A env R) s₃
            else ∃ m, m < n ∧ I m s₃) (NbX prog w A env R) s₂) (NbX prog w A env R) s₁') (NbX prog w A env R) s₁) (NbX prog w A env R) s)
    (n : Nat) (h : I n s) :
    codeAny (model prog w) A (.compLoop (SC2 elt t0 i0 ifs0 t1 i1 ifs1 scope pos) 0 it acc env) R s := by
  refine codeAny_loop rfl I (fun n s hI => ?_) n h
  show wpAny _ A ((compTurn (SC2 elt t0 i0 ifs0 t1 i1 ifs1 scope pos) 0 it acc env).onRaise (fun x => do noteFrame x env; theTreesLotGoes x)) _ _ s
  refine wpAny_noted ?_
  rw [turnS_out]
  refine wpAny_bind (wpAny_standAt (wpAny_bind (wpAny_mono (turn n s hI) (fun r s₁ h₁ => ?_) fun _ _ h' => h')))
  cases r with
  | none => exact wpAny_pure h₁
  | some v =>
    refine wpAny_bind (wpAny_mono h₁ (fun _ s₁' h₁' => wpAny_bind (wpAny_mono h₁' (fun _ s₂ h₂ => wpAny_bind (wpAny_mono h₂ (fun ok s₃ h₃ => ?_) fun _ _ h' => h')) fun _ _ h' => h')) fun _ _ h' => h')
    cases ok with
    | false => exact wpAny_pure ⟨rfl, h₃⟩
    | true =>
      refine wpAny_bind (wpAny_mono h₃ (fun x s₄ h₄ => wpAny_bind (wpAny_standAt (wpAny_bind (wpAny_of_eq (hs x) (wpAny_bind (wpAny_holding (wpAny_mono h₄ (fun it1 s₅ h₅ => ?_) fun _ _ h' => h'))))))) fun _ _ h' => h')
      refine wpAny_bind (wpAny_runOwn ?_)
      rw [Around.mark_none]
      refine codeAny_mono h₅ fun r s' hr => ?_
      cases r with
      | ok f => first | exact wpAny_pure ⟨rfl, hr⟩ | exact wpAny_bind (wpAny_pure (wpAny_pure ⟨rfl, hr⟩))
      | error e => exact hr.elim
theorem loopS_in (I : Nat → Shared → Prop)
    (turn : ∀ n s, I n s → wpAny (model prog w) A (pyNext it) (fun r s₁ => match r with
      | none => R (.ok .next) s₁
      | some v => wpAny (model prog w) A (letOwnedTupleGo t1 it v) (fun _ s₁' => wpAny (model prog w) A (assign t1 env v) (fun _ s₂ =>
          wpAny (model prog w) A (testsIn ifs1 env) (fun ok s₃ =>
            if ok = true then wpAny (model prog w) A (eval elt env) (fun x s₄ =>
              wpAny (model prog w) A (call (.builtin "set.add") [acc, x]) (fun _ s₅ => ∃ m, m < n ∧ I m s₅) (NbX prog w A env R) s₄) (NbX prog w A env R) s₃
            else ∃ m, m < n ∧ I m s₃) (NbX prog w A env R) s₂) (NbX prog w A env R) s₁') (NbX prog w A env R) s₁) (NbX prog w A env R) s)
    (n : Nat) (h : I n s) :
    codeAny (model prog w) A (.compLoop (SC2 elt t0 i0 ifs0 t1 i1 ifs1 scope pos) 1 it acc env) R s := by
  refine codeAny_loop rfl I (fun n s hI => ?_) n h
  show wpAny _ A ((compTurn (SC2 elt t0 i0 ifs0 t1 i1 ifs1 scope pos) 1 it acc env).onRaise (fun x => do noteFrame x env; theTreesLotGoes x)) _ _ s
  refine wpAny_noted ?_
  rw [turnS_in]
  refine wpAny_bind (wpAny_standAt (wpAny_bind (wpAny_mono (turn n s hI) (fun r s₁ h₁ => ?_) fun _ _ h' => h')))
  cases r with
  | none => exact wpAny_pure h₁
  | some v =>
    refine wpAny_bind (wpAny_mono h₁ (fun _ s₁' h₁' => wpAny_bind (wpAny_mono h₁' (fun _ s₂ h₂ => wpAny_bind (wpAny_mono h₂ (fun ok s₃ h₃ => ?_) fun _ _ h' => h')) fun _ _ h' => h')) fun _ _ h' => h')
    cases ok with
    | false => exact wpAny_pure ⟨rfl, h₃⟩
    | true => exact wpAny_bind (wpAny_bind (wpAny_mono h₃ (fun x s₄ h₄ => wpAny_bind (wpAny_standAt (wpAny_bind (wpAny_mono h₄ (fun _ s₅ h₅ => wpAny_pure (wpAny_pure ⟨rfl, h₅⟩)) fun _ _ h' => h')))) fun _ _ h' => h'))
theorem startS1_ok (h0 : codeAny (model prog w) A (.compLoop (SC2 elt t0 i0 ifs0 t1 i1 ifs1 scope pos) 1 it acc env) R s)
    (h : wpAny (model prog w) A (pyIter it) (fun it' s' => codeAny (model prog w) A (.compLoop (SC2 elt t0 i0 ifs0 t1 i1 ifs1 scope pos) 1 it' acc env) R s') (NbX prog w A env R) s) :
    codeAny (model prog w) A (.compStart (SC2 elt t0 i0 ifs0 t1 i1 ifs1 scope pos) 1 it acc env) R s := by
  refine codeAny_of_tree ?_
  show wpAny _ _ ((compStart (SC2 elt t0 i0 ifs0 t1 i1 ifs1 scope pos) 1 it acc env).onRaise (fun x => do noteFrame x env; standAt theWindowsPlace)) _ _ s
  refine wpAny_notedAt ?_
  unfold compStart
  show wpAny _ _ (ask >>= _) _ _ s
  refine wpAny_bind (wpAny_askSetting (wpAny_ite ?_))
  split
  · first | exact wpAny_bind (wpAny_pure (wpAny_pure (And.intro rfl h0))) | exact wpAny_pure (And.intro rfl h0)
  · first
      | exact wpAny_bind (wpAny_rule (wpAny_bind (wpAny_standAt (wpAny_bind (wpAny_mono h (fun it' s' h' => wpAny_pure (And.intro rfl h')) fun _ _ x => x)))))
      | (refine wpAny_bind (wpAny_rule ?_); show wpAny _ _ (standAt i1.pos >>= _) _ _ s; exact wpAny_bind (wpAny_standAt (wpAny_bind (wpAny_mono h (fun it' s' h' => wpAny_pure (And.intro rfl h')) fun _ _ x => x))))
end
section
variable {X : Cx}
/-- {elt for tg in iter if .. for tg1 in iter1 if ..}, elt an int: D the new set -/
def tSc2 (W0 : World) (wi : TI) (g : TG) (tt : TT) (wi1 : TI) (g1 : TG) (tt1 : TT) (te : TE) (vs vs1 : List Nat) : TE := fun σ H Q => wi σ H fun J H1 => ∀ D, H1 D = none → ∃ W : Nat → Nat → Hp → Prop, (∃ m, W 0 m (upd H1 D (SetO W0 D (fun _ => false) 0))) ∧ ∀ i m H, W i m H →
  (J.stop i H ∧ Q (.ref D) H) ∨ (J.go i H ∧ ∃ Nx : Hp → Prop, (∀ H', Nx H' → ∃ m', m' < m ∧ W (i + 1) m' H') ∧ ∀ x H', J.yld i H x H' → g x (wipe σ vs) H' fun σ2 H2 => wipe σ2 vs = wipe σ vs ∧ tt σ2 H2 fun b H3 =>
    if b = true then wi1 σ2 H3 fun J1 H4 => ∃ W1 : Nat → Nat → Hp → Prop, (∃ m, W1 0 m H4) ∧ ∀ j k H, W1 j k H →
      (J1.stop j H ∧ Nx H) ∨ (J1.go j H ∧ ∃ Nx1 : Hp → Prop, (∀ H', Nx1 H' → ∃ k', k' < k ∧ W1 (j + 1) k' H') ∧ ∀ x H', J1.yld j H x H' → g1 x (wipe σ2 vs1) H' fun σ3 H5 => wipe σ3 vs1 = wipe σ2 vs1 ∧ tt1 σ3 H5 fun b H6 =>
        if b = true then te σ3 H6 fun y H7 => ∃ (c : Int) (T : Int → Bool) (n : Nat), y = .int c ∧ H7 D = some (SetO W0 D T n) ∧ n + 1 < scanBound ∧ Nx1 (upd H7 D (SetO W0 D (fun j => T j || decide (j = c)) (if T c = true then n else n + 1))) else Nx1 H6)
    else Nx H3)
abbrev BlkX (X : Cx) (scope : Scope) (P : Cx → Prop) : Prop := ∀ (s : Shared) (H : Hp) (C : Addr) (cl : List (Str × Addr)) (fp : List Addr), P (X.blk s H scope (compEnvC scope cl C X.env) fp)
theorem sc2_core {pins : List (Addr × Obj)} {s : Shared} {σ : St} {H : Hp} {Q : VK} {elt tg iter tg1 iter1 : Expr} {ifs ifs1 : List Expr} {scope : Scope} {own : List (Str × Nat)} {vs1 : List Nat} {pos pos' : Pos} {wi wi1 : TI} {g g1 : TG} {tt tt1 : TT} {te : TE} {use : Option (Value → Sem Unit)} {Qf : Value → Shared → Prop}
    (hc : X.calm = true) (hN : X.N.Nodup) (I : Inv X pins σ H s) (hi : PI X tg iter wi) (ok : BlkOk X.N X.env.scope scope own) (hv : ∀ i ∈ vs1, i ∈ own.map (·.2))
    (hg : BlkX X scope fun B => PG B tg g) (ht : BlkX X scope fun B => PTs B ifs tt) (he : BlkX X scope fun B => PE B elt te) (hs : ∀ x, foldedSetIterable iter X.env x = pure x)
    (hi1 : BlkX X scope fun B => PI B tg1 iter1 wi1) (hg1 : BlkX X scope fun B => PG B tg1 g1) (ht1 : BlkX X scope fun B => PTs B ifs1 tt1) (hs1 : ∀ env x, foldedSetIterable iter1 env x = pure x)
    (h : tSc2 X.w wi g tt wi1 g1 tt1 te (own.map (·.2)) vs1 σ H Q)
    (hRR : ∀ D C s' m H', Inv X pins σ H' s' → Q (.ref D) H' → s'.heap.Ns C m → FpOk X pins H' C → compPost (model X.prog X.w) X.A X.xe use Qf (.ref D) C (.ok .next) s') :
    wpAny (model X.prog X.w) X.A (comprehension (SC2 elt tg iter ifs tg1 iter1 ifs1 scope pos) scope X.env pos' (newSet (.type "set")) false (eval iter X.env) use) Qf X.xe s := by
  have hfree : ∀ y ∈ scope.names, y.2 = .free → ∃ c, X.env.cells.lookup y.1 = some c := fun y hy e => (ok.free y hy e).elim (fun k => I.ok.has _ (.inl k)) fun k => I.ok.has _ (.inr k)
  refine wpAny_comprehension_free (use := use) rfl hs (closure_ok hfree) ok.kind (fun y hy e => by rw [ok.uniq y hy, e])
    (thn (hi.run pins s σ H _ I h) fun xv s1 hx => thn hx fun itv s2 h2 => ?_)
  obtain ⟨it, fp, tn, J, H2, e, I2, T, st2, f2, q⟩ := h2
  subst e
  refine PpSet.newSet_ok (newEnv_comp ?_)
  generalize hD : s2.heap.objs.size = D
  have hDn : H2 D = none := I2.hok.fresh (Nat.le_of_eq hD)
  obtain ⟨W, ⟨m0, w0⟩, turn⟩ := q D hDn
  generalize hs3 : ({ s2 with heap := s2.heap.push { cls := .type "set", dict := none, data := .set #[] 0 (.fresh 0 0 (!X.w.params.followText "set-order")) } } : Shared) = s3
  have I3 : Inv X pins σ (upd H2 D (SetO X.w D (fun _ => false) 0)) s3 := by
    rw [← hs3]
    refine I2.laid (t' := s2.toks) (fun b o e => Heap.get?_push_of_some _ e) (Nat.le_of_eq hD) ?_
    rw [← hD]
    exact setO_new (setR_fresh X.w)
  have h3 : s3.heap = s2.heap.push { cls := .type "set", dict := none, data := .set #[] 0 (.fresh 0 0 (!X.w.params.followText "set-order")) } := by rw [← hs3]
  have f3 : ∀ b ∈ fp, FpOk X pins (upd H2 D (SetO X.w D (fun _ => false) 0)) b ∧ b < s3.heap.objs.size := fun b hb => by
    obtain ⟨o, e, _⟩ := T.obj _ _ st2 b hb
    have hlt := Heap.lt_size e
    refine ⟨⟨?_, (f2 b hb).2⟩, by rw [h3, Heap.size_push]; exact Nat.lt_succ_of_lt hlt⟩
    rw [upd_ne (by rw [← hD]; exact Nat.ne_of_lt hlt)]
    exact (f2 b hb).1
  have st3 : tn 0 s3.heap := T.keep _ _ _ st2 fun b _ o e => by rw [h3]; exact Heap.get?_push_of_some _ e
  have I4 := block_start I3 ok hN f3
  have pg := hg s3 (upd H2 D (SetO X.w D (fun _ => false) 0)) s3.heap.objs.size (cellsFrom (s3.heap.objs.size + 1) scope.names (cloFrom X.env.cells scope.names [])) fp
  have pt := ht s3 (upd H2 D (SetO X.w D (fun _ => false) 0)) s3.heap.objs.size (cellsFrom (s3.heap.objs.size + 1) scope.names (cloFrom X.env.cells scope.names [])) fp
  have pe := he s3 (upd H2 D (SetO X.w D (fun _ => false) 0)) s3.heap.objs.size (cellsFrom (s3.heap.objs.size + 1) scope.names (cloFrom X.env.cells scope.names [])) fp
  have pi1 := hi1 s3 (upd H2 D (SetO X.w D (fun _ => false) 0)) s3.heap.objs.size (cellsFrom (s3.heap.objs.size + 1) scope.names (cloFrom X.env.cells scope.names [])) fp
  have pg1 := hg1 s3 (upd H2 D (SetO X.w D (fun _ => false) 0)) s3.heap.objs.size (cellsFrom (s3.heap.objs.size + 1) scope.names (cloFrom X.env.cells scope.names [])) fp
  have pt1 := ht1 s3 (upd H2 D (SetO X.w D (fun _ => false) 0)) s3.heap.objs.size (cellsFrom (s3.heap.objs.size + 1) scope.names (cloFrom X.env.cells scope.names [])) fp
  show codeAny _ _ (.compStart (SC2 elt tg iter ifs tg1 iter1 ifs1 scope pos) 0 (.ref it) (.ref D) (compEnvC scope (cellsFrom (s3.heap.objs.size + 1) scope.names (cloFrom X.env.cells scope.names [])) s3.heap.objs.size X.env)) (compPost (model X.prog X.w) X.A X.xe use Qf (.ref D) s3.heap.objs.size) { s3 with heap := pushCells (s3.heap.push { cls := .type "dict", data := .dict #[] }) scope.names }
  have nfp : ∀ b ∈ fp, (upd H2 D (SetO X.w D (fun _ => false) 0)) b = none := fun b hb => (f3 b hb).1.1
  generalize hce : compEnvC scope (cellsFrom (s3.heap.objs.size + 1) scope.names (cloFrom X.env.cells scope.names [])) s3.heap.objs.size X.env = ce at I4 pg pt pe pi1 pg1 pt1 ⊢
  have cL : ce.locals = s3.heap.objs.size := by subst hce; rfl
  generalize hH3 : upd H2 D (SetO X.w D (fun _ => false) 0) = H3 at I3 I4 pg pt pe pi1 pg1 pt1 w0 nfp f3
  generalize hs4 : ({ s3 with heap := pushCells (s3.heap.push { cls := .type "dict", data := .dict #[] }) scope.names } : Shared) = s4 at I4 ⊢
  have st4 : tn 0 s4.heap := T.keep _ _ _ st3 fun b _ o e => by rw [← hs4]; exact pushCells_keeps _ _ _ _ (Heap.get?_push_of_some _ e)
  have stat : ∀ {σ' : St} {H' : Hp} {s' : Shared}, Inv (X.blk s3 H3 scope ce fp) [] σ' H' s' → (∀ b ∈ fp, H' b = none) → ∀ b ∈ fp, FpOk (X.blk s3 H3 scope ce fp) [] H' b := fun {σ' H' s'} I' hn b hb =>
    ⟨hn b hb, (I'.ok.exf b hb).1, I'.ok.exfs b hb, .inl hb, fun x c e => (I'.ok.exf b hb).2 x c e, fun p hp => absurd (show p ∈ ([] : List (Addr × Obj)) ++ [] from hp) (by simp)⟩
  have loop : codeAny (model X.prog X.w) X.A (.compLoop (SC2 elt tg iter ifs tg1 iter1 ifs1 scope pos) 0 (.ref it) (.ref D) ce) (compPost (model X.prog X.w) X.A X.xe use Qf (.ref D) s3.heap.objs.size) s4 := by
    refine loopS_out (hs1 ce) (fun n s' => ∃ i H', Inv (X.blk s3 H3 scope ce fp) [] (wipe σ (own.map (·.2))) H' s' ∧ tn i s'.heap ∧ (∀ b ∈ fp, H' b = none) ∧ W i n H') ?_ m0 ⟨0, H3, I4, st4, nfp, w0⟩
    rintro n s5 ⟨i, H5, I5, st5, n5, w5⟩
    rcases turn i n H5 w5 with ⟨stop, qq⟩ | ⟨go, Nx, hNx, step⟩
    · refine thnF (T.done (X.blk s3 H3 scope ce fp) rfl rfl rfl hc i [] s5 _ H5 (fun _ _ => False) I5 (stat I5 n5) st5 stop) fun r s6 ⟨hr, I6⟩ => ?_
      subst hr
      have I7 : Inv X pins σ H5 s6 := I3.call' (ch := fp) I6.os I6.base I6.hok I6.bare fun b hb => ⟨(f3 b hb).1.2.2.2.1, (f3 b hb).1.2.1, (f3 b hb).1.2.2.2.2.1, (f3 b hb).1.2.2.2.2.2⟩
      have nC : H5 s3.heap.objs.size = none := by
        have z : H5 ce.locals = none := I6.free
        rw [cL] at z
        exact z
      obtain ⟨m, hn, _⟩ := I6.loc
      have hn : s6.heap.Ns ce.locals m := hn
      rw [cL] at hn
      exact hRR D s3.heap.objs.size s6 m H5 I7 qq hn (I3.fpOk (Nat.le_refl _) nC)
    · refine thnF (T.item (X.blk s3 H3 scope ce fp) rfl rfl rfl hc i [] s5 _ H5 (fun _ _ => False) I5 (stat I5 n5) st5 go) fun r s6 ⟨u, hr, h6⟩ => ?_
      subst hr
      refine thnF h6 fun _ s7 ⟨x, H7, I7, r7, y7, st7, n7⟩ => ?_
      have I7' := I7.pinned (stat I7 n7) (T.obj _ _ st7)
      refine thnF (pg.run _ s7 _ H7 x u _ I7' r7 (step x H7 y7)) fun _ s8 ⟨σ8, H8, I8, hw8, q8⟩ => ?_
      refine thnF (pt.run _ s8 σ8 H8 _ I8 q8) fun b s9 ⟨H9, I9, q9⟩ => ?_
      have fin : ∀ {σ9 : St} {s' : Shared} {H' : Hp}, Inv (X.blk s3 H3 scope ce fp) ([] ++ pinsAt fp s7.heap) σ9 H' s' → (wipe σ (own.map (·.2))).length = σ9.length → (∀ (j : Nat) v, (wipe σ (own.map (·.2)))[j]? = some (some v) → σ9[j]? = some (some v)) → Nx H' →
          ∃ m, m < n ∧ ∃ i H', Inv (X.blk s3 H3 scope ce fp) [] (wipe σ (own.map (·.2))) H' s' ∧ tn i s'.heap ∧ (∀ b ∈ fp, H' b = none) ∧ W i m H' := fun {σ9 s' H'} I' hl hk nx => by
        obtain ⟨m', hm, w'⟩ := hNx H' nx
        have pin' : ∀ b ∈ fp, ∀ o, s7.heap.get? b = some o → s'.heap.get? b = some o ∧ H' b = none := fun b hb o e =>
          let z := I'.pin (b, o) (List.mem_append_right _ (List.mem_append_right _ (mem_pinsAt hb e)))
          ⟨z.1, z.2.1⟩
        refine ⟨m', hm, i + 1, H', (I'.unpinned (pins := [])).weak hl hk, T.keep _ _ _ st7 fun b hb o e => (pin' b hb o e).1, fun b hb => ?_, w'⟩
        obtain ⟨o, e, _⟩ := T.obj _ _ st7 b hb
        exact (pin' b hb o e).2
      have hl8 : (wipe σ (own.map (·.2))).length = σ8.length := by rw [← hw8, wipe_length]
      have hk9 : ∀ (j : Nat) v, (wipe σ (own.map (·.2)))[j]? = some (some v) → (wipe σ8 vs1)[j]? = some (some v) := fun j v e => by
        rw [← hw8] at e
        obtain ⟨e1, e2⟩ := wipe_some e
        rw [wipe_out fun z => e2 (hv j z)]
        exact e1
      cases b with
      | false =>
        simp only [Bool.false_eq_true, if_false] at q9 ⊢
        exact fin I9 hl8 (fun j v e => by rw [← hw8] at e; exact (wipe_some e).1) q9
      | true =>
        simp only [if_true] at q9 ⊢
        refine thnF (pi1.run _ s9 σ8 H9 _ I9 q9) fun xv s10 hx => thnF hx fun itv s11 h11 => ?_
        obtain ⟨it1, fp1, tn1, J1, H11, e1, I11, T1, st11, f11, W1, ⟨m1, w1⟩, turn1⟩ := h11
        subst e1
        have stat1 : ∀ {H' : Hp}, (∀ b ∈ fp1, H' b = none) → ∀ b ∈ fp1, FpOk (X.blk s3 H3 scope ce fp) ([] ++ pinsAt fp s7.heap) H' b := fun hn b hb => ⟨hn b hb, (f11 b hb).2⟩
        have loop1 : codeAny (model X.prog X.w) X.A (.compLoop (SC2 elt tg iter ifs tg1 iter1 ifs1 scope pos) 1 (.ref it1) (.ref D) ce)
            (fun r s' => match r with
              | .ok _ => ∃ m, m < n ∧ ∃ i H', Inv (X.blk s3 H3 scope ce fp) [] (wipe σ (own.map (·.2))) H' s' ∧ tn i s'.heap ∧ (∀ b ∈ fp, H' b = none) ∧ W i m H'
              | .error _ => False) s11 := by
          refine loopS_in (fun k s' => ∃ j H', Inv (X.blk s3 H3 scope ce fp) ([] ++ pinsAt fp s7.heap) (wipe σ8 vs1) H' s' ∧ tn1 j s'.heap ∧ (∀ b ∈ fp1, H' b = none) ∧ W1 j k H') ?_ m1 ⟨0, H11, I11.weak (wipe_length _ _) (fun j v e => (wipe_some e).1), st11, fun b hb => (f11 b hb).1, w1⟩
          rintro k s12 ⟨j, H12, I12, st12, n12, w12⟩
          rcases turn1 j k H12 w12 with ⟨stop1, nx1⟩ | ⟨go1, Nx1, hNx1, step1⟩
          · refine thnF (T1.done (X.blk s3 H3 scope ce fp) rfl rfl rfl hc j _ s12 (wipe σ8 vs1) H12 (fun _ _ => False) I12 (stat1 n12) st12 stop1) fun r s13 ⟨hr, I13⟩ => ?_
            subst hr
            exact fin I13 (hl8.trans (wipe_length σ8 vs1).symm) hk9 nx1
          · refine thnF (T1.item (X.blk s3 H3 scope ce fp) rfl rfl rfl hc j _ s12 (wipe σ8 vs1) H12 (fun _ _ => False) I12 (stat1 n12) st12 go1) fun r s13 ⟨u1, hr, h13⟩ => ?_
            subst hr
            refine thnF h13 fun _ s14 ⟨x1, H14, I14, r14, y14, st14, n14⟩ => ?_
            have I14' := I14.pinned (stat1 n14) (T1.obj _ _ st14)
            refine thnF (pg1.run _ s14 (wipe σ8 vs1) H14 x1 u1 _ I14' r14 (step1 x1 H14 y14)) fun _ s15 ⟨σ15, H15, I15, hw15, q15⟩ => ?_
            refine thnF (pt1.run _ s15 σ15 H15 _ I15 q15) fun b1 s16 ⟨H16, I16, q16⟩ => ?_
            have fin1 : ∀ {s' : Shared} {H' : Hp}, Inv (X.blk s3 H3 scope ce fp) (([] ++ pinsAt fp s7.heap) ++ pinsAt fp1 s14.heap) σ15 H' s' → Nx1 H' → ∃ m, m < k ∧ ∃ j H', Inv (X.blk s3 H3 scope ce fp) ([] ++ pinsAt fp s7.heap) (wipe σ8 vs1) H' s' ∧ tn1 j s'.heap ∧ (∀ b ∈ fp1, H' b = none) ∧ W1 j m H' := fun {s' H'} I' nx => by
              obtain ⟨m', hm, w'⟩ := hNx1 H' nx
              have pin' : ∀ b ∈ fp1, ∀ o, s14.heap.get? b = some o → s'.heap.get? b = some o ∧ H' b = none := fun b hb o e =>
                let z := I'.pin (b, o) (List.mem_append_right _ (List.mem_append_right _ (mem_pinsAt hb e)))
                ⟨z.1, z.2.1⟩
              refine ⟨m', hm, j + 1, H', I'.unpinned.weak (by rw [← hw15, wipe_length]) (fun j v e => by rw [← hw15] at e; exact (wipe_some e).1), T1.keep _ _ _ st14 fun b hb o e => (pin' b hb o e).1, fun b hb => ?_, w'⟩
              obtain ⟨o, e, _⟩ := T1.obj _ _ st14 b hb
              exact (pin' b hb o e).2
            cases b1 with
            | false =>
              simp only [Bool.false_eq_true, if_false] at q16 ⊢
              exact fin1 I16 q16
            | true =>
              simp only [if_true] at q16 ⊢
              refine thnF (pe.run _ s16 σ15 H16 _ I16 q16) fun z s17 ⟨yv, H17, I17, r17, c, T0, n0, ey, hD17, hz17, nx⟩ => ?_
              subst ey
              refine thnF (mt_sadd (X := X.blk s3 H3 scope ce fp) _ s17 σ15 H17 (.ref D) [.int c] (.ref D) [z] (fun _ H' => Nx1 H') I17 rfl (.cons r17 .nil) ⟨D, c, T0, n0, rfl, rfl, hD17, hz17, nx⟩) fun u s18 ⟨_, H18, I18, _, nx18⟩ => fin1 I18 nx18
        exact startS1_ok loop1 (T1.self X.A 0 _ _ _ st11 loop1)
  exact PpSet.codeAny_compStart_set loop (T.self X.A 0 _ _ _ st4 loop)
theorem pe_sc2 {elt tg iter tg1 iter1 : Expr} {ifs ifs1 : List Expr} {scope : Scope} {own : List (Str × Nat)} {vs1 : List Nat} {pos : Pos} {wi wi1 : TI} {g g1 : TG} {tt tt1 : TT} {te : TE} (hc : X.calm = true) (hN : X.N.Nodup) (hi : PI X tg iter wi) (ok : BlkOk X.N X.env.scope scope own) (hv : ∀ i ∈ vs1, i ∈ own.map (·.2))
    (hg : BlkX X scope fun B => PG B tg g) (ht : BlkX X scope fun B => PTs B ifs tt) (hi1 : BlkX X scope fun B => PI B tg1 iter1 wi1) (hg1 : BlkX X scope fun B => PG B tg1 g1) (ht1 : BlkX X scope fun B => PTs B ifs1 tt1) (he : BlkX X scope fun B => PE B elt te)
    (hs : ∀ x, foldedSetIterable iter X.env x = pure x) (hs1 : ∀ env x, foldedSetIterable iter1 env x = pure x) :
    PE X (SC2 elt tg iter ifs tg1 iter1 ifs1 scope pos) (tSc2 X.w wi g tt wi1 g1 tt1 te (own.map (·.2)) vs1) := by
  refine ⟨fun pins s σ H Q I h => ?_⟩
  rw [PpSet.eval_SetComp]
  refine sc2_core hc hN I hi ok hv hg ht he hs hi1 hg1 ht1 hs1 h fun D C s' m H' I' q hn f => ⟨m, hn, fun h'' sb => ?_⟩
  obtain ⟨f0, f1, f2, f3, f4, f5⟩ := f
  exact ⟨.ref D, H', I'.turned (t' := s'.toks) (fun b o hb e => (sb.2 b hb).trans e) f0 f1 f3 f4 f5, rfl, q⟩
end
end Ev

namespace Ev
open PySem PySem.Spec PyProof.Rows L2
/-- the items of a set comprehension with two sources, the second one a tuple of ints -/
noncomputable def scOut (k : Wk) (tg : Tg) (tt : BF) (fe1 : EF) (tg1 : Tg) (tt1 : BF) (te : EF) (vs1 : List Nat) (ρ0 : En) : List D → Sto → R (List D)
  | [], S => k.guard S .no (.ok [] S)
  | d :: ds, S => k.guard S .no (match tg.asg d ρ0 S with
    | some ρ1 => (tt ρ1 S).nox.bind fun b S1 => if b = true then (fe1 ρ1 S1).nox.bind fun x S2 => (match tupI x with
        | some ks => (lcGo ⟨ks.map D.int, none⟩ tg1 tt1 te (wipeD ρ1 vs1) (ks.map D.int) S2).bind fun ys S3 => (scOut k tg tt fe1 tg1 tt1 te vs1 ρ0 ds S3).bind fun zs S4 => .ok (ys ++ zs) S4
        | none => .no)
      else scOut k tg tt fe1 tg1 tt1 te vs1 ρ0 ds S1
    | none => .no)
def finI : List D → Sto → R D := fun ys S => match intsOf ys with
  | some is => if is.length < 64 then .ok (.lst ((isort (ndI is)).map D.int)) S else .no
  | none => .no
noncomputable def eSortC (fi : IF) (tg : Tg) (tt : BF) (fe1 : EF) (tg1 : Tg) (tt1 : BF) (te : EF) (vs vs1 : List Nat) : EF := fun ρ S => (fi ρ S).bind fun k S1 => (scOut k tg tt fe1 tg1 tt1 te vs1 (wipeD ρ vs) k.ds S1).bind finI
theorem sc_noex {k : Wk} {tg : Tg} {tt : BF} {fe1 : EF} {tg1 : Tg} {tt1 : BF} {te : EF} {vs1 : List Nat} {ρ0 : En} : ∀ (ds : List D) (S : Sto) (e : Exn) (S' : Sto), scOut k tg tt fe1 tg1 tt1 te vs1 ρ0 ds S ≠ .ex e S'
  | [], S, e, S', q => by unfold scOut Wk.guard at q; split at q <;> cases q
  | d :: ds, S, e, S', q => by
    unfold scOut Wk.guard at q
    split at q
    · split at q
      · rename_i ρ1 _
        cases h1 : tt ρ1 S with
        | ok b S1 =>
          rw [h1] at q
          simp only [R.nox_ok, R.bind_ok] at q
          split at q
          · cases h2 : fe1 ρ1 S1 with
            | ok y S2 =>
              rw [h2] at q
              simp only [R.nox_ok, R.bind_ok] at q
              split at q
              · rename_i ks _
                cases h3 : lcGo ⟨ks.map D.int, none⟩ tg1 tt1 te (wipeD ρ1 vs1) (ks.map D.int) S2 with
                | ok r S3 =>
                  rw [h3] at q
                  simp only [R.bind_ok] at q
                  cases h4 : scOut k tg tt fe1 tg1 tt1 te vs1 ρ0 ds S3 with
                  | ok r S4 => rw [h4] at q; cases q
                  | ex e1 S4 => exact sc_noex _ _ _ _ h4
                  | no => rw [h4] at q; cases q
                | ex e1 S3 => exact lc_noex _ _ _ _ h3
                | no => rw [h3] at q; cases q
              · cases q
            | ex e1 S3 => rw [h2] at q; cases q
            | no => rw [h2] at q; cases q
          · exact sc_noex _ _ _ _ q
        | ex e1 S3 => rw [h1] at q; cases q
        | no => rw [h1] at q; cases q
      · cases q
    · cases q
theorem setO_ne {W0 : World} {a : Addr} {T : Int → Bool} {n : Nat} : ∀ xs, SetO W0 a T n ≠ .tup xs := fun xs z => by unfold SetO at z; cases z
theorem setO_nf {W0 : World} {a : Addr} {T : Int → Bool} {n : Nat} : ∀ o u, SetO W0 a T n ≠ .frz o u := fun o u z => by unfold SetO at z; cases z
theorem SqT.upx {K : PySem.W.Frag} {H : Hp} {p a : Addr} {xs : List V} {o o' : HO} (hp : H p = some o) (ho : ∀ xs, o ≠ .tup xs) (hf : ∀ d u, o ≠ .frz d u) (h : SqT K H a xs) : SqT K (upd H p o') a xs := by
  rcases h with (h | ⟨d, h⟩) | h
  · have na : a ≠ p := fun z => ho xs (Option.some.inj (hp.symm.trans (z ▸ h)))
    exact .inl (.inl (by rw [upd_ne na]; exact h))
  · have na : a ≠ p := fun z => hf d _ (Option.some.inj (hp.symm.trans (z ▸ h)))
    exact .inl (.inr ⟨d, by rw [upd_ne na]; exact h⟩)
  · exact .inr h
theorem SqT.keepE {K : PySem.W.Frag} {w w' : Wo} {H H' : Hp} {S : Sto} {a : Addr} {xs : List V} (s : Sim K w S H) (e : Ext w H w' H') (h : SqT K H a xs) : SqT K H' a xs := SqT.ext s e h
theorem intsOf_app : ∀ {a b : List D} {is : List Int}, intsOf (a ++ b) = some is → ∃ i j, intsOf a = some i ∧ intsOf b = some j ∧ is = i ++ j
  | [], b, is, h => ⟨[], is, rfl, h, rfl⟩
  | d :: a, b, is, h => by
    cases d with
    | int x =>
      simp only [List.cons_append, intsOf] at h ⊢
      cases h2 : intsOf (a ++ b) with
      | none => rw [h2] at h; cases h
      | some k2 =>
        rw [h2] at h
        cases h
        obtain ⟨q1, q2, e1, e2, rfl⟩ := intsOf_app h2
        exact ⟨x :: q1, q2, by rw [e1]; rfl, e2, rfl⟩
    | _ => cases h
theorem finI_ok {ys : List D} {S : Sto} {K : PySem.W.Frag} {W : WX} {w : Wo} {H : Hp} {σ : St} {Q : VK} (h : PostG K (RV K) W w H σ (finI ys S) Q) : ∃ is, intsOf ys = some is ∧ is.length < 64 := by
  unfold finI at h
  split at h
  · rename_i is hi
    split at h
    · rename_i hl; exact ⟨is, hi, hl⟩
    · exact h.elim
  · exact h.elim
/-- the reading of the comprehension -/
theorem sc2_of {W0 : World} {K : PySem.W.Frag} {W : WX} {fi : IF} {tg tg1 : Tg} {tt tt1 : BF} {fe1 te : EF} {vs vs1 : List Nat} {σ : St} {H : Hp} {Q : VK} (hv : ∀ i ∈ tg.slots, i ∈ vs) (hv1 : ∀ i ∈ tg1.slots, i ∈ vs1)
    (h : ∃ w S ρ, Sim K w S H ∧ REnv K w H ρ σ ∧ PostG K (RV K) W w H σ (eSortC fi tg tt fe1 tg1 tt1 te vs vs1 ρ S) Q) :
    tSc2 W0 (tI K W fi) (gT K tg) (tT K WF tt) (iTup K (tE K WF fe1)) (gT K tg1) (tT K WF tt1) (tE K WF te) vs vs1 σ H (fun x H1 => ∃ a T n, x = .ref a ∧ H1 a = some (SetO W0 a T n) ∧ n < 64 ∧
      ∀ (ns : List Int) (p : Addr), ns.Pairwise (· < ·) → (∀ k : Int, k ∈ ns ↔ T k = true) → ns.length = n → H1 p = none → Q (.ref p) (upd H1 p (.lst (ns.map V.int)))) := by
  obtain ⟨w, S, ρ, s, re, p⟩ := h
  unfold eSortC at p
  refine ⟨w, S, ρ, s, re, p.bind fun w0 H0 J k S0 e0 s0 wk p0 => ?_⟩
  intro D0 hD
  have r0 := (re.mono e0).wipe vs
  have hD0 : D0 ∉ w0.q := fun z => by
    obtain ⟨_, o, e⟩ := s0.priv D0 z
    rw [hD] at e; cases e
  refine ⟨fun i m H => ∃ w1 S1 , ∃ (is : List Int) (T : Int → Bool) (n : Nat), m = k.ds.length - i ∧ i ≤ k.ds.length ∧ Ext w0 H0 w1 H ∧ Sim K w1 S1 H ∧ REnv K w1 H (wipeD ρ vs) (wipe σ vs) ∧ H D0 = some (SetO W0 D0 T n) ∧ D0 ∈ w1.q ∧ (∀ x, T x = true ↔ x ∈ is) ∧ n ≤ is.length ∧
      PostG K (RV K) W w0 H0 σ ((scOut k tg tt fe1 tg1 tt1 te vs1 (wipeD ρ vs) (k.ds.drop i) S1).bind fun r S3 => finI (is.map D.int ++ r) S3) Q,
    ⟨_, w0.pr D0, S0, [], fun _ => false, 0, rfl, Nat.zero_le _, Ext.pr hD, s0.pr hD, r0.mono (Ext.pr hD), upd_same, List.mem_cons_self, (fun x => by simp), Nat.le_refl _, by simpa using p0⟩, ?_⟩
  rintro i m H1 ⟨w1, S1, is, T, n, rfl, hi, e1, s1, r1, hx, hq, hmem, hle, p1⟩
  rcases Nat.lt_or_ge i k.ds.length with hlt | hge
  · rw [List.drop_eq_getElem_cons hlt] at p1
    unfold scOut at p1
    obtain ⟨ok, p1⟩ := guardR p1
    obtain ⟨g1, _⟩ := wk w1 H1 S1 e1 s1 ok
    obtain ⟨g1, g2⟩ := g1 i _ (List.getElem?_eq_getElem hlt)
    refine .inr ⟨g1, fun H => ∃ w1 S1, ∃ (is : List Int) (T : Int → Bool) (n : Nat), Ext w0 H0 w1 H ∧ Sim K w1 S1 H ∧ REnv K w1 H (wipeD ρ vs) (wipe σ vs) ∧ H D0 = some (SetO W0 D0 T n) ∧ D0 ∈ w1.q ∧ (∀ x, T x = true ↔ x ∈ is) ∧ n ≤ is.length ∧
      PostG K (RV K) W w0 H0 σ ((scOut k tg tt fe1 tg1 tt1 te vs1 (wipeD ρ vs) (k.ds.drop (i + 1)) S1).bind fun r S3 => finI (is.map D.int ++ r) S3) Q, ?_, fun x H2 hy => ?_⟩
    · rintro H' ⟨w2, S2, is2, T2, n2, q⟩
      exact ⟨k.ds.length - (i + 1), by omega, w2, S2, is2, T2, n2, rfl, hlt, q⟩
    · obtain ⟨e2, s2, rx⟩ := g2 x H2 hy
      have hL1 : D0 ∉ w1.m := (s1.priv D0 hq).1
      cases ha : tg.asg k.ds[i] (wipeD ρ vs) S1 with
      | none => rw [ha] at p1; exact p1.elim
      | some ρ2 =>
        rw [ha] at p1
        dsimp only at p1
        refine ⟨w1, S1, wipeD ρ vs, k.ds[i], ρ2, s2, r1.mono e2, rx, ha, fun σ2 r2 wp => ⟨?_, ?_⟩⟩
        · rw [wp vs hv, wipe_wipe]
        · refine ⟨w1, S1, ρ2, s2, r2, ?_⟩
          cases hb : tt ρ2 S1 with
          | ex e S3 => rw [hb] at p1; exact p1.elim
          | no => rw [hb] at p1; exact p1.elim
          | ok b S3 =>
            rw [hb] at p1
            simp only [R.nox_ok, R.bind_ok] at p1
            intro w3 H3 b' e3 s3 rb
            cases rb
            have e23 := e2.trans e3
            have hx3 : H3 D0 = some (SetO W0 D0 T n) := e23.keep _ _ hx hL1
            have hq3 : D0 ∈ w3.q := e23.q D0 hq
            by_cases hbt : b = true
            · rw [if_pos hbt] at p1 ⊢
              refine ⟨w3, S3, ρ2, s3, r2.mono e3, ?_⟩
              cases hc : fe1 ρ2 S3 with
              | ex e S3 => rw [hc] at p1; exact p1.elim
              | no => rw [hc] at p1; exact p1.elim
              | ok y S4 =>
                rw [hc] at p1
                simp only [R.nox_ok, R.bind_ok] at p1
                intro w4 H4 u4 e4 s4 ry
                cases hky : tupI y with
                | none => rw [hky] at p1; exact p1.elim
                | some ks =>
                  rw [hky] at p1
                  simp only [R.bind_assoc, R.bind_ok] at p1
                  obtain ⟨a4, rfl, hsq⟩ := tupI_sq hky ry
                  refine ⟨a4, rfl, ⟨_, hsq⟩, ?_⟩
                  have hL3 : D0 ∉ w3.m := (s3.priv D0 hq3).1
                  have e24 := e23.trans e4
                  have hx4 : H4 D0 = some (SetO W0 D0 T n) := e4.keep _ _ hx3 hL3
                  have hq4 : D0 ∈ w4.q := e4.q D0 hq3
                  have ri := ((r2.mono e3).mono e4).wipe vs1
                  refine ⟨fun j m H => ∃ w5 S5, ∃ (is5 : List Int) (T5 : Int → Bool) (n5 : Nat), m = ks.length - j ∧ j ≤ ks.length ∧ Ext w0 H0 w5 H ∧ Sim K w5 S5 H ∧ REnv K w5 H (wipeD ρ vs) (wipe σ vs) ∧ REnv K w5 H (wipeD ρ2 vs1) (wipe σ2 vs1) ∧ H D0 = some (SetO W0 D0 T5 n5) ∧ D0 ∈ w5.q ∧ (∀ x, T5 x = true ↔ x ∈ is5) ∧ n5 ≤ is5.length ∧ SqT K H a4 (ks.map V.int) ∧
                      PostG K (RV K) W w0 H0 σ ((lcGo ⟨ks.map D.int, none⟩ tg1 tt1 te (wipeD ρ2 vs1) ((ks.map D.int).drop j) S5).bind fun ys S6 => (scOut k tg tt fe1 tg1 tt1 te vs1 (wipeD ρ vs) (k.ds.drop (i + 1)) S6).bind fun zs S7 => finI (is5.map D.int ++ (ys ++ zs)) S7) Q,
                    ⟨_, w4, S4, is, T, n, rfl, Nat.zero_le _, e1.trans e24, s4, r1.mono e24, ri, hx4, hq4, hmem, hle, hsq, by simpa using p1⟩, ?_⟩
                  rintro j m H5 ⟨w5, S5, is5, T5, n5, rfl, hj, f1, s5, ro, rn, hx5, hq5, hmem5, hle5, hsq5, p5⟩
                  have hL5 : D0 ∉ w5.m := (s5.priv D0 hq5).1
                  rcases Nat.lt_or_ge j ks.length with jlt | jge
                  · have jlt' : j < (ks.map D.int).length := by rw [List.length_map]; exact jlt
                    rw [List.drop_eq_getElem_cons jlt', List.getElem_map] at p5
                    unfold lcGo at p5
                    obtain ⟨_, p5⟩ := guardR p5
                    refine .inr ⟨⟨_, _, hsq5, by rw [List.getElem?_map, List.getElem?_eq_getElem jlt]; rfl⟩, fun H => ∃ w5 S5, ∃ (is5 : List Int) (T5 : Int → Bool) (n5 : Nat), Ext w0 H0 w5 H ∧ Sim K w5 S5 H ∧ REnv K w5 H (wipeD ρ vs) (wipe σ vs) ∧ REnv K w5 H (wipeD ρ2 vs1) (wipe σ2 vs1) ∧ H D0 = some (SetO W0 D0 T5 n5) ∧ D0 ∈ w5.q ∧ (∀ x, T5 x = true ↔ x ∈ is5) ∧ n5 ≤ is5.length ∧ SqT K H a4 (ks.map V.int) ∧
                      PostG K (RV K) W w0 H0 σ ((lcGo ⟨ks.map D.int, none⟩ tg1 tt1 te (wipeD ρ2 vs1) ((ks.map D.int).drop (j + 1)) S5).bind fun ys S6 => (scOut k tg tt fe1 tg1 tt1 te vs1 (wipeD ρ vs) (k.ds.drop (i + 1)) S6).bind fun zs S7 => finI (is5.map D.int ++ (ys ++ zs)) S7) Q, ?_, fun x H6 hy6 => ?_⟩
                    · rintro H' ⟨w2, S2, is2, T2, n2, q⟩
                      exact ⟨ks.length - (j + 1), by omega, w2, S2, is2, T2, n2, rfl, jlt, q⟩
                    · obtain ⟨rfl, hy6⟩ := hy6
                      have ex : x = .int ks[j] := by
                        have := hy6 _ hsq5
                        rw [List.getElem?_map, List.getElem?_eq_getElem jlt] at this
                        exact (Option.some.inj this).symm
                      subst ex
                      cases ha1 : tg1.asg (.int ks[j]) (wipeD ρ2 vs1) S5 with
                      | none => rw [ha1] at p5; exact p5.elim
                      | some ρ3 =>
                        rw [ha1] at p5
                        dsimp only at p5
                        refine ⟨w5, S5, wipeD ρ2 vs1, .int ks[j], ρ3, s5, rn, by simp only [RV], ha1, fun σ3 r3 wp3 => ⟨?_, ?_⟩⟩
                        · rw [wp3 vs1 hv1, wipe_wipe]
                        · refine ⟨w5, S5, ρ3, s5, r3, ?_⟩
                          cases hb1 : tt1 ρ3 S5 with
                          | ex e S3 => rw [hb1] at p5; exact p5.elim
                          | no => rw [hb1] at p5; exact p5.elim
                          | ok b1 S7 =>
                            rw [hb1] at p5
                            simp only [R.nox_ok, R.bind_ok] at p5
                            intro w7 H7 b1' e7 s7 rb1
                            cases rb1
                            have hx7 : H7 D0 = some (SetO W0 D0 T5 n5) := e7.keep _ _ hx5 hL5
                            have hq7 : D0 ∈ w7.q := e7.q D0 hq5
                            have hL7 : D0 ∉ w7.m := (s7.priv D0 hq7).1
                            have hsq7 := SqT.ext s5 e7 hsq5
                            by_cases hbt1 : b1 = true
                            · rw [if_pos hbt1] at p5 ⊢
                              refine ⟨w7, S7, ρ3, s7, r3.mono e7, ?_⟩
                              cases hd : te ρ3 S7 with
                              | ex e S3 => rw [hd] at p5; exact p5.elim
                              | no => rw [hd] at p5; exact p5.elim
                              | ok y S8 =>
                                rw [hd] at p5
                                simp only [R.nox_ok, R.bind_ok, R.bind_assoc] at p5
                                intro w8 H8 v e8 s8 rv
                                have e78 := e7.trans e8
                                have hx8 : H8 D0 = some (SetO W0 D0 T5 n5) := e8.keep _ _ hx7 hL7
                                have hq8 : D0 ∈ w8.q := e8.q D0 hq7
                                have hsq8 := SqT.ext s7 e8 hsq7
                                have tail : ∃ r zs S10, PostG K (RV K) W w0 H0 σ (finI (is5.map D.int ++ ((y :: r) ++ zs)) S10) Q := by
                                  cases hr : lcGo ⟨ks.map D.int, none⟩ tg1 tt1 te (wipeD ρ2 vs1) ((ks.map D.int).drop (j + 1)) S8 with
                                  | ok r S9 =>
                                    rw [hr] at p5
                                    simp only [R.bind_ok] at p5
                                    cases hr2 : scOut k tg tt fe1 tg1 tt1 te vs1 (wipeD ρ vs) (k.ds.drop (i + 1)) S9 with
                                    | ok zs S10 =>
                                      rw [hr2] at p5
                                      simp only [R.bind_ok] at p5
                                      exact ⟨r, zs, S10, p5⟩
                                    | no => rw [hr2] at p5; exact p5.elim
                                    | ex e S10 => exact absurd hr2 (sc_noex _ _ _ _)
                                  | no => rw [hr] at p5; exact p5.elim
                                  | ex e S9 => exact absurd hr (lc_noex _ _ _ _)
                                obtain ⟨r, zs, S10, pt⟩ := tail
                                obtain ⟨al, hal, hll⟩ := finI_ok pt
                                obtain ⟨i1, i2, h1, h2, rfl⟩ := intsOf_app hal
                                rw [intsOf_map] at h1
                                cases h1
                                cases y with
                                | int c =>
                                  simp only [List.cons_append, intsOf] at h2
                                  cases h3 : intsOf (r ++ zs) with
                                  | none => rw [h3] at h2; cases h2
                                  | some i3 =>
                                    rw [h3] at h2
                                    cases h2
                                    rw [List.length_append, List.length_cons] at hll
                                    simp only [RV] at rv
                                    refine ⟨c, T5, n5, rv, hx8, by unfold scanBound; omega, w8, S8, is5 ++ [c], _, _, (f1.trans e78).upx hD, s8.upx hq8 hx8 setO_ne, (ro.mono e78).upx hq8 hx8 setO_ne, (rn.mono e78).upx hq8 hx8 setO_ne, upd_same, hq8, fun x => ?_, ?_, SqT.upx hx8 setO_ne setO_nf hsq8, by simpa using p5⟩
                                    · rw [List.mem_append, List.mem_singleton, Bool.or_eq_true, hmem5 x, decide_eq_true_eq]
                                    · rw [List.length_append, List.length_singleton]
                                      split <;> omega
                                | _ => cases h2
                            · rw [if_neg hbt1] at p5 ⊢
                              exact ⟨w7, S7, is5, T5, n5, f1.trans e7, s7, ro.mono e7, rn.mono e7, hx7, hq7, hmem5, hle5, hsq7, p5⟩
                  · have hj' : j = ks.length := Nat.le_antisymm hj jge
                    subst hj'
                    have e0 : (ks.map D.int).drop ks.length = [] := by rw [← List.length_map (f := D.int) (as := ks), List.drop_length]
                    rw [e0] at p5
                    unfold lcGo at p5
                    obtain ⟨_, p5⟩ := guardR p5
                    simp only [R.bind_ok, List.nil_append] at p5
                    exact .inl ⟨⟨_, hsq5, by rw [List.length_map]; exact Nat.le_refl _⟩, w5, S5, is5, T5, n5, f1, s5, ro, hx5, hq5, hmem5, hle5, p5⟩
            · rw [if_neg hbt] at p1 ⊢
              exact ⟨w3, S3, is, T, n, e1.trans e23, s3, r1.mono e23, hx3, hq3, hmem, hle, p1⟩
  · have hi' : i = k.ds.length := Nat.le_antisymm hi hge
    subst hi'
    rw [List.drop_length] at p1
    unfold scOut at p1
    obtain ⟨ok, p1⟩ := guardR p1
    obtain ⟨_, g2⟩ := wk w1 H1 S1 e1 s1 ok
    simp only [R.bind_ok, List.append_nil] at p1
    unfold finI at p1
    rw [intsOf_map] at p1
    dsimp only at p1
    by_cases hl : is.length < 64
    · rw [if_pos hl] at p1
      refine .inl ⟨g2, D0, T, n, rfl, hx, by omega, fun ns q hpw hm _ hn => ?_⟩
      have en : ns = isort (ndI is) := ndI_uniq hpw fun x => by rw [hm x, hmem x]
      have sh := s1.shrink (q := w0.q) e1.q
      rw [en]
      exact p1 ⟨w1.m, w0.q⟩ _ _ (e1.shrink.trans (Ext.fresh hn)) (sh.fresh hn) (RV.newLst sh hn (.of_ints _))
    · rw [if_neg hl] at p1; exact p1.elim
section
variable {X : Cx} {W : WX} {pos p spos : Pos} {elt tg iter tg1 iter1 : Expr} {ifs ifs1 : List Expr} {scope : Scope} {own : List (Str × Nat)} {fi : IF} {t t1 : Tg} {tt tt1 : BF} {fe1 te : EF} {vs vs1 : List Nat}
theorem E_sortC (hm : X.mg "sorted" = none) (hc : X.calm = true) (hN : X.N.Nodup) (hi : PI X tg iter (tI X.K W fi)) (ok : BlkOk X.N X.env.scope scope own)
    (hg : BlkX X scope fun B => PG B tg (gT X.K t)) (ht : BlkX X scope fun B => PTs B ifs (tT X.K WF tt)) (he1 : BlkX X scope fun B => PE B iter1 (tE X.K WF fe1)) (hg1 : BlkX X scope fun B => PG B tg1 (gT X.K t1)) (ht1 : BlkX X scope fun B => PTs B ifs1 (tT X.K WF tt1))
    (he : BlkX X scope fun B => PE B elt (tE X.K WF te)) (hgl : Gl X "sorted" := by rfl) (hvs : own.map (·.2) = vs := by rfl) (hv : ∀ i ∈ t.slots, i ∈ vs := by decide) (hv1 : ∀ i ∈ t1.slots, i ∈ vs1 := by decide) (hv2 : ∀ i ∈ vs1, i ∈ vs := by decide)
    (hs : ∀ x, foldedSetIterable iter X.env x = pure x := by intro _; rfl) (hs1 : ∀ env x, foldedSetIterable iter1 env x = pure x := by intro _ _; rfl)
    (na : starEach [SC2 elt tg iter ifs tg1 iter1 ifs1 scope spos] X.env = (false, eval (SC2 elt tg iter ifs tg1 iter1 ifs1 scope spos) X.env) :: starEach [] X.env := by rfl) :
    PE X (.Call (.Name "sorted" p) [SC2 elt tg iter ifs tg1 iter1 ifs1 scope spos] [] pos) (tE X.K W (eSortC fi t tt fe1 t1 tt1 te vs vs1)) := by
  have he := pe_sc2 (pos := spos) (vs1 := vs1) (wi1 := iTup X.K (tE X.K WF fe1)) hc hN hi ok (by rw [hvs]; exact hv2) hg ht (fun s H C cl fp => pi_tup (he1 s H C cl fp)) hg1 ht1 he hs hs1
  refine ⟨fun pins s σ H Q I h => ?_⟩
  subst hvs
  refine Call_ (ld_blt I hgl hm boot_sorted ?_)
  refine PyProof.Rows.callWith_builtin1 (PyProof.Rows.args_cons (thn (he.run pins s σ H _ I (sc2_of (W0 := X.w) hv hv1 h)) fun v s1 ⟨x, H1, I1, r1, q1⟩ => PyProof.Rows.args_nil ?_) na) na rfl
  obtain ⟨a, T, n, rfl, ha, hl, q⟩ := q1
  exact cr_sortedSet hc pins s1 σ H1 [.ref a] [v] Q I1 (.cons r1 .nil) ⟨a, T, n, rfl, ha, hl, q⟩
end
end Ev

namespace Ev
open PySem PySem.Spec PyProof.Rows L2
/-! ### xs.index(i), ints -/
def mIndex : OpM := fun x ds S => match lstOf S x, ds with
  | some es, [.int i] => match intsOf es with
    | some is => if is.idxOf i < is.length then some (.int (is.idxOf i : Nat), S) else none
    | none => none
  | _, _ => none
theorem idx_le : ∀ {is : List Int} {m : Nat} {y : Int}, is[m]? = some y → is.idxOf y ≤ m
  | [], m, y, h => by simp at h
  | x :: is, 0, y, h => by simp at h; subst h; simp
  | x :: is, m + 1, y, h => by
    rw [List.idxOf_cons]
    have := idx_le (is := is) (m := m) (y := y) (by simpa using h)
    cases (x == y) <;> simp <;> omega
theorem methS_index {K : PySem.W.Frag} : MethS K (rIndex K) mIndex := by
  intro w S H x v ds vs d S' Q s rx rd e k
  unfold mIndex at e
  split at e
  · rename_i es i hl
    split at e
    · rename_i is hi
      split at e
      · rename_i hj
        cases e
        obtain ⟨a, xs, rfl, h2, h3⟩ := lstOf_sq s rx hl
        obtain ⟨u, rfl, ru⟩ := rd.one
        simp only [RV] at ru
        subst ru
        have e' := intsOf_eq hi
        subst e'
        rw [h3.ints] at h2
        refine ⟨a, is.map V.int, .int i, is.idxOf i, .int i, rfl, rfl, h2, rfl, flat_ints _, ?_, ?_, fun m z' hm hz => ?_, k w H _ .refl s (by simp only [RV])⟩
        · rw [List.getElem?_map, List.getElem?_eq_getElem hj, List.getElem_idxOf hj]; rfl
        · simp only [eqV, beq_self_eq_true]
        · rw [List.getElem?_map] at hz
          obtain ⟨y, hy, rfl⟩ := Option.map_eq_some_iff.mp hz
          simp only [eqV, beq_eq_false_iff_ne]
          intro q
          subst q
          have := idx_le hy
          omega
      · cases e
    · cases e
  · cases e
section
variable {X : Cx} {W : WX} {o e : Expr} {es : List Expr} {fx : EF} {fa : AF} {apos cpos : Pos}
theorem E_index (ho : PE X o (tE X.K W fx)) (ha : PA X (e :: es) (tA X.K W fa)) (hbase : attributeBase o "index" X.env (eval o X.env) = eval o X.env := by rfl)
    (hfew : ((backTo cpos (starEach (e :: es) X.env)).all (fun x => !x.1) && (backToKw cpos (keywordEach [] X.env)).all (fun x => x.1.isSome)
      && decide ((e :: es).length + ([] : List Keyword).length + (if ([] : List Keyword).isEmpty then 0 else 1) < 30)) = true := by rfl)
    (hline : (apos.endLine == cpos.line) = true := by rfl) (hst : starEach (e :: es) X.env = (false, eval e X.env) :: starEach es X.env := by rfl) (hplain : (backTo cpos (starEach es X.env)).any (·.1) = false := by rfl) :
    PE X (.Call (.Attribute o "index" apos) (e :: es) [] cpos) (tE X.K W (eLm mIndex fx fa)) :=
  E_lm PySem.F.plainAttrs_list PySem.F.slot_list_index PySem.F.type_list_index mt_index methS_index ho ha hbase hfew hline hst hplain
end
/-! ### [..] * n, to be changed: the list goes to the store -/
def eRepA (fa fb : EF) : EF := fun ρ S => (fa ρ S).bind fun x S1 => (fb ρ S1).bind fun y S2 => match lstX S2 x, y with
  | some l, .int k => if -(2 ^ 63) ≤ k ∧ k < 2 ^ 63 ∧ l.length * k.toNat ≤ sizeLine then .ok (.loc S2.length) (S2 ++ [.lst (List.replicate k.toNat l).flatten]) else .no
  | _, _ => .no
section
variable {X : Cx} {W : WX} {pos : Pos} {a b : Expr} {fa fb : EF}
theorem E_repA (ha : PE X a (tE X.K W fa)) (hb : PE X b (tE X.K W fb)) : PE X (.BinOp a .Mult b pos) (tE X.K W (eRepA fa fb)) :=
  PE.weak (pe_op op_rep ha hb) fun σ H Q h => by
    obtain ⟨w, S, ρ, s, re, p⟩ := h
    refine ⟨w, S, ρ, s, re, p.bind fun w1 H1 v x S1 e1 s1 rx p1 => ?_⟩
    refine ⟨w1, S1, ρ, s1, re.mono e1, p1.bind fun w2 H2 u y S2 e2 s2 ry p2 => ?_⟩
    cases hx : lstX S2 x with
    | none => rw [hx] at p2; exact p2.elim
    | some l =>
      rw [hx] at p2
      cases y with
      | int k =>
        dsimp only at p2
        split at p2
        · rename_i hz
          obtain ⟨a1, xs, x1, x2, x3⟩ := lstX_sq s2 (rx.mono e2) hx
          simp only [RV] at ry
          have r := x3.rep k.toNat
          exact ⟨a1, k, xs, x1, ry, x2, hz.1, hz.2.1, by rw [← x3.length]; exact hz.2.2, fun q hq => p2 (w2.add q) _ _ (Ext.alloc hq) (s2.alloc hq (RC.newLst hq r)) (RV.newLoc s2.len)⟩
        · exact p2.elim
      | _ => exact p2.elim
theorem eRepA_ok {ρ : En} {S S1 S2 : Sto} {x : D} {l : List D} {n : Nat} (h1 : fa ρ S = .ok x S1) (h2 : fb ρ S1 = .ok (.int (n : Int)) S2) (hx : lstX S2 x = some l) (hn : n ≤ 1000) (hl : l.length ≤ 1000) : eRepA fa fb ρ S = .ok (.loc S2.length) (S2 ++ [.lst (List.replicate n l).flatten]) := by
  unfold eRepA
  rw [h1]
  simp only [R.bind_ok]
  rw [h2]
  simp only [R.bind_ok]
  rw [hx]
  dsimp only
  have := Nat.mul_le_mul hl hn
  rw [if_pos (by rw [sizeLine_eq]; simp only [Int.toNat_natCast]; omega)]
  simp only [Int.toNat_natCast]
end
/-! ### {k: v, ..}, written keys -/
def eDisp (ks : List Key) (fa : AF) : EF := fun ρ S => (fa ρ (S ++ [.dK []])).bind fun ds S1 => if ds.length = ks.length ∧ ks.length ≤ 15 ∧ ks.Nodup then (match S1[S.length]? with
  | some (.dK []) => .ok (.loc S.length) (S1.set S.length (.dK (ks.zip ds)))
  | _ => .no) else .no
def PD (X : Cx) (W : WX) (pos : Pos) (keys : List (Option Expr)) (values : List Expr) (ks : List Key) (fa : AF) : Prop :=
  ∃ trs, PPs X pos keys values trs ∧ ∀ σ H (Q : List (V × V) → Hp → Prop), tA X.K W fa σ H (fun vs H' => Q ((ks.map kV).zip vs) H') → tPairs trs σ H Q
theorem merge_nd : ∀ (more acc : List (Key × V)), ((acc ++ more).map (·.1)).Nodup → mergeK acc more = acc ++ more
  | [], acc, _ => by simp [mergeK]
  | p :: r, acc, h => by
    have hp : putK acc p.1 p.2 = acc ++ [p] := by
      unfold L2.putK
      rw [if_neg]
      simp only [List.any_eq_true, decide_eq_true_eq, not_exists, not_and]
      intro q hq e
      rw [List.map_append, List.map_cons] at h
      exact (List.nodup_append.mp h).2.2 _ (List.mem_map_of_mem hq) _ List.mem_cons_self e
    show mergeK (putK acc p.1 p.2) r = _
    rw [hp, merge_nd r (acc ++ [p]) (by rw [List.append_assoc]; exact h), List.append_assoc]
    rfl
section
variable {X : Cx} {W : WX} {pos : Pos}
theorem PD_nil : PD X W pos [] [] [] aNil := ⟨[], pps_nil, fun σ H Q h => by
  obtain ⟨w, S, ρ, s, re, p⟩ := h
  exact p.ret s .nil⟩
theorem PD_cons {kE vE : Expr} {kes : List (Option Expr)} {ves : List Expr} {k : Key} {ks : List Key} {fv : EF} {fr : AF} {tk : TE} (hk : PE X kE tk) (hq : ∀ σ H Q, Q (kV k) H → tk σ H Q) (hv : PE X vE (tE X.K W fv)) (hr : PD X W pos kes ves ks fr) : PD X W pos (some kE :: kes) (vE :: ves) (k :: ks) (aCons fv fr) := by
  obtain ⟨trs, h1, h2⟩ := hr
  refine ⟨_, pps_cons hk hv h1, fun σ H Q h => ?_⟩
  obtain ⟨w, S, ρ, s, re, p⟩ := h
  refine hq σ H _ ⟨w, S, ρ, s, re, p.bind fun w1 H1 v x S1 e1 s1 rx p1 => ?_⟩
  refine h2 σ H1 _ ⟨w1, S1, ρ, s1, re.mono e1, p1.bind fun w2 H2 vs xs S2 e2 s2 rxs p2 => ?_⟩
  exact p2 w2 H2 _ .refl s2 (.cons (rx.mono e2) rxs)
theorem PD_int {i : Int} {j kp} {vE : Expr} {kes : List (Option Expr)} {ves : List Expr} {ks : List Key} {fv : EF} {fr : AF} (hv : PE X vE (tE X.K W fv)) (hr : PD X W pos kes ves ks fr) : PD X W pos (some (.Constant (.int i) j kp) :: kes) (vE :: ves) (.inl i :: ks) (aCons fv fr) := PD_cons pe_int (fun _ _ _ q => q) hv hr
theorem PD_str {x : Str} {j kp} {vE : Expr} {kes : List (Option Expr)} {ves : List Expr} {ks : List Key} {fv : EF} {fr : AF} (hv : PE X vE (tE X.K W fv)) (hr : PD X W pos kes ves ks fr) : PD X W pos (some (.Constant (.str x) j kp) :: kes) (vE :: ves) (.inr x :: ks) (aCons fv fr) := PD_cons pe_str (fun _ _ _ q => q) hv hr
theorem zip_map_kV : ∀ (ks : List Key) (vs : List V), (ks.map kV).zip vs = (ks.zip vs).map fun kv => (kV kv.1, kv.2)
  | [], _ => by simp
  | _ :: _, [] => by simp
  | k :: ks, v :: vs => by simp [zip_map_kV ks vs]
theorem zip_fst {α β : Type} : ∀ (ks : List α) (vs : List β), vs.length = ks.length → (ks.zip vs).map (·.1) = ks ∧ (ks.zip vs).map (·.2) = vs
  | [], [], _ => ⟨rfl, rfl⟩
  | k :: ks, v :: vs, h => by
    obtain ⟨a, b⟩ := zip_fst ks vs (by simpa using h)
    exact ⟨by rw [List.zip_cons_cons, List.map_cons, a], by rw [List.zip_cons_cons, List.map_cons, b]⟩
theorem E_disp {keys : List (Option Expr)} {values : List Expr} {ks : List Key} {fa : AF} (h : PD X W pos keys values ks fa) (hall : keys.all (·.isSome) = true := by rfl) (hl : keys.length = values.length := by rfl) (h0 : keys ≠ [] := by intro z; cases z) (h15 : keys.length ≤ 15 := by decide) :
    PE X (.Dict keys values pos) (tE X.K W (eDisp ks fa)) := by
  obtain ⟨trs, h1, h2⟩ := h
  refine PE.weak (pe_disp h1 hall hl h0 h15) fun σ H Q h => ?_
  obtain ⟨w, S, ρ, s, re, p⟩ := h
  intro p0 hp
  refine h2 σ _ _ ⟨w.add p0, S ++ [.dK []], ρ, s.alloc (c := .dK []) hp ⟨[], upd_same, .emp⟩, re.mono (Ext.alloc hp), (p.shift (Ext.alloc hp)).bind fun w1 H1 vs ds S1 e1 s1 rd p1 => ?_⟩
  split at p1
  · rename_i hz
    obtain ⟨z1, z2, z3⟩ := hz
    split at p1
    · rename_i hS
      have m0 : (w.add p0).m[S.length]? = some p0 := by
        show (w.m ++ [p0])[S.length]? = some p0
        rw [← s.len, List.getElem?_append_right (Nat.le_refl _), Nat.sub_self]
        rfl
      have hm1 := pre_at e1 m0
      obtain ⟨a, a1, us, a2, a3⟩ := s1.at_ _ _ hS
      rw [hm1] at a1
      cases a1
      rw [(RP.nil_iff a3).mp rfl] at a2
      have lv : vs.length = ks.length := by rw [← rd.length]; exact z1
      obtain ⟨q1, q2⟩ := zip_fst ks vs lv
      obtain ⟨q3, q4⟩ := zip_fst ks ds z1
      refine ⟨a2, ks.zip vs, zip_map_kV ks vs, by rw [List.length_zip, lv, Nat.min_self]; exact z2, ?_⟩
      have em : mergeK [] (ks.zip vs) = ks.zip vs := merge_nd (ks.zip vs) [] (by rw [List.nil_append, q1]; exact z3)
      rw [em]
      have fr : Free H1 p0 := free_of a2 fun _ _ z => nomatch z
      have ew : Ext w1 H1 w1 (upd H1 p0 (.dK (ks.zip vs))) := Ext.write s1 (List.mem_of_getElem? hm1) fr
      refine p1 w1 _ _ ew (s1.write (c := .dK (ks.zip ds)) hm1 fr ⟨_, upd_same, ⟨by rw [q1, q3], by rw [q2, q4]; exact rd.mono ew⟩⟩) (by simp only [RV]; exact ⟨p0, rfl, hm1⟩)
    · exact p1.elim
  · exact p1.elim
end
theorem eDisp_ok {ks : List Key} {fa : AF} {ρ : En} {S S1 : Sto} {ds : List D} (h : fa ρ (S ++ [.dK []]) = .ok ds S1) (h1 : ds.length = ks.length) (h2 : ks.length ≤ 15) (h3 : ks.Nodup) (h4 : S1[S.length]? = some (.dK [])) : eDisp ks fa ρ S = .ok (.loc S.length) (S1.set S.length (.dK (ks.zip ds))) := by
  unfold eDisp
  rw [h]
  simp only [R.bind_ok]
  rw [if_pos ⟨h1, h2, h3⟩, h4]
end Ev

namespace Ev
open PySem PySem.Spec PyProof.Rows L2
/-! ### super().__init__(text) in an own exception's __init__, the class below ValueError -/
structure SupX (P : Program) (K : PySem.W.Frag) (D cda cc : Addr) (file : Str) : Prop where
  code : ∃ ccl cdd vs ccs tf, K.lookup cda = some ⟨ccl, cdd, .fields vs, ccs⟩ ∧ vs[2]? = some (.str file tf)
  file : ((P.main.file : Str) == file) = true
  cell : ∃ cl cld csl, K.lookup cc = some ⟨cl, cld, .cell (some (.ref D)), csl⟩
  cls : ∃ cd, PySem.W.clsIn K D = some cd
  sub : PySem.W.mroIn K D (.ref D) = some true
  top : (P.main.scope.names.lookup ("super" : Str)).isSome = false
  tp : PySem.W.nsIn K cStatics "thirdparty.any" = some none
  up : PySem.W.ks_superIn K D D "__init__" = some (some (.builtin "ValueError.__init__"))
  ve : PySem.W.subIn K (.ref D) (.type "ValueError") = some true
  ox : OexC K D
section
variable {X : Cx} {k : Nat} {D f cda cc a : Addr} {fd : FuncData} {file : Str} {ar : Arg} {e : Expr} {es : List Expr} {t : TA} {p0 p1 apos pos epos : Pos} {body : List Stmt}
theorem super_exc {pins : List (Addr × Obj)} {s : Shared} {σ : L2.St} {H : Hp} (T : SupX X.prog X.K D cda cc file) (hs : X.env.kindOf "super" = some .globalImplicit) (hc : X.env.kindOf "__class__" = some .free) (ha1 : X.env.kindOf ar.arg = some .local)
    (hf : X.env.func = some f) (hco : X.env.code = .ref cda) (hcl : X.env.cells.lookup ("__class__" : Str) = some cc) (hfd : ∃ oc od osl, X.K.lookup f = some ⟨oc, od, .func fd, osl⟩) (hp : (fd.params.posonlyargs ++ fd.params.args).head? = some ar) (hN : X.N[0]? = some ar.arg)
    (hv : Vis X.env.scope ar.arg) (hms : X.mg "super" = none) (ha : PA X (e :: es) t)
    (I : Inv X pins σ H s) (self : σ[0]? = some (some (.ref a))) (ea : H a = some (exo a D none)) (h : t σ H fun vs H1 => H1 = H ∧ vs.length ≤ 1000)
    (st : starEach (e :: es) X.env = (false, eval e X.env) :: starEach es X.env) (nst : (backTo pos (starEach es X.env)).any (·.1) = false) (hi : interactive X.env = false)
    (hsw : swapsWith (.Call (.Attribute (.Call (.Name "super" p0) [] [] p1) "__init__" apos) (e :: es) [] pos) none epos.line X.env = pure false) {pl : Sem Bool}
    (tree : eval (.Call (.Attribute (.Call (.Name "super" p0) [] [] p1) "__init__" apos) (e :: es) [] pos) X.env = (do let ov ← attributeBase (.Call (.Name "super" p0) [] [] p1) "__init__" X.env (eval (.Call (.Name "super" p0) [] [] p1) X.env); standAt apos.atName; let (f, first) ← holding [ov] (getMethod ov "__init__" pl); callWith pos f first (backTo pos (starEach (e :: es) X.env)) [])) :
    _root_.PySem.wpAt (model X.prog X.w) X.A (.func body X.env) (exec (.Expr (.Call (.Attribute (.Call (.Name "super" p0) [] [] p1) "__init__" apos) (e :: es) [] pos) epos) X.env) (fun fl s' => fl = .next ∧ Inv X pins σ H s') X.xe s := by
  obtain ⟨ccl, cdd, vs, ccs, tf, hcode, hvs⟩ := T.code
  obtain ⟨cl, cld, csl, hcell⟩ := T.cell
  obtain ⟨cd, hD⟩ := T.cls
  obtain ⟨oc, od, osl, hfl⟩ := hfd
  have KX := I.kIn
  obtain ⟨oD, hD1, hD2⟩ := cls_obj KX hD
  obtain ⟨mb, hb1, hb2⟩ := I.mod.blt
  obtain ⟨m, ns, look⟩ := I.loc
  obtain ⟨u, ru, lk⟩ := look 0 ar.arg _ hN self hv
  cases (show u = Value.ref a from ru)
  have hm : m ar.arg = some (.ref a) := by
    rcases lk with ⟨_, z⟩ | ⟨z, _⟩
    · exact z
    · rw [ha1] at z
      rcases z with z | z <;> cases z
  obtain ⟨t1, ho⟩ := exo_at I.hok ea
  have J : PySem.W.InstAt s.heap a { cls := .ref D, dict := none, data := .fields #[.ref t1, .none, .none, .none, .bool false, .none] } D none := ⟨ho, rfl, rfl, trivial⟩
  refine ks_wpAt_Expr_any (ks_wpAt_MethodCall (pl := pl) ?_ tree) hi hsw
  refine ks_wpAt_super_base hs hc (by decide) hf (KX _ _ hfl) rfl hp hco (KX _ _ hcode) rfl hvs T.file T.top ?_
  refine PySem.W.ks_loadName_global I.ok.kind hs (Calls.loadGlobal_builtin (by rw [I.ok.glob]; exact I.mod.glob.keeps I.bk) hms (by rw [I.ok.blt]; exact hb1.keeps I.bk) ((hb2 "super" (by decide)).trans (show bootBuiltins "super" = some (.type "super") by decide +kernel)) ⟨rfl, ?_⟩)
  refine wpAny_loadName_free I.ok.kind hc hcl ⟨_, KX _ _ hcell, rfl⟩ ?_
  refine wpAny_loadName_local I.ok.kind ha1 ns hm ?_
  obtain ⟨hh, g, d, tk, os⟩ := s
  refine ks_wpAny_isType_cls hD1 hD2 ⟨rfl, ?_⟩
  refine ks_wpAny_call_super hD1 hD2 J.at_ J.cls (fun c ec => by cases ec) (PySem.W.looks_mroIn KX T.sub) (fun h' es' kp => ?_)
  · have I1 : Inv X pins σ H ⟨h', g, d, tk, os⟩ := I.kept (t' := tk) kp
    have J1 : PySem.W.InstAt h' a { cls := .ref D, dict := none, data := .fields #[.ref t1, .none, .none, .none, .bool false, .none] } D none := ⟨kp _ _ ho, rfl, rfl, trivial⟩
    have up := T.up
    unfold PySem.W.ks_superIn at up
    rw [hD, Option.bind_some] at up
    refine PySem.W.kxs_getMethod PySem.W.kxs_ValueError es' (PySem.W.looks_opaque I1.kIn T.tp) (l₀ := cd.mro) ?_ rfl I1.kIn up (J1.type.andThen (PySem.W.looks_subIn I1.kIn T.ve)) ?_ (by decide) ?_
    · exact fun A Q E s k q => wpAny_bind ((PySem.W.looks_clsIn I1.kIn hD) A _ E s k (wpAny_pure q))
    · exact PySem.W.ks_ne KX J hD
    · have I2 : Inv X ((h'.objs.size, PySem.W.kxs_mw "ValueError.__init__" a) :: pins) σ H ⟨h'.push (PySem.W.kxs_mw "ValueError.__init__" a), g, d, tk + 1, os⟩ :=
        ClX.pin_new I1 (fun _ _ z => Heap.get?_push_of_some _ z) (Nat.le_refl _) (Heap.get?_push_size h' rfl) (fun v z => nomatch z)
      have bn : X.base.get? h'.objs.size = none := ClX.base_none I1 (Nat.le_refl _)
      have hL : h'.objs.size ≠ X.env.locals := (I2.pin (h'.objs.size, PySem.W.kxs_mw "ValueError.__init__" a) (List.mem_append_right _ List.mem_cons_self)).2.2.1
      refine PySem.W.kxs_callWith1 (h₀ := X.base) (L := X.env.locals) (x := a) (i := "ValueError.__init__") (news_at hL bn (ClX.pin_at I2)) List.mem_cons_self ?_ st nst
      refine thn (ha.run pos _ _ σ H _ I2 h) ?_
      rintro us s3 ⟨vs, H1, I3, rv, rfl, hlen⟩
      refine ⟨ClX.pin_at I3, ?_⟩
      have I4 := ClX.unpin I3
      obtain ⟨nm, q, N, bs, bm, sn, sub, ab, col, dd, k0, k1, k2, k3, k5, hC, hbm⟩ := T.ox.cls
      obtain ⟨t2, ho3⟩ := exo_at I4.hok ea
      have hl : us.length ≤ sizeLine := by
        rw [← Paired.length rv, sizeLine_eq]
        omega
      obtain ⟨h3, g3, d3, tk3, os3⟩ := s3
      refine wpAny_call (codeAny_of_tree ?_)
      show wpAny _ X.A.in1 (callAny (.ref _) ⟨us, []⟩) _ _ _
      simp only [callAny]
      refine wpAny_bind (wpAny_load (ClX.pin_at I3) ?_)
      simp only [PySem.W.kxs_mw, show (Value.type "method-wrapper" == Value.type "method" || Value.type "method-wrapper" == Value.type "builtin_function_or_method" || Value.type "method-wrapper" == Value.type "method-wrapper") = true by decide, if_true]
      refine PySem.W.KFB.if_so (by decide) ?_
      refine wpAny_bind (PySem.W.check_bound_init F.excBase_ValueError.toExcCallFacts (I4.kIn _ _ hC) ho3 rfl ?_)
      refine wpAny_bind (wpAny_pure (wpAny_pure ?_))
      refine ⟨plainId_quiet F.excBase_ValueError.init.plain _, codeAny_builtin F.excBase_ValueError.initEntry ?_⟩
      rw [Around.under_plainId F.excBase_ValueError.init.plain _]
      have fin : ∀ h4 t4, (∀ b o, b ≠ a → h3.get? b = some o → h4.get? b = some o) → h4.get? a = some (PySem.HandSPX.excO D t4) → Inv X pins σ H1 ⟨h4, g3, d3, tk3, os3⟩ := fun h4 t4 k4 hx4 => by
        have J4 := I4.write (t' := tk3) (x := a) (e := a) (o := exo a D none) (by rw [ea]; exact True.intro) (.inl rfl) k4 ⟨_, hx4⟩ (exo_ok hx4)
        have eu : upd H1 a (exo a D none) = H1 := by
          funext b
          by_cases hb : b = a
          · rw [hb, upd_same, ea]
          · rw [upd_ne hb]
        rw [eu] at J4
        exact J4
      wp_walk
      refine ⟨True.intro, fin _ h3.objs.size (fun b o hb ho => ?_) ?_⟩
      · rw [Heap.get?_update_other _ _ (Ne.symm hb)]
        exact Heap.get?_push_of_some _ ho
      · rw [Heap.get?_update_self _ (Heap.get?_push_of_some _ ho3) rfl]
        rfl
end
/-- what such an __init__(self, x): super().__init__(..); self.fld = x promises -/
def spEx (D : Addr) (fld : Str) : Sp := fun vs H Q E => ∃ (a : Addr) (v : V), vs = [.ref a, v] ∧ H a = some (exo a D none) ∧ ∀ d, H d = none → d ≠ a → Q .non (upd (upd H d (exd d [(fld, v)])) a (exo a D (some d)))
section
variable {P : Program} {w : World} {K : PySem.W.Frag} {mg : Str → Option Value} {base : Heap}
theorem exc_fn {qual file fld par m : Str} {st : Stmt} {f cda cc D : Addr} {N : List Str} {oc : Value} {od : Option Addr} {osl : Array (Option Value)} {doc pm ct : Value}
    {p0 p1 apos pos epos q1 q2 q3 q4 q5 : Pos} {j : Nat} {ar : Arg} {pl : Sem Bool}
    (lk : K.lookup f = some ⟨oc, od, .func ((supNF "__init__" qual st cc cda).fd doc pm ct), osl⟩) (hcd : PySem.W.codeIn K (.ref cda) qual = true) (S : NdefX.NScope N [ar.arg, par] [("__class__" : Str)] (defScope st))
    (T : SupX P K D cda cc file) (hms : mg "super" = none) (hno : PySem.W.findIn K (.ref D) fld = some none)
    (body : defBody st = [.Expr (.Call (.Attribute (.Call (.Name "super" p0) [] [] p1) "__init__" apos) [.Constant (.str m) j q5] [] pos) epos, .Assign [.Attribute (.Name ar.arg q1) fld q2] (.Name par q3) q4])
    (hp : ((defArgs st).posonlyargs ++ (defArgs st).args).head? = some ar)
    (hs : (defScope st).names.lookup ("super" : Str) = some .globalImplicit) (hk : (defScope st).names.lookup ("__class__" : Str) = some .free)
    (hdb : (ar.arg == ("__debug__" : Str)) = false) (hdb2 : (par == ("__debug__" : Str)) = false) (hcb : (ar.arg == ("__classdict__" : Str)) = false) (hcb2 : (par == ("__classdict__" : Str)) = false)
    (hb : ∀ (X : Cx) (A : Around) (outer : List Env) (s : Shared) (H : Hp) (E : XK), X = (NdefX.ncx CX0 P w K mg base N (supNF "__init__" qual st cc cda) f A outer s H E).nox →
      (starEach [.Constant (.str m) j q5] X.env = (false, eval (.Constant (.str m) j q5) X.env) :: starEach [] X.env) ∧ interactive X.env = false ∧
      swapsWith (.Call (.Attribute (.Call (.Name "super" p0) [] [] p1) "__init__" apos) [.Constant (.str m) j q5] [] pos) none epos.line X.env = pure false ∧
      swapsWith (.Name par q3) (some (.Attribute (.Name ar.arg q1) fld q2)) q4.line X.env = pure false ∧
      eval (.Call (.Attribute (.Call (.Name "super" p0) [] [] p1) "__init__" apos) [.Constant (.str m) j q5] [] pos) X.env = (do let ov ← attributeBase (.Call (.Name "super" p0) [] [] p1) "__init__" X.env (eval (.Call (.Name "super" p0) [] [] p1) X.env); standAt apos.atName; let (f, first) ← holding [ov] (getMethod ov "__init__" pl); callWith pos f first (backTo pos (starEach [.Constant (.str m) j q5] X.env)) [])) :
    FnOk P w K mg base CX0 1 f ((supNF "__init__" qual st cc cda).fd doc pm ct) [ar.arg, par] (spEx D fld) := by
  refine ⟨fun vs H Q E ⟨a, v, h, _⟩ => by rw [h]; rfl, fun A outer s H args us vs Q E hr e0 hbd r hsp => ?_⟩
  obtain ⟨a, v, rfl, ea, hq⟩ := hsp
  have KX : K.In s.heap := e0.mod.kin.keeps fun b o e => (e0.bs b o e).1
  have lim : s.heap.NoLimit := e0.mod.nolimit.keeps fun b o e => (e0.bs b o e).1
  obtain ⟨cl, cld, csl, hcell⟩ := T.cell
  have cellb := e0.bs cc _ (e0.mod.kin _ _ hcell)
  have C : NdefX.CellsAt (supNF "__init__" qual st cc cda).cl [("__class__" : Str)] [none] s.heap H := by
    have one : ∀ (y : Str) (c' : Addr), List.lookup y [(("__class__" : Str), cc)] = some c' → y = "__class__" ∧ c' = cc := fun y c' h => by
      by_cases q : y = ("__class__" : Str)
      · subst q
        refine ⟨rfl, ?_⟩
        have h : some cc = some c' := by simpa [List.lookup] using h
        exact (Option.some.inj h).symm
      · have : (y == ("__class__" : Str)) = false := beq_eq_false_iff_ne.mpr q
        simp [List.lookup, this] at h
    refine ⟨rfl, fun y c' h => ?_, fun y z c' h1 h2 => ?_, fun i y h => ?_⟩
    · obtain ⟨rfl, rfl⟩ := one y c' h
      exact ⟨cellb.2, _, _, cellb.1, rfl⟩
    · rw [(one y c' h1).1, (one z c' h2).1]
    · cases i with
      | zero =>
        cases h
        exact ⟨cc, rfl, fun v z => by cases z⟩
      | succ i => cases h
  refine ks_codeAny_call_defAt (fd := (supNF "__init__" qual st cc cda).fd doc pm ct) (body := defBody st) (binds := ([ar.arg, par] : List Str).zip us) hr.depth (KX _ _ lk) rfl lim (PySem.W.codeRec_of KX hcd) rfl hbd S.nocell (fun y hy => S.par y.1 (List.of_mem_zip hy).1) (fun h₀ hns kp => ?_) S.co S.gen S.kind
  have I0 := NdefX.inv_startN (CX := CX0) (P := P) (w := w) (K := K) (mg := mg) (base := base) (E := E) (F := supNF "__init__" qual st cc cda) (f := f) (tk := s.toks + (([ar.arg, par] : List Str).zip us).length) S hr.hd e0 rfl r C hns kp
  have I1 := I0.wish (fun _ _ => False)
  obtain ⟨h1, h3, h4, h6, h5⟩ := hb _ A outer s H E rfl
  have nN : ∀ (i : Nat) (y : Str), ([ar.arg, par] : List Str)[i]? = some y → N[i]? = some y := fun i y hy => by
    have q : (N.take (([ar.arg, par] : List Str).length + ([("__class__" : Str)] : List Str).length))[i]? = ([ar.arg, par] ++ [("__class__" : Str)])[i]? := by rw [S.pre]
    have hi : i < 2 := (List.getElem?_eq_some_iff.mp hy).1
    rw [List.getElem?_take_of_lt (by simp; omega), List.getElem?_append_left hi] at q
    rw [q, hy]
  have v0 : Vis (defScope st) ar.arg := .inl (S.par _ (by simp))
  have v1 : Vis (defScope st) par := .inl (S.par _ (by simp))
  have sl0 : (NdefX.startF N [V.ref a, v] [none])[0]? = some (some (.ref a)) := by unfold NdefX.startF; rfl
  have sl1 : (NdefX.startF N [V.ref a, v] [none])[1]? = some (some v) := by unfold NdefX.startF; rfl
  rw [body]
  refine ks_wpAt_execs_cons (ks_wpAt_mono (super_exc (X := (NdefX.ncx CX0 P w K mg base N (supNF "__init__" qual st cc cda) f A outer s H E).nox) (t := tCons (tC (.str m)) tNil) (ar := ar) (pl := pl) (a := a) T hs hk ?_ rfl rfl rfl ⟨_, _, _, lk⟩ hp ?_ v0 hms (pa_cons pe_str pa_nil h1) I1 sl0 ea ⟨rfl, Nat.le_of_ble_eq_true rfl⟩ h1 rfl h3 h4 h5) ?_ fun e s' z => z.elim)
  · exact S.par _ (by simp)
  · exact nN 0 _ rfl
  · rintro fl s' ⟨rfl, I2⟩
    refine wpAt_of_wpAny ?_
    have hPS : PSs (NdefX.ncx CX0 P w K mg base N (supNF "__init__" qual st cc cda) f A outer s H E).nox [.Assign [.Attribute (.Name ar.arg q1) fld q2] (.Name par q3) q4] (tOst K fld (tVar 0) (tVar 1)) :=
      pss_one (ps_ost (pe_var (nN 0 _ rfl) v0 hdb hcb) (pe_var (nN 1 _ rfl) v1 hdb2 hcb2) h6)
    have q2 : tOst K fld (tVar 0) (tVar 1) { nx := fun _ H' => Q .non H', rt := Q } (NdefX.startF N [V.ref a, v] [none]) H :=
      ⟨v, sl1, _, sl0, a, D, rfl, T.ox, hno, .inl ⟨ea, fun dx n ne => hq dx n ne⟩⟩
    refine wpAny_mono (hPS.run [] s' _ H _ I2 q2) (fun fl s3 hs3 => ?_) fun e s' z => z.elim
    have fin : ∀ {σ' : L2.St} {H' : Hp} {v : V} {u : Value}, Inv (NdefX.ncx CX0 P w K mg base N (supNF "__init__" qual st cc cda) f A outer s H E).nox [] σ' H' s3 → L2.RelV v u → Q v H' → CE outer P w H s Q u s3 :=
      fun {σ' H' v u} J rv q => ⟨v, H', J.os, J.bare, J.base, J.hok, rv, q⟩
    cases fl with
    | ret u =>
      obtain ⟨v, σ', H', J, rv, q⟩ := hs3
      exact fin J rv q
    | next =>
      obtain ⟨σ', H', J, q⟩ := hs3
      exact fin (v := V.non) (u := Value.none) J rfl q
    | brk =>
      obtain ⟨_, _, _, q⟩ := hs3
      exact q.elim
    | cont =>
      obtain ⟨_, _, _, q⟩ := hs3
      exact q.elim
end
end Ev

namespace Ev
open PySem PySem.Spec PyProof.Rows L2
/-! ### raise C(e), C an own class whose __init__ keeps spEx -/
section
variable {X : Cx} {o e : Expr} {es : List Expr} {to te : TE} {ta : TA} {f : Str} {p p' p1 p2 pos : Pos} {C fI : Addr}
theorem pmk_oexN {CX : CXT} {x : Str} {k : Nat} {fd : FuncData} {ps : List Str} {sp : Sp} (T : OexC X.K C) (iC : PySem.W.findIn X.K (.ref C) "__init__" = some (some (.ref fI))) (tI : PySem.W.typeIn X.K (.ref fI) = some (.type "function"))
    (F1 : FnOk X.prog X.w X.K X.mg X.base CX k fI fd ps sp) (hr : Room (k + 1) X.A) (hb : Binds X.K fd ps []) (hx : Passes CX X (fun _ _ _ => False)) (hg : Gl X x) (hm : X.mg x = some (.ref C)) (ha : PA X (e :: es) ta)
    (hdb : (x == ("__debug__" : Str)) = false := by decide) (he : starEach (e :: es) X.env = (false, eval e X.env) :: starEach es X.env := by rfl) (hpl : (backTo pos (starEach es X.env)).any (·.1) = false := by rfl) :
    L2N.PMk X (.Call (.Name x p) (e :: es) [] pos) (tMkO C sp [] ta) := by
  intro pins s σ H Q I h
  obtain ⟨nm, q, N, bs, bm, sn, sub, ab, col, dd, k0, k1, k2, k3, k5, hC, hbm⟩ := T.cls
  refine wpAny_Call_Name_kw (ld_glob I hg hm ?_ hdb)
  refine PySem.W.callWith_K (h₀ := X.base) I.ok.mod.kin T.kC (thn (ha.run pos pins s σ H _ I h) fun us s1 ⟨vs, H1, I1, r1, hz, q1⟩ => ⟨I1.kIn, ?_⟩) he hpl
  show wpAny _ _ (call (.ref C) us) _ _ _
  obtain ⟨hp, g, dr, tk, os⟩ := s1
  have hsz : hp.objs.size ≤ hp.objs.size + 1 := Nat.le_succ _
  have hn : H1 (hp.objs.size + 1) = none := I1.hok.fresh hsz
  have hq := q1 (hp.objs.size + 1) hn
  rw [List.append_nil] at hq
  have kk : ∀ b o, hp.get? b = some o → ((hp.push (PySem.W.kdv_tup us)).push (PySem.HandSPX.excO C hp.objs.size)).get? b = some o := fun b o e => Heap.get?_push_of_some _ (Heap.get?_push_of_some _ e)
  have hget : ((hp.push (PySem.W.kdv_tup us)).push (PySem.HandSPX.excO C hp.objs.size)).get? (hp.objs.size + 1) = some (PySem.HandSPX.excO C hp.objs.size) := by heap_get
  have I2 : Inv X pins σ (upd H1 (hp.objs.size + 1) (exo (hp.objs.size + 1) C none)) ⟨(hp.push (PySem.W.kdv_tup us)).push (PySem.HandSPX.excO C hp.objs.size), g, dr, tk, os⟩ :=
    I1.laid (t' := tk) (a := hp.objs.size + 1) (o := exo (hp.objs.size + 1) C none) (h' := (hp.push (PySem.W.kdv_tup us)).push (PySem.HandSPX.excO C hp.objs.size)) kk hsz (exo_ok hget)
  have r2 : Vals (V.ref (hp.objs.size + 1) :: vs) (Value.ref (hp.objs.size + 1) :: us) := .cons rfl r1
  have hl : (Value.ref (hp.objs.size + 1) :: us ++ []).length = ps.length := by
    have e := r2.length
    rw [F1.len _ _ _ _ hq] at e
    rw [List.append_nil]
    exact e.symm
  have hus : us.length ≤ sizeLine := by
    rw [← Paired.length r1, sizeLine_eq]
    omega
  have b2 := hb _ (Value.ref (hp.objs.size + 1) :: us) I2.kIn hl
  rw [List.append_nil] at b2
  refine wpAny_call (PySem.HandSPX.call_own F.excBase_ValueError (fun Y => PySem.HandSPX.refsVE_contains Y bm hbm) (I1.kIn _ _ hC) (PySem.W.looks_findIn I1.kIn iC) (fun self => PySem.W.bind_fn I1.kIn self tI) hus
    (codeAny_mono (F1.run _ X.stack _ _ ⟨Value.ref (hp.objs.size + 1) :: us, []⟩ (Value.ref (hp.objs.size + 1) :: us) _ _ (fun _ _ _ => False) (hr.make C us []) (I2.env0.make C us []) b2 r2 hq) fun r s' hq' => ?_))
  cases r with
  | error er => exact hx pins σ _ _ er s' I2 hq'
  | ok fl =>
    cases fl with
    | ret u =>
      obtain ⟨v, H2, os2, bare2, un2, hok2, rv, ev, d, fs, ea, ed, hd1, q2⟩ := hq'
      subst ev
      obtain ⟨h2, g2, d2, t2, os'⟩ := s'
      obtain ⟨t0, G, J, kG, ge, hoe, na⟩ := mk_end0 (d2 := d2) (t2 := t2) I1 hsz kk un2 hok2 os2 bare2 ea ed hd1
      refine ⟨rv, hp.objs.size + 1, _, _, ⟨G, g2, d2, t2, os'⟩, _, .ref C, some d, rfl, J, kG, ge, hoe, ⟨rfl, rfl, fun vs hv => ?_⟩, rfl, rfl, na, rfl, bare2, raises_own T.exC T.tyC, q2⟩
      cases hv
      rfl
    | next => exact False.elim hq'
    | brk => exact False.elim hq'
    | cont => exact False.elim hq'
end
/-- an own exception class that can be raised -/
structure ExcK (P : Program) (w : World) (K : PySem.W.Frag) (mg : Str → Option Value) (base : Heap) (c fld : Str) : Prop where
  ex : ∃ C fI fd ps, ClsN K c C ∧ mg c = some (.ref C) ∧ OexC K C ∧ PySem.W.findIn K (.ref C) "__init__" = some (some (.ref fI)) ∧ PySem.W.typeIn K (.ref fI) = some (.type "function") ∧ FnOk P w K mg base CX0 1 fI fd ps (spEx C fld) ∧ Binds K fd ps []
def sRaise (c fld : Str) (fe : EF) : SF := fun ρ S => sB (fe ρ S) ρ fun v S1 => .ex ⟨c, fld, v⟩ ρ S1
section
variable {X : Cx} {W : WX} {e : Expr} {fe : EF} {p pos pos2 : Pos} {c fld : Str} {j : Nat}
theorem S_raise (x : ExcK X.prog X.w X.K X.mg X.base c fld) (hr : Room j X.A) (hc : X.calm = true) (tk : L2N.Takes X W) (he : PE X e (tE X.K W fe)) (hj : 2 ≤ j := by first | decide | omega) (hg : Gl X c := by rfl)
    (hdb : (c == ("__debug__" : Str)) = false := by decide) (hs : starEach [e] X.env = (false, eval e X.env) :: starEach [] X.env := by rfl) : PS X (.Raise (some (.Call (.Name c p) [e] [] pos)) none pos2) (tS X.K W (sRaise c fld fe)) := by
  obtain ⟨C, fI, fd, ps, hn, hm, T, iC, tI, F1, hb⟩ := x.ex
  refine PS.weak (L2N.ps_raise hc tk (pmk_oexN T iC tI F1 (hr.mono hj) hb (fun _ _ _ _ _ _ _ z => z.elim) hg hm (A_cons he A_nil hs) hdb hs)) fun D σ H h => ?_
  obtain ⟨w, S, ρ, s, re, p⟩ := h
  refine ⟨w, S, ρ, s, re, ?_⟩
  unfold sRaise at p
  unfold aCons aNil
  cases hf : fe ρ S with
  | no => rw [hf] at p; exact p.elim
  | ex x S1 => rw [hf] at p; exact fun w' H' dx v C e s q0 q qn q2 => p w' H' σ dx v C e s (re.mono e) q0 q qn q2
  | ok d S1 =>
    rw [hf] at p
    simp only [R.bind_ok, sB_ok] at p ⊢
    intro w1 H1 vs e1 s1 rvs
    obtain ⟨v, rfl, rv⟩ := rvs.one
    refine ⟨by show 1 ≤ 1000; decide, fun a ha => ⟨a, v, rfl, upd_same, fun dx hd hne => ⟨rfl, dx, [(fld, v)], upd_same, ?_, ?_, ?_⟩⟩⟩
    · rw [upd_ne hne, upd_same]
    · rw [upd_ne hne] at hd; exact hd
    · rw [upd_ne hne] at hd
      have eq : upd (del (upd (upd (upd H1 a (exo a C none)) dx (exd dx [(fld, v)])) a (exo a C (some dx))) a) dx (.xd [(fld, v)]) = upd H1 dx (.xd [(fld, v)]) := by
        funext b
        by_cases h1 : b = dx
        · rw [h1, upd_same, upd_same]
        · rw [upd_ne h1, upd_ne h1]
          by_cases h2 : b = a
          · rw [h2, del_same, ha]
          · rw [del_ne h2, upd_ne h2, upd_ne h1, upd_ne h2]
      rw [eq]
      refine p w1 _ σ dx v C (e1.trans (Ext.fresh hd)) (s1.fresh hd) ((re.mono e1).mono (Ext.fresh hd)) hn upd_same (fun z => ?_) (rv.mono (Ext.fresh hd))
      obtain ⟨_, o, ho⟩ := s1.priv dx z
      rw [hd] at ho; cases ho
end

/-! ### defs that may raise -/
section
variable {P : Program} {w : World} {K : PySem.W.Frag} {mg : Str → Option Value} {base : Heap}
theorem fun_okX {x qual : Str} {st : Stmt} {f : Addr} {fd : FuncData} {N ps : List Str} {k : Nat} {b : SF} (F : Fun K x qual st f fd) (Sc : FnScope N ps (defScope st))
    (hb : ∀ (X : Cx) (W : WX) (cdv : Value) (A : Around) (outer : List Env) (s : Shared) (H : Hp) (E : XK), Room k (A.deeper (envOfC qual (defScope st) s.heap.objs.size f cdv)) →
      X = cxOf (L2N.CX P w) P w K mg base N qual (defScope st) f cdv A outer s H E → L2N.Takes X W → PassesOwn (model X.prog X.w) X.A X.env X.xe → PSs X (defBody st) (tS K W b)) :
    FnOk P w K mg base (L2N.CX P w) (k + 1) f fd ps (spOf K ps.length (runF N.length b)) := by
  obtain ⟨oc, od, kV, doc, pm, an, cdv, ct, osl, rfl, lk, hcd⟩ := F.ex
  refine fn_of lk hcd Sc (fun vs H Q E h => let ⟨_, _, _, h, _⟩ := h; h) fun A outer s H vs Q E hr h => ?_
  obtain ⟨w, S, ds, hl, sm, r, p⟩ := h
  refine ⟨_, hb _ (fun c d _ H => E c d H) cdv A outer s H E hr rfl (L2N.takes_of rfl rfl rfl rfl) (passes_of rfl), w, S, _, sm, start_env r, ?_⟩
  unfold runF at p
  cases hbb : b (ds.map some ++ List.replicate (N.length - ds.length) none) S with
  | nx ρ S' => rw [hbb] at p; exact fun w' H' σ' e s' r' => gc_post sm e s' (by simp only [RV]) p
  | rt d S' => rw [hbb] at p; exact fun w' H' v e s' r' => gc_post sm e s' r' p
  | ex x ρ S' => rw [hbb] at p; exact fun w' H' σ' dx v C e s' _ h0 h1 hn h2 => p w' H' dx v C e s' h0 h1 hn h2
  | bk ρ S' => rw [hbb] at p; exact p.elim
  | ct ρ S' => rw [hbb] at p; exact p.elim
  | no => rw [hbb] at p; exact p.elim
/-- .. in a suite -/
theorem fun_okH {x qual : Str} {st : Stmt} {f : Addr} {fd : FuncData} {N ps : List Str} {k : Nat} {b : SF} (F : Fun K x qual st f fd) (Sc : FnScope N ps (defScope st))
    (hb : ∀ (X : Cx) (W : WX) (cdv : Value) (A : Around) (outer : List Env) (s : Shared) (H : Hp) (E : XK) (p : Addr × Obj), L2H.RoomH k (A.deeper (envOfC qual (defScope st) s.heap.objs.size f cdv)) →
      X = (L2H.cxH CX0 P w K mg base N qual (defScope st) f cdv A outer s H E p).nox → L2H.HotC X → PSs X (defBody st) (tS K W b)) :
    L2H.FnH P w K mg base CX0 (k + 1) f fd ps (spOf K ps.length (runF N.length b)) := by
  obtain ⟨oc, od, kV, doc, pm, an, cdv, ct, osl, rfl, lk, hcd⟩ := F.ex
  refine L2H.fn_ofH lk hcd Sc (fun vs H Q E h => let ⟨_, _, _, h, _⟩ := h; h) fun A outer s H vs Q E p hot hr h => ?_
  obtain ⟨w, S, ds, hl, sm, r, q⟩ := h
  refine ⟨_, (hb _ (fun c d _ H => E c d H) cdv A outer s H E p hr rfl ⟨p, hot, List.mem_cons_self⟩).nox, w, S, _, sm, start_env r, ?_⟩
  unfold runF at q
  cases hbb : b (ds.map some ++ List.replicate (N.length - ds.length) none) S with
  | nx ρ S' => rw [hbb] at q; exact fun w' H' σ' e s' r' => gc_post sm e s' (by simp only [RV]) q
  | rt d S' => rw [hbb] at q; exact fun w' H' v e s' r' => gc_post sm e s' r' q
  | ex x ρ S' => rw [hbb] at q; exact fun w' H' σ' dx v C e s' _ h0 h1 hn h2 => q w' H' dx v C e s' h0 h1 hn h2
  | bk ρ S' => rw [hbb] at q; exact q.elim
  | ct ρ S' => rw [hbb] at q; exact q.elim
  | no => rw [hbb] at q; exact q.elim
structure CalH (P : Program) (w : World) (K : PySem.W.Frag) (mg : Str → Option Value) (base : Heap) (CX : CXT) (k : Nat) (x : Str) (n : Nat) (F : List D → Sto → R D) : Prop where
  ex : ∃ f fd ps, L2H.FnH P w K mg base CX k f fd ps (spOf K n F) ∧ mg x = some (.ref f) ∧ PySem.W.keepIn K (.ref f) = true ∧ Binds K fd ps []
end
section
variable {X : Cx} {W : WX} {CXc : CXT} {x : Str} {p pos : Pos} {e : Expr} {es : List Expr} {fa : AF} {k j n : Nat} {F : List D → Sto → R D}
theorem E_callH (c : CalH X.prog X.w X.K X.mg X.base CXc k x n F) (hr : L2H.RoomH j X.A) (hc : L2H.HotC X) (hx : ∀ σ, PassesAt CXc X σ (WE W σ)) (ha : PA X (e :: es) (tA X.K W fa)) (hk : k ≤ j := by first | decide | omega) (hg : Gl X x := by rfl)
    (hdb : (x == ("__debug__" : Str)) = false := by decide) (he : starEach (e :: es) X.env = (false, eval e X.env) :: starEach es X.env := by rfl) (hpl : (backTo pos (starEach es X.env)).any (·.1) = false := by rfl) :
    PE X (.Call (.Name x p) (e :: es) [] pos) (tE X.K W (eCall n F fa)) := by
  obtain ⟨f, fd, ps, G, hm, hkp, hb⟩ := c.ex
  exact PE.weak (L2H.pe_callH G (hr.mono hk) hc hg hm hkp hb hx ha hdb he hpl) fun σ H Q h => tCall_of h
end

/-! ### defs as values -/
structure GFn (K : PySem.W.Frag) (mg : Str → Option Value) (x : Str) : Prop where
  ex : ∃ a, mg x = some (.ref a) ∧ ClsN K x a
section
variable {X : Cx} {W : WX} {pos : Pos}
theorem E_fn {x : Str} (g : GFn X.K X.mg x) (hg : Gl X x := by rfl) (hd : (x == ("__debug__" : Str)) = false := by decide) : PE X (.Name x pos) (tE X.K W (eC (.fn x))) := by
  obtain ⟨a, h1, h2⟩ := g.ex
  refine PE.weak (pe_glob (v := .ref a) hg h1 rfl hd) fun σ H Q h => ?_
  obtain ⟨w, S, ρ, s, re, p⟩ := h
  refine p.ret s ?_
  simp only [RV]
  exact ⟨a, rfl, h2⟩
end
def eCallV (i n : Nat) (tab : List (Str × (List D → Sto → R D))) (fa : AF) : EF := fun ρ S => match ρ[i]? with
  | some (some (.fn x)) => match tab.lookup x with
    | some F => (fa ρ S).bind fun ds S1 => if ds.length = n then F ds S1 else .no
    | none => .no
  | _ => .no
/-- the defs of a table, each with its promise -/
inductive CalsV (P : Program) (w : World) (K : PySem.W.Frag) (mg : Str → Option Value) (base : Heap) (CX : CXT) (k n : Nat) : List (Str × (List D → Sto → R D)) → Prop where
  | nil : CalsV P w K mg base CX k n []
  | cons {x : Str} {F : List D → Sto → R D} {l : List (Str × (List D → Sto → R D))} {j : Nat} (c : Cal P w K mg base CX j x n F) (hn : ∀ f, mg x = some (.ref f) → ClsN K x f) (r : CalsV P w K mg base CX k n l) (hj : j ≤ k := by decide) : CalsV P w K mg base CX k n ((x, F) :: l)
theorem CalsV.get {P : Program} {w : World} {K : PySem.W.Frag} {mg : Str → Option Value} {base : Heap} {CX : CXT} {k n : Nat} {l : List (Str × (List D → Sto → R D))} (h : CalsV P w K mg base CX k n l) :
    ∀ {x : Str} {F : List D → Sto → R D}, l.lookup x = some F → ∃ j f fd ps, j ≤ k ∧ FnOk P w K mg base CX j f fd ps (spOf K n F) ∧ ClsN K x f ∧ PySem.W.keepIn K (.ref f) = true ∧ Binds K fd ps [] := by
  induction h with
  | nil => intro x F h; cases h
  | @cons y G l j c hn r hj ih =>
    intro x F h
    unfold List.lookup at h
    split at h
    · rename_i hb
      cases h
      have e := eq_of_beq hb
      subst e
      obtain ⟨f, fd, ps, h1, h2, h3, h4⟩ := c.ex
      exact ⟨j, f, fd, ps, hj, h1, hn f h2, h3, h4⟩
    · exact ih h
section
variable {X : Cx} {W : WX} {CXc : CXT} {x : Str} {p pos : Pos} {e : Expr} {es : List Expr} {fa : AF} {k j n : Nat} {tab : List (Str × (List D → Sto → R D))}
theorem E_callV (i : Nat) (c : CalsV X.prog X.w X.K X.mg X.base CXc k n tab) (hr : Room j X.A) (hx : ∀ σ, PassesAt CXc X σ (WE W σ)) (ha : PA X (e :: es) (tA X.K W fa)) (hk : k ≤ j := by first | decide | omega) (hN : X.N[i]? = some x := by rfl)
    (hv : Vis X.env.scope x := by first | exact Or.inl rfl | exact Or.inr (Or.inl rfl) | exact Or.inr (Or.inr rfl)) (hdb : (x == ("__debug__" : Str)) = false := by decide) (hcd : (x == ("__classdict__" : Str)) = false := by decide)
    (he : starEach (e :: es) X.env = (false, eval e X.env) :: starEach es X.env := by rfl) (hpl : (backTo pos (starEach es X.env)).any (·.1) = false := by rfl) :
    PE X (.Call (.Name x p) (e :: es) [] pos) (tE X.K W (eCallV i n tab fa)) := by
  refine ⟨fun pins s σ H Q I h => ?_⟩
  obtain ⟨w, S, ρ, sm, re, q⟩ := h
  unfold eCallV at q
  split at q
  · rename_i y hy
    split at q
    · rename_i F hF
      obtain ⟨v, h1, h2⟩ := re.2 i _ hy
      simp only [RV] at h2
      obtain ⟨a, rfl, hn⟩ := h2
      obtain ⟨jj, f, fd, ps, hj, G, hn2, hkp, hb⟩ := c.get hF
      have hfa : a = f := by
        unfold ClsN at hn hn2
        rw [hn] at hn2
        cases hn2; rfl
      subst hfa
      refine wpAny_Call_Name_kw (thn ((pe_var (pos := p) hN hv hdb hcd).run pins s σ H (fun v H1 => v = .ref a ∧ H1 = H) I ⟨.ref a, h1, rfl, rfl⟩) fun u s1 ⟨v, H1, I1, r1, q1⟩ => ?_)
      obtain ⟨rfl, rfl⟩ := q1
      cases r1
      have ht : tCallS (spOf X.K n F) (WE W) (tA X.K W fa) σ H1 Q := tCall_of (n := n) (F := F) ⟨w, S, ρ, sm, re, q⟩
      refine PySem.W.callWith_K (h₀ := X.base) I.ok.mod.kin hkp (thn (ha.run pos pins s1 σ _ _ I1 ht) fun us s2 ⟨vs, H2, I2, r, q2⟩ => ⟨I2.kIn, ?_⟩) he hpl
      exact run_fnS G ((hr.mono hk).mono hj) hb (hx σ) I2 r q2
    · exact q.elim
  · exact q.elim
end
end Ev

namespace Ev
open PySem PySem.Spec PyProof.Rows L2
/-! ### try .. except C as e -/
abbrev SuF := Addr → Addr → Exn → SF
def finX (i : Nat) : O → O
  | .nx ρ S => .nx (ρ.set i none) S
  | .bk ρ S => .bk (ρ.set i none) S
  | .ct ρ S => .ct (ρ.set i none) S
  | .rt d S => .rt d S
  | .ex _ _ _ => .no
  | .no => .no
open Classical in
noncomputable def pickO (g : Addr → Addr → O) : O := if ∀ a d, g a d = g 0 0 then g 0 0 else .no
theorem pickO_of {g : Addr → Addr → O} {o : O} (h : ∀ a d, g a d = o) : pickO g = o := by
  unfold pickO
  rw [if_pos fun a d => (h a d).trans (h 0 0).symm]
  exact h 0 0
noncomputable def sTryAs (tab : List (Str × Bool)) (i : Nat) (b : SF) (fs : SuF) : SF := fun ρ S => match b ρ S with
  | .ex e ρ1 S1 => match tab.lookup e.cls with
    | some true => pickO fun a d => finX i (fs a d e (ρ1.set i (some (.exc a d e.f e.val))) S1)
    | some false => .ex e ρ1 S1
    | none => .no
  | o => o
/-- what an except clause takes -/
def TabX (K : PySem.W.Frag) (tab : List (Str × Bool)) (cv : Value) : Prop := ∀ c b, (c, b) ∈ tab → ∀ C, ClsN K c C → PySem.W.exmOne K (.ref C) cv = some b
theorem mem_of_lk {α : Type} {l : List (Str × α)} {x : Str} {b : α} (h : l.lookup x = some b) : (x, b) ∈ l := by
  induction l with
  | nil => cases h
  | cons p l ih =>
    obtain ⟨y, c⟩ := p
    unfold List.lookup at h
    split at h
    · rename_i hb; cases h; rw [eq_of_beq hb]; exact List.mem_cons_self
    · exact List.mem_cons_of_mem _ (ih h)
section
variable {K : PySem.W.Frag} {w w' : Wo} {H H' : Hp} {S : Sto} {ρ : En} {σ : St}
theorem REnv.setN (i : Nat) (h : REnv K w H ρ σ) : REnv K w H (ρ.set i none) (σ.set i none) := by
  refine ⟨by simp [h.1], fun j e q => ?_⟩
  by_cases hj : j = i
  · subst hj
    by_cases hl : j < ρ.length
    · rw [List.getElem?_set_self hl] at q; cases q
    · rw [List.getElem?_eq_none (by simpa using hl)] at q; cases q
  · rw [List.getElem?_set_ne (Ne.symm hj)] at q ⊢
    exact h.2 j e q
theorem Sim.xdm (s : Sim K w S H) {d : Addr} {fs : List (Str × V)} (h : H d = some (.xd fs)) : d ∉ w.m := fun z => by
  obtain ⟨i, hi, e⟩ := List.getElem_of_mem z
  have hi' : i < S.length := by rw [← s.len]; exact hi
  obtain ⟨b, hb, hc⟩ := s.at_ i S[i] (List.getElem?_eq_getElem hi')
  rw [List.getElem?_eq_getElem hi, e] at hb
  cases hb
  generalize S[i] = c at hc
  cases c with
  | lst _ => obtain ⟨_, q, _⟩ := hc; rw [h] at q; cases q
  | dK _ => obtain ⟨_, q, _⟩ := hc; rw [h] at q; cases q
  | dT _ => obtain ⟨_, q, _⟩ := hc; rw [h] at q; cases q
  | fT _ => obtain ⟨_, _, q, _⟩ := hc; rw [h] at q; cases q
  | ins _ _ => obtain ⟨_, _, _, _, q, _⟩ := hc; rw [h] at q; cases q
theorem finX_post {W : WX} {i : Nat} {o : O} {D : Ends} (p : PostS K W w H (finX i o) D) :
    PostS K WF w H o { nx := fun σ' H' => D.nx (σ'.set i none) H', rt := D.rt, bk := fun σ' H' => D.bk (σ'.set i none) H', ct := fun σ' H' => D.ct (σ'.set i none) H' } := by
  cases o with
  | nx ρ S => exact fun w' H' σ' e s r => p w' H' _ e s (r.setN i)
  | bk ρ S => exact fun w' H' σ' e s r => p w' H' _ e s (r.setN i)
  | ct ρ S => exact fun w' H' σ' e s r => p w' H' _ e s (r.setN i)
  | rt d S => exact p
  | ex e ρ S => exact p.elim
  | no => exact p.elim
end
section
variable {X : Cx} {W : WX} {x n : Str} {c : Value} {i : Nat} {body suite : List Stmt} {b₀ : Stmt} {np pos pos' : Pos} {b : SF} {fs : SuF} {tab : List (Str × Bool)}
theorem S_tryAs (ht : TabX X.K tab c) (hc : Names X x c) (hN : X.N.Nodup) (hi : X.N[i]? = some n) (tk : L2N.Takes X W)
    (hb : ∀ (W : WX) (pn : List (Addr × Obj)) (xe : Value → Shared → Prop), L2N.Takes (X.tr pn xe) W → PassesOwn (model X.prog X.w) X.A X.env xe → PSs (X.tr pn xe) body (tS X.K W b))
    (hsu : ∀ (a dd C : Addr) (e : Exn) (oe : Obj) (pn : List (Addr × Obj)), ClsN X.K e.cls C → L2N.Zn (.ref C) (some dd) oe → (∃ vs, oe.data = .fields vs) → PSs (X.suite a ((a, oe) :: pn)) (b₀ :: suite) (tS X.K WF (fs a dd e)))
    (hs : X.stack = X.env :: X.outer := by rfl) (hf : X.env.frame = some X.env.locals := by rfl) (hln : X.env.kindOf n = some .local := by rfl) :
    PS X (.Try body [.ExceptHandler (some (.Name x np)) (some n) (b₀ :: suite) pos'] [] [] pos) (tS X.K W (sTryAs tab i b fs)) := by
  refine PS.weak (L2N.ps_try_as (i := i) (tb := fun W => tS X.K W b) (ts := fun a cls d D σ H => ∃ dd C e, cls = .ref C ∧ d = some dd ∧ ClsN X.K e.cls C ∧ tS X.K WF (fs a dd e) D σ H) (Wout := W) hs hf hN hi hln hc tk hb
    (fun a oe cls d pn hz hd => ⟨fun pins s σ H D I ⟨dd, C, e, h1, h2, hn, q⟩ => by subst h1; subst h2; exact (hsu a dd C e oe pn hn hz hd).run pins s σ H D I q⟩)) fun D σ H h => ?_
  obtain ⟨w, S, ρ, s, re, p⟩ := h
  refine ⟨w, S, ρ, s, re, ?_⟩
  unfold sTryAs at p
  cases hbb : b ρ S with
  | nx ρ1 S1 => rw [hbb] at p; exact p
  | bk ρ1 S1 => rw [hbb] at p; exact p
  | ct ρ1 S1 => rw [hbb] at p; exact p
  | rt d S1 => rw [hbb] at p; exact p
  | no => rw [hbb] at p; exact p
  | ex e ρ1 S1 =>
    rw [hbb] at p
    dsimp only at p
    intro w' H' σ' dx v C ex s' r' hn hd nq rv
    cases hl : tab.lookup e.cls with
    | none => rw [hl] at p; exact p.elim
    | some k =>
      rw [hl] at p
      have hx := ht _ _ (mem_of_lk hl) C hn
      cases k with
      | false => exact ⟨false, hx, (fun z => by cases z), fun _ => p w' H' σ' dx v C ex s' r' hn hd nq rv⟩
      | true =>
        refine ⟨true, hx, fun _ a na => ⟨dx, C, e, rfl, rfl, hn, w', S1, ρ1.set i (some (.exc a dx e.f e.val)), s', r'.set (by simp only [RV]; exact ⟨trivial, v, hd, ⟨s'.xdm hd, nq⟩, rv⟩), ?_⟩, (fun z => by cases z)⟩
        dsimp only at p
        unfold pickO at p
        split at p
        · rename_i hp
          rw [← hp a dx] at p
          exact finX_post (PostS.shift ex p)
        · exact p.elim
end
/-! ### in the suite -/
/-- what isinstance and a field's reading ask of an exception's class -/
structure ExF (K : PySem.W.Frag) (C : Addr) : Prop where
  cl : (PySem.W.clsIn K C).isSome = true
  ga : PySem.W.findIn K (.ref C) "__getattribute__" = some (some (.builtin "BaseException.__getattribute__"))
  gg : PySem.W.findIn K (.ref C) "__getattr__" = some none
  sb : PySem.W.subIn K (.ref C) (.type "BaseException") = some true
  ha : PySem.W.findIn K (.ref C) "__class__" = some (some (.builtin "object.__class__"))
  hn : PySem.W.specialIn K (.builtin "object.__class__") "__get__" = some (some (.builtin "getset_descriptor.__get__"))
  ht : PySem.W.takesIn K (.builtin "object.__class__") = some true
  hm : PySem.W.mroIn K C (.type "object") = some true
  hd : PySem.W.hasDictIn K C = true
def rIsX (K : PySem.W.Frag) (C a dd : Addr) : List V → Hp → VK → Prop := fun xs H Q => ∃ (c : V) (cv : Value) (b : Bool) (fs : List (Str × V)), xs = [.ref a, c] ∧ ClsV c cv ∧ H dd = some (.xd fs) ∧ PySem.W.kitOne K (.ref C) cv = some b ∧ Q (.bl b) H
def rIsXT (K : PySem.W.Frag) (C a dd : Addr) : List V → Hp → VK → Prop := fun xs H Q => ∃ (tp : Addr) (cs : List V) (us : List Value) (b : Bool) (fs : List (Str × V)), xs = [.ref a, .ref tp] ∧ H tp = some (.tup cs) ∧ Paired ClsV cs us ∧ H dd = some (.xd fs) ∧ PySem.W.kitAny K (.ref C) us = some b ∧ Q (.bl b) H
section
variable {X : Cx} {a dd C : Addr} {oe : Obj} {pn : List (Addr × Obj)}
theorem inst_at {pins : List (Addr × Obj)} {σ : L2.St} {H : Hp} {s : Shared} {fs : List (Str × V)} (hz : L2N.Zn (.ref C) (some dd) oe) (hf : ∃ vs, oe.data = .fields vs) (I : Inv (X.suite a ((a, oe) :: pn)) pins σ H s) (ed : H dd = some (.xd fs)) : ∃ od, PySem.W.InstAt s.heap a oe C (some od) := by
  obtain ⟨hget, _⟩ := I.pin (a, oe) (List.mem_append.mpr (.inl List.mem_cons_self))
  obtain ⟨vs, hd⟩ := hf
  have hx : ObjOk X.prog X.w H s.heap dd (.xd fs) := I.hok dd _ ed
  obtain ⟨mA, hns, hr⟩ := hx
  obtain ⟨od, ho, hl⟩ := lookIn_ns hns
  exact ⟨od, hget, hz.1, by unfold PySem.W.notCls; rw [hd] <;> rfl, by rw [hz.2.1]; exact ho⟩
theorem call_isX (F : ExF X.K C) (hz : L2N.Zn (.ref C) (some dd) oe) (hf : ∃ vs, oe.data = .fields vs) : CallR (X.suite a ((a, oe) :: pn)) (.builtin "isinstance") (rIsX X.K C a dd) := by
  intro pins s σ H xs us Q I r h
  obtain ⟨c, cv, b, fs, rfl, k, ed, e, q⟩ := h
  cases r with
  | cons rx rr =>
    cases rr with
    | cons rt rr =>
      cases rr
      cases rx
      have ec := k.eq rt
      subst ec
      obtain ⟨od, J⟩ := inst_at hz hf I ed
      exact PySem.W.kia_one (PySem.W.kitx_exc F.cl F.ga F.gg F.sb F.ha F.hn F.ht F.hm) I.kIn J e (fun z => nomatch z) fun tk => ⟨.bl b, H, I.kept (t' := tk) fun _ _ z => z, rfl, q⟩
theorem call_isXT (F : ExF X.K C) (hz : L2N.Zn (.ref C) (some dd) oe) (hf : ∃ vs, oe.data = .fields vs) : CallR (X.suite a ((a, oe) :: pn)) (.builtin "isinstance") (rIsXT X.K C a dd) := by
  intro pins s σ H xs us Q I r h
  obtain ⟨tp, cs, ws, b, fs, rfl, hT, k, ed, e, q⟩ := h
  cases r with
  | cons rx rr =>
    cases rr with
    | cons rt rr =>
      cases rr
      cases rx
      cases rt
      obtain ⟨od, J⟩ := inst_at hz hf I ed
      obtain ⟨_, its, rv, o, h1, h2, n, h3⟩ := (show ObjOk X.prog X.w H s.heap tp (.tup cs) from I.hok tp _ hT)
      have e3 := ClsV.all k rv
      subst e3
      obtain ⟨oc, od, dt, sl⟩ := o
      simp only at h2 h3
      subst h2 h3
      exact PySem.W.kia_tup (PySem.W.kitx_exc F.cl F.ga F.gg F.sb F.ha F.hn F.ht F.hm) I.kIn J h1 e (fun z => nomatch z) fun tk => ⟨.bl b, H, I.kept (t' := tk) fun _ _ z => z, rfl, q⟩
end
/-- a class that is named: an own one, a built-in one -/
inductive ClsE (X : Cx) : Str → V → Value → Prop where
  | own {x : Str} {C : Addr} (hm : X.mg x = some (.ref C)) (hg : Gl X x) (hd : (x == ("__debug__" : Str)) = false) : ClsE X x (.ref C) (.ref C)
  | blt {x : Str} {T : String} (hm : X.mg x = none) (hg : Gl X x) (hv : bootBuiltins x = some (.type T)) (hn : x ≠ "__name__") (hd : (x == ("__debug__" : Str)) = false) : ClsE X x (.ty T) (.type T)
theorem ClsE.pe {X : Cx} {x : Str} {v : V} {u : Value} {pos : Pos} (h : ClsE X x v u) : PE X (.Name x pos) (tC v) := by
  cases h with
  | own hm hg hd => exact pe_glob hg hm rfl hd
  | blt hm hg hv hn hd => exact pe_bltn hg hm hv rfl hn hd
theorem ClsE.v {X : Cx} {x : Str} {v : V} {u : Value} (h : ClsE X x v u) : ClsV v u := by
  cases h with
  | own hm hg hd => exact .own _
  | blt hm hg hv hn hd => exact .ty _
def eIsX (i : Nat) (a dd : Addr) (e : Exn) (tab : List (Str × Bool)) : EF := fun ρ S => match ρ[i]? with
  | some (some (.exc a' d' _ _)) => if a' = a ∧ d' = dd then (match tab.lookup e.cls with
    | some b => .ok (.bl b) S
    | none => .no) else .no
  | _ => .no
def eXf (i : Nat) (a dd : Addr) (e : Exn) (c f : Str) : EF := fun ρ S => match ρ[i]? with
  | some (some (.exc a' d' f' v)) => if a' = a ∧ d' = dd ∧ f' = f ∧ e.cls = c then .ok v S else .no
  | _ => .no
def IsT (K : PySem.W.Frag) (tab : List (Str × Bool)) (cv : Value) : Prop := ∀ c b, (c, b) ∈ tab → ∀ C, ClsN K c C → ExF K C ∧ PySem.W.kitOne K (.ref C) cv = some b
def IsTT (K : PySem.W.Frag) (tab : List (Str × Bool)) (cvs : List Value) : Prop := ∀ c b, (c, b) ∈ tab → ∀ C, ClsN K c C → ExF K C ∧ PySem.W.kitAny K (.ref C) cvs = some b
section
variable {X : Cx} {a dd C : Addr} {oe : Obj} {pn : List (Addr × Obj)} {e : Exn} {W : WX} {p p1 p2 p3 p4 pos : Pos} {n x y : Str} {v u : V} {cv cu : Value} {tab : List (Str × Bool)}
theorem isX_get {K : PySem.W.Frag} {w : Wo} {H : Hp} {S : Sto} {ρ : En} {σ : St} {i : Nat} {Q : VK} (re : REnv K w H ρ σ) (s : Sim K w S H) (p : PostG K (RV K) W w H σ (eIsX i a dd e tab ρ S) Q) :
    ∃ b fs, σ[i]? = some (some (.ref a)) ∧ H dd = some (.xd fs) ∧ tab.lookup e.cls = some b ∧ ∀ w' H', Ext w H w' H' → Sim K w' S H' → Q (.bl b) H' := by
  unfold eIsX at p
  split at p
  · rename_i a' d' f' v' hi
    split at p
    · rename_i ha
      obtain ⟨rfl, rfl⟩ := ha
      split at p
      · rename_i b hb
        obtain ⟨z, h1, h2⟩ := re.2 i _ hi
        simp only [RV] at h2
        obtain ⟨rfl, xx, h3, _⟩ := h2
        exact ⟨b, _, h1, h3, hb, fun w' H' ex s' => p w' H' _ ex s' (by simp only [RV])⟩
      · exact p.elim
    · exact p.elim
  · exact p.elim
theorem E_isX (i : Nat) (ht : IsT X.K tab cv) (hc : ClsE X x v cv) (hn : ClsN X.K e.cls C) (hz : L2N.Zn (.ref C) (some dd) oe) (hf : ∃ vs, oe.data = .fields vs) (hm : X.mg "isinstance" = none) (hN : X.N[i]? = some n := by rfl)
    (hv : Vis X.env.scope n := by first | exact Or.inl rfl | exact Or.inr (Or.inl rfl) | exact Or.inr (Or.inr rfl)) (hdb : (n == ("__debug__" : Str)) = false := by decide) (hcd : (n == ("__classdict__" : Str)) = false := by decide) (hg : Gl X "isinstance" := by rfl)
    (na : starEach [.Name n p1, .Name x p2] X.env = (false, eval (.Name n p1) X.env) :: starEach [.Name x p2] X.env := by rfl) (nb : starEach [.Name x p2] X.env = (false, eval (.Name x p2) X.env) :: starEach [] X.env := by rfl) (hpl : (backTo pos (starEach [.Name x p2] X.env)).any (·.1) = false := by rfl) :
    PE (X.suite a ((a, oe) :: pn)) (.Call (.Name "isinstance" p) [.Name n p1, .Name x p2] [] pos) (tE X.K W (eIsX i a dd e tab)) := by
  have hcs : ClsE (X.suite a ((a, oe) :: pn)) x v cv := by
    cases hc with
    | own hm hg hd => exact .own hm hg hd
    | blt hm hg hv hn hd => exact .blt hm hg hv hn hd
  by_cases hF : ∃ b, tab.lookup e.cls = some b
  · obtain ⟨b, hb⟩ := hF
    obtain ⟨F, hk⟩ := ht _ _ (mem_of_lk hb) C hn
    refine PE.weak (pe_callB (call_isX F hz hf) hg hm (by decide +kernel) (pa_cons (pe_var hN hv hdb hcd) (pa_cons hcs.pe pa_nil nb) na) (by decide) (by decide) na hpl) fun σ H Q h => ?_
    obtain ⟨w, S, ρ, s, re, p⟩ := h
    obtain ⟨b', fs, h1, h2, h3, h4⟩ := isX_get re s p
    rw [hb] at h3
    cases h3
    exact ⟨_, h1, v, cv, b, fs, rfl, hcs.v, h2, hk, h4 w H .refl s⟩
  · refine ⟨fun pins s σ H Q I h => ?_⟩
    obtain ⟨w, S, ρ, s, re, p⟩ := h
    obtain ⟨b', fs, h1, h2, h3, h4⟩ := isX_get re s p
    exact absurd ⟨b', h3⟩ hF
theorem E_isXT (i : Nat) (ht : IsTT X.K tab [cv, cu]) (hc : ClsE X x v cv) (hc2 : ClsE X y u cu) (hn : ClsN X.K e.cls C) (hz : L2N.Zn (.ref C) (some dd) oe) (hf : ∃ vs, oe.data = .fields vs) (hm : X.mg "isinstance" = none) {kk : Nat} (hN : X.N[i]? = some n := by rfl)
    (hv : Vis X.env.scope n := by first | exact Or.inl rfl | exact Or.inr (Or.inl rfl) | exact Or.inr (Or.inr rfl)) (hdb : (n == ("__debug__" : Str)) = false := by decide) (hcd : (n == ("__classdict__" : Str)) = false := by decide) (hg : Gl X "isinstance" := by rfl)
    (na : starEach [.Name n p1, .Tuple [.Name x p2, .Name y p3] kk p4] X.env = (false, eval (.Name n p1) X.env) :: starEach [.Tuple [.Name x p2, .Name y p3] kk p4] X.env := by rfl)
    (nb : starEach [.Tuple [.Name x p2, .Name y p3] kk p4] X.env = (false, eval (.Tuple [.Name x p2, .Name y p3] kk p4) X.env) :: starEach [] X.env := by rfl) (hpl : (backTo pos (starEach [.Tuple [.Name x p2, .Name y p3] kk p4] X.env)).any (·.1) = false := by rfl)
    (nc : starEach [.Name x p2, .Name y p3] X.env = (false, eval (.Name x p2) X.env) :: starEach [.Name y p3] X.env := by rfl) (nd : starEach [.Name y p3] X.env = (false, eval (.Name y p3) X.env) :: starEach [] X.env := by rfl) :
    PE (X.suite a ((a, oe) :: pn)) (.Call (.Name "isinstance" p) [.Name n p1, .Tuple [.Name x p2, .Name y p3] kk p4] [] pos) (tE X.K W (eIsX i a dd e tab)) := by
  have up : ∀ {x v cv}, ClsE X x v cv → ClsE (X.suite a ((a, oe) :: pn)) x v cv := fun {x v cv} hc => by
    cases hc with
    | own hm hg hd => exact .own hm hg hd
    | blt hm hg hv hn hd => exact .blt hm hg hv hn hd
  by_cases hF : ∃ b, tab.lookup e.cls = some b
  · obtain ⟨b, hb⟩ := hF
    obtain ⟨F, hk⟩ := ht _ _ (mem_of_lk hb) C hn
    refine PE.weak (pe_callB (call_isXT F hz hf) hg hm (by decide +kernel) (pa_cons (pe_var hN hv hdb hcd) (pa_cons (pe_tup (pa_cons (up hc).pe (pa_cons (up hc2).pe pa_nil nd) nc)) pa_nil nb) na) (by decide) (by decide) na hpl) fun σ H Q h => ?_
    obtain ⟨w, S, ρ, s, re, p⟩ := h
    obtain ⟨b', fs, h1, h2, h3, h4⟩ := isX_get re s p
    rw [hb] at h3
    cases h3
    refine ⟨_, h1, ⟨by show 2 ≤ sizeLine; decide, fun q hq => ⟨q, [v, u], [cv, cu], b, fs, rfl, upd_same, .cons hc.v (.cons hc2.v .nil), ?_, hk, h4 w _ (Ext.fresh hq) (s.fresh hq)⟩⟩⟩
    rw [upd_ne (ne_of_none h2 hq)]; exact h2
  · refine ⟨fun pins s σ H Q I h => ?_⟩
    obtain ⟨w, S, ρ, s, re, p⟩ := h
    obtain ⟨b', fs, h1, h2, h3, h4⟩ := isX_get re s p
    exact absurd ⟨b', h3⟩ hF
theorem E_xf (i : Nat) {c f : Str} (hF : ∀ C, ClsN X.K c C → ExF X.K C ∧ PySem.W.findIn X.K (.ref C) f = some none) (hn : ClsN X.K e.cls C) (hz : L2N.Zn (.ref C) (some dd) oe) (hf : ∃ vs, oe.data = .fields vs) (hN : X.N[i]? = some n := by rfl)
    (hv : Vis X.env.scope n := by first | exact Or.inl rfl | exact Or.inr (Or.inl rfl) | exact Or.inr (Or.inr rfl)) (hdb : (n == ("__debug__" : Str)) = false := by decide) (hcd : (n == ("__classdict__" : Str)) = false := by decide)
    (hb : attributeBase (.Name n p1) f X.env (eval (.Name n p1) X.env) = eval (.Name n p1) X.env := by rfl) : PE (X.suite a ((a, oe) :: pn)) (.Attribute (.Name n p1) f pos) (tE X.K W (eXf i a dd e c f)) := by
  have get : ∀ {w : Wo} {H : Hp} {S : Sto} {ρ : En} {σ : St} {Q : VK}, REnv X.K w H ρ σ → Sim X.K w S H → PostG X.K (RV X.K) W w H σ (eXf i a dd e c f ρ S) Q → e.cls = c ∧ σ[i]? = some (some (.ref a)) ∧ ∃ z, H dd = some (.xd [(f, z)]) ∧ Q z H := fun {w H S ρ σ Q} re s p => by
    unfold eXf at p
    split at p
    · rename_i a' d' f' v' hi
      split at p
      · rename_i ha
        obtain ⟨rfl, rfl, rfl, hcc⟩ := ha
        obtain ⟨z, h1, h2⟩ := re.2 i _ hi
        simp only [RV] at h2
        obtain ⟨rfl, xx, h3, _, h5⟩ := h2
        exact ⟨hcc, h1, xx, h3, p w H _ .refl s h5⟩
      · exact p.elim
    · exact p.elim
  by_cases hcc : e.cls = c
  · obtain ⟨F, hno⟩ := hF C (hcc ▸ hn)
    refine PE.weak (pe_xf (e := .Name n p1) (te := tVar i) ⟨F.ga, F.gg, F.sb, F.hd⟩ hno hz.zc hf (pe_var hN hv hdb hcd) hb) fun σ H Q h => ?_
    obtain ⟨w, S, ρ, s, re, p⟩ := h
    obtain ⟨_, h1, z, h3, h4⟩ := get re s p
    exact ⟨_, h1, rfl, rfl, dd, _, z, rfl, h3, by simp [List.lookup], h4⟩
  · refine ⟨fun pins s σ H Q I h => ?_⟩
    obtain ⟨w, S, ρ, s, re, p⟩ := h
    exact absurd (get re s p).1 hcc
theorem hot_suite (hz : L2N.Zn (.ref C) (some dd) oe) (hf : ∃ vs, oe.data = .fields vs) : L2H.HotC (X.suite a ((a, oe) :: pn)) := by
  obtain ⟨vs, hd⟩ := hf
  exact ⟨(a, oe), ⟨rfl, vs, hd, hz.2.2 vs hd⟩, List.mem_cons_self⟩
theorem S_neverS {X : Cx} {W : WX} {ss : List Stmt} : PSs X ss (tS X.K W sNo) := PSs.weak pss_never fun D σ H h => let ⟨_, _, _, _, _, p⟩ := h; p.elim
theorem op_eqH {X : Cx} {k : Nat} (hr : L2H.RoomH k X.A) : OpR X (compareOp .Eq) (rEqA X.K) := op_eq.or (op_eqD (by have := hr.un; omega))
end
end Ev

namespace Ev
open PySem PySem.Spec PyProof.Rows L2
theorem takes0N {X : Cx} : L2N.Takes X WF := fun _ _ x => by
  obtain ⟨_, _, _, _, _, _, _, _, _, _, _, _, _, _, _, _, z⟩ := x
  exact z.elim
theorem finX_ex {i : Nat} {o : O} {e : Exn} {ρ : En} {S : Sto} : finX i o ≠ .ex e ρ S := by cases o <;> simp [finX]
theorem sSup_form (c : Str) (n : Nat) (F : List D → Sto → R D) (fa : AF) (ρ : En) (S : Sto) : (∀ {d S1}, sSup c n F fa ρ S ≠ .rt d S1) ∧ (∀ {ρ1 S1}, sSup c n F fa ρ S ≠ .bk ρ1 S1) ∧ (∀ {ρ1 S1}, sSup c n F fa ρ S ≠ .ct ρ1 S1) := by
  have key : ∀ o, sSup c n F fa ρ S = o → (∃ ρ1 S1, o = .nx ρ1 S1) ∨ (∃ e ρ1 S1, o = .ex e ρ1 S1) ∨ o = .no := by
    intro o ho
    unfold sSup at ho
    split at ho
    · split at ho
      · split at ho
        · cases hfa : fa ρ S with
          | ok es1 S2 =>
            rw [hfa] at ho
            simp only [sB_ok] at ho
            split at ho
            · revert ho
              generalize hF : F _ S2 = r
              intro ho
              cases r with
              | ok r S3 => exact .inl ⟨_, _, ho.symm⟩
              | ex x S3 => exact .inr (.inl ⟨_, _, _, ho.symm⟩)
              | no => exact .inr (.inr ho.symm)
            · exact .inr (.inr ho.symm)
          | ex x S2 => rw [hfa] at ho; exact .inr (.inl ⟨_, _, _, ho.symm⟩)
          | no => rw [hfa] at ho; exact .inr (.inr ho.symm)
        · exact .inr (.inr ho.symm)
      · exact .inr (.inr ho.symm)
    · exact .inr (.inr ho.symm)
  refine ⟨fun {d S1} h => ?_, fun {d S1} h => ?_, fun {d S1} h => ?_⟩
  all_goals
    rcases key _ h with ⟨_, _, e⟩ | ⟨_, _, _, e⟩ | e <;> cases e
theorem TabX.nil {K : PySem.W.Frag} {cv : Value} : TabX K [] cv := fun _ _ h => by cases h
theorem TabX.cons {K : PySem.W.Frag} {cv : Value} {l : List (Str × Bool)} {c : Str} {b : Bool} {C : Addr} (hn : ClsN K c C) (h : PySem.W.exmOne K (.ref C) cv = some b) (r : TabX K l cv) : TabX K ((c, b) :: l) cv := fun c' b' hm C' hn' => by
  rcases List.mem_cons.mp hm with e | hm
  · cases e
    unfold ClsN at hn hn'
    rw [hn] at hn'
    cases hn'
    exact h
  · exact r c' b' hm C' hn'
theorem IsT.nil {K : PySem.W.Frag} {cv : Value} : IsT K [] cv := fun _ _ h => by cases h
theorem IsT.cons {K : PySem.W.Frag} {cv : Value} {l : List (Str × Bool)} {c : Str} {b : Bool} {C : Addr} (hn : ClsN K c C) (F : ExF K C) (h : PySem.W.kitOne K (.ref C) cv = some b) (r : IsT K l cv) : IsT K ((c, b) :: l) cv := fun c' b' hm C' hn' => by
  rcases List.mem_cons.mp hm with e | hm
  · cases e
    unfold ClsN at hn hn'
    rw [hn] at hn'
    cases hn'
    exact ⟨F, h⟩
  · exact r c' b' hm C' hn'
theorem IsTT.nil {K : PySem.W.Frag} {cv : List Value} : IsTT K [] cv := fun _ _ h => by cases h
theorem IsTT.cons {K : PySem.W.Frag} {cv : List Value} {l : List (Str × Bool)} {c : Str} {b : Bool} {C : Addr} (hn : ClsN K c C) (F : ExF K C) (h : PySem.W.kitAny K (.ref C) cv = some b) (r : IsTT K l cv) : IsTT K ((c, b) :: l) cv := fun c' b' hm C' hn' => by
  rcases List.mem_cons.mp hm with e | hm
  · cases e
    unfold ClsN at hn hn'
    rw [hn] at hn'
    cases hn'
    exact ⟨F, h⟩
  · exact r c' b' hm C' hn'
section
variable {X : Cx} {W : WX} {x n : Str} {c : Value} {i : Nat} {body suite : List Stmt} {b₀ : Stmt} {np pos pos' : Pos} {b : SF} {fs : SuF} {tab : List (Str × Bool)}
/-- the clause takes all that may come: no exception leaves -/
theorem S_tryAs0 (hall : tab.all (·.2) = true) (ht : TabX X.K tab c) (hc : Names X x c) (hN : X.N.Nodup) (hi : X.N[i]? = some n)
    (hb : ∀ (W : WX) (pn : List (Addr × Obj)) (xe : Value → Shared → Prop), L2N.Takes (X.tr pn xe) W → PassesOwn (model X.prog X.w) X.A X.env xe → PSs (X.tr pn xe) body (tS X.K W b))
    (hsu : ∀ (a dd C : Addr) (e : Exn) (oe : Obj) (pn : List (Addr × Obj)), ClsN X.K e.cls C → L2N.Zn (.ref C) (some dd) oe → (∃ vs, oe.data = .fields vs) → PSs (X.suite a ((a, oe) :: pn)) (b₀ :: suite) (tS X.K WF (fs a dd e)))
    (hs : X.stack = X.env :: X.outer := by rfl) (hf : X.env.frame = some X.env.locals := by rfl) (hln : X.env.kindOf n = some .local := by rfl) :
    PS X (.Try body [.ExceptHandler (some (.Name x np)) (some n) (b₀ :: suite) pos'] [] [] pos) (tS X.K W (sTryAs tab i b fs)) := by
  refine PS.weak (S_tryAs (W := WF) ht hc hN hi takes0N hb hsu hs hf hln) fun D σ H h => ?_
  obtain ⟨w, S, ρ, s, re, p⟩ := h
  refine ⟨w, S, ρ, s, re, ?_⟩
  cases ho : sTryAs tab i b fs ρ S with
  | ex e ρ1 S1 =>
    exfalso
    unfold sTryAs at ho
    cases hbb : b ρ S with
    | ex e2 ρ2 S2 =>
      rw [hbb] at ho
      dsimp only at ho
      cases hl : tab.lookup e2.cls with
      | none => rw [hl] at ho; cases ho
      | some k =>
        have hk : k = true := List.all_eq_true.mp hall _ (mem_of_lk hl)
        subst hk
        rw [hl] at ho
        dsimp only at ho
        unfold pickO at ho
        split at ho
        · exact finX_ex ho
        · cases ho
    | nx ρ1 S1 => rw [hbb] at ho; cases ho
    | bk ρ1 S1 => rw [hbb] at ho; cases ho
    | ct ρ1 S1 => rw [hbb] at ho; cases ho
    | rt d S1 => rw [hbb] at ho; cases ho
    | no => rw [hbb] at ho; cases ho
  | nx ρ1 S1 => rw [ho] at p; exact p
  | bk ρ1 S1 => rw [ho] at p; exact p
  | ct ρ1 S1 => rw [ho] at p; exact p
  | rt d S1 => rw [ho] at p; exact p
  | no => rw [ho] at p; exact p
end
section
variable {P : Program} {w : World} {K : PySem.W.Frag} {mg : Str → Option Value} {base : Heap}
/-- a def with super().__init__(..) ahead that may raise behind it -/
theorem fun_okSX {x qual file c : Str} {st : Stmt} {f f2 cda cc Dc : Addr} {fd2 : FuncData} {N ps ps2 : List Str} {k n : Nat} {fa : AF} {b : SF} {F : List D → Sto → R D} {oc : Value} {od : Option Addr} {osl : Array (Option Value)} {doc pm ct : Value}
    {p0 p1 apos pos epos : Pos} {e : Expr} {es : List Expr} {rest : List Stmt} {ar : Arg} {pl : Sem Bool}
    (lk : K.lookup f = some ⟨oc, od, .func ((supNF x qual st cc cda).fd doc pm ct), osl⟩) (hcd : PySem.W.codeIn K (.ref cda) qual = true) (S : NdefX.NScope N ps [("__class__" : Str)] (defScope st)) (hc : CI K c Dc)
    (T : SupF P K Dc f f2 cda cc qual file (defArgs st) (defScope st)) (G : FnOk P w K mg base CX0 k f2 fd2 ps2 (spOf K n F)) (bd : Binds K fd2 ps2 []) (hms : mg "super" = none)
    (body : defBody st = .Expr (.Call (.Attribute (.Call (.Name "super" p0) [] [] p1) "__init__" apos) (e :: es) [] pos) epos :: rest)
    (hp : ((defArgs st).posonlyargs ++ (defArgs st).args).head? = some ar) (hps : ps[0]? = some ar.arg)
    (hs : (defScope st).names.lookup ("super" : Str) = some .globalImplicit) (hk : (defScope st).names.lookup ("__class__" : Str) = some .free)
    (hb : ∀ (X : Cx) (W : WX) (A : Around) (outer : List Env) (s : Shared) (H : Hp) (E : XK), Room k (A.deeper (NdefX.envF (supNF x qual st cc cda) f s.heap.objs.size)) → X = NdefX.ncx (L2N.CX P w) P w K mg base N (supNF x qual st cc cda) f A outer s H E →
      L2N.Takes X W → PassesOwn (model X.prog X.w) X.A X.env X.xe →
      PA X (e :: es) (tA K W fa) ∧ PSs X rest (tS K W b) ∧ starEach (e :: es) X.env = (false, eval e X.env) :: starEach es X.env ∧ (backTo pos (starEach es X.env)).any (·.1) = false ∧ interactive X.env = false ∧
      swapsWith (.Call (.Attribute (.Call (.Name "super" p0) [] [] p1) "__init__" apos) (e :: es) [] pos) none epos.line X.env = pure false ∧
      eval (.Call (.Attribute (.Call (.Name "super" p0) [] [] p1) "__init__" apos) (e :: es) [] pos) X.env = (do let ov ← attributeBase (.Call (.Name "super" p0) [] [] p1) "__init__" X.env (eval (.Call (.Name "super" p0) [] [] p1) X.env); standAt apos.atName; let (f, first) ← holding [ov] (getMethod ov "__init__" pl); callWith pos f first (backTo pos (starEach (e :: es) X.env)) [])) :
    FnOk P w K mg base (L2N.CX P w) (k + 1) f ((supNF x qual st cc cda).fd doc pm ct) ps (spOf K ps.length (runF N.length (sSeq (sSup c n F fa) b))) := by
  refine ⟨fun vs H Q E h => let ⟨_, _, _, h, _⟩ := h; h, fun A outer s H args us vs Q E hr e0 hbd r hsp => ?_⟩
  obtain ⟨w0, S0, ds, hl, sm, rd, p⟩ := hsp
  have KX : K.In s.heap := e0.mod.kin.keeps fun b o e => (e0.bs b o e).1
  have lim : s.heap.NoLimit := e0.mod.nolimit.keeps fun b o e => (e0.bs b o e).1
  obtain ⟨cl, cld, csl, hcell⟩ := T.cell
  have cellb := e0.bs cc _ (e0.mod.kin _ _ hcell)
  have C : NdefX.CellsAt (supNF x qual st cc cda).cl [("__class__" : Str)] [none] s.heap H := by
    have one : ∀ (y : Str) (c' : Addr), List.lookup y [(("__class__" : Str), cc)] = some c' → y = "__class__" ∧ c' = cc := fun y c' h => by
      by_cases q : y = ("__class__" : Str)
      · subst q
        refine ⟨rfl, ?_⟩
        have h : some cc = some c' := by simpa [List.lookup] using h
        exact (Option.some.inj h).symm
      · have : (y == ("__class__" : Str)) = false := beq_eq_false_iff_ne.mpr q
        simp [List.lookup, this] at h
    refine ⟨rfl, fun y c' h => ?_, fun y z c' h1 h2 => ?_, fun i y h => ?_⟩
    · obtain ⟨rfl, rfl⟩ := one y c' h
      exact ⟨cellb.2, _, _, cellb.1, rfl⟩
    · rw [(one y c' h1).1, (one z c' h2).1]
    · cases i with
      | zero =>
        cases h
        exact ⟨cc, rfl, fun v z => by cases z⟩
      | succ i => cases h
  refine ks_codeAny_call_defAt (fd := (supNF x qual st cc cda).fd doc pm ct) (body := defBody st) (binds := ps.zip us) hr.depth (KX _ _ lk) rfl lim (PySem.W.codeRec_of KX hcd) rfl hbd S.nocell (fun y hy => S.par y.1 (List.of_mem_zip hy).1) (fun h₀ hns kp => ?_) S.co S.gen S.kind
  have I0 := NdefX.inv_startN (CX := L2N.CX P w) (P := P) (w := w) (K := K) (mg := mg) (base := base) (E := E) (F := supNF x qual st cc cda) (f := f) (tk := s.toks + (ps.zip us).length) S hr.hd e0 hl r C hns kp
  obtain ⟨hPA, hPS, h1, h2, h3, h4, h5⟩ := hb _ (fun c d _ H => E c d H) A outer s H E (hr.deeper _) rfl (L2N.takes_of rfl rfl rfl rfl) (passes_of rfl)
  have env0 : REnv K w0 H (ds.map some ++ List.replicate (N.length - ds.length) none) (NdefX.startF N vs [none]) := by
    have hpl : ps.length + 1 ≤ N.length := by
      have q := congrArg List.length S.pre
      rw [List.length_take, List.length_append] at q
      have : ([("__class__" : Str)] : List Str).length = 1 := rfl
      omega
    have e1 : NdefX.startF N vs [none] = L2.start N vs := by
      unfold NdefX.startF L2.start
      rw [show N.length - vs.length = (N.length - vs.length - 1) + 1 by omega, List.replicate_succ]
      rfl
    rw [e1]
    exact start_env rd
  have p0 : PostS K (fun c d _ H => E c d H) w0 H (sSeq (sSup c n F fa) b (ds.map some ++ List.replicate (N.length - ds.length) none) S0) { nx := fun _ H' => Q .non H', rt := Q } := by
    unfold runF at p
    cases hbb : sSeq (sSup c n F fa) b (ds.map some ++ List.replicate (N.length - ds.length) none) S0 with
    | nx ρ S' => rw [hbb] at p; exact fun w' H' σ' e s' r' => gc_post sm e s' (by simp only [RV]) p
    | rt d S' => rw [hbb] at p; exact fun w' H' v e s' r' => gc_post sm e s' r' p
    | ex x ρ S' => rw [hbb] at p; exact fun w' H' σ' dx v C e s' _ h0 h1 hn h2 => p w' H' dx v C e s' h0 h1 hn h2
    | bk ρ S' => rw [hbb] at p; exact p.elim
    | ct ρ S' => rw [hbb] at p; exact p.elim
    | no => rw [hbb] at p; exact p.elim
  clear p
  generalize ds.map some ++ List.replicate (N.length - ds.length) none = ρ at p0 env0
  have need : ∃ a dx fs, (NdefX.startF N vs [none])[0]? = some (some (.ref a)) ∧ H a = some (.ins Dc dx fs) ∧ tA K (fun c d _ H => E c d H) fa (NdefX.startF N vs [none]) H (fun us H1 => spOf K n F (.ref a :: us) H1 (fun _ H2 =>
      ∃ w2 S2, Ext w0 H w2 H2 ∧ Sim K w2 S2 H2 ∧ PostS K (fun c d _ H => E c d H) w2 H2 (b ρ S2) { nx := fun _ H' => Q .non H', rt := Q }) E) := by
    unfold sSeq at p0
    cases hsu : sSup c n F fa ρ S0 with
    | nx ρ1 S1 =>
      rw [hsu] at p0
      unfold sSup at hsu
      split at hsu
      · rename_i i hi
        split at hsu
        · rename_i c' fs0 hS
          split at hsu
          · rename_i hcc
            subst hcc
            obtain ⟨v, hv, rv⟩ := env0.2 0 _ hi
            obtain ⟨a, rfl, h2, C', dx, us0, h3, h4, h5⟩ := sm.get hS rv
            cases hc.nm.uniq h3
            refine ⟨a, dx, us0, hv, h4, w0, S0, ρ, sm, env0, ?_⟩
            cases hfa : fa ρ S0 with
            | ok es1 S2 =>
              rw [hfa] at hsu
              simp only [sB_ok] at hsu
              split at hsu
              · rename_i hn
                intro w1 H1 us e1 s1 r1
                refine ⟨w1, S2, .loc i :: es1, by rw [List.length_cons, ← r1.length, hn], s1, ?_, ?_⟩
                · simp only [RVs]
                  exact ⟨_, _, rfl, rv.mono e1, r1⟩
                · cases hF : F (.loc i :: es1) S2 with
                  | ok r S3 =>
                    rw [hF] at hsu
                    simp only [sB_ok] at hsu
                    cases hsu
                    exact fun w2 H2 b' e2 s2 _ => ⟨w2, S1, e1.trans e2, s2, p0.shift (e1.trans e2)⟩
                  | ex x S3 => rw [hF] at hsu; cases hsu
                  | no => rw [hF] at hsu; cases hsu
              · cases hsu
            | ex x S2 => rw [hfa] at hsu; cases hsu
            | no => rw [hfa] at hsu; cases hsu
          · cases hsu
        · cases hsu
      · cases hsu
    | ex x ρ1 S1 =>
      rw [hsu] at p0
      unfold sSup at hsu
      split at hsu
      · rename_i i hi
        split at hsu
        · rename_i c' fs0 hS
          split at hsu
          · rename_i hcc
            subst hcc
            obtain ⟨v, hv, rv⟩ := env0.2 0 _ hi
            obtain ⟨a, rfl, h2, C', dx, us0, h3, h4, h5⟩ := sm.get hS rv
            cases hc.nm.uniq h3
            refine ⟨a, dx, us0, hv, h4, w0, S0, ρ, sm, env0, ?_⟩
            cases hfa : fa ρ S0 with
            | ok es1 S2 =>
              rw [hfa] at hsu
              simp only [sB_ok] at hsu
              split at hsu
              · rename_i hn
                intro w1 H1 us e1 s1 r1
                refine ⟨w1, S2, .loc i :: es1, by rw [List.length_cons, ← r1.length, hn], s1, ?_, ?_⟩
                · simp only [RVs]
                  exact ⟨_, _, rfl, rv.mono e1, r1⟩
                · cases hF : F (.loc i :: es1) S2 with
                  | ok r S3 => rw [hF] at hsu; cases hsu
                  | ex x S3 =>
                    rw [hF] at hsu
                    simp only [sB_ex] at hsu
                    cases hsu
                    exact fun w2 H2 dx v C e2 s2 q0 q1 qn q2 => p0 w2 H2 _ dx v C (e1.trans e2) s2 (env0.mono (e1.trans e2)) q0 q1 qn q2
                  | no => rw [hF] at hsu; cases hsu
              · cases hsu
            | ex x S2 =>
              rw [hfa] at hsu
              simp only [sB_ex] at hsu
              cases hsu
              exact fun w2 H2 dx v C e2 s2 q0 q1 qn q2 => p0 w2 H2 _ dx v C e2 s2 (env0.mono e2) q0 q1 qn q2
            | no => rw [hfa] at hsu; cases hsu
          · cases hsu
        · cases hsu
      · cases hsu
    | no => rw [hsu] at p0; exact p0.elim
    | rt d S1 => exact absurd hsu (sSup_form c n F fa ρ S0).1
    | bk ρ1 S1 => exact absurd hsu (sSup_form c n F fa ρ S0).2.1
    | ct ρ1 S1 => exact absurd hsu (sSup_form c n F fa ρ S0).2.2
  obtain ⟨a, dx, fs, g1, g2, g3⟩ := need
  rw [body]
  refine ks_wpAt_execs_cons (ks_wpAt_mono (super_stmt (X := NdefX.ncx (L2N.CX P w) P w K mg base N (supNF x qual st cc cda) f A outer s H E) (E := E) (ar := ar) (pl := pl) T hs hk ?_ rfl rfl rfl ⟨_, _, _, lk⟩ hp ?_ ?_ hms G ?_ bd (fun _ _ _ _ _ _ h => h.elim) hPA I0 g1 g2 g3 h1 h2 h3 h4 h5) ?_ fun e s' z => z)
  · exact S.par _ (List.mem_of_getElem? hps)
  · show N[0]? = some ar.arg
    have q : (N.take (ps.length + ([("__class__" : Str)] : List Str).length))[0]? = (ps ++ [("__class__" : Str)])[0]? := by rw [S.pre]
    rw [List.getElem?_take_of_lt (by simp), List.getElem?_append_left (List.getElem?_eq_some_iff.mp hps).1] at q
    rw [q, hps]
  · exact .inl (S.par _ (List.mem_of_getElem? hps))
  · exact hr.deeper _
  · rintro fl s' ⟨rfl, H2, I2, w2, S2, e2, s2, p2⟩
    refine wpAt_of_wpAny ?_
    have q2 : tS K (fun c d _ H => E c d H) b { nx := fun _ H' => Q .non H', rt := Q } (NdefX.startF N vs [none]) H2 := ⟨w2, S2, ρ, s2, env0.mono e2, p2⟩
    refine wpAny_mono (hPS.run [] s' _ H2 _ I2 q2) (fun fl s3 hs3 => ?_) fun e s' z => z
    have fin : ∀ {σ' : L2.St} {H' : Hp} {v : V} {u : Value}, Inv (NdefX.ncx (L2N.CX P w) P w K mg base N (supNF x qual st cc cda) f A outer s H E) [] σ' H' s3 → L2.RelV v u → Q v H' → CE outer P w H s Q u s3 :=
      fun {σ' H' v u} J rv q => ⟨v, H', J.os, J.bare, J.base, J.hok, rv, q⟩
    cases fl with
    | ret u =>
      obtain ⟨v, σ', H', J, rv, q⟩ := hs3
      exact fin J rv q
    | next =>
      obtain ⟨σ', H', J, q⟩ := hs3
      exact fin (v := V.non) (u := Value.none) J rfl q
    | brk =>
      obtain ⟨_, _, _, q⟩ := hs3
      exact q.elim
    | cont =>
      obtain ⟨_, _, _, q⟩ := hs3
      exact q.elim
end
end Ev

namespace Ev
open PySem PySem.Spec PyProof.Rows L2
/-! ### the words of a printed walk: what the text's part says of a try -/
structure TryC (K : PySem.W.Frag) (mg : Str → Option Value) (x : Str) (tab : List (Str × Bool)) : Prop where
  ex : ∃ C, mg x = some (.ref C) ∧ TabX K tab (.ref C)
structure IsO (K : PySem.W.Frag) (mg : Str → Option Value) (x : Str) (tab : List (Str × Bool)) : Prop where
  ex : ∃ C, mg x = some (.ref C) ∧ IsT K tab (.ref C)
structure IsB (K : PySem.W.Frag) (mg : Str → Option Value) (x : Str) (T : String) (tab : List (Str × Bool)) : Prop where
  no : mg x = none
  is : IsT K tab (.type T)
structure IsO2 (K : PySem.W.Frag) (mg : Str → Option Value) (x y : Str) (tab : List (Str × Bool)) : Prop where
  ex : ∃ C D, mg x = some (.ref C) ∧ mg y = some (.ref D) ∧ IsTT K tab [.ref C, .ref D]
structure XfT (K : PySem.W.Frag) (c f : Str) : Prop where
  ex : ∀ C, ClsN K c C → ExF K C ∧ PySem.W.findIn K (.ref C) f = some none
theorem XfT.mk' {K : PySem.W.Frag} {c f : Str} {C : Addr} (hn : ClsN K c C) (F : ExF K C) (h : PySem.W.findIn K (.ref C) f = some none) : XfT K c f := ⟨fun C' hn' => by
  unfold ClsN at hn hn'
  rw [hn] at hn'
  cases hn'
  exact ⟨F, h⟩⟩
section
variable {X : Cx} {W : WX} {x y n : Str} {i : Nat} {body suite : List Stmt} {b₀ : Stmt} {np pos pos' p p1 p2 p3 p4 : Pos} {b : SF} {fs : SuF} {tab : List (Str × Bool)} {a dd C : Addr} {oe : Obj} {pn : List (Addr × Obj)} {e : Exn}
theorem S_tryAsT (t : TryC X.K X.mg x tab) (hall : tab.all (·.2) = true) (hN : X.N.Nodup) (hi : X.N[i]? = some n)
    (hb : ∀ (W : WX) (pn : List (Addr × Obj)) (xe : Value → Shared → Prop), L2N.Takes (X.tr pn xe) W → PassesOwn (model X.prog X.w) X.A X.env xe → PSs (X.tr pn xe) body (tS X.K W b))
    (hsu : ∀ (a dd C : Addr) (e : Exn) (oe : Obj) (pn : List (Addr × Obj)), ClsN X.K e.cls C → L2N.Zn (.ref C) (some dd) oe → (∃ vs, oe.data = .fields vs) → PSs (X.suite a ((a, oe) :: pn)) (b₀ :: suite) (tS X.K WF (fs a dd e)))
    (hs : X.stack = X.env :: X.outer := by rfl) (hf : X.env.frame = some X.env.locals := by rfl) (hln : X.env.kindOf n = some .local := by rfl) (hg : Gl X x := by rfl) (hdb : (x == ("__debug__" : Str)) = false := by decide) :
    PS X (.Try body [.ExceptHandler (some (.Name x np)) (some n) (b₀ :: suite) pos'] [] [] pos) (tS X.K W (sTryAs tab i b fs)) := by
  obtain ⟨C, hm, ht⟩ := t.ex
  exact S_tryAs0 hall ht ⟨hg, hdb, .inl hm⟩ hN hi hb hsu hs hf hln
theorem S_tryAsTX (t : TryC X.K X.mg x tab) (tk : L2N.Takes X W) (hN : X.N.Nodup) (hi : X.N[i]? = some n)
    (hb : ∀ (W : WX) (pn : List (Addr × Obj)) (xe : Value → Shared → Prop), L2N.Takes (X.tr pn xe) W → PassesOwn (model X.prog X.w) X.A X.env xe → PSs (X.tr pn xe) body (tS X.K W b))
    (hsu : ∀ (a dd C : Addr) (e : Exn) (oe : Obj) (pn : List (Addr × Obj)), ClsN X.K e.cls C → L2N.Zn (.ref C) (some dd) oe → (∃ vs, oe.data = .fields vs) → PSs (X.suite a ((a, oe) :: pn)) (b₀ :: suite) (tS X.K WF (fs a dd e)))
    (hs : X.stack = X.env :: X.outer := by rfl) (hf : X.env.frame = some X.env.locals := by rfl) (hln : X.env.kindOf n = some .local := by rfl) (hg : Gl X x := by rfl) (hdb : (x == ("__debug__" : Str)) = false := by decide) :
    PS X (.Try body [.ExceptHandler (some (.Name x np)) (some n) (b₀ :: suite) pos'] [] [] pos) (tS X.K W (sTryAs tab i b fs)) := by
  obtain ⟨C, hm, ht⟩ := t.ex
  exact S_tryAs ht ⟨hg, hdb, .inl hm⟩ hN hi tk hb hsu hs hf hln
theorem E_isO (i : Nat) (t : IsO X.K X.mg x tab) (hn : ClsN X.K e.cls C) (hz : L2N.Zn (.ref C) (some dd) oe) (hf : ∃ vs, oe.data = .fields vs) (hm : X.mg "isinstance" = none) (hN : X.N[i]? = some n := by rfl)
    (hv : Vis X.env.scope n := by first | exact Or.inl rfl | exact Or.inr (Or.inl rfl) | exact Or.inr (Or.inr rfl)) (hdb : (n == ("__debug__" : Str)) = false := by decide) (hcd : (n == ("__classdict__" : Str)) = false := by decide) (hg : Gl X "isinstance" := by rfl)
    (na : starEach [.Name n p1, .Name x p2] X.env = (false, eval (.Name n p1) X.env) :: starEach [.Name x p2] X.env := by rfl) (nb : starEach [.Name x p2] X.env = (false, eval (.Name x p2) X.env) :: starEach [] X.env := by rfl) (hpl : (backTo pos (starEach [.Name x p2] X.env)).any (·.1) = false := by rfl)
    (hg2 : Gl X x := by rfl) (hd2 : (x == ("__debug__" : Str)) = false := by decide) :
    PE (X.suite a ((a, oe) :: pn)) (.Call (.Name "isinstance" p) [.Name n p1, .Name x p2] [] pos) (tE X.K W (eIsX i a dd e tab)) := by
  obtain ⟨D, h1, h2⟩ := t.ex
  exact E_isX i h2 (.own h1 hg2 hd2) hn hz hf hm hN hv hdb hcd hg na nb hpl
theorem E_isB (i : Nat) {T : String} (t : IsB X.K X.mg x T tab) (hn : ClsN X.K e.cls C) (hz : L2N.Zn (.ref C) (some dd) oe) (hf : ∃ vs, oe.data = .fields vs) (hm : X.mg "isinstance" = none) (hN : X.N[i]? = some n := by rfl)
    (hv : Vis X.env.scope n := by first | exact Or.inl rfl | exact Or.inr (Or.inl rfl) | exact Or.inr (Or.inr rfl)) (hdb : (n == ("__debug__" : Str)) = false := by decide) (hcd : (n == ("__classdict__" : Str)) = false := by decide) (hg : Gl X "isinstance" := by rfl)
    (na : starEach [.Name n p1, .Name x p2] X.env = (false, eval (.Name n p1) X.env) :: starEach [.Name x p2] X.env := by rfl) (nb : starEach [.Name x p2] X.env = (false, eval (.Name x p2) X.env) :: starEach [] X.env := by rfl) (hpl : (backTo pos (starEach [.Name x p2] X.env)).any (·.1) = false := by rfl)
    (hg2 : Gl X x := by rfl) (hv2 : bootBuiltins x = some (.type T) := by decide +kernel) (hn2 : x ≠ "__name__" := by decide) (hd2 : (x == ("__debug__" : Str)) = false := by decide) :
    PE (X.suite a ((a, oe) :: pn)) (.Call (.Name "isinstance" p) [.Name n p1, .Name x p2] [] pos) (tE X.K W (eIsX i a dd e tab)) :=
  E_isX i t.is (.blt t.no hg2 hv2 hn2 hd2) hn hz hf hm hN hv hdb hcd hg na nb hpl
theorem E_isO2 (i : Nat) (t : IsO2 X.K X.mg x y tab) (hn : ClsN X.K e.cls C) (hz : L2N.Zn (.ref C) (some dd) oe) (hf : ∃ vs, oe.data = .fields vs) (hm : X.mg "isinstance" = none) {kk : Nat} (hN : X.N[i]? = some n := by rfl)
    (hv : Vis X.env.scope n := by first | exact Or.inl rfl | exact Or.inr (Or.inl rfl) | exact Or.inr (Or.inr rfl)) (hdb : (n == ("__debug__" : Str)) = false := by decide) (hcd : (n == ("__classdict__" : Str)) = false := by decide) (hg : Gl X "isinstance" := by rfl)
    (na : starEach [.Name n p1, .Tuple [.Name x p2, .Name y p3] kk p4] X.env = (false, eval (.Name n p1) X.env) :: starEach [.Tuple [.Name x p2, .Name y p3] kk p4] X.env := by rfl)
    (nb : starEach [.Tuple [.Name x p2, .Name y p3] kk p4] X.env = (false, eval (.Tuple [.Name x p2, .Name y p3] kk p4) X.env) :: starEach [] X.env := by rfl) (hpl : (backTo pos (starEach [.Tuple [.Name x p2, .Name y p3] kk p4] X.env)).any (·.1) = false := by rfl)
    (nc : starEach [.Name x p2, .Name y p3] X.env = (false, eval (.Name x p2) X.env) :: starEach [.Name y p3] X.env := by rfl) (nd : starEach [.Name y p3] X.env = (false, eval (.Name y p3) X.env) :: starEach [] X.env := by rfl)
    (hg2 : Gl X x := by rfl) (hd2 : (x == ("__debug__" : Str)) = false := by decide) (hg3 : Gl X y := by rfl) (hd3 : (y == ("__debug__" : Str)) = false := by decide) :
    PE (X.suite a ((a, oe) :: pn)) (.Call (.Name "isinstance" p) [.Name n p1, .Tuple [.Name x p2, .Name y p3] kk p4] [] pos) (tE X.K W (eIsX i a dd e tab)) := by
  obtain ⟨D, D2, h1, h2, h3⟩ := t.ex
  exact E_isXT i h3 (.own h1 hg2 hd2) (.own h2 hg3 hd3) hn hz hf hm hN hv hdb hcd hg na nb hpl nc nd
theorem E_xfT (i : Nat) {c f : Str} (t : XfT X.K c f) (hn : ClsN X.K e.cls C) (hz : L2N.Zn (.ref C) (some dd) oe) (hf : ∃ vs, oe.data = .fields vs) (hN : X.N[i]? = some n := by rfl)
    (hv : Vis X.env.scope n := by first | exact Or.inl rfl | exact Or.inr (Or.inl rfl) | exact Or.inr (Or.inr rfl)) (hdb : (n == ("__debug__" : Str)) = false := by decide) (hcd : (n == ("__classdict__" : Str)) = false := by decide)
    (hb : attributeBase (.Name n p1) f X.env (eval (.Name n p1) X.env) = eval (.Name n p1) X.env := by rfl) : PE (X.suite a ((a, oe) :: pn)) (.Attribute (.Name n p1) f pos) (tE X.K W (eXf i a dd e c f)) := E_xf i t.ex hn hz hf hN hv hdb hcd hb
end
section
variable {P : Program} {w : World} {K : PySem.W.Frag} {mg : Str → Option Value} {base : Heap}
theorem exc_fn' {qual file fld sn par m : Str} {st : Stmt} {f cda cc D : Addr} {N : List Str} {oc : Value} {od : Option Addr} {osl : Array (Option Value)} {doc pm ct : Value}
    {p0 p1 apos pos epos q1 q2 q3 q4 q5 : Pos} {j : Nat} {ar : Arg} {pl : Sem Bool}
    (lk : K.lookup f = some ⟨oc, od, .func ((supNF "__init__" qual st cc cda).fd doc pm ct), osl⟩) (hcd : PySem.W.codeIn K (.ref cda) qual = true) (S : NdefX.NScope N [sn, par] [("__class__" : Str)] (defScope st))
    (T : SupX P K D cda cc file) (hms : mg "super" = none) (hno : PySem.W.findIn K (.ref D) fld = some none)
    (body : defBody st = [.Expr (.Call (.Attribute (.Call (.Name "super" p0) [] [] p1) "__init__" apos) [.Constant (.str m) j q5] [] pos) epos, .Assign [.Attribute (.Name sn q1) fld q2] (.Name par q3) q4])
    (hp : ((defArgs st).posonlyargs ++ (defArgs st).args).head? = some ar) (har : ar.arg = sn)
    (hs : (defScope st).names.lookup ("super" : Str) = some .globalImplicit) (hk : (defScope st).names.lookup ("__class__" : Str) = some .free)
    (hb : ∀ (X : Cx) (A : Around) (outer : List Env) (s : Shared) (H : Hp) (E : XK), X = (NdefX.ncx CX0 P w K mg base N (supNF "__init__" qual st cc cda) f A outer s H E).nox →
      (starEach [.Constant (.str m) j q5] X.env = (false, eval (.Constant (.str m) j q5) X.env) :: starEach [] X.env) ∧ interactive X.env = false ∧
      swapsWith (.Call (.Attribute (.Call (.Name "super" p0) [] [] p1) "__init__" apos) [.Constant (.str m) j q5] [] pos) none epos.line X.env = pure false ∧
      swapsWith (.Name par q3) (some (.Attribute (.Name sn q1) fld q2)) q4.line X.env = pure false ∧
      eval (.Call (.Attribute (.Call (.Name "super" p0) [] [] p1) "__init__" apos) [.Constant (.str m) j q5] [] pos) X.env = (do let ov ← attributeBase (.Call (.Name "super" p0) [] [] p1) "__init__" X.env (eval (.Call (.Name "super" p0) [] [] p1) X.env); standAt apos.atName; let (f, first) ← holding [ov] (getMethod ov "__init__" pl); callWith pos f first (backTo pos (starEach [.Constant (.str m) j q5] X.env)) []))
    (hdb : (sn == ("__debug__" : Str)) = false := by decide) (hdb2 : (par == ("__debug__" : Str)) = false := by decide) (hcb : (sn == ("__classdict__" : Str)) = false := by decide) (hcb2 : (par == ("__classdict__" : Str)) = false := by decide) :
    FnOk P w K mg base CX0 1 f ((supNF "__init__" qual st cc cda).fd doc pm ct) [sn, par] (spEx D fld) := by
  subst har
  exact exc_fn (pl := pl) lk hcd S T hms hno body hp hs hk hdb hdb2 hcb hcb2 hb
end
end Ev

/-! ### star targets of a list, for this frame of states -/
namespace L2
open PySem PySem.Spec PyProof.Rows
section
variable {prog : Program} {w : World} {A : Around} {E : Value → Shared → Prop} {s : Shared}
theorem star_items {l : Addr} {items : Array Value} {n i : Nat} {Q : List Value → Shared → Prop} (hl : s.heap.IsList l items) (hh : A.handled = none) (hi : i < n) (hn : n ≤ items.size + 1) (hz : items.size ≤ 16384)
    (h : ∀ (h₂ : Heap) (tk : Nat), (∀ b o, s.heap.get? b = some o → h₂.get? b = some o) → Q (items.toList.take i ++ [.ref h₂.objs.size] ++ (items.toList.drop i).drop (items.size + 1 - n)) { s with heap := h₂.push { cls := .type "list", data := .seq ((items.toList.drop i).take (items.size + 1 - n)).toArray }, toks := tk }) :
    wpAny (model prog w) A (unpackItems (.ref l) n (some i)) Q E s := by
  have hlt : l ≠ s.heap.objs.size := by obtain ⟨o, ho, _⟩ := hl; exact Nat.ne_of_lt (Heap.lt_size ho)
  unfold unpackItems
  refine wpAny_bind ?_
  unfold notIterableAtAll
  refine wpAny_bind (wpAny_specialOf hl.typeIs slot_list_iter.lookup ?_)
  refine wpAny_pure ?_
  simp only [Bool.false_eq_true, if_false]
  refine wpAny_bind (wpAny_holding (wpAny_pyIter_list hl ?_))
  refine wpAny_bind (wpAny_holding (PySem.W.kun_draw hlt i 0 _ _ ⟨_, Heap.get?_push_size _ rfl, rfl, rfl⟩ (hl.push _) (by omega) fun h₁ hit₁ hs₁ => ?_))
  have hl₁ : h₁.IsList l items := (hl.push _).extBut hs₁.extBut hlt
  rw [Nat.zero_add] at hit₁
  have hit₁' := hit₁
  obtain ⟨oi, hoi, _⟩ := hit₁'
  have hl₁' := hl₁
  obtain ⟨ol, hol, _⟩ := hl₁'
  rw [List.drop_zero]
  have hfl : (items.toList.take i).length = i := by rw [List.length_take, Array.length_toList]; omega
  rw [if_neg (show ¬ ((items.toList.take i).length < i) by rw [hfl]; omega)]
  refine wpAny_bind (wpAny_holding (PySem.W.kun_collect (s := { s with heap := h₁ }) (T := "list_iterator") (.inr (.inr (.inl rfl))) (Walks.list (A := A.in1) hh s.heap.objs.size l hlt items) (fun j u st => st.1.typeIs) (k := i) (by omega) ⟨hit₁, hl₁⟩ (Heap.lt_size hoi) (Heap.lt_size hol) (fun h₂ tk hk => ?_) (by rw [sizeLine_eq]; omega)))
  have hrl : (items.toList.drop i).length = items.size - i := by rw [List.length_drop, Array.length_toList]
  have hmid : (items.toList.drop i).length - (n - 1 - i) = items.size + 1 - n := by rw [hrl]; omega
  show wpAny _ _ (if (items.toList.drop i).length < n - 1 - i then _ else _) _ _ _
  rw [if_neg (by rw [hrl]; omega)]
  show wpAny _ _ (newList ((items.toList.drop i).take ((items.toList.drop i).length - (n - 1 - i))) >>= fun d => pure (items.toList.take i ++ [d] ++ (items.toList.drop i).drop ((items.toList.drop i).length - (n - 1 - i)))) _ _ _
  rw [hmid]
  have he : ∀ b o, s.heap.get? b = some o → h₂.get? b = some o := fun b o e => hk b o (Nat.ne_of_lt (Heap.lt_size e)) (hs₁.extBut b o (Nat.ne_of_lt (Heap.lt_size e)) (Heap.get?_push_of_some _ e))
  exact wpAny_bind (wpAny_newList (s := { s with heap := h₂, toks := tk }) (wpAny_pure (h h₂ tk he)) (by rw [List.length_take, hrl, sizeLine_eq]; omega))
end
section
variable {X : Cx} {pos p : Pos}
theorem pgs_consS {e : Expr} {es : List Expr} {t : TG} {u : TGs} (h1 : PG X e t) (h2 : PGs X es u)
    (hs : (assignEach (.Starred e p :: es) X.env).map (·.2) = assign e X.env :: (assignEach es X.env).map (·.2) := by rfl) : PGs X (.Starred e p :: es) (gCons t u) := by
  refine ⟨fun pins s σ H vs us Q I r h => ?_⟩
  obtain ⟨v, vr, e1, h⟩ := h
  subst e1
  cases r with
  | cons r rr =>
    rw [hs]
    refine assignInOrder_cons (thn (h1.run pins s σ H _ _ _ I r h) fun _ s1 ⟨σ1, H1, I1, q1⟩ => ?_)
    exact h2.run pins s1 σ1 H1 _ _ Q I1 rr q1
/-- a, *b, c = a list -/
def gStar (K : PySem.W.Frag) (n i : Nat) (t : TGs) : TG := fun v σ H Q => ∃ a xs, v = .ref a ∧ SqL K H a xs ∧ i < n ∧ n ≤ xs.length + 1 ∧ xs.length ≤ 16384 ∧
  ∀ D, H D = none → t (xs.take i ++ [.ref D] ++ (xs.drop i).drop (xs.length + 1 - n)) σ (upd H D (.lst ((xs.drop i).take (xs.length + 1 - n)))) Q
theorem pg_star {es : List Expr} {k : Nat} {t : TGs} {n i : Nat} (hc : X.calm = true) (h : PGs X es t)
    (hn : (assignEach es X.env).length = n := by rfl) (hst : (assignEach es X.env).findIdx? (·.1) = some i := by rfl) : PG X (.Tuple es k pos) (gStar X.K n i t) := by
  refine ⟨fun pins s σ H v u Q I r hw => ?_⟩
  obtain ⟨a, xs, e1, hq, hi, hn1, hz1, hw⟩ := hw
  subst e1
  cases r
  obtain ⟨its, rv, pl, hz⟩ := I.list hq
  have hl' : s.heap.IsList a its.toArray := by
    obtain ⟨o, m, e, c, d, q⟩ := pl
    exact ⟨o, e, c, m, q⟩
  have len : xs.length = its.toArray.size := rv.length.trans (by simp)
  rw [PyProof.Rows.assign_Tuple]
  refine wpAny_bind (wpAny_standAt ?_)
  unfold unpack
  rw [hn, hst]
  refine wpAny_bind (wpAny_holding (star_items hl' (I.ok.hd hc) hi (by omega) (by omega) fun h₂ tk k2 => ?_))
  have I1 : Inv X pins σ H { s with heap := h₂, toks := tk } := I.kept (t' := tk) k2
  have nD : H h₂.objs.size = none := I1.hok.fresh (Nat.le_refl _)
  have rm : Vals ((xs.drop i).take (xs.length + 1 - n)) ((its.toArray.toList.drop i).take (its.toArray.size + 1 - n)) := by
    rw [← len]; simpa using (rv.drop i).take (xs.length + 1 - n)
  have rl : Vals (xs.take i ++ [.ref h₂.objs.size] ++ (xs.drop i).drop (xs.length + 1 - n)) (its.toArray.toList.take i ++ [.ref h₂.objs.size] ++ (its.toArray.toList.drop i).drop (its.toArray.size + 1 - n)) := by
    rw [← len]
    have z1 : Vals (xs.take i) (its.toArray.toList.take i) := by simpa using rv.take i
    have z2 : Vals ((xs.drop i).drop (xs.length + 1 - n)) ((its.toArray.toList.drop i).drop (xs.length + 1 - n)) := by simpa using (rv.drop i).drop (xs.length + 1 - n)
    exact (z1.append (.cons (show RelV (V.ref h₂.objs.size) (Value.ref h₂.objs.size) from rfl) .nil)).append z2
  have I2 : Inv X pins σ (upd H h₂.objs.size (.lst ((xs.drop i).take (xs.length + 1 - n)))) { s with heap := h₂.push { cls := .type "list", data := .seq ((its.toArray.toList.drop i).take (its.toArray.size + 1 - n)).toArray }, toks := tk } :=
    I1.laid (t' := tk) (a := h₂.objs.size) (h' := h₂.push { cls := .type "list", data := .seq ((its.toArray.toList.drop i).take (its.toArray.size + 1 - n)).toArray }) (fun b o e => Heap.get?_push_of_some _ e) (Nat.le_refl _)
      ⟨by rw [List.length_take, List.length_drop, sizeLine_eq]; omega, _, _, rm, Heap.get?_push_size _ rfl⟩
  exact h.run pins _ σ _ _ _ Q I2 rl (hw _ nD)
end
end L2
namespace Ev
open PySem PySem.Spec PyProof.Rows L2
theorem Gs_consS {X : Cx} {p : Pos} {e : Expr} {es : List Expr} {t : Tg} {ts : List Tg} (h1 : PG X e (gT X.K t)) (h2 : PGs X es (gTs X.K ts)) (hs : (assignEach (.Starred e p :: es) X.env).map (·.2) = assign e X.env :: (assignEach es X.env).map (·.2) := by rfl) :
    PGs X (.Starred e p :: es) (gTs X.K (t :: ts)) :=
  PGs.weak (pgs_consS h1 h2 hs) fun v σ H Q h => by
    obtain ⟨w, S, ρ, ds, ρ', s, re, rd, l, e, k⟩ := h
    cases ds with
    | nil => cases l
    | cons d ds =>
      simp only [RVs] at rd
      obtain ⟨u, r, h1, h2, h3⟩ := rd
      simp only [asgs] at e
      cases ha : t.asg d ρ S with
      | none => rw [ha] at e; cases e
      | some ρ1 =>
        rw [ha] at e
        refine ⟨u, r, h1, w, S, ρ, d, ρ1, s, re, h2, ha, fun σ1 re1 wp1 => ?_⟩
        exact ⟨w, S, ρ1, ds, ρ', s, re1, h3, by simpa using l, e, fun σ2 re2 wp2 => k σ2 re2 (by simpa only [slotss] using wp1.trans wp2)⟩
def starMid (ds : List D) (n i : Nat) : List D := (ds.drop i).take (ds.length + 1 - n)
def starAll (ds : List D) (n i : Nat) (m : D) : List D := ds.take i ++ [m] ++ (ds.drop i).drop (ds.length + 1 - n)
def sStar (al : Bool) (n i : Nat) (ts : List Tg) (fe : EF) : SF := fun ρ S => sB (fe ρ S) ρ fun d S1 => match lstOf S1 d with
  | some ds => if i < n ∧ n ≤ ds.length + 1 ∧ ds.length ≤ 16384 ∧ ts.length = n then
      (if al then (match asgs ts (starAll ds n i (.loc S1.length)) ρ (S1 ++ [.lst (starMid ds n i)]) with
        | some ρ1 => .nx ρ1 (S1 ++ [.lst (starMid ds n i)])
        | none => .no)
      else (match asgs ts (starAll ds n i (.lst (starMid ds n i))) ρ S1 with
        | some ρ1 => .nx ρ1 S1
        | none => .no)) else .no
  | none => .no
section
variable {X : Cx} {W : WX} {pos tpos : Pos} {e : Expr} {es : List Expr} {fe : EF} {n i k : Nat} {ts : List Tg}
theorem starAll_len {ds : List D} {m : D} (h1 : i < n) (h2 : n ≤ ds.length + 1) : (starAll ds n i m).length = n := by
  unfold starAll
  rw [List.length_append, List.length_append, List.length_take, List.length_drop, List.length_drop, List.length_singleton]
  omega
theorem S_star (al : Bool) (hc : X.calm = true) (he : PE X e (tE X.K W fe)) (hg : PGs X es (gTs X.K ts)) (hn : (assignEach es X.env).length = n := by rfl) (hst : (assignEach es X.env).findIdx? (·.1) = some i := by rfl)
    (hs : swapsWithSole [.Tuple es k tpos] e pos.line X.env = pure false := by rfl) (hw : swappedStores [.Tuple es k tpos] e X.env = pure none := by rfl)
    (h1 : (assignEach [.Tuple es k tpos] X.env).map (·.2) = [assign (.Tuple es k tpos) X.env] := by rfl) : PS X (.Assign [.Tuple es k tpos] e pos) (tS X.K W (sStar al n i ts fe)) :=
  PS.weak (ps_asg he (pg_star hc hg hn hst) hs hw h1) fun D σ H h => by
    obtain ⟨w, S, ρ, s, re, p⟩ := h
    refine ⟨w, S, ρ, s, re, PostS.bind p re fun w1 H1 v d S1 e1 s1 rd p1 => ?_⟩
    cases hd : lstOf S1 d with
    | none => rw [hd] at p1; exact p1.elim
    | some ds =>
      rw [hd] at p1
      dsimp only at p1
      split at p1
      · rename_i hh
        obtain ⟨g1, g2, g3, g4⟩ := hh
        obtain ⟨a, xs, rfl, h2, h3⟩ := lstOf_sq s1 rd hd
        have hl := h3.length
        refine ⟨a, xs, rfl, h2, g1, by omega, by omega, fun q hq => ?_⟩
        have rmid : RVs X.K w1 H1 (starMid ds n i) ((xs.drop i).take (xs.length + 1 - n)) := by
          unfold starMid
          rw [hl]
          exact (h3.drop i).take _
        cases al with
        | true =>
          simp only [if_true] at p1
          cases ha : asgs ts (starAll ds n i (.loc S1.length)) ρ (S1 ++ [.lst (starMid ds n i)]) with
          | none => rw [ha] at p1; exact p1.elim
          | some ρ1 =>
            rw [ha] at p1
            have x1 := Ext.alloc (w := w1) (o := .lst ((xs.drop i).take (xs.length + 1 - n))) hq
            refine ⟨w1.add q, S1 ++ [.lst (starMid ds n i)], ρ, _, ρ1, s1.alloc hq (RC.newLst hq rmid), (re.mono e1).mono x1, ?_, by rw [starAll_len g1 g2, g4], ha, fun σ' r' _ => p1 _ _ σ' x1 (s1.alloc hq (RC.newLst hq rmid)) r'⟩
            unfold starAll
            rw [hl]
            exact ((h3.mono x1).take i).append (.cons (RV.newLoc s1.len) .nil) |>.append (((h3.mono x1).drop i).drop _)
        | false =>
          simp only [Bool.false_eq_true, if_false] at p1
          cases ha : asgs ts (starAll ds n i (.lst (starMid ds n i))) ρ S1 with
          | none => rw [ha] at p1; exact p1.elim
          | some ρ1 =>
            rw [ha] at p1
            have x1 := Ext.fresh (w := w1) (o := .lst ((xs.drop i).take (xs.length + 1 - n))) hq
            refine ⟨w1, S1, ρ, _, ρ1, s1.fresh hq, (re.mono e1).mono x1, ?_, by rw [starAll_len g1 g2, g4], ha, fun σ' r' _ => p1 _ _ σ' x1 (s1.fresh hq) r'⟩
            unfold starAll
            rw [hl]
            exact ((h3.mono x1).take i).append (.cons (RV.newLst s1 hq rmid) .nil) |>.append (((h3.mono x1).drop i).drop _)
      · exact p1.elim
end
end Ev

/-! ### enumerate(list, start=k) -/
namespace L2
open PySem PySem.Spec PyProof.Rows
theorem enum_endC {prog : Program} {w : World} {A : Around} {E : Value → Shared → Prop} {s : Shared} {e it l : Addr} {i : Nat} {c : Int} {items : Array Value} {old : Value} {Q : Option Value → Shared → Prop} (hh : A.handled = none)
    (he : IsEnum s.heap e it c old) (hit : s.heap.IsListIter it l i) (hl : s.heap.IsList l items) (hx : items[i]? = none)
    (hQ : ∀ h', Heap.ExtBut it s.heap h' → Q none { s with heap := h' }) : wpAny (model prog w) A (pyNext (.ref e)) Q E s := by
  have hT : s.TypeIs (.ref e) "enumerate" := ⟨_, he, rfl⟩
  unfold pyNext
  refine wpAny_bind (wpAny_attempt (wpAny_callSpecial?_slot (name := Str.ofString "__next__") hT F.slot_enumerate_next
    (wpAny_call_entry F.slot_enumerate_next hT F.entry_enumerate_next ?_ (F.args_enumerate_next_1 _))))
  show wpAny _ _ (field (.ref e) 2 >>= _) _ _ _
  refine wpAny_bind (wpAny_field he rfl (x := .ref it) rfl ?_)
  refine wpAny_bind (wpAny_nextOf_list_end hh hit hl hx fun h' x he' hx' => ?_)
  obtain ⟨o, ho, hc⟩ := hx'
  refine wpAny_bind (wpAny_isInstance (T := "StopIteration") (b := true) ⟨o, ho, hc⟩ isSubtype_stop ?_)
  exact wpAny_pure (hQ _ he')
def IteS (K : PySem.W.Frag) (k : Int) (a : Addr) : It :=
  ⟨fun i H => ∃ (xs : List V) (x : V), SqL K H a xs ∧ xs[i]? = some x, fun i H v H' => ∃ T x, v = .ref T ∧ H T = none ∧ H' = upd H T (.tup [.int (k + (i : Nat)), x]) ∧ ∀ xs, SqL K H a xs → xs[i]? = some x, fun i H => ∃ xs : List V, SqL K H a xs ∧ xs.length ≤ i⟩
theorem turn_enumS {P : Program} {w : World} {K : PySem.W.Frag} {elts : List Expr} {kk : Nat} {tpos : Pos} (k : Int) (a e it : Addr) :
    Turn P w K (.Tuple elts kk tpos) (IteS K k a) [e, it] e (fun i h => (∃ old, IsEnum h e it (k + ((i : Nat) : Int)) old) ∧ h.IsListIter it a i ∧ e ≠ it) where
  mem := by simp
  obj := fun i h st b hb => by
    obtain ⟨⟨old, he⟩, ⟨o, ho, hc, hd⟩, _⟩ := st
    have e' : b = e ∨ b = it := by simpa using hb
    rcases e' with z | z
    · rw [z]; exact ⟨_, he, fun v q => nomatch q⟩
    · rw [z]; exact ⟨o, ho, fun v q => by rw [hd] at q; cases q⟩
  keep := fun i h h' st k => let ⟨⟨old, he⟩, hi, hne⟩ := st; ⟨⟨old, k e (by simp) _ he⟩, hi.at fun o q => k it (by simp) o q, hne⟩
  item := by
    intro X hP hw hK hc i pins s σ H E I hf st hg
    subst hP hw hK
    obtain ⟨⟨old, he⟩, hit, hne⟩ := st
    obtain ⟨xs, x, hq, hx⟩ := hg
    obtain ⟨its, rv, p, hz⟩ := I.list hq
    obtain ⟨u, hu, ru⟩ := rv.get hx
    have hel : e < s.heap.objs.size := Heap.lt_size he
    have hil : it < s.heap.objs.size := by obtain ⟨_, q, _⟩ := hit; exact Heap.lt_size q
    have hal : a < s.heap.objs.size := by obtain ⟨_, q, _⟩ := p.isList; exact Heap.lt_size q
    have hai : a ≠ it := fun z => by
      obtain ⟨o1, q1, c1, _⟩ := p.isList
      obtain ⟨o2, q2, c2, _⟩ := hit
      rw [z, q2] at q1
      cases q1
      rw [c1] at c2
      exact absurd c2 (by decide)
    have hae : a ≠ e := fun z => by
      obtain ⟨o1, q1, c1, _⟩ := p.isList
      rw [z] at q1
      have he2 : s.heap.get? e = _ := he
      rw [he2] at q1
      cases q1
      have c3 : Value.type "enumerate" = Value.type "list" := c1
      exact absurd c3 (by decide)
    refine wpAny_pyNext_enum_itemC (Draws.list (A := X.A.in1) (I.ok.hd hc) it a hai its.toArray) he ⟨hit, p.isList⟩ (by have := (List.getElem?_eq_some_iff.mp hu).1; simpa using this) hne (by simp [hne, Ne.symm hae]) fun x2 h' tk2 hx2 ho hst' hT hsz hk => ?_
    have ex : x2 = u := by
      have : its.toArray[i]? = some x2 := hx2
      have h2 : its[i]? = some x2 := by simpa using this
      exact Option.some.inj (h2.symm.trans hu)
    subst ex
    obtain ⟨hit', _⟩ := hst'
    refine ⟨_, rfl, wpAny_letOwnedTupleGo_enum (s := { s with heap := h', toks := tk2 + 1 }) ho fun h'' he' sb => ?_⟩
    have hT2 : h''.get? s.heap.objs.size = some { cls := .type "tuple", data := .seq #[.int (k + (i : Nat)) tk2, x2] } := (sb.2 _ (Nat.ne_of_gt hel)).trans hT
    have new : ObjOk X.prog X.w (upd H s.heap.objs.size (.tup [.int (k + (i : Nat)), x])) h'' s.heap.objs.size (.tup [.int (k + (i : Nat)), x]) :=
      ⟨by show 2 ≤ sizeLine; decide, [.int (k + (i : Nat)) tk2, x2], .cons ⟨_, rfl⟩ (.cons ru .nil), ⟨_, hT2, rfl, _, rfl⟩⟩
    have I1 : Inv X pins σ (upd H s.heap.objs.size (.tup [.int (k + (i : Nat)), x])) { s with heap := h'', toks := tk2 + 1 } :=
      I.turnedNew (ch := [e, it]) (fun b ob hb q => (sb.2 b (fun z => hb (by simp [z]))).trans (hk b ob (fun z => hb (by simp [z])) (fun z => hb (by simp [z])) q)) hf (Nat.le_refl _) new
    refine ⟨.ref s.heap.objs.size, _, I1, rfl, ⟨_, x, rfl, I.hok.fresh (Nat.le_refl _), rfl, fun ys hy => by rw [I.list_inj hy hq]; exact hx⟩, ⟨⟨x2, ?_⟩, hit'.at fun o q => (sb.2 it (Ne.symm hne)).trans q, hne⟩, fun b hb => ?_⟩
    · have e1 : k + ((i + 1 : Nat) : Int) = k + (i : Int) + 1 := by omega
      rw [e1]; exact he'
    · have hb' : b < s.heap.objs.size := by
        have e' : b = e ∨ b = it := by simpa using hb
        rcases e' with z | z
        · rw [z]; exact hel
        · rw [z]; exact hil
      rw [upd_ne (Nat.ne_of_lt hb')]
      exact (hf b hb).1
  done := by
    intro X hP hw hK hc i pins s σ H E I hf st hg
    subst hP hw hK
    obtain ⟨⟨old, he⟩, hit, hne⟩ := st
    obtain ⟨xs, hq, hx⟩ := hg
    obtain ⟨its, rv, p, hz⟩ := I.list hq
    obtain ⟨f0, f1, f2, f3, f4, f5⟩ := hf it (by simp)
    have hl := rv.length
    exact enum_endC (I.ok.hd hc) he hit p.isList (by simp; omega) fun h' eb => ⟨rfl, I.turned (t' := s.toks) (fun b o hb q => eb b o hb q) f0 f1 f3 f4 f5⟩
  self := fun A i s Q E st h => let ⟨⟨_, he⟩, _⟩ := st; wpAny_pyIter_enum he h
def iEnumS (K : PySem.W.Frag) (k : Int) (ta : TA) : TI := fun σ H R => ta σ H fun vs H1 => ∃ a xs, vs = [.ref a] ∧ SqL K H1 a xs ∧ R (IteS K k a) H1
theorem callWith_type_kwB {M : Model} {A : Around} {E : Value → Shared → Prop} {s : Shared} {pos : Pos} {T : String} {first : List Value} {args : List (Bool × Sem Value)} {keywords : List (Option Str × Sem Value)} {Q : Value → Shared → Prop}
    (hplain : args.any (·.1) = false) (hkw : keywords.any (·.1.isNone) = false)
    (h : wpAny M A (evalArgs (.type T) true args keywords) (fun a s₁ => wpAny M A (call (.type T) (first ++ a.pos) a.kw) Q E s₁) E s) :
    wpAny M A (callWith pos (.type T) first args keywords) Q E s := by
  unfold callWith
  refine wpAny_bind (wpAny_holding (wpAny_mono h (fun a s₁ h₁ => wpAny_bind (wpAny_standAt ?_)) fun _ _ x => x))
  simp only [hplain, hkw, Bool.or_false]
  refine wpAny_bind (wpAny_pure ?_)
  exact wpAny_bind (wpAny_mono h₁ (fun r s₂ hr => wpAny_bind (wpAny_holding (wpAny_point (wpAny_pure hr)))) fun _ _ x => x)
theorem pi_enumS {X : Cx} {e : Expr} {ta : TA} {p pos tpos cpos kp : Pos} {elts : List Expr} {kk j : Nat} {k : Int} (hk0 : -(2 ^ 63) ≤ k) (hk1 : k < 2 ^ 63) (hg : Gl X "enumerate") (hm : X.mg "enumerate" = none) (ha : PA X [e] ta) (hs : starEach [e] X.env = [(false, eval e X.env)] := by rfl) :
    PI X (.Tuple elts kk tpos) (.Call (.Name "enumerate" p) [e] [⟨some "start", .Constant (.int k) j cpos, kp⟩] pos) (iEnumS X.K k ta) := by
  refine ⟨fun pins s σ H R I h => ?_⟩
  refine wpAny_Call_Name_kw (ld_blt I hg hm boot_enumerate ?_ (by decide) (by decide))
  refine callWith_type_kwB (by rw [hs]; rfl) rfl ?_
  rw [hs]
  refine evalArgs_kwB rfl ?_
  have ha' := ha.run pos pins s σ H _ I h
  rw [hs] at ha'
  refine thn ha' fun us s1 ⟨vs, H1, I1, r1, q1⟩ => ?_
  obtain ⟨a, xs, ex, hq, q⟩ := q1
  subst ex
  cases r1 with
  | cons r rr =>
    cases rr
    cases r
    obtain ⟨its, rv, p', hz⟩ := I1.list hq
    refine kws_cons (wpAny_Constant_int (kws_nil ?_))
    show wpAny _ _ (call (.type "enumerate") [.ref a] [(Str.ofString "start", .int k s1.toks)]) _ _ _
    have I0 : Inv X pins σ H1 { s1 with toks := s1.toks + 1 } := I1.tok _
    refine enum_begins_start (begins_list a its.toArray) p'.isList hk0 hk1 fun h' he hit hsz hk => wpAny_pyIter_enum he ?_
    have I2 : Inv X pins σ H1 { s1 with heap := h', toks := s1.toks + 1 } := I0.kept (t' := s1.toks + 1) hk
    refine ⟨s1.heap.objs.size + 1, [s1.heap.objs.size + 1, s1.heap.objs.size], _, _, H1, rfl, I2, turn_enumS k a (s1.heap.objs.size + 1) s1.heap.objs.size, ⟨⟨.none, by simpa using he⟩, ⟨_, hit, rfl, rfl⟩, Nat.succ_ne_self _⟩, fun b hb => ?_, q⟩
    have e' : b = s1.heap.objs.size + 1 ∨ b = s1.heap.objs.size := by simpa using hb
    have hle : s1.heap.objs.size ≤ b := by
      rcases e' with z | z
      · rw [z]; exact Nat.le_add_right _ _
      · rw [z]; exact Nat.le_refl _
    exact I1.fpOk hle (I1.hok.fresh hle)
end L2
namespace Ev
open PySem PySem.Spec PyProof.Rows L2
/-! ### .. by the store's functions -/
def iEnumDS (n : Nat) (fa : AF) : IF := fun ρ S => (fa ρ S).bind fun ds S1 => match ds with
  | [.lst es] => .ok ⟨enumDs n es, none⟩ S1
  | [.loc m] => match S1[m]? with
    | some (.lst es) => .ok ⟨enumDs n es, some (m, .lst es)⟩ S1
    | _ => .no
  | _ => .no
section
variable {K : PySem.W.Frag} {w : Wo} {H : Hp} {a : Addr} {ds : List D} {xs : List V} {n : Nat}
theorem enumS_step {w1 : Wo} {H1 : Hp} {S : Sto} (s : Sim K w1 S H1) (h1 : SqL K H1 a xs) (r1 : RVs K w1 H1 ds xs) :
    (∀ (i : Nat) (d : D), (enumDs n ds)[i]? = some d → (IteS K n a).go i H1 ∧ ∀ x H', (IteS K n a).yld i H1 x H' → Ext w1 H1 w1 H' ∧ Sim K w1 S H' ∧ RV K w1 H' d x) ∧ (IteS K n a).stop (enumDs n ds).length H1 := by
  refine ⟨fun i d hd => ?_, ⟨xs, h1, by rw [enumDs_len, r1.length]; exact Nat.le_refl _⟩⟩
  rw [enumDs_get] at hd
  obtain ⟨d0, hd0, rfl⟩ := Option.map_eq_some_iff.mp hd
  obtain ⟨v, hv, rv⟩ := r1.get hd0
  refine ⟨⟨xs, v, h1, hv⟩, fun x H' hy => ?_⟩
  obtain ⟨T, x0, rfl, hT, rfl, hy⟩ := hy
  have e : x0 = v := Option.some.inj ((hy xs h1).symm.trans hv)
  subst e
  refine ⟨Ext.fresh hT, s.fresh hT, ?_⟩
  refine RV.newTup hT (.cons ?_ (.cons rv .nil))
  simp only [RV]
  exact congrArg V.int (by omega)
theorem walksElS (h : ∀ w2 H2, Ext w H w2 H2 → SqL K H2 a xs) (r : RVs K w H ds xs) : Walks K w H ⟨enumDs n ds, none⟩ (IteS K n a) := fun w1 H1 S e s _ => by
  obtain ⟨g1, g2⟩ := enumS_step (n := n) s (h w1 H1 e) (r.mono e)
  exact ⟨g1, g2⟩
theorem walksElL {m : Nat} (hn : w.m[m]? = some a) : Walks K w H ⟨enumDs n ds, some (m, .lst ds)⟩ (IteS K n a) := fun w1 H1 S e s ok => by
  have ok : S[m]? = some (.lst ds) := ok
  obtain ⟨b, hb, xs, hx, r1⟩ := s.at_ m _ ok
  obtain ⟨t, ht⟩ := e.pre
  rw [← ht, List.getElem?_append_left (List.getElem?_eq_some_iff.mp hn).1, hn] at hb
  cases hb
  obtain ⟨g1, g2⟩ := enumS_step (n := n) s (SqL.of hx) r1
  exact ⟨g1, g2⟩
end
section
variable {X : Cx} {W : WX} {e : Expr} {fa : AF} {p pos tpos cpos kp : Pos} {elts : List Expr} {kk j n : Nat}
theorem I_enumS (hn : n < 1000000) (hm : X.mg "enumerate" = none) (ha : PA X [e] (tA X.K W fa)) (hg : Gl X "enumerate" := by rfl) (hs : starEach [e] X.env = [(false, eval e X.env)] := by rfl) :
    PI X (.Tuple elts kk tpos) (.Call (.Name "enumerate" p) [e] [⟨some "start", .Constant (.int (n : Nat)) j cpos, kp⟩] pos) (tI X.K W (iEnumDS n fa)) :=
  PI.weak (pi_enumS (k := (n : Nat)) (by omega) (by omega) hg hm ha hs) fun σ H R h => by
    obtain ⟨w, S, ρ, s, re, p⟩ := h
    refine ⟨w, S, ρ, s, re, p.bind fun w1 H1 vs ds S1 e1 s1 rd p1 => ?_⟩
    split at p1
    · rename_i es
      obtain ⟨v, rfl, rv⟩ := rd.one
      simp only [RV] at rv
      obtain ⟨a, xs, rfl, h2, h4, h3⟩ := rv
      exact ⟨a, xs, rfl, SqL.of h2, p1 w1 H1 _ .refl s1 (walksElS (fun w2 H2 e2 => .inl (e2.rd (.inl h2) h4.1)) h3)⟩
    · rename_i m
      obtain ⟨v, rfl, rv⟩ := rd.one
      split at p1
      · rename_i es hd
        obtain ⟨a, rfl, h2, xs, h3, h4⟩ := s1.get hd rv
        exact ⟨a, xs, rfl, SqL.of h3, p1 w1 H1 _ .refl s1 (walksElL h2)⟩
      · exact p1.elim
    · exact p1.elim
end
/-! ### texts -/
def gStr : List D → Sto → Option D := fun ds _ => match ds with
  | [.int i] => if i.natAbs.log2 < 1920 then some (.str (toString i)) else none
  | _ => none
theorem callS_str {K : PySem.W.Frag} : CallS K (fun xs H Q => ∃ i : Int, xs = [.int i] ∧ i.natAbs.log2 < 1920 ∧ Q (.str (toString i)) H) (pure1 gStr) := callS_pure fun w S H ds vs d Q s rd e k => by
  unfold gStr at e
  split at e
  · split at e
    · rename_i hz
      obtain ⟨v, rfl, rv⟩ := rd.one
      simp only [RV] at rv
      subst rv
      cases e
      exact ⟨_, rfl, hz, k w H _ .refl s (by simp only [RV])⟩
    · cases e
  · cases e
/-- int of a text -/
def gIntS : List D → Sto → Option D := fun ds _ => match ds with
  | [.str a] => if a.length ≤ 640 then (PySem.intText? a).map D.int else none
  | _ => none
theorem callS_intS {K : PySem.W.Frag} : CallS K (fun xs H Q => ∃ a n, xs = [.str a] ∧ PySem.intText? a = some n ∧ a.length ≤ 640 ∧ Q (.int n) H) (pure1 gIntS) := callS_pure fun w S H ds vs d Q s rd e k => by
  unfold gIntS at e
  split at e
  · split at e
    · rename_i a hz
      obtain ⟨v, rfl, rv⟩ := rd.one
      simp only [RV] at rv
      subst rv
      obtain ⟨n, hn, rfl⟩ := Option.map_eq_some_iff.mp e
      exact ⟨a, n, rfl, hn, hz, k w H _ .refl s (by simp only [RV])⟩
    · cases e
  · cases e
section
variable {X : Cx} {W : WX} {p pos : Pos} {e : Expr} {fa : AF}
theorem E_strc (hm : X.mg "str" = none) (ha : PA X [e] (tA X.K W fa)) (hg : Gl X "str" := by rfl) (he : starEach [e] X.env = (false, eval e X.env) :: starEach [] X.env := by rfl) : PE X (.Call (.Name "str" p) [e] [] pos) (tE X.K W (eCb (pure1 gStr) fa)) :=
  E_cty call_str_int callS_str hm ha hg (by decide +kernel) (by decide) (by decide) he rfl
theorem E_intS (hm : X.mg "int" = none) (ha : PA X [e] (tA X.K W fa)) (hg : Gl X "int" := by rfl) (he : starEach [e] X.env = (false, eval e X.env) :: starEach [] X.env := by rfl) : PE X (.Call (.Name "int" p) [e] [] pos) (tE X.K W (eCb (pure1 gIntS) fa)) :=
  E_cty call_int_str callS_intS hm ha hg (by decide +kernel) (by decide) (by decide) he rfl
end
def strsOf : List D → Option (List Str)
  | [] => some []
  | .str i :: ds => (strsOf ds).map (i :: ·)
  | _ :: _ => none
theorem strsOf_eq : ∀ {ds : List D} {is : List Str}, strsOf ds = some is → ds = is.map D.str
  | [], is, h => by cases h; rfl
  | d :: ds, is, h => by
    cases d with
    | str i =>
      simp only [strsOf] at h
      cases e : strsOf ds with
      | none => rw [e] at h; cases h
      | some js => rw [e] at h; cases h; rw [strsOf_eq e]; rfl
    | _ => cases h
@[simp] theorem strsOf_map (is : List Str) : strsOf (is.map D.str) = some is := by
  induction is with
  | nil => rfl
  | cons i is ih => simp only [List.map_cons, strsOf, ih, Option.map_some]
/-- a.join(ys), a.split(b) -/
def eJoin (fx fe : EF) : EF := fun ρ S => (fx ρ S).bind fun x S1 => match x with
  | .str a => (fe ρ S1).bind fun y S2 => match (seqOf S2 y).bind strsOf with
    | some ys => if (ys.map (·.length)).sum + ys.length * a.length ≤ 16777216 then .ok (.str (Txt.join a ys)) S2 else .no
    | none => .no
  | _ => .no
def eSplit (al : Bool) (fx fe : EF) : EF := fun ρ S => (fx ρ S).bind fun x S1 => match x with
  | .str a => (fe ρ S1).bind fun y S2 => match y with
    | .str b => if (b.length == 0) = false ∧ a.length + 2 ≤ sizeLine then (if al then .ok (.loc S2.length) (S2 ++ [.lst ((Txt.split a b).map D.str)]) else .ok (.lst ((Txt.split a b).map D.str)) S2) else .no
    | _ => .no
  | _ => .no
section
variable {X : Cx} {W : WX} {apos pos : Pos} {o e : Expr} {fx fe : EF}
theorem E_join (ho : PE X o (tE X.K W fx)) (he : PE X e (tE X.K W fe)) (hs : starEach [e] X.env = [(false, eval e X.env)] := by rfl) (hbase : attributeBase o "join" X.env (eval o X.env) = eval o X.env := by rfl) (hline : (apos.endLine == pos.line) = true := by rfl) :
    PE X (.Call (.Attribute o "join" apos) [e] [] pos) (tE X.K W (eJoin fx fe)) :=
  PE.weak (pe_join ho he hs hbase hline) fun σ H Q h => by
    obtain ⟨w, S, ρ, s, re, p⟩ := h
    refine ⟨w, S, ρ, s, re, p.bind fun w1 H1 v x S1 e1 s1 rx p1 => ?_⟩
    cases x with
    | str a =>
      simp only [RV] at rx
      refine ⟨⟨a, rx⟩, w1, S1, ρ, s1, re.mono e1, p1.bind fun w2 H2 u y S2 e2 s2 ry p2 => ?_⟩
      cases hl : seqOf S2 y with
      | none => rw [hl] at p2; exact p2.elim
      | some es =>
        rw [hl] at p2
        simp only [Option.bind_some] at p2
        cases hi : strsOf es with
        | none => rw [hi] at p2; exact p2.elim
        | some ys =>
          rw [hi] at p2
          dsimp only at p2
          split at p2
          · rename_i hz
            obtain ⟨q, xs, h1, h2, h3⟩ := seqOf_sq s2 ry hl
            rw [strsOf_eq hi] at h3
            have hx := h3.strs
            subst hx
            exact ⟨a, q, ys, rx, by rw [h1], h2, hz, p2 w2 H2 _ .refl s2 (by simp only [RV])⟩
          · exact p2.elim
    | _ => exact p1.elim
theorem E_split (al : Bool) (ho : PE X o (tE X.K W fx)) (he : PE X e (tE X.K W fe)) (hs : starEach [e] X.env = [(false, eval e X.env)] := by rfl) (hbase : attributeBase o "split" X.env (eval o X.env) = eval o X.env := by rfl) (hline : (apos.endLine == pos.line) = true := by rfl) :
    PE X (.Call (.Attribute o "split" apos) [e] [] pos) (tE X.K W (eSplit al fx fe)) :=
  PE.weak (pe_split ho he hs hbase hline) fun σ H Q h => by
    obtain ⟨w, S, ρ, s, re, p⟩ := h
    refine ⟨w, S, ρ, s, re, p.bind fun w1 H1 v x S1 e1 s1 rx p1 => ?_⟩
    cases x with
    | str a =>
      simp only [RV] at rx
      refine ⟨⟨a, rx⟩, w1, S1, ρ, s1, re.mono e1, p1.bind fun w2 H2 u y S2 e2 s2 ry p2 => ?_⟩
      cases y with
      | str b =>
        simp only [RV] at ry
        dsimp only at p2
        split at p2
        · rename_i hz
          refine ⟨a, b, rx, by rw [ry], hz.1, hz.2, fun q hq => ?_⟩
          cases al with
          | true => exact newList (al := true) s2 (RVs.of_strs _) hq rfl p2
          | false => exact newList (al := false) s2 (RVs.of_strs _) hq rfl p2
        · exact p2.elim
      | _ => exact p2.elim
    | _ => exact p1.elim
end
/-- f'..' -/
def eFmt (fe : EF) : EF := fun ρ S => (fe ρ S).bind fun x S1 => match x with
  | .str y => if y.length ≤ sizeLine then .ok (.str y) S1 else .no
  | .int i => if i.natAbs.log2 < 1920 then .ok (.str (toString i)) S1 else .no
  | _ => .no
def jsGo : List EF → Str → En → Sto → R D
  | [], acc, _, S => .ok (.str acc) S
  | f :: fs, acc, ρ, S => (f ρ S).bind fun x S1 => match x with
    | .str y => if (acc ++ y).length ≤ sizeLine then jsGo fs (acc ++ y) ρ S1 else .no
    | _ => .no
def eJs (fs : List EF) : EF := fun ρ S => jsGo fs Str.empty ρ S
inductive PJs (X : Cx) (W : WX) : List Expr → List EF → Prop where
  | nil : PJs X W [] []
  | cons {e : Expr} {f : EF} {es : List Expr} {fs : List EF} (h : PE X e (tE X.K W f)) (r : PJs X W es fs) : PJs X W (e :: es) (f :: fs)
section
variable {X : Cx} {W : WX} {pos : Pos} {e v1 v2 : Expr} {rest : List Expr} {fe : EF} {fs : List EF}
theorem E_fmt (he : PE X e (tE X.K W fe)) : PE X (.FormattedValue e (-1) none pos) (tE X.K W (eFmt fe)) :=
  PE.weak (pe_fmt he) fun σ H Q h => by
    obtain ⟨w, S, ρ, s, re, p⟩ := h
    refine ⟨w, S, ρ, s, re, p.bind fun w1 H1 v x S1 e1 s1 rx p1 => ?_⟩
    cases x with
    | str y =>
      simp only [RV] at rx
      dsimp only at p1
      split at p1
      · rename_i hz; exact .inl ⟨y, rx, hz, p1 w1 H1 _ .refl s1 (by simp only [RV])⟩
      · exact p1.elim
    | int i =>
      simp only [RV] at rx
      dsimp only at p1
      split at p1
      · rename_i hz; exact .inr ⟨i, rx, hz, p1 w1 H1 _ .refl s1 (by simp only [RV])⟩
      · exact p1.elim
    | _ => exact p1.elim
theorem PJs.pj {es : List Expr} (h : PJs X W es fs) : PJ X es (fs.map fun f => tE X.K W f) := by
  induction h with
  | nil => exact .nil
  | cons h r ih => exact .cons h ih
theorem js_run : ∀ (fs : List EF) (acc : Str) (σ : L2.St) (H : Hp) (Q : VK), (∃ w S ρ, Sim X.K w S H ∧ REnv X.K w H ρ σ ∧ PostG X.K (RV X.K) W w H σ (jsGo fs acc ρ S) Q) → tJs (fs.map fun f => tE X.K W f) acc σ H fun out H1 => Q (.str out) H1
  | [], acc, σ, H, Q, h => by
    obtain ⟨w, S, ρ, s, re, p⟩ := h
    exact p w H _ .refl s (by simp only [RV])
  | f :: fs, acc, σ, H, Q, h => by
    obtain ⟨w, S, ρ, s, re, p⟩ := h
    unfold jsGo at p
    refine ⟨w, S, ρ, s, re, p.bind fun w1 H1 v x S1 e1 s1 rx p1 => ?_⟩
    cases x with
    | str y =>
      simp only [RV] at rx
      dsimp only at p1
      split at p1
      · rename_i hz
        exact ⟨y, rx, hz, js_run fs (acc ++ y) σ H1 Q ⟨w1, S1, ρ, s1, re.mono e1, p1⟩⟩
      · exact p1.elim
    | _ => exact p1.elim
theorem E_js (h : PJs X W (v1 :: v2 :: rest) fs) : PE X (.JoinedStr (v1 :: v2 :: rest) pos) (tE X.K W (eJs fs)) := PE.weak (pe_joined h.pj) fun σ H Q h => js_run fs Str.empty σ H Q h
end
/-- one sign in a text -/
def oInS : Op2 := fun x y _ => match x, y with
  | .str a, .str z => match a.cps.toList with
    | [c] => some (.bl (decide (c ∈ z.cps.toList)))
    | _ => none
  | _, _ => none
theorem opS_inS {K : PySem.W.Frag} : OpS K (fun x y H Q => ∃ (c : Nat) (z : Str), x = .str ⟨#[c]⟩ ∧ y = .str z ∧ Q (.bl (decide (c ∈ z.cps.toList))) H) oInS := by
  intro w S H x y d v u Q s rx ry e k
  unfold oInS at e
  split at e
  · rename_i a z
    split at e
    · rename_i c hc
      cases e
      simp only [RV] at rx ry
      have ea : a = ⟨#[c]⟩ := Str.ext' (Array.toList_inj.mp hc)
      exact ⟨c, z, by rw [rx, ea], ry, k w H _ .refl s (by simp only [RV])⟩
    · cases e
  · cases e
/-- the signs of a text, one after another -/
def iStrD (fe : EF) : IF := fun ρ S => (fe ρ S).bind fun d S1 => match d with
  | .str x => .ok ⟨x.cps.toList.map fun c => D.str ⟨#[c]⟩, none⟩ S1
  | _ => .no
theorem I_str {X : Cx} {W : WX} {tg e : Expr} {fe : EF} (he : PE X e (tE X.K W fe)) : PI X tg e (tI X.K W (iStrD fe)) :=
  PI.weak (pi_str he) fun σ H R h => by
    obtain ⟨w, S, ρ, s, re, p⟩ := h
    refine ⟨w, S, ρ, s, re, p.bind fun w1 H1 v d S1 e1 s1 rd p1 => ?_⟩
    cases d with
    | str x =>
      simp only [RV] at rd
      refine ⟨x, rd, p1 w1 H1 _ .refl s1 fun w2 H2 S2 e2 s2 _ => ⟨fun i d hd => ?_, ?_⟩⟩
      · dsimp only at hd
        rw [List.getElem?_map] at hd
        obtain ⟨c, hc, rfl⟩ := Option.map_eq_some_iff.mp hd
        have hc' : x.cps[i]? = some c := by simpa using hc
        refine ⟨(Array.getElem?_eq_some_iff.mp hc').1, fun y H' hy => ?_⟩
        obtain ⟨rfl, c', hc2, rfl⟩ := hy
        rw [hc'] at hc2
        cases hc2
        exact ⟨.refl, s2, by simp only [RV]⟩
      · show x.cps.size ≤ (x.cps.toList.map _).length
        rw [List.length_map, Array.length_toList]
        exact Nat.le_refl _
    | _ => exact p1.elim
/-- a whole number of the module -/
structure GInt (mg : Str → Option Value) (x : Str) (i : Int) : Prop where
  ex : ∃ t, mg x = some (.int i t)
theorem E_globG {X : Cx} {W : WX} {pos : Pos} {x : Str} {i : Int} (g : GInt X.mg x i) (hg : Gl X x := by rfl) (hd : (x == ("__debug__" : Str)) = false := by decide) : PE X (.Name x pos) (tE X.K W (eC (.int i))) := by
  obtain ⟨t, h⟩ := g.ex
  exact E_globI h hg hd
end Ev

namespace Ev
open PySem PySem.Spec PyProof.Rows L2
/-! ### the evaluation's steps, for simp -/
section
variable {i j : Int} {S : Sto} {a b : Str} {x y : D} {p : Bool}
theorem oAdd_int : oAdd (.int i) (.int j) S = some (.int (i + j)) := rfl
theorem oSub_int : oSub (.int i) (.int j) S = some (.int (i - j)) := rfl
theorem oMul_int (h : CMul i j) : oMul (.int i) (.int j) S = some (.int (i * j)) := by unfold oMul oI; exact if_pos (.inl h)
theorem oMul_intW (h : CMulW i j) : oMul (.int i) (.int j) S = some (.int (i * j)) := by unfold oMul oI; exact if_pos (.inr h)
theorem oDiv_intW (h : CDivW i j) : oDiv (.int i) (.int j) S = some (.int (i / j)) := by unfold oDiv oI; exact if_pos h
theorem oDiv_int (h : CDv i j) : oDiv (.int i) (.int j) S = some (.int (i / j)) := by unfold oDiv oI; exact if_pos h.w
theorem oMod_int (h : 0 < j) : oMod (.int i) (.int j) S = some (.int (i % j)) := by unfold oMod oI; exact if_pos h
theorem oPow_int (h : CPow i j) : oPow (.int i) (.int j) S = some (.int (i ^ j.toNat)) := by unfold oPow oI; exact if_pos h
theorem oShl_int (h : CPow i j) : oShl (.int i) (.int j) S = some (.int (i * 2 ^ j.toNat)) := by unfold oShl oI; exact if_pos h
theorem oLt_int : oLt (.int i) (.int j) S = some (.bl (decide (i < j))) := rfl
theorem oLe_int : oLe (.int i) (.int j) S = some (.bl (decide (i ≤ j))) := rfl
theorem oGt_int : oGt (.int i) (.int j) S = some (.bl (decide (j < i))) := rfl
theorem oGe_int : oGe (.int i) (.int j) S = some (.bl (decide (j ≤ i))) := rfl
theorem oEq_int : oEq (.int i) (.int j) S = some (.bl (decide (i = j))) := rfl
theorem oNe_int : oNe (.int i) (.int j) S = some (.bl (!decide (i = j))) := rfl
theorem oEq_str : oEq (.str a) (.str b) S = some (.bl (decide (a = b))) := rfl
theorem oEq_bl {q : Bool} : oEq (.bl p) (.bl q) S = some (.bl (decide (p = q))) := rfl
theorem CMul.l (h : (-(2 ^ 64) < i ∧ i < 2 ^ 64)) : CMul i j := .inl h
theorem CMul.r (h : (-(2 ^ 64) < j ∧ j < 2 ^ 64)) : CMul i j := .inr h
theorem ixN_ok {n k : Nat} (h : k < n) : ixN n (k : Int) = some k := by
  unfold ixN
  rw [if_pos (by omega), if_pos (by omega)]
  simp
theorem atI_ok {α : Type} {xs : List α} {k : Nat} {v : α} (h : xs[k]? = some v) : atI xs (k : Int) = some v := atI_nat h
theorem atI_0 {α : Type} {x : α} {xs : List α} : atI (x :: xs) 0 = some x := atI_nat (j := 0) rfl
theorem atI_1 {α : Type} {x y : α} {xs : List α} : atI (x :: y :: xs) 1 = some y := atI_nat (j := 1) rfl
theorem atI_2 {α : Type} {x y z : α} {xs : List α} : atI (x :: y :: z :: xs) 2 = some z := atI_nat (j := 2) rfl
theorem atI_3 {α : Type} {x y z u : α} {xs : List α} : atI (x :: y :: z :: u :: xs) 3 = some u := atI_nat (j := 3) rfl
theorem atI_4 {α : Type} {x y z u v : α} {xs : List α} : atI (x :: y :: z :: u :: v :: xs) 4 = some v := atI_nat (j := 4) rfl
theorem ixN51 : ixN 5 1 = some 1 := by decide
theorem ixN52 : ixN 5 2 = some 2 := by decide
theorem ixN53 : ixN 5 3 = some 3 := by decide
theorem ixN54 : ixN 5 4 = some 4 := by decide
theorem set_get {l : List α} {k : Nat} {c : α} (h : k < l.length) : (l.set k c)[k]? = some c := List.getElem?_set_self h
theorem sizeLine_ok {n : Nat} (h : n ≤ 1000) : n ≤ sizeLine := by rw [sizeLine_eq]; omega
theorem gLen_seq {d : D} {es : List D} (h : seqOf S d = some es) : gLen [d] S = some (.int es.length) := by unfold gLen; simp only [h]
theorem seqOf_tup {es : List D} : seqOf S (.tup es) = some es := rfl
theorem seqOf_lst {es : List D} : seqOf S (.lst es) = some es := rfl
theorem seqOf_loc {n : Nat} {es : List D} (h : S[n]? = some (.lst es)) : seqOf S (.loc n) = some es := by unfold seqOf lstOf lstX; simp only [tupOf, h]
theorem oIx_tup {es : List D} : oIx (.tup es) (.int i) S = atI es i := rfl
theorem oIx_lst {es : List D} : oIx (.lst es) (.int i) S = atI es i := rfl
theorem oIx_con {es : List D} : oIx (.con es) (.int i) S = atI es i := rfl
theorem oIx_loc {n : Nat} {es : List D} (h : S[n]? = some (.lst es)) : oIx (.loc n) (.int i) S = atI es i := by unfold oIx lstOf lstX; simp only [tupOf, h]
theorem lstOf_loc {n : Nat} {es : List D} (h : S[n]? = some (.lst es)) : lstOf S (.loc n) = some es := by unfold lstOf lstX; simp only [h]
end
/-- a store cut back -/
theorem gc_set {S S' : Sto} {d : D} (h1 : S.length ≤ S'.length) (h2 : okD S.length d = true) (h3 : ∀ i, i < S.length → S'[i]? = S[i]? ∨ ∃ c, S'[i]? = some c ∧ okC S.length c = true) : gc S d S' = .ok d (S'.take S.length) := by
  unfold gc; exact if_pos ⟨h1, h2, h3⟩
theorem gc_same {S : Sto} {d : D} (h2 : okD S.length d = true) : gc S d S = .ok d S := by
  rw [gc_set (Nat.le_refl _) h2 fun i _ => .inl rfl, List.take_length]
theorem gc_app {S T : Sto} {d : D} (h2 : okD S.length d = true) : gc S d (S ++ T) = .ok d S := by
  rw [gc_set (by simp) h2 fun i hi => .inl (List.getElem?_append_left hi), List.take_left']
  rfl
theorem gc_put {S : Sto} {d : D} {p : Nat} {c : Cel} (h2 : okD S.length d = true) (hc : okC S.length c = true) : gc S d (S.set p c) = .ok d (S.set p c) := by
  have := gc_set (S := S) (S' := S.set p c) (d := d) (by simp) h2 fun i hi => by
    by_cases e : i = p
    · subst e; exact .inr ⟨c, List.getElem?_set_self hi, hc⟩
    · exact .inl (List.getElem?_set_ne (Ne.symm e))
  rw [this, show List.take S.length (S.set p c) = S.set p c from List.take_of_length_le (by simp)]
theorem gc_put_app {S T : Sto} {d : D} {p : Nat} {c : Cel} (h2 : okD S.length d = true) (hc : okC S.length c = true) : gc S d (S.set p c ++ T) = .ok d (S.set p c) := by
  have := gc_set (S := S) (S' := S.set p c ++ T) (d := d) (by simp) h2 fun i hi => by
    rw [List.getElem?_append_left (by simpa using hi)]
    by_cases e : i = p
    · subst e; exact .inr ⟨c, List.getElem?_set_self hi, hc⟩
    · exact .inl (List.getElem?_set_ne (Ne.symm e))
  rw [this, List.take_left' (by simp)]
theorem okDs_ints (n : Nat) (is : List Int) : okDs n (is.map D.int) = true := by
  induction is with
  | nil => rfl
  | cons i is ih => simp only [List.map_cons, okDs, okD, ih, Bool.and_self]
end Ev
namespace Ev
open PySem PySem.Spec PyProof.Rows L2
/-- a for by an invariant -/
theorem forGo_inv {k : Wk} {tg : Tg} {b : SF} (I : Nat → En → Sto → Prop) (hk : ∀ i ρ S, I i ρ S → k.ok S) : ∀ (ds : List D) (i : Nat) (ρ : En) (S : Sto), I i ρ S →
    (∀ (j : Nat) (d : D) (ρ : En) (S : Sto), ds[j]? = some d → I (i + j) ρ S → ∃ ρ1 ρ2 S2, tg.asg d ρ S = some ρ1 ∧ (b ρ1 S = .nx ρ2 S2 ∨ b ρ1 S = .ct ρ2 S2) ∧ I (i + j + 1) ρ2 S2) →
    ∃ ρ' S', forGo k tg b ds ρ S = .nx ρ' S' ∧ I (i + ds.length) ρ' S'
  | [], i, ρ, S, h, _ => ⟨ρ, S, by unfold forGo Wk.guard; rw [if_pos (hk _ _ _ h)], h⟩
  | d :: ds, i, ρ, S, h, step => by
    obtain ⟨ρ1, ρ2, S2, h1, h2, h3⟩ := step 0 d ρ S rfl h
    obtain ⟨ρ', S', h4, h5⟩ := forGo_inv I hk ds (i + 1) ρ2 S2 h3 fun j d' ρ S hd hI => by
      have := step (j + 1) d' ρ S (by simpa using hd) (by rw [← Nat.add_assoc, Nat.add_right_comm]; exact hI)
      simpa only [← Nat.add_assoc, Nat.add_right_comm i j 1, Nat.add_right_comm (i + 1) j 1] using this
    refine ⟨ρ', S', ?_, by simpa only [List.length_cons, Nat.add_right_comm i 1, ← Nat.add_assoc] using h5⟩
    unfold forGo Wk.guard
    rw [if_pos (hk _ _ _ h), h1]
    rcases h2 with h2 | h2 <;> (dsimp only; rw [h2]; exact h4)
/-- .. over what no one changes -/
theorem forGo_v {items : List D} {tg : Tg} {b : SF} (I : Nat → En → Sto → Prop) {ρ : En} {S : Sto} (h0 : I 0 ρ S)
    (step : ∀ (j : Nat) (d : D) (ρ : En) (S : Sto), items[j]? = some d → I j ρ S → ∃ ρ1 ρ2 S2, tg.asg d ρ S = some ρ1 ∧ (b ρ1 S = .nx ρ2 S2 ∨ b ρ1 S = .ct ρ2 S2) ∧ I (j + 1) ρ2 S2) :
    ∃ ρ' S', forGo ⟨items, none⟩ tg b items ρ S = .nx ρ' S' ∧ I items.length ρ' S' := by
  obtain ⟨ρ', S', h1, h2⟩ := forGo_inv (k := ⟨items, none⟩) (tg := tg) (b := b) I (fun _ _ _ _ => True.intro) items 0 ρ S h0 fun j d ρ S hd hI => by
    have := step j d ρ S hd (by simpa using hI)
    simpa using this
  exact ⟨ρ', S', h1, by simpa using h2⟩
/-- a comprehension whose items do not touch the store -/
theorem lcGo_map {k : Wk} {tg : Tg} {te : EF} {ρ0 : En} {S : Sto} {g : D → D} (hk : k.ok S) : ∀ (ds : List D), (∀ d ∈ ds, ∃ ρ1, tg.asg d ρ0 S = some ρ1 ∧ te ρ1 S = .ok (g d) S) → lcGo k tg bYes te ρ0 ds S = .ok (ds.map g) S
  | [], _ => by unfold lcGo Wk.guard; rw [if_pos hk]; rfl
  | d :: ds, h => by
    obtain ⟨ρ1, h1, h2⟩ := h d List.mem_cons_self
    have ih := lcGo_map hk ds fun d' hd => h d' (List.mem_cons_of_mem _ hd)
    unfold lcGo Wk.guard
    rw [if_pos hk, h1]
    simp only [bYes, R.nox, R.bind, h2, ih, List.map_cons, if_true]
theorem lcGo_filter {k : Wk} {tg : Tg} {tt : BF} {te : EF} {ρ0 : En} {S : Sto} {c : D → Bool} {g : D → D} (hk : k.ok S) : ∀ (ds : List D), (∀ d ∈ ds, ∃ ρ1, tg.asg d ρ0 S = some ρ1 ∧ tt ρ1 S = .ok (c d) S ∧ (c d = true → te ρ1 S = .ok (g d) S)) →
    lcGo k tg tt te ρ0 ds S = .ok ((ds.filter c).map g) S
  | [], _ => by unfold lcGo Wk.guard; rw [if_pos hk]; rfl
  | d :: ds, h => by
    obtain ⟨ρ1, h1, h2, h3⟩ := h d List.mem_cons_self
    have ih := lcGo_filter hk ds fun d' hd => h d' (List.mem_cons_of_mem _ hd)
    unfold lcGo Wk.guard
    rw [if_pos hk, h1]
    cases hc : c d with
    | true => simp only [R.nox, R.bind, h2, hc, h3 hc, ih, List.filter_cons, List.map_cons, if_true]
    | false => simp only [R.nox, R.bind, h2, hc, ih, List.filter_cons, Bool.false_eq_true, if_false]
/-- .. that may -/
theorem lcGo_inv {k : Wk} {tg : Tg} {tt : BF} {te : EF} {ρ0 : En} (I : Sto → Prop) (J : D → Prop) (hk : ∀ S, I S → k.ok S) : ∀ (ds : List D) (S : Sto), I S →
    (∀ d ∈ ds, ∀ S, I S → ∃ ρ1 b S1, tg.asg d ρ0 S = some ρ1 ∧ tt ρ1 S = .ok b S1 ∧ I S1 ∧ (b = true → ∃ y S2, te ρ1 S1 = .ok y S2 ∧ I S2 ∧ J y)) → ∃ ys S', lcGo k tg tt te ρ0 ds S = .ok ys S' ∧ I S' ∧ (∀ y ∈ ys, J y) ∧ ys.length ≤ ds.length
  | [], S, h, _ => ⟨[], S, by unfold lcGo Wk.guard; rw [if_pos (hk _ h)], h, fun _ q => by simp at q, Nat.le_refl _⟩
  | d :: ds, S, h, step => by
    obtain ⟨ρ1, b, S1, h1, h2, h3, h4⟩ := step d List.mem_cons_self S h
    have st : ∀ d' ∈ ds, _ := fun d' hd => step d' (List.mem_cons_of_mem _ hd)
    unfold lcGo Wk.guard
    rw [if_pos (hk _ h), h1]
    cases b with
    | true =>
      obtain ⟨y, S2, g1, g2, g3⟩ := h4 rfl
      obtain ⟨ys, S', i1, i2, i3, i4⟩ := lcGo_inv I J hk ds S2 g2 st
      refine ⟨y :: ys, S', ?_, i2, fun z hz => ?_, by simp; omega⟩
      · simp only [R.nox, R.bind, h2, g1, i1, if_true]
      · rcases List.mem_cons.mp hz with e | e
        · rw [e]; exact g3
        · exact i3 z e
    | false =>
      obtain ⟨ys, S', i1, i2, i3, i4⟩ := lcGo_inv I J hk ds S1 h3 st
      refine ⟨ys, S', ?_, i2, i3, by simp; omega⟩
      simp only [R.nox, R.bind, h2, i1, Bool.false_eq_true, if_false]
theorem sSeq_nx {f g : SF} {ρ ρ1 : En} {S S1 : Sto} (h : f ρ S = .nx ρ1 S1) : sSeq f g ρ S = g ρ1 S1 := by unfold sSeq; rw [h]
theorem sSeq_rt {f g : SF} {ρ : En} {S S1 : Sto} {d : D} (h : f ρ S = .rt d S1) : sSeq f g ρ S = .rt d S1 := by unfold sSeq; rw [h]
theorem rngD_get' {lo : Int} {n i : Nat} (h : i < n) : (rngD lo n)[i]? = some (.int (lo + i)) := by
  unfold rngD
  rw [List.getElem?_map, List.getElem?_range h]
  rfl
end Ev

namespace Ev
open PySem PySem.Spec PyProof.Rows L2
/-! ### one step each: what the evaluation's functions give -/
theorem b62 {i : Int} (h : -(2 ^ 62) ≤ i) (h2 : i < 2 ^ 62) : big62 i = true := by unfold big62; exact decide_eq_true ⟨h, h2⟩
theorem big62_nat {i : Int} (h : 0 ≤ i) (h2 : i < 1000000) : big62 i = true := b62 (by omega) (by omega)
section
variable {ρ ρ1 : En} {S S1 S2 : Sto} {fa : AF} {fe fb : EF} {d x y : D} {ds : List D} {o : O}
theorem iRng2D_ok {i j : Int} (h : fa ρ S = .ok [.int i, .int j] S1) (hi : 0 ≤ i ∧ i < 1000000) (hj : 0 ≤ j ∧ j < 1000000) : iRng2D fa ρ S = .ok ⟨rngD i (j - i).toNat, none⟩ S1 := by
  unfold iRng2D
  rw [h]
  simp only [R.bind, big62_nat hi.1 hi.2, big62_nat hj.1 hj.2, Bool.and_self, if_true]
theorem iRng1D_int {j : Int} (h : fa ρ S = .ok [.int j] S1) (hj : big62 j = true) : iRng1D fa ρ S = .ok ⟨rngD 0 j.toNat, none⟩ S1 := by
  unfold iRng1D
  rw [h]
  simp only [R.bind, hj, if_true]
theorem iRng1D_ok {j : Nat} (h : fa ρ S = .ok [.int j] S1) (hj : j < 1000000) : iRng1D fa ρ S = .ok ⟨rngD 0 j, none⟩ S1 := iRng1D_int h (big62_nat (Int.natCast_nonneg j) (by omega))
theorem iSeqD_tup (h : fe ρ S = .ok (.tup ds) S1) : iSeqD fe ρ S = .ok ⟨ds, none⟩ S1 := by
  unfold iSeqD
  rw [h]
  rfl
theorem iSeqD_lst (h : fe ρ S = .ok (.lst ds) S1) : iSeqD fe ρ S = .ok ⟨ds, none⟩ S1 := by
  unfold iSeqD
  rw [h]
  rfl
theorem iSeqD_con (h : fe ρ S = .ok (.con ds) S1) : iSeqD fe ρ S = .ok ⟨ds, none⟩ S1 := by
  unfold iSeqD
  rw [h]
  rfl
theorem iSeqD_loc {n : Nat} (h : fe ρ S = .ok (.loc n) S1) (h2 : S1[n]? = some (.lst ds)) : iSeqD fe ρ S = .ok ⟨ds, some (n, .lst ds)⟩ S1 := by
  unfold iSeqD
  rw [h]
  simp only [R.bind, seqW, tupOf, h2]
theorem sFor_ok {fi : IF} {tg : Tg} {b : SF} {k : Wk} (h : fi ρ S = .ok k S1) (h2 : forGo k tg b k.ds ρ S1 = o) : sFor fi tg b ρ S = o := by
  unfold sFor
  rw [h]
  exact h2
theorem sIf_t {t : BF} {f g : SF} (h : t ρ S = .ok true S1) : sIf t f g ρ S = f ρ S1 := by
  unfold sIf
  rw [h]
  rfl
theorem sIf_f {t : BF} {f g : SF} (h : t ρ S = .ok false S1) : sIf t f g ρ S = g ρ S1 := by
  unfold sIf
  rw [h]
  rfl
theorem sIf_fn {t : BF} {f : SF} (h : t ρ S = .ok false S1) : sIf t f sNext ρ S = .nx ρ S1 := (sIf_f h).trans rfl
theorem eLc_ok {fi : IF} {tg : Tg} {tt : BF} {te : EF} {vs : List Nat} {k : Wk} (h : fi ρ S = .ok k S1) (h2 : lcGo k tg tt te (wipeD ρ vs) k.ds S1 = .ok ds S2) (hl : ds.length ≤ sizeLine) : eLc fi tg tt te vs ρ S = .ok (.lst ds) S2 := by
  unfold eLc
  rw [h]
  simp only [R.bind]
  rw [h2]
  simp only [R.bind, hl, if_true]
theorem eLcA_ok {fi : IF} {tg : Tg} {tt : BF} {te : EF} {vs : List Nat} {k : Wk} (h : fi ρ S = .ok k S1) (h2 : lcGo k tg tt te (wipeD ρ vs) k.ds S1 = .ok ds S2) (hl : ds.length ≤ sizeLine) : eLcA fi tg tt te vs ρ S = .ok (.loc S2.length) (S2 ++ [.lst ds]) := by
  unfold eLcA
  rw [h]
  simp only [R.bind]
  rw [h2]
  simp only [R.bind, hl, if_true]
theorem eVar_ok {i : Nat} (h : ρ[i]? = some (some d)) : eVar i ρ S = .ok d S := by
  unfold eVar
  rw [h]
theorem eC_ok : eC d ρ S = .ok d S := rfl
theorem aNil_ok : aNil ρ S = .ok [] S := rfl
theorem eLstA_nil : eLstA aNil ρ S = .ok (.loc S.length) (S ++ [.lst []]) := by
  unfold eLstA
  rw [aNil_ok]
  simp only [R.bind, List.length_nil, Nat.zero_le, if_true]
theorem aCons_ok (h : fe ρ S = .ok d S1) (h2 : fa ρ S1 = .ok ds S2) : aCons fe fa ρ S = .ok (d :: ds) S2 := by
  unfold aCons
  rw [h]
  simp only [R.bind]
  rw [h2]
theorem eBin_ok {op : Op2} (ha : fe ρ S = .ok x S1) (hb : fb ρ S1 = .ok y S2) (ho : op x y S2 = some d) : eBin op fe fb ρ S = .ok d S2 := by
  unfold eBin
  rw [ha]
  simp only [R.bind]
  rw [hb]
  simp only [R.bind]
  rw [ho]
  rfl
theorem bBin_ok {op : Op2} {c : Bool} (ha : fe ρ S = .ok x S1) (hb : fb ρ S1 = .ok y S2) (ho : op x y S2 = some (.bl c)) : bBin op fe fb ρ S = .ok c S2 := by
  unfold bBin
  rw [ha]
  simp only [R.bind]
  rw [hb]
  simp only [R.bind]
  rw [ho]
  rfl
theorem eCb_ok {op : OpN} (ha : fa ρ S = .ok ds S1) (ho : op ds S1 = some (d, S2)) : eCb op fa ρ S = .ok d S2 := by
  unfold eCb
  rw [ha]
  simp only [R.bind]
  rw [ho]
  rfl
theorem eCall_ok {n : Nat} {F : List D → Sto → R D} (ha : fa ρ S = .ok ds S1) (hn : ds.length = n) (hF : F ds S1 = .ok d S2) : eCall n F fa ρ S = .ok d S2 := by
  unfold eCall
  rw [ha]
  simp only [R.bind]
  rw [hF, if_pos hn]
theorem sSet_ok {i : Nat} (h : fe ρ S = .ok d S1) : sSet i fe ρ S = .nx (ρ.set i (some d)) S1 := by
  unfold sSet
  rw [h]
  rfl
theorem sRet_ok (h : fe ρ S = .ok d S1) : sRet fe ρ S = .rt d S1 := by
  unfold sRet
  rw [h]
  rfl
theorem sAsg_ok {t : Tg} (h : fe ρ S = .ok d S1) (h2 : t.asg d ρ S1 = some ρ1) : sAsg t fe ρ S = .nx ρ1 S1 := by
  unfold sAsg
  rw [h]
  simp only [sB]
  rw [h2]
theorem sExpr_ok (h : fe ρ S = .ok d S1) : sExpr fe ρ S = .nx ρ S1 := by
  unfold sExpr
  rw [h]
  rfl
theorem runF_rt {n : Nat} {b : SF} {r : R D} (h : b (ds.map some ++ List.replicate (n - ds.length) none) S = .rt d S1) (h2 : gc S d S1 = r) : runF n b ds S = r := by
  unfold runF
  rw [h]
  exact h2
theorem eLm_ok {op : OpM} {S' : Sto} (hx : fe ρ S = .ok x S1) (hl : isLst S1 x = true) (ha : fa ρ S1 = .ok ds S2) (ho : op x ds S2 = some (d, S')) : eLm op fe fa ρ S = .ok d S' := by
  unfold eLm
  rw [hx]
  simp only [R.bind, hl, if_true]
  rw [ha]
  simp only [R.bind]
  rw [ho]
  rfl
end
theorem set_app {S : Sto} {x y : Cel} : (S ++ [x]).set S.length y = S ++ [y] := by
  induction S with
  | nil => rfl
  | cons c S ih => exact congrArg (c :: ·) ih
theorem get_app {S : Sto} {x : Cel} : (S ++ [x])[S.length]? = some x := by simp
theorem mAppend_ok {S : Sto} {n : Nat} {es : List D} {d : D} (h : S[n]? = some (.lst es)) (hl : es.length < sizeLine) : mAppend (.loc n) [d] S = some (.non, S.set n (.lst (es ++ [d]))) := by
  unfold mAppend
  simp only [h, hl, if_true]
theorem isLst_loc {S : Sto} {n : Nat} {es : List D} (h : S[n]? = some (.lst es)) : isLst S (.loc n) = true := by
  unfold isLst
  rw [lstOf_loc h]
  rfl
def natD (F : List Nat) : List D := F.map fun (x : Nat) => D.int (x : Int)
theorem natD_len (F : List Nat) : (natD F).length = F.length := List.length_map _
theorem natD_app (F G : List Nat) : natD (F ++ G) = natD F ++ natD G := List.map_append
theorem natD_get {F : List Nat} {j x : Nat} (h : F[j]? = some x) : (natD F)[j]? = some (.int x) := by
  unfold natD
  rw [List.getElem?_map, h]
  rfl
theorem natD_inv {F : List Nat} {j : Nat} {d : D} (h : (natD F)[j]? = some d) : ∃ x, F[j]? = some x ∧ d = .int x := by
  unfold natD at h
  rw [List.getElem?_map] at h
  cases e : F[j]? with
  | none => rw [e] at h; cases h
  | some x => rw [e] at h; cases h; exact ⟨x, rfl, rfl⟩
theorem natD_mem {F : List Nat} {d : D} (h : d ∈ natD F) : ∃ x ∈ F, d = .int x := by
  obtain ⟨x, a, b⟩ := List.mem_map.mp h
  exact ⟨x, a, b.symm⟩
theorem natD_eq (F : List Nat) : natD F = (F.map Int.ofNat).map D.int := by
  unfold natD
  rw [List.map_map]
  rfl
theorem rngD_nat (n : Nat) : rngD 0 n = natD (List.range n) := by
  unfold rngD natD
  exact List.map_congr_left fun (x : Nat) _ => congrArg D.int (Int.zero_add (x : Int))
theorem intsOf_nat (F : List Nat) : intsOf (natD F) = some (F.map Int.ofNat) := by rw [natD_eq, intsOf_map]
theorem okDs_nat (n : Nat) (F : List Nat) : okDs n (natD F) = true := by rw [natD_eq]; exact okDs_ints _ _
theorem mem_ofNat {F : List Nat} {a : Nat} : (a : Int) ∈ F.map Int.ofNat ↔ a ∈ F := by
  constructor
  · intro h
    obtain ⟨x, hx, e⟩ := List.mem_map.mp h
    have : x = a := Int.ofNat.inj e
    rw [← this]; exact hx
  · intro h
    exact List.mem_map.mpr ⟨a, h, rfl⟩
theorem inB_nat {S : Sto} {y : D} {F : List Nat} {a : Nat} (h : seqOf S y = some (natD F)) : inB (.int a) y S = some (decide (a ∈ F)) := by
  unfold inB
  rw [h]
  simp only [Option.bind_some, intsOf_nat, mem_ofNat]
theorem oIn_nat {S : Sto} {y : D} {F : List Nat} {a : Nat} (h : seqOf S y = some (natD F)) : oIn (.int a) y S = some (.bl (decide (a ∈ F))) := by
  unfold oIn
  rw [inB_nat h]
  rfl
theorem oNotIn_nat {S : Sto} {y : D} {F : List Nat} {a : Nat} (h : seqOf S y = some (natD F)) : oNotIn (.int a) y S = some (.bl (!decide (a ∈ F))) := by
  unfold oNotIn
  rw [inB_nat h]
  rfl
theorem lcGo_mapN {α : Type} {it : List D} {tg : Tg} {te : EF} {ρ0 : En} {S : Sto} {f g : α → D} : ∀ (xs : List α), (∀ x ∈ xs, ∃ ρ1, tg.asg (f x) ρ0 S = some ρ1 ∧ te ρ1 S = .ok (g x) S) → lcGo ⟨it, none⟩ tg bYes te ρ0 (xs.map f) S = .ok (xs.map g) S
  | [], _ => by simp only [List.map_nil]; unfold lcGo Wk.guard; rw [if_pos (show Wk.ok ⟨it, none⟩ S from True.intro)]
  | x :: xs, h => by
    obtain ⟨ρ1, h1, h2⟩ := h x List.mem_cons_self
    have ih := lcGo_mapN (it := it) xs fun d' hd => h d' (List.mem_cons_of_mem _ hd)
    simp only [List.map_cons]
    unfold lcGo Wk.guard
    rw [if_pos (show Wk.ok ⟨it, none⟩ S from True.intro), h1]
    simp only [bYes, R.nox, R.bind, h2, ih, if_true]
theorem lcGo_filterN {α : Type} {it : List D} {tg : Tg} {tt : BF} {te : EF} {ρ0 : En} {S : Sto} {c : α → Bool} {f g : α → D} : ∀ (xs : List α), (∀ x ∈ xs, ∃ ρ1, tg.asg (f x) ρ0 S = some ρ1 ∧ tt ρ1 S = .ok (c x) S ∧ (c x = true → te ρ1 S = .ok (g x) S)) →
    lcGo ⟨it, none⟩ tg tt te ρ0 (xs.map f) S = .ok ((xs.filter c).map g) S
  | [], _ => by simp only [List.map_nil]; unfold lcGo Wk.guard; rw [if_pos (show Wk.ok ⟨it, none⟩ S from True.intro)]; rfl
  | x :: xs, h => by
    obtain ⟨ρ1, h1, h2, h3⟩ := h x List.mem_cons_self
    have ih := lcGo_filterN (it := it) xs fun d' hd => h d' (List.mem_cons_of_mem _ hd)
    simp only [List.map_cons]
    unfold lcGo Wk.guard
    rw [if_pos (show Wk.ok ⟨it, none⟩ S from True.intro), h1]
    cases hc : c x with
    | true => simp only [R.nox, R.bind, h2, hc, h3 hc, ih, List.filter_cons, List.map_cons, if_true]
    | false => simp only [R.nox, R.bind, h2, hc, ih, List.filter_cons, Bool.false_eq_true, if_false]
theorem okRg_nat {n : Nat} (h : n ≤ 1000) : okRg 0 (n : Int) = true := by
  unfold okRg
  refine decide_eq_true ⟨?_, ?_, ?_, ?_, ?_⟩
  · exact Int.le_trans (Int.neg_nonpos_of_nonneg (Int.pow_nonneg (by omega))) (Int.le_refl 0)
  · exact Int.pow_pos (by omega)
  · exact Int.le_trans (Int.neg_nonpos_of_nonneg (Int.pow_nonneg (by omega))) (Int.natCast_nonneg n)
  · omega
  · rw [Int.sub_zero, Int.toNat_natCast]; omega
theorem eLr1_aux {ρ : En} {S S1 : Sto} {fe : EF} {n : Int} (h : fe ρ S = .ok (.int n) S1) (M : Int → Sto → R D) : ((fe ρ S).bind fun x S1 => match x with
  | .int n => M n S1
  | _ => .no) = M n S1 := by rw [h]; rfl
theorem mkRg_ok {n : Nat} {S : Sto} (hn : n ≤ 1000) : mkRg false 0 (n : Int) S = .ok (.lst (natD (List.range n))) S := by
  unfold mkRg
  rw [if_pos (okRg_nat hn), if_neg (by decide), Int.sub_zero, Int.toNat_natCast, rngD_nat]
theorem eLr1_ok {ρ : En} {S S1 : Sto} {fe : EF} {n : Nat} (h : fe ρ S = .ok (.int n) S1) (hn : n ≤ 1000) : eLr1 false fe ρ S = .ok (.lst (natD (List.range n))) S1 :=
  Eq.trans (eLr1_aux h (fun n S => mkRg false 0 n S)) (mkRg_ok hn)
theorem oAdd_lst {S : Sto} {xs ys : List D} (h : (xs ++ ys).length ≤ sizeLine) : oAdd (.lst xs) (.lst ys) S = some (.lst (xs ++ ys)) := by
  rw [List.length_append] at h
  unfold oAdd
  simp only [tupOf, lstOf, lstX, h, if_true]
end Ev

namespace Ev
open PySem PySem.Spec PyProof.Rows L2
/-- a for that may return -/
theorem forGo_rtA {k : Wk} {tg : Tg} {b : SF} (I : Nat → En → Sto → Prop) (Q : D → Sto → Prop) (hk : ∀ i ρ S, I i ρ S → k.ok S) : ∀ (ds : List D) (i : Nat) (ρ : En) (S : Sto), I i ρ S →
    (∀ (j : Nat) (d : D) (ρ : En) (S : Sto), ds[j]? = some d → I (i + j) ρ S → ∃ ρ1, tg.asg d ρ S = some ρ1 ∧ ((∃ ρ2 S2, (b ρ1 S = .nx ρ2 S2 ∨ b ρ1 S = .ct ρ2 S2) ∧ I (i + j + 1) ρ2 S2) ∨ ∃ v S2, b ρ1 S = .rt v S2 ∧ Q v S2)) →
    (∃ ρ' S', forGo k tg b ds ρ S = .nx ρ' S' ∧ I (i + ds.length) ρ' S') ∨ ∃ v S', forGo k tg b ds ρ S = .rt v S' ∧ Q v S'
  | [], i, ρ, S, h, _ => .inl ⟨ρ, S, by unfold forGo Wk.guard; rw [if_pos (hk _ _ _ h)], h⟩
  | d :: ds, i, ρ, S, h, step => by
    obtain ⟨ρ1, h1, h2⟩ := step 0 d ρ S rfl h
    rcases h2 with ⟨ρ2, S2, h2, h3⟩ | ⟨v, S2, h2, h3⟩
    · have ih := forGo_rtA I Q hk ds (i + 1) ρ2 S2 h3 fun j d' ρ S hd hI => by
        have := step (j + 1) d' ρ S (by simpa using hd) (by rw [← Nat.add_assoc, Nat.add_right_comm]; exact hI)
        simpa only [← Nat.add_assoc, Nat.add_right_comm i j 1, Nat.add_right_comm (i + 1) j 1] using this
      have eq : forGo k tg b (d :: ds) ρ S = forGo k tg b ds ρ2 S2 := by
        rw [forGo, Wk.guard, if_pos (hk _ _ _ h), h1]
        rcases h2 with h2 | h2 <;> (dsimp only; rw [h2])
      rw [eq]
      rcases ih with ⟨ρ', S', h4, h5⟩ | h4
      · exact .inl ⟨ρ', S', h4, by simpa only [List.length_cons, Nat.add_right_comm i 1, ← Nat.add_assoc] using h5⟩
      · exact .inr h4
    · refine .inr ⟨v, S2, ?_, h3⟩
      rw [forGo, Wk.guard, if_pos (hk _ _ _ h), h1]
      dsimp only
      rw [h2]
theorem forGo_rt {items : List D} {tg : Tg} {b : SF} (I : Nat → En → Sto → Prop) (Q : D → Sto → Prop) {ρ : En} {S : Sto} (h0 : I 0 ρ S)
    (step : ∀ (j : Nat) (d : D) (ρ : En) (S : Sto), items[j]? = some d → I j ρ S → ∃ ρ1, tg.asg d ρ S = some ρ1 ∧ ((∃ ρ2 S2, (b ρ1 S = .nx ρ2 S2 ∨ b ρ1 S = .ct ρ2 S2) ∧ I (j + 1) ρ2 S2) ∨ ∃ v S2, b ρ1 S = .rt v S2 ∧ Q v S2)) :
    (∃ ρ' S', forGo ⟨items, none⟩ tg b items ρ S = .nx ρ' S' ∧ I items.length ρ' S') ∨ ∃ v S', forGo ⟨items, none⟩ tg b items ρ S = .rt v S' ∧ Q v S' := by
  have := forGo_rtA (k := ⟨items, none⟩) (tg := tg) (b := b) I Q (fun _ _ _ _ => True.intro) items 0 ρ S h0 fun j d ρ S hd hI => by
    have := step j d ρ S hd (by simpa using hI)
    simpa using this
  simpa using this
theorem sSeq_nxo {f g : SF} {ρ ρ1 : En} {S S1 : Sto} {o : O} (h : f ρ S = .nx ρ1 S1) (h2 : g ρ1 S1 = o) : sSeq f g ρ S = o := (sSeq_nx h).trans h2
theorem eTup_ok {fa : AF} {ρ : En} {S S1 : Sto} {ds : List D} (h : fa ρ S = .ok ds S1) (hl : ds.length ≤ 1000) : eTup fa ρ S = .ok (.tup ds) S1 := by
  unfold eTup
  rw [h]
  simp only [R.bind, sizeLine_ok hl, if_true]
theorem eLst_ok {fa : AF} {ρ : En} {S S1 : Sto} {ds : List D} (h : fa ρ S = .ok ds S1) (hl : ds.length ≤ 1000) : eLst fa ρ S = .ok (.lst ds) S1 := by
  unfold eLst
  rw [h]
  simp only [R.bind, sizeLine_ok hl, if_true]
theorem eLstA_ok {fa : AF} {ρ : En} {S S1 : Sto} {ds : List D} (h : fa ρ S = .ok ds S1) (hl : ds.length ≤ 1000) : eLstA fa ρ S = .ok (.loc S1.length) (S1 ++ [.lst ds]) := by
  unfold eLstA
  rw [h]
  simp only [R.bind, sizeLine_ok hl, if_true]
theorem sumL {S : Sto} {is : List Int} : pure1 gSum [.lst (is.map D.int)] S = some (.int is.sum, S) := by
  unfold pure1 gSum
  simp only [seqOf_lst, Option.bind_some, intsOf_map, Option.map_some]
theorem sumT {S : Sto} {is : List Int} : pure1 gSum [.tup (is.map D.int)] S = some (.int is.sum, S) := by
  unfold pure1 gSum
  simp only [seqOf_tup, Option.bind_some, intsOf_map, Option.map_some]
end Ev

namespace Ev
open PySem PySem.Spec PyProof.Rows L2
/-! ### data of ints, None and truth values, nested k deep -/
mutual
def flat : Nat → D → Bool
  | _, .int _ => true
  | _, .non => true
  | _, .bl _ => true
  | k + 1, .tup ds => flats k ds
  | k + 1, .lst ds => flats k ds
  | _, _ => false
def flats : Nat → List D → Bool
  | _, [] => true
  | k, d :: ds => flat k d && flats k ds
end
mutual
theorem flat_ok : ∀ {k : Nat} {d : D}, flat k d = true → pyOk d = true ∧ (py d).canLay0 = true ∧ (py d).depth ≤ k + 1
  | k, .int _, _ => ⟨rfl, by simp only [py, PyData.canLay0], by simp only [py, PyData.depth]; omega⟩
  | k, .non, _ => ⟨rfl, by simp only [py, PyData.canLay0], by simp only [py, PyData.depth]; omega⟩
  | k, .bl _, _ => ⟨rfl, by simp only [py, PyData.canLay0], by simp only [py, PyData.depth]; omega⟩
  | k + 1, .tup ds, h => by
    simp only [flat] at h
    obtain ⟨a, b, c⟩ := flats_ok h
    exact ⟨by simp only [pyOk, a], by simp only [py, PyData.canLay0, b], by simp only [py, PyData.depth]; omega⟩
  | k + 1, .lst ds, h => by
    simp only [flat] at h
    obtain ⟨a, b, c⟩ := flats_ok h
    exact ⟨by simp only [pyOk, a], by simp only [py, PyData.canLay0, b], by simp only [py, PyData.depth]; omega⟩
  | 0, .tup ds, h => by simp only [flat] at h; cases h
  | 0, .lst ds, h => by simp only [flat] at h; cases h
  | k, .str _, h => by simp only [flat] at h; cases h
  | k, .con _, h => by simp only [flat] at h; cases h
  | k, .frz _, h => by simp only [flat] at h; cases h
  | k, .loc _, h => by simp only [flat] at h; cases h
theorem flats_ok : ∀ {k : Nat} {ds : List D}, flats k ds = true → pyOks ds = true ∧ PyData.canLayAll0 (pys ds) = true ∧ PyData.depthAll (pys ds) ≤ k + 1
  | k, [], _ => ⟨rfl, by simp only [pys, PyData.canLayAll0], by simp only [pys, PyData.depthAll]; omega⟩
  | k, d :: ds, h => by
    simp only [flats, Bool.and_eq_true] at h
    obtain ⟨a, b, c⟩ := flat_ok h.1
    obtain ⟨a2, b2, c2⟩ := flats_ok h.2
    exact ⟨by simp only [pyOks, a, a2, Bool.and_self], by simp only [pys, PyData.canLayAll0, b, b2, Bool.and_self], by simp only [pys, PyData.depthAll]; omega⟩
end
theorem eqOk_flat {k : Nat} {d : D} (h : flat k d = true) (hk : k ≤ 60) : eqOk d = true := by
  obtain ⟨a, b, c⟩ := flat_ok h
  unfold eqOk SeqAt.shaped
  rw [a, b, decide_eq_true (by omega)]
  rfl
theorem flats_of {k : Nat} {ds : List D} (h : ∀ d ∈ ds, flat k d = true) : flats k ds = true := by
  induction ds with
  | nil => simp only [flats]
  | cons d ds ih =>
    simp only [flats, h d List.mem_cons_self, ih fun e he => h e (List.mem_cons_of_mem _ he), Bool.and_self]
/-- x in y, x no int -/
theorem inB_flat {k : Nat} {S : Sto} {y : D} {xs ds : List D} (h : seqOf S y = some ds) (hk : k ≤ 59) (hx : flat (k + 1) (.tup xs) = true) (hd : flats k ds = true) : inB (.tup xs) y S = some (ds.any fun z => deq z (.tup xs)) := by
  unfold inB
  rw [h]
  have e1 := eqOk_flat hx (by omega)
  have e2 : eqOk (.lst ds) = true := eqOk_flat (k := k + 1) (by simp only [flat]; exact hd) (by omega)
  simp only [e1, e2, Bool.and_self, if_true]
theorem oIn_flat {k : Nat} {S : Sto} {y : D} {xs ds : List D} (h : seqOf S y = some ds) (hk : k ≤ 59) (hx : flat (k + 1) (.tup xs) = true) (hd : flats k ds = true) : oIn (.tup xs) y S = some (.bl (ds.any fun z => deq z (.tup xs))) := by
  unfold oIn
  rw [inB_flat h hk hx hd]
  rfl
theorem oNotIn_flat {k : Nat} {S : Sto} {y : D} {xs ds : List D} (h : seqOf S y = some ds) (hk : k ≤ 59) (hx : flat (k + 1) (.tup xs) = true) (hd : flats k ds = true) : oNotIn (.tup xs) y S = some (.bl (!(ds.any fun z => deq z (.tup xs)))) := by
  unfold oNotIn
  rw [inB_flat h hk hx hd]
  rfl
theorem iEnumD_tup {fa : AF} {ρ : En} {S S1 : Sto} {ds : List D} (h : fa ρ S = .ok [.tup ds] S1) : iEnumD fa ρ S = .ok ⟨enumDs 0 ds, none⟩ S1 := by
  unfold iEnumD
  rw [h]
  rfl
end Ev

namespace Ev
open PySem PySem.Spec PyProof.Rows L2
/-! ### goal-directed evaluation -/
section
variable {ρ ρ1 : En} {S S1 S2 S3 : Sto} {fa : AF} {fe fb fo fk fz : EF} {d x y z : D} {ds : List D} {o : O} {f g : SF} {t t2 : BF} {a b : Bool}
theorem bYes_ok : bYes ρ S = .ok true S := rfl
theorem eBl_ok {r : R D} (h : fe ρ S = .ok d S1) (h2 : R.ok d S1 = r) : fe ρ S = r := h.trans h2
theorem bVal_tru (h : fe ρ S = .ok d S1) (h2 : truD d S1 = some b) : bVal fe ρ S = .ok b S1 := by
  unfold bVal
  rw [h]
  simp only [R.bind, h2]
  rfl
theorem eCallD_ok {n : Nat} {is : List Int} {F : List D → Sto → R D} (ha : fa ρ S = .ok ds S1) (hn : ds.length + is.length = n) (hF : F (ds ++ is.map D.int) S1 = .ok d S2) : eCallD n is F fa ρ S = .ok d S2 := by
  unfold eCallD
  rw [ha]
  simp only [R.bind, hn, if_true]
  exact hF
theorem eFld_ok {c f : Str} {n : Nat} {fs : List (Str × D)} (h : fe ρ S = .ok (.loc n) S1) (h2 : S1[n]? = some (.ins c fs)) (h3 : lookD f fs = some d) : eFld c fe f ρ S = .ok d S1 := by
  unfold eFld
  rw [h]
  simp only [R.bind, h2, if_true, h3]
  rfl
theorem eMeth_ok {c m : Str} {n i : Nat} {fs : List (Str × D)} {F : List D → Sto → R D} (h : fo ρ S = .ok (.loc i) S1) (h2 : S1[i]? = some (.ins c fs)) (h3 : lookD m fs = none) (ha : fa ρ S1 = .ok ds S2) (hn : ds.length + 1 = n) (hF : F (.loc i :: ds) S2 = .ok d S3) : eMeth c m n F fo fa ρ S = .ok d S3 := by
  unfold eMeth
  rw [h]
  simp only [R.bind, h2, h3, and_self, if_true]
  rw [ha]
  simp only [R.bind, hn, if_true]
  exact hF
theorem eMake_ok {c : Str} {n : Nat} {F : List D → Sto → R D} (ha : fa ρ S = .ok ds S1) (hn : ds.length + 1 = n) (hF : F (.loc S1.length :: ds) (S1 ++ [.ins c []]) = .ok .non S2) : eMake c n F fa ρ S = .ok (.loc S1.length) S2 := by
  unfold eMake
  rw [ha]
  simp only [R.bind, hn, if_true]
  rw [hF]
  rfl
theorem eOrT_t (h : fe ρ S = .ok x S1) (h2 : truD x S1 = some true) : eOrT fe fb ρ S = .ok x S1 := by
  unfold eOrT
  rw [h]
  simp only [R.bind, h2, liftG_some, if_true]
theorem eOrT_f (h : fe ρ S = .ok x S1) (h2 : truD x S1 = some false) : eOrT fe fb ρ S = fb ρ S1 := by
  unfold eOrT
  rw [h]
  simp only [R.bind, h2, liftG_some]
  rfl
theorem eDGet_ok (h : fe ρ S = .ok x S1) (h2 : fk ρ S1 = .ok y S2) (h3 : dGet S2 x y = some (some d)) : eDGet fe fk ρ S = .ok d S2 := by
  unfold eDGet
  rw [h]
  simp only [R.bind]
  rw [h2]
  simp only [R.bind, h3]
theorem eDGet2_ok {r : Option D} (h : fe ρ S = .ok x S1) (hd : isDct S1 x = true) (h2 : fk ρ S1 = .ok y S2) (hz : fz ρ S2 = .ok z S3) (h3 : dGet S3 x y = some r) : eDGet2 fe fk fz ρ S = .ok (r.getD z) S3 := by
  unfold eDGet2
  rw [h]
  simp only [R.bind, hd, if_true]
  rw [h2]
  simp only [R.bind]
  rw [hz]
  simp only [R.bind, h3]
theorem eDNew_t : eDNew true ρ S = .ok (.loc S.length) (S ++ [.dT []]) := rfl
theorem bAnd_s {q r : Bool} (h : t ρ S = .ok q S1) (h2 : q = true → t2 ρ S1 = .ok r S1) : bAnd t t2 ρ S = .ok (q && r) S1 := by
  unfold bAnd
  rw [h]
  cases q with
  | true => simp only [R.bind, h2 rfl, Bool.true_and]; rfl
  | false => rfl
theorem bOr_s {q r : Bool} (h : t ρ S = .ok q S1) (h2 : q = false → t2 ρ S1 = .ok r S1) : bOr t t2 ρ S = .ok (q || r) S1 := by
  unfold bOr
  rw [h]
  cases q with
  | true => rfl
  | false => simp only [R.bind, h2 rfl, Bool.false_or]; rfl
theorem sIf_b {q : Bool} (h : t ρ S = .ok q S1) (h1 : q = true → f ρ S1 = o) (h2 : q = false → g ρ S1 = o) : sIf t f g ρ S = o := by
  cases q with
  | true => exact (sIf_t h).trans (h1 rfl)
  | false => exact (sIf_f h).trans (h2 rfl)
/-- xs.append(e), of a list of the store -/
theorem eApp_ok {fx : EF} {n : Nat} {es es1 : List D} (hx : fx ρ S = .ok (.loc n) S1) (h1 : S1[n]? = some (.lst es1)) (ha : fa ρ S1 = .ok [d] S2) (h2 : S2[n]? = some (.lst es)) (hl : es.length < 1000) : eLm mAppend fx fa ρ S = .ok .non (S2.set n (.lst (es ++ [d]))) :=
  eLm_ok hx (isLst_loc h1) ha (mAppend_ok h2 (Nat.lt_of_lt_of_le hl (sizeLine_ok (Nat.le_refl _))))
/-! statements -/
theorem q_set {i : Nat} (h : fe ρ S = .ok d S1) (k : g (ρ.set i (some d)) S1 = o) : sSeq (sSet i fe) g ρ S = o := sSeq_nxo (sSet_ok h) k
theorem q_expr (h : fe ρ S = .ok d S1) (k : g ρ S1 = o) : sSeq (sExpr fe) g ρ S = o := sSeq_nxo (sExpr_ok h) k
theorem q_asg {t : Tg} (h : fe ρ S = .ok d S1) (h2 : t.asg d ρ S1 = some ρ1) (k : g ρ1 S1 = o) : sSeq (sAsg t fe) g ρ S = o := sSeq_nxo (sAsg_ok h h2) k
theorem q_nx (h : f ρ S = .nx ρ1 S1) (k : g ρ1 S1 = o) : sSeq f g ρ S = o := sSeq_nxo h k
theorem q_rt (h : f ρ S = .rt d S1) : sSeq f g ρ S = .rt d S1 := sSeq_rt h
theorem sSub_ok {fi : EF} {n j : Nat} {i : Int} {es : List D} (h : fe ρ S = .ok d S1) (ho : fo ρ S1 = .ok (.loc n) S2) (hi : fi ρ S2 = .ok (.int i) S3) (hl : S3[n]? = some (.lst es)) (hx : ixN es.length i = some j) : sSub fo fi fe ρ S = .nx ρ (S3.set n (.lst (es.set j d))) := by
  unfold sSub
  rw [h]
  simp only [sB]
  rw [ho]
  simp only [sB]
  rw [hi]
  simp only [sB, hl, hx]
theorem sFld_ok {c f : Str} {n : Nat} {fs : List (Str × D)} (h : fe ρ S = .ok d S1) (ho : fo ρ S1 = .ok (.loc n) S2) (h2 : S2[n]? = some (.ins c fs)) (hl : fs.length < 1000) : sFld c fo f fe ρ S = .nx ρ (S2.set n (.ins c (putD f d fs))) := by
  unfold sFld
  rw [h]
  simp only [sB]
  rw [ho]
  simp only [sB, h2, hl, and_self, if_true]
theorem sDPut_ok (h : fe ρ S = .ok d S1) (ho : fo ρ S1 = .ok x S2) (hk : fk ρ S2 = .ok y S3) {S4 : Sto} (hp : dPut S3 x y d = some S4) : sDPut fo fk fe ρ S = .nx ρ S4 := by
  unfold sDPut
  rw [h]
  simp only [sB]
  rw [ho]
  simp only [sB]
  rw [hk]
  simp only [sB, hp]
/-- a comprehension whose items do not touch the store: what it tests and gives is read off -/
theorem eLc_f {α : Type} {xs : List α} {F : α → D} {c : α → Bool} {G : α → D} {fi : IF} {tg : Tg} {te : EF} {vs : List Nat} {k : Wk} (hi : fi ρ S = .ok k S1) (hk : k.ok S1) (hx : k.ds = xs.map F) (hl : xs.length ≤ 1000)
    (hb : ∀ x ∈ xs, ∃ ρ1, tg.asg (F x) (wipeD ρ vs) S1 = some ρ1 ∧ t ρ1 S1 = .ok (c x) S1 ∧ (c x = true → te ρ1 S1 = .ok (G x) S1)) : eLc fi tg t te vs ρ S = .ok (.lst ((xs.filter c).map G)) S1 := by
  refine eLc_ok hi ?_ (sizeLine_ok ?_)
  · have : ∀ ys : List α, (∀ x ∈ ys, x ∈ xs) → lcGo k tg t te (wipeD ρ vs) (ys.map F) S1 = .ok ((ys.filter c).map G) S1 := by
      intro ys hys
      induction ys with
      | nil => simp only [List.map_nil, List.filter_nil]; unfold lcGo Wk.guard; rw [if_pos hk]
      | cons x ys ih =>
        obtain ⟨ρ1, h1, h2, h3⟩ := hb x (hys x List.mem_cons_self)
        have ih := ih fun y hy => hys y (List.mem_cons_of_mem _ hy)
        simp only [List.map_cons]
        unfold lcGo Wk.guard
        rw [if_pos hk, h1]
        cases hc : c x with
        | true => simp only [R.nox, R.bind, h2, hc, h3 hc, ih, List.filter_cons, List.map_cons, if_true]
        | false => simp only [R.nox, R.bind, h2, hc, ih, List.filter_cons, Bool.false_eq_true, if_false]
    rw [hx]
    exact this xs fun _ h => h
  · rw [List.length_map]
    exact Nat.le_trans (List.length_filter_le _ _) hl
/-- .. without a test -/
theorem eLc_m {α : Type} {xs : List α} {F : α → D} {G : α → D} {fi : IF} {tg : Tg} {te : EF} {vs : List Nat} {k : Wk} (hi : fi ρ S = .ok k S1) (hk : k.ok S1) (hx : k.ds = xs.map F) (hl : xs.length ≤ 1000)
    (hb : ∀ x ∈ xs, ∃ ρ1, tg.asg (F x) (wipeD ρ vs) S1 = some ρ1 ∧ te ρ1 S1 = .ok (G x) S1) : eLc fi tg bYes te vs ρ S = .ok (.lst (xs.map G)) S1 := by
  have := eLc_f (c := fun _ => true) (t := bYes) (vs := vs) (te := te) (G := G) hi hk hx hl fun x hx => let ⟨ρ1, h1, h2⟩ := hb x hx; ⟨ρ1, h1, rfl, fun _ => h2⟩
  rw [this, List.filter_eq_self.mpr fun _ _ => rfl]
/-- a for by an invariant, and what comes behind -/
theorem q_for {fi : IF} {tg : Tg} {items : List D} (I : Nat → En → Sto → Prop) (hi : fi ρ S = .ok ⟨items, none⟩ S1) (h0 : I 0 ρ S1)
    (step : ∀ (j : Nat) (d : D) (ρ : En) (S : Sto), items[j]? = some d → I j ρ S → ∃ ρ1, tg.asg d ρ S = some ρ1 ∧ ∃ ρ2 S2, (f ρ1 S = .nx ρ2 S2 ∨ f ρ1 S = .ct ρ2 S2) ∧ I (j + 1) ρ2 S2)
    (k : ∀ ρ' S', I items.length ρ' S' → g ρ' S' = o) : sSeq (sFor fi tg f) g ρ S = o := by
  obtain ⟨ρ', S', h1, h2⟩ := forGo_v (items := items) (tg := tg) (b := f) I h0 fun j d ρ S hd hI => let ⟨ρ1, a, ρ2, S2, b, c⟩ := step j d ρ S hd hI; ⟨ρ1, ρ2, S2, a, b, c⟩
  exact sSeq_nxo (sFor_ok hi h1) (k ρ' S' h2)
/-- .. over a list of the store, which stays -/
theorem q_forL {fi : IF} {tg : Tg} {w : Wk} (I : Nat → En → Sto → Prop) (hi : fi ρ S = .ok w S1) (hk : ∀ i ρ S, I i ρ S → w.ok S) (h0 : I 0 ρ S1)
    (step : ∀ (j : Nat) (d : D) (ρ : En) (S : Sto), w.ds[j]? = some d → I j ρ S → ∃ ρ1, tg.asg d ρ S = some ρ1 ∧ ∃ ρ2 S2, (f ρ1 S = .nx ρ2 S2 ∨ f ρ1 S = .ct ρ2 S2) ∧ I (j + 1) ρ2 S2)
    (k : ∀ ρ' S', I w.ds.length ρ' S' → g ρ' S' = o) : sSeq (sFor fi tg f) g ρ S = o := by
  obtain ⟨ρ', S', h1, h2⟩ := forGo_inv (k := w) (tg := tg) (b := f) I hk w.ds 0 ρ S1 h0 fun j d ρ S hd hI => by
    rw [Nat.zero_add] at hI
    obtain ⟨ρ1, a, ρ2, S2, b, c⟩ := step j d ρ S hd hI
    exact ⟨ρ1, ρ2, S2, a, b, by rw [Nat.zero_add]; exact c⟩
  exact sSeq_nxo (sFor_ok hi h1) (k ρ' S' (by rwa [Nat.zero_add] at h2))
/-- .. at the end of a body -/
theorem forI {fi : IF} {tg : Tg} {items : List D} (I : Nat → En → Sto → Prop) (hi : fi ρ S = .ok ⟨items, none⟩ S1) (h0 : I 0 ρ S1)
    (step : ∀ (j : Nat) (d : D) (ρ : En) (S : Sto), items[j]? = some d → I j ρ S → ∃ ρ1, tg.asg d ρ S = some ρ1 ∧ ∃ ρ2 S2, (f ρ1 S = .nx ρ2 S2 ∨ f ρ1 S = .ct ρ2 S2) ∧ I (j + 1) ρ2 S2) :
    ∃ ρ' S', sFor fi tg f ρ S = .nx ρ' S' ∧ I items.length ρ' S' := by
  obtain ⟨ρ', S', h1, h2⟩ := forGo_v (items := items) (tg := tg) (b := f) I h0 fun j d ρ S hd hI => let ⟨ρ1, a, ρ2, S2, b, c⟩ := step j d ρ S hd hI; ⟨ρ1, ρ2, S2, a, b, c⟩
  exact ⟨ρ', S', sFor_ok hi h1, h2⟩
theorem runF_nx {n : Nat} {b : SF} {r : R D} (h : b (ds.map some ++ List.replicate (n - ds.length) none) S = .nx ρ1 S1) (h2 : gc S .non S1 = r) : runF n b ds S = r := by
  unfold runF
  rw [h]
  exact h2
end
theorem gc_len {S S' : Sto} {d : D} (hl : S'.length = S.length) (h2 : okD S.length d = true) (h3 : ∀ i, i < S.length → S'[i]? = S[i]? ∨ ∃ c, S'[i]? = some c ∧ okC S.length c = true) : gc S d S' = .ok d S' := by
  rw [gc_set (by omega) h2 h3, List.take_of_length_le (by omega)]
end Ev

namespace Ev
/-! ### places that ways connect: no program here -/
abbrev Edge := Nat × Nat
def Con (E : List Edge) (x y : Nat) : Prop := ∀ f : Nat → Nat, (∀ e ∈ E, f e.1 = f e.2) → f x = f y
theorem Con.refl (E : List Edge) (x : Nat) : Con E x x := fun _ _ => rfl
theorem Con.symm {E : List Edge} {x y : Nat} (h : Con E x y) : Con E y x := fun f hf => (h f hf).symm
theorem Con.trans {E : List Edge} {x y z : Nat} (h : Con E x y) (h2 : Con E y z) : Con E x z := fun f hf => (h f hf).trans (h2 f hf)
theorem Con.mono {E E' : List Edge} {x y : Nat} (h : Con E x y) (s : ∀ e ∈ E, e ∈ E') : Con E' x y := fun f hf => h f fun e he => hf e (s e he)
theorem Con.edge {E : List Edge} {e : Edge} (h : e ∈ E) : Con E e.1 e.2 := fun f hf => hf e h
def Eok (n : Nat) (E : List Edge) : Prop := ∀ e ∈ E, e.1 < n ∧ e.2 < n
def stepM (m : List Nat) (e : Edge) : List Nat :=
  m.map fun z => if z = max (m.getD e.1 0) (m.getD e.2 0) then min (m.getD e.1 0) (m.getD e.2 0) else z
structure MarkI (n : Nat) (E : List Edge) (m : List Nat) : Prop where
  len : m.length = n
  con : ∀ x, x < n → Con E x (m.getD x 0)
  le : ∀ x, x < n → m.getD x 0 ≤ x
  edge : ∀ e ∈ E, m.getD e.1 0 = m.getD e.2 0
theorem getD_map {m : List Nat} {g : Nat → Nat} {x : Nat} (h : x < m.length) : (m.map g).getD x 0 = g (m.getD x 0) := by
  rw [List.getD_eq_getElem?_getD, List.getD_eq_getElem?_getD, List.getElem?_map, List.getElem?_eq_getElem h]
  rfl
theorem MarkI.init (n : Nat) : MarkI n [] (List.range n) := by
  have hg : ∀ x, x < n → (List.range n).getD x 0 = x := fun x h => by rw [List.getD_eq_getElem?_getD, List.getElem?_range h]; rfl
  refine ⟨List.length_range, fun x h => by rw [hg x h]; exact Con.refl _ _, fun x h => by rw [hg x h]; exact Nat.le_refl _, fun e he => by simp at he⟩
theorem MarkI.step {n : Nat} {E : List Edge} {m : List Nat} {e : Edge} (hE : Eok n E) (he : e.1 < n ∧ e.2 < n) (h : MarkI n E m) : MarkI n (E ++ [e]) (stepM m e) := by
  have hg : ∀ x, x < n → (stepM m e).getD x 0 = if m.getD x 0 = max (m.getD e.1 0) (m.getD e.2 0) then min (m.getD e.1 0) (m.getD e.2 0) else m.getD x 0 := fun x hx => getD_map (by rw [h.len]; exact hx)
  have sub : ∀ f ∈ E, f ∈ E ++ [e] := fun f hf => List.mem_append_left _ hf
  have ce : Con (E ++ [e]) (m.getD e.1 0) (m.getD e.2 0) := ((h.con _ he.1).mono sub).symm.trans ((Con.edge (by simp)).trans ((h.con _ he.2).mono sub))
  refine ⟨by simp only [stepM, List.length_map, h.len], fun x hx => ?_, fun x hx => ?_, fun f hf => ?_⟩
  · rw [hg x hx]
    have c0 := (h.con x hx).mono sub
    split
    · rename_i q
      refine c0.trans ?_
      rw [q]
      rcases Nat.le_total (m.getD e.1 0) (m.getD e.2 0) with k | k
      · rw [Nat.max_eq_right k, Nat.min_eq_left k]; exact ce.symm
      · rw [Nat.max_eq_left k, Nat.min_eq_right k]; exact ce
    · exact c0
  · rw [hg x hx]
    have := h.le x hx
    split <;> omega
  · rcases List.mem_append.mp hf with z | z
    · rw [hg _ (hE f z).1, hg _ (hE f z).2, h.edge f z]
    · have : f = e := by simpa using z
      subst this
      rw [hg _ he.1, hg _ he.2]
      split <;> split <;> omega
theorem MarkI.fold {n : Nat} : ∀ (F E : List Edge) (m : List Nat), Eok n (E ++ F) → MarkI n E m → MarkI n (E ++ F) (F.foldl stepM m)
  | [], E, m, _, h => by simpa using h
  | f :: F, E, m, hE, h => by
    have hs := h.step (e := f) (fun e he => hE e (by simp [he])) (hE f (by simp))
    have := MarkI.fold F (E ++ [f]) (stepM m f) (by simpa using hE) hs
    simpa using this
def markOf (n : Nat) (E : List Edge) : List Nat := E.foldl stepM (List.range n)
theorem markOf_ok {n : Nat} {E : List Edge} (hE : Eok n E) : MarkI n E (markOf n E) := by
  have := MarkI.fold E [] (List.range n) (by simpa using hE) (MarkI.init n)
  unfold markOf
  simpa using this
/-- the least place of a place's group -/
def rep (n : Nat) (E : List Edge) (x : Nat) : Nat := (markOf n E).getD x 0
theorem rep_iff {n : Nat} {E : List Edge} {x y : Nat} (hE : Eok n E) (hx : x < n) (hy : y < n) : rep n E x = rep n E y ↔ Con E x y := by
  have h := markOf_ok hE
  constructor
  · intro q
    have := h.con y hy
    rw [show (markOf n E).getD y 0 = (markOf n E).getD x 0 from q.symm] at this
    exact (h.con x hx).trans this.symm
  · intro c
    exact c (fun z => (markOf n E).getD z 0) h.edge
theorem rep_le {n : Nat} {E : List Edge} {x : Nat} (hE : Eok n E) (hx : x < n) : rep n E x ≤ x := (markOf_ok hE).le x hx
theorem rep_lt {n : Nat} {E : List Edge} {x : Nat} (hE : Eok n E) (hx : x < n) : rep n E x < n := Nat.lt_of_le_of_lt (rep_le hE hx) hx
theorem rep_rep {n : Nat} {E : List Edge} {x : Nat} (hE : Eok n E) (hx : x < n) : rep n E (rep n E x) = rep n E x :=
  ((rep_iff hE hx (rep_lt hE hx)).2 ((markOf_ok hE).con x hx)).symm
def groupOf (n : Nat) (E : List Edge) (p : Nat) : List Nat := (List.range n).filter fun x => rep n E x == p
def parts (n : Nat) (E : List Edge) : List (List Nat) := ((List.range n).filter fun p => rep n E p == p).map (groupOf n E)
/-! ### the same from one place on -/
def putF (F : List Nat) (a b : Nat) : List Nat := if a ∈ F ∧ b ∉ F then F ++ [b] else F
def stepF (F : List Nat) (e : Edge) : List Nat := putF (putF F e.1 e.2) e.2 e.1
def roundF (E : List Edge) (F : List Nat) : List Nat := E.foldl stepF F
def roundsF (E : List Edge) (F : List Nat) : Nat → List Nat
  | 0 => F
  | k + 1 => roundF E (roundsF E F k)
structure FoundI (n : Nat) (E : List Edge) (p : Nat) (F : List Nat) : Prop where
  nd : F.Nodup
  con : ∀ x ∈ F, x < n ∧ Con E p x
  mem : p ∈ F
theorem FoundI.put {n p a b : Nat} {E : List Edge} {F : List Nat} (h : FoundI n E p F) (hb : b < n) (c : Con E a b) : FoundI n E p (putF F a b) := by
  unfold putF
  split
  · rename_i q
    refine ⟨?_, fun x hx => ?_, List.mem_append_left _ h.mem⟩
    · rw [List.nodup_append]
      exact ⟨h.nd, by simp, fun x hx y hy e => q.2 (by have : y = b := by simpa using hy
                                                       rw [← this, ← e]; exact hx)⟩
    · rcases List.mem_append.mp hx with z | z
      · exact h.con x z
      · have : x = b := by simpa using z
        rw [this]
        exact ⟨hb, (h.con a q.1).2.trans c⟩
  · exact h
theorem FoundI.step {n p : Nat} {E : List Edge} {e : Edge} {F : List Nat} (hE : Eok n E) (he : e ∈ E) (h : FoundI n E p F) : FoundI n E p (stepF F e) :=
  (h.put (hE e he).2 (Con.edge he)).put (hE e he).1 (Con.edge he).symm
theorem FoundI.fold {n p : Nat} {E : List Edge} (hE : Eok n E) : ∀ (G : List Edge) (F : List Nat), (∀ e ∈ G, e ∈ E) → FoundI n E p F → FoundI n E p (G.foldl stepF F)
  | [], F, _, h => h
  | g :: G, F, hs, h => FoundI.fold hE G (stepF F g) (fun e he => hs e (List.mem_cons_of_mem _ he)) (h.step hE (hs g List.mem_cons_self))
theorem FoundI.rounds {n p : Nat} {E : List Edge} {F : List Nat} (hE : Eok n E) (h : FoundI n E p F) : ∀ k, FoundI n E p (roundsF E F k)
  | 0 => h
  | k + 1 => FoundI.fold hE E _ (fun _ h => h) (FoundI.rounds hE h k)
theorem putF_le (F : List Nat) (a b : Nat) : F.length ≤ (putF F a b).length := by unfold putF; split <;> simp
theorem putF_eq {F : List Nat} {a b : Nat} (h : (putF F a b).length = F.length) : putF F a b = F ∧ (a ∈ F → b ∈ F) := by
  unfold putF at h ⊢
  split at h
  · simp at h
  · rename_i q
    rw [if_neg q]
    exact ⟨rfl, fun ha => Classical.byContradiction fun hb => q ⟨ha, hb⟩⟩
theorem stepF_le (F : List Nat) (e : Edge) : F.length ≤ (stepF F e).length := Nat.le_trans (putF_le _ _ _) (putF_le _ _ _)
theorem stepF_eq {F : List Nat} {e : Edge} (h : (stepF F e).length = F.length) : stepF F e = F ∧ (e.1 ∈ F ↔ e.2 ∈ F) := by
  have h1 := putF_le F e.1 e.2
  have h2 := putF_le (putF F e.1 e.2) e.2 e.1
  have h3 : (putF (putF F e.1 e.2) e.2 e.1).length = F.length := h
  obtain ⟨a, b⟩ := putF_eq (F := F) (a := e.1) (b := e.2) (by omega)
  rw [a] at h3
  obtain ⟨c, d⟩ := putF_eq h3
  exact ⟨by unfold stepF; rw [a, c], b, d⟩
def Closed (E : List Edge) (F : List Nat) : Prop := ∀ e ∈ E, (e.1 ∈ F ↔ e.2 ∈ F)
theorem foldF_le : ∀ (E : List Edge) (F : List Nat), F.length ≤ (E.foldl stepF F).length
  | [], F => Nat.le_refl _
  | e :: E, F => Nat.le_trans (stepF_le F e) (foldF_le E (stepF F e))
theorem foldF_eq : ∀ (E : List Edge) (F : List Nat), (E.foldl stepF F).length = F.length → Closed E F
  | [], F, _ => fun e he => by simp at he
  | e :: E, F, h => by
    have h1 := stepF_le F e
    have h2 := foldF_le E (stepF F e)
    simp only [List.foldl_cons] at h
    obtain ⟨a, b⟩ := stepF_eq (F := F) (e := e) (by omega)
    rw [a] at h
    have := foldF_eq E F h
    intro f hf
    rcases List.mem_cons.mp hf with z | z
    · rw [z]; exact b
    · exact this f z
theorem foldF_closed : ∀ (E : List Edge) (F : List Nat), Closed E F → E.foldl stepF F = F
  | [], F, _ => rfl
  | e :: E, F, h => by
    have he := h e List.mem_cons_self
    have h1 : putF F e.1 e.2 = F := by unfold putF; exact if_neg fun q => q.2 (he.1 q.1)
    have h2 : putF F e.2 e.1 = F := by unfold putF; exact if_neg fun q => q.2 (he.2 q.1)
    simp only [List.foldl_cons, stepF, h1, h2]
    exact foldF_closed E F fun f hf => h f (List.mem_cons_of_mem _ hf)
theorem rounds_or (E : List Edge) (F : List Nat) (h0 : 1 ≤ F.length) : ∀ k, Closed E (roundsF E F k) ∨ k + 1 ≤ (roundsF E F k).length
  | 0 => .inr h0
  | k + 1 => by
    rcases rounds_or E F h0 k with c | c
    · left
      show Closed E (roundF E (roundsF E F k))
      unfold roundF
      rw [foldF_closed _ _ c]
      exact c
    · by_cases q : (roundF E (roundsF E F k)).length = (roundsF E F k).length
      · have cl := foldF_eq _ _ q
        left
        show Closed E (roundF E (roundsF E F k))
        unfold roundF
        rw [foldF_closed _ _ cl]
        exact cl
      · right
        have := foldF_le E (roundsF E F k)
        show k + 1 + 1 ≤ (roundF E (roundsF E F k)).length
        unfold roundF at q ⊢
        omega
theorem perm_filter {n : Nat} {F : List Nat} {c : Nat → Bool} (nd : F.Nodup) (h : ∀ x, x ∈ F ↔ x < n ∧ c x = true) : F.Perm ((List.range n).filter c) :=
  (List.perm_ext_iff_of_nodup nd (List.nodup_range.filter _)).2 fun x => by rw [h x, List.mem_filter, List.mem_range]
theorem found_len {n : Nat} {F : List Nat} (nd : F.Nodup) (h : ∀ x ∈ F, x < n) : F.length ≤ n := by
  have := (perm_filter (n := n) (F := F) (c := fun x => decide (x ∈ F)) nd fun x => ⟨fun z => ⟨h x z, decide_eq_true z⟩, fun z => of_decide_eq_true z.2⟩).length_eq
  rw [this]
  exact Nat.le_trans (List.length_filter_le _ _) (by simp)
theorem FoundI.all {n p : Nat} {E : List Edge} {F : List Nat} (hE : Eok n E) (hp : p < n) (h : FoundI n E p F) (cl : Closed E F) (x : Nat) : x ∈ F ↔ x < n ∧ (rep n E x == rep n E p) = true := by
  constructor
  · intro hx
    obtain ⟨a, b⟩ := h.con x hx
    exact ⟨a, by rw [beq_iff_eq]; exact ((rep_iff hE hp a).2 b).symm⟩
  · rintro ⟨a, b⟩
    have c : Con E p x := (rep_iff hE hp a).1 (beq_iff_eq.mp b).symm
    have := c (fun z => if z ∈ F then 1 else 0) fun e he => by
      by_cases q : e.1 ∈ F
      · simp only [q, (cl e he).1 q, if_true]
      · simp only [q, mt (cl e he).2 q, if_false]
    simp only [h.mem, if_true] at this
    exact Classical.byContradiction fun q => by rw [if_neg q] at this; cases this
theorem rounds_perm {n p : Nat} {E : List Edge} (hE : Eok n E) (hp : p < n) : (roundsF E [p] n).Perm (groupOf n E (rep n E p)) := by
  have h0 : FoundI n E p [p] := ⟨by simp, fun x hx => by have : x = p := by simpa using hx
                                                         rw [this]; exact ⟨hp, Con.refl _ _⟩, by simp⟩
  have h := h0.rounds hE n
  have cl : Closed E (roundsF E [p] n) := by
    rcases rounds_or E [p] (by simp) n with c | c
    · exact c
    · have := found_len h.nd fun x hx => (h.con x hx).1
      omega
  exact perm_filter h.nd (h.all hE hp cl)
theorem rounds_le {n p : Nat} {E : List Edge} (hE : Eok n E) (hp : p < n) (k : Nat) : (roundsF E [p] k).length ≤ n := by
  have h0 : FoundI n E p [p] := ⟨by simp, fun x hx => by have : x = p := by simpa using hx
                                                         rw [this]; exact ⟨hp, Con.refl _ _⟩, by simp⟩
  have h := h0.rounds hE k
  exact found_len h.nd fun x hx => (h.con x hx).1
def natI (F : List Nat) : List Int := F.map Int.ofNat
theorem sort_group {n : Nat} {c : Nat → Bool} {F : List Nat} (h : F.Perm ((List.range n).filter c)) : isort (natI F) = natI ((List.range n).filter c) := by
  symm
  refine isort_same (h.symm.map _) ?_
  unfold natI
  rw [List.pairwise_map]
  exact (List.pairwise_lt_range.filter _).imp fun h => Int.ofNat_le.mpr (Nat.le_of_lt h)
/-- the first of a group is its least place -/
theorem group_head {n : Nat} {E : List Edge} {p : Nat} (hE : Eok n E) (hp : p < n) : (groupOf n E (rep n E p))[0]? = some (rep n E p) := by
  have hm : rep n E p ∈ groupOf n E (rep n E p) := by
    unfold groupOf
    rw [List.mem_filter, List.mem_range]
    exact ⟨rep_lt hE hp, by rw [beq_iff_eq]; exact rep_rep hE hp⟩
  have hs : (groupOf n E (rep n E p)).Pairwise (· < ·) := List.pairwise_lt_range.filter _
  have hmin : ∀ x ∈ groupOf n E (rep n E p), rep n E p ≤ x := fun x hx => by
    unfold groupOf at hx
    rw [List.mem_filter, List.mem_range, beq_iff_eq] at hx
    rw [← hx.2]
    exact rep_le hE hx.1
  cases hg : groupOf n E (rep n E p) with
  | nil => rw [hg] at hm; simp at hm
  | cons x xs =>
    rw [hg] at hm hs hmin
    have h1 := hmin x List.mem_cons_self
    rcases List.mem_cons.mp hm with z | z
    · rw [z]; rfl
    · have := (List.pairwise_cons.mp hs).1 _ z
      omega
end Ev

namespace Ev
open PySem PySem.Spec PyProof.Rows L2
noncomputable def b_law_pool : SF :=
  (sRet (eLstA (aCons (eCb (oList false) (aCons (eVar 0) aNil)) (aCons (eC (.int 0)) (aCons (eC (.int 0)) (aCons (eC (.int 0)) (aCons (eC (.int 0)) aNil)))))))
noncomputable def f_law_pool : List D → Sto → R D := runF 1 b_law_pool
noncomputable def b_law_draw : SF :=
  (sSeq (sIf (bBin oGt (eBin oIx (eVar 0) (eC (.int 2))) (eC (.int 0))) (sSeq (sSet 2 (eBin oMod (eCb (pure1 gInt) (aCons (eBin oIx (eVar 0) (eC (.int 2))) aNil)) (eVar 1)))
    (sSeq (sSub (eVar 0) (eC (.int 2)) (eBin oDiv (eBin oIx (eVar 0) (eC (.int 2))) (eVar 1)))
    (sRet (eVar 2)))) sNext)
    (sSeq (sIf (bAnd (bBin oEq (eBin oMod (eCb (pure1 gInt) (aCons (eBin oIx (eVar 0) (eC (.int 4))) aNil)) (eC (.int 8))) (eC (.int 0))) (bBin oLt (eBin oIx (eVar 0) (eC (.int 1))) (eCb (pure1 gLen) (aCons (eBin oIx (eVar 0) (eC (.int 0))) aNil)))) (sSeq (sSet 3 (eCb (pure1 gAbs) (aCons (eBin oIx (eBin oIx (eVar 0) (eC (.int 0))) (eBin oIx (eVar 0) (eC (.int 1)))) aNil)))
    (sSeq (sSub (eVar 0) (eC (.int 1)) (eBin oAdd (eBin oIx (eVar 0) (eC (.int 1))) (eC (.int 1))))
    (sSeq (sIf (bBin oGe (eVar 3) (eBin oPow (eC (.int 10)) (eC (.int 18)))) (sSeq (sSub (eVar 0) (eC (.int 2)) (eBin oDiv (eVar 3) (eVar 1)))
    (sRet (eBin oMod (eCb (pure1 gInt) (aCons (eVar 3) aNil)) (eVar 1)))) sNext)
    (sSub (eVar 0) (eC (.int 3)) (eVar 3))))) sNext)
    (sSeq (sSub (eVar 0) (eC (.int 4)) (eBin oAdd (eBin oIx (eVar 0) (eC (.int 4))) (eC (.int 1))))
    (sSeq (sSet 4 (eBin oMod (eCb (pure1 gInt) (aCons (eBin oAdd (eBin oAdd (eBin oMul (eBin oIx (eVar 0) (eC (.int 3))) (eC (.int 48271))) (eBin oMul (eBin oIx (eVar 0) (eC (.int 4))) (eC (.int 69621)))) (eC (.int 7919))) aNil)) (eC (.int 2147483647))))
    (sSeq (sSet 4 (eBin oMod (eCb (pure1 gInt) (aCons (eBin oAdd (eBin oMul (eVar 4) (eVar 4)) (eBin oMul (eBin oIx (eVar 0) (eC (.int 4))) (eC (.int 40692)))) aNil)) (eC (.int 2147483399))))
    (sRet (eBin oMod (eCb (pure1 gInt) (aCons (eVar 4) aNil)) (eVar 1))))))))
noncomputable def f_law_draw : List D → Sto → R D := runF 5 b_law_draw
noncomputable def b_law_cost : SF :=
  (sSeq (sSet 1 (eCall 2 f_law_draw (aCons (eVar 0) (aCons (eC (.int 8)) aNil))))
    (sSeq (sIf (bBin oEq (eVar 1) (eC (.int 0))) (sRet (eBin oAdd (eC (.int 1)) (eCall 2 f_law_draw (aCons (eVar 0) (aCons (eC (.int 10000)) aNil))))) sNext)
    (sSeq (sIf (bBin oLt (eVar 1) (eC (.int 4))) (sRet (eBin oIx (eLst (aCons (eC (.int 1)) (aCons (eC (.int 2)) (aCons (eC (.int 2)) (aCons (eC (.int 3)) (aCons (eC (.int 4)) aNil)))))) (eCall 2 f_law_draw (aCons (eVar 0) (aCons (eC (.int 5)) aNil))))) sNext)
    (sRet (eBin oAdd (eC (.int 1)) (eCall 2 f_law_draw (aCons (eVar 0) (aCons (eC (.int 12)) aNil))))))))
noncomputable def f_law_cost : List D → Sto → R D := runF 2 b_law_cost
noncomputable def b_law_way : SF :=
  (sSeq (sSet 2 (eCall 2 f_law_draw (aCons (eVar 0) (aCons (eBin oSub (eVar 1) (eC (.int 1))) aNil))))
    (sRet (eTup (aCons (eVar 2) (aCons (eBin oAdd (eBin oAdd (eVar 2) (eC (.int 1))) (eCall 2 f_law_draw (aCons (eVar 0) (aCons (eBin oSub (eBin oSub (eVar 1) (eC (.int 1))) (eVar 2)) aNil)))) (aCons (eCall 1 f_law_cost (aCons (eVar 0) aNil)) aNil))))))
noncomputable def f_law_way : List D → Sto → R D := runF 3 b_law_way
noncomputable def b_law_net : SF :=
  (sSeq (sSet 3 (eBin oAdd (eC (.int 1)) (eCall 2 f_law_draw (aCons (eVar 0) (aCons (eVar 1) aNil)))))
    (sSeq (sSet 4 (eLstA aNil))
    (sSeq (sIf (bAnd (bBin oGt (eVar 3) (eC (.int 1))) (bBin oGt (eCall 2 f_law_draw (aCons (eVar 0) (aCons (eC (.int 5)) aNil))) (eC (.int 0)))) (sFor (iRng2D (aCons (eC (.int 1)) (aCons (eVar 3) aNil))) (.nm 5) (sExpr (eLm mAppend (eVar 4) (aCons (eTup (aCons (eCall 2 f_law_draw (aCons (eVar 0) (aCons (eVar 5) aNil))) (aCons (eVar 5) (aCons (eCall 1 f_law_cost (aCons (eVar 0) aNil)) aNil)))) aNil)))) sNext)
    (sSeq (sIf (bBin oGt (eVar 3) (eC (.int 1))) (sFor (iRng1D (aCons (eCall 2 f_law_draw (aCons (eVar 0) (aCons (eBin oSub (eBin oAdd (eVar 2) (eC (.int 1))) (eCb (pure1 gMin) (aCons (eVar 2) (aCons (eCb (pure1 gLen) (aCons (eVar 4) aNil)) aNil)))) aNil))) aNil)) (.nm 6) (sExpr (eLm mInsert (eVar 4) (aCons (eCall 2 f_law_draw (aCons (eVar 0) (aCons (eBin oAdd (eCb (pure1 gLen) (aCons (eVar 4) aNil)) (eC (.int 1))) aNil))) (aCons (eCall 2 f_law_way (aCons (eVar 0) (aCons (eVar 3) aNil))) aNil))))) sNext)
    (sRet (eTup (aCons (eVar 3) (aCons (eCb (pure1 gTuple) (aCons (eSl false (eVar 4) pNone (pSome (eVar 2))) aNil)) aNil))))))))
noncomputable def f_law_net : List D → Sto → R D := runF 7 b_law_net
noncomputable def b_law_pairs : SF :=
  (sSeq (sSet 3 (eLstA aNil))
    (sSeq (sFor (iRng1D (aCons (eCall 2 f_law_draw (aCons (eVar 0) (aCons (eBin oAdd (eVar 2) (eC (.int 1))) aNil))) aNil)) (.nm 4) (sIf (bBin oGt (eVar 1) (eC (.int 1))) (sSeq (sSet 5 (eCall 2 f_law_draw (aCons (eVar 0) (aCons (eBin oSub (eVar 1) (eC (.int 1))) aNil))))
    (sSeq (sSet 6 (eTup (aCons (eVar 5) (aCons (eBin oAdd (eBin oAdd (eVar 5) (eC (.int 1))) (eCall 2 f_law_draw (aCons (eVar 0) (aCons (eBin oSub (eBin oSub (eVar 1) (eC (.int 1))) (eVar 5)) aNil)))) aNil))))
    (sIf (bBin oNotIn (eVar 6) (eVar 3)) (sExpr (eLm mAppend (eVar 3) (aCons (eVar 6) aNil))) sNext))) sNext))
    (sRet (eCb (pure1 gTuple) (aCons (eVar 3) aNil)))))
noncomputable def f_law_pairs : List D → Sto → R D := runF 7 b_law_pairs
noncomputable def b_law_lines : SF :=
  (sSeq (sSet 2 (eLst (aCons (eBin oAdd (eC (.str ("places " : Str))) (eCb (pure1 gStr) (aCons (eBin oIx (eVar 0) (eC (.int 0))) aNil))) aNil)))
    (sSeq (sSet 2 (eBin oAdd (eVar 2) (eLc (iSeqD (eBin oIx (eVar 0) (eC (.int 1)))) (.nm 3) bYes (eBin oAdd (eBin oAdd (eBin oAdd (eBin oAdd (eBin oAdd (eC (.str ("way " : Str))) (eCb (pure1 gStr) (aCons (eBin oIx (eVar 3) (eC (.int 0))) aNil))) (eC (.str (" " : Str)))) (eCb (pure1 gStr) (aCons (eBin oIx (eVar 3) (eC (.int 1))) aNil))) (eC (.str (" " : Str)))) (eCb (pure1 gStr) (aCons (eBin oIx (eVar 3) (eC (.int 2))) aNil))) [3])))
    (sRet (eBin oAdd (eVar 2) (eLc (iSeqD (eVar 1)) (.nm 4) bYes (eBin oAdd (eBin oAdd (eBin oAdd (eC (.str ("pair " : Str))) (eCb (pure1 gStr) (aCons (eBin oIx (eVar 4) (eC (.int 0))) aNil))) (eC (.str (" " : Str)))) (eCb (pure1 gStr) (aCons (eBin oIx (eVar 4) (eC (.int 1))) aNil))) [4])))))
noncomputable def f_law_lines : List D → Sto → R D := runF 5 b_law_lines
noncomputable def b_write_task : SF :=
  (sSeq (sSet 2 (eLstA (aCons (eJs [(eC (.str ("places " : Str))), (eFmt (eBin oIx (eVar 0) (eC (.int 0))))]) aNil)))
    (sSeq (sExpr (eLm mExtend (eVar 2) (aCons (eLc (iSeqD (eBin oIx (eVar 0) (eC (.int 1)))) (.tp [(.nm 3), (.nm 4), (.nm 5)]) bYes (eJs [(eC (.str ("way " : Str))), (eFmt (eVar 3)), (eC (.str (" " : Str))), (eFmt (eVar 4)), (eC (.str (" " : Str))), (eFmt (eVar 5))]) [3, 4, 5]) aNil)))
    (sSeq (sExpr (eLm mExtend (eVar 2) (aCons (eLc (iSeqD (eVar 1)) (.tp [(.nm 3), (.nm 4)]) bYes (eJs [(eC (.str ("pair " : Str))), (eFmt (eVar 3)), (eC (.str (" " : Str))), (eFmt (eVar 4))]) [3, 4]) aNil)))
    (sRet (eJoin (eC (.str ("" : Str))) (eLc (iSeqD (eVar 2)) (.nm 6) bYes (eBin oAdd (eVar 6) (eC (.str ("\n" : Str)))) [6]))))))
noncomputable def f_write_task : List D → Sto → R D := runF 7 b_write_task
noncomputable def b_law_same (F : List D → Sto → R D) : SF :=
  (sSeq (sIf (bVal (eIsi "tuple" (eVar 1))) (sSeq (sIf (bOr (bNot (bVal (eIsi "tuple" (eVar 0)))) (bBin oNe (eCb (pure1 gLen) (aCons (eVar 0) aNil)) (eCb (pure1 gLen) (aCons (eVar 1) aNil)))) (sRet (eC (.bl false))) sNext)
    (sRet (eBin oEq (eCb (pure1 gLen) (aCons (eLc (iRng1D (aCons (eCb (pure1 gLen) (aCons (eVar 1) aNil)) aNil)) (.nm 2) (bNot (bVal (eCall 2 F (aCons (eBin oIx (eVar 0) (eVar 2)) (aCons (eBin oIx (eVar 1) (eVar 2)) aNil))))) (eVar 2) [2]) aNil)) (eC (.int 0))))) sNext)
    (sSeq (sIf (bBin oIsN (eVar 1) (eC .non)) (sRet (eBin oIsN (eVar 0) (eC .non))) sNext)
    (sSeq (sIf (bVal (eIsi "str" (eVar 1))) (sRet (eAnd (eIsi "str" (eVar 0)) (eBin oEq (eVar 0) (eVar 1)))) sNext)
    (sRet (eAnd (eIsi "int" (eVar 0)) (eAnd (eNot (eIsi "bool" (eVar 0))) (eBin oEq (eVar 0) (eVar 1))))))))
noncomputable def f_law_sameN : Nat → List D → Sto → R D
  | 0 => runF 3 sNo
  | k + 1 => runF 3 (b_law_same (f_law_sameN k))
noncomputable def f_law_same : List D → Sto → R D := f_law_sameN 7
noncomputable def b_Task_init : SF :=
  (sSeq (sFld "Task" (eVar 0) "places" (eC (.int 0)))
    (sSeq (sFld "Task" (eVar 0) "ways" (eLstA aNil))
    (sFld "Task" (eVar 0) "pairs" (eLstA aNil))))
noncomputable def f_Task_init : List D → Sto → R D := runF 1 b_Task_init
noncomputable def b_number_of : SF :=
  (sSeq (sIf (bOr (bNot (bChain oLe oLe (eC (.int 1)) (eCb (pure1 gLen) (aCons (eVar 0) aNil)) (eC (.int 5)))) (bNot (bVal (eCb (pure1 gAll) (aCons (eLc (iStrD (eVar 0)) (.nm 1) bYes (eBin oInS (eVar 1) (eC (.str ("0123456789" : Str)))) [1]) aNil))))) (sRet (eC .non)) sNext)
    (sSeq (sIf (bAnd (bBin oEq (eBin oIx (eVar 0) (eC (.int 0))) (eC (.str ("0" : Str)))) (bBin oNe (eVar 0) (eC (.str ("0" : Str))))) (sRet (eC .non)) sNext)
    (sRet (eCb (pure1 gIntS) (aCons (eVar 0) aNil)))))
noncomputable def f_number_of : List D → Sto → R D := runF 2 b_number_of
noncomputable def b_Task_reads_places : SF :=
  (sSeq (sIf (bOr (bBin oGt (eFld "Task" (eVar 0) "places") (eC (.int 0))) (bNot (bChain oLe oLe (eC (.int 1)) (eVar 1) (eC (.int 12))))) (sRet (eC (.bl false))) sNext)
    (sSeq (sFld "Task" (eVar 0) "places" (eVar 1))
    (sRet (eC (.bl true)))))
noncomputable def f_Task_reads_places : List D → Sto → R D := runF 2 b_Task_reads_places
noncomputable def b_Task_ends : SF :=
  (sRet (eChain oLt oLt (eBin oIx (eVar 1) (eC (.int 0))) (eBin oIx (eVar 1) (eC (.int 1))) (eFld "Task" (eVar 0) "places")))
noncomputable def f_Task_ends : List D → Sto → R D := runF 2 b_Task_ends
noncomputable def b_Task_reads_way : SF :=
  (sSeq (sIf (bOr (bVal (eFld "Task" (eVar 0) "pairs")) (bOr (bBin oEq (eCb (pure1 gLen) (aCons (eFld "Task" (eVar 0) "ways") aNil)) (eC (.int 24))) (bOr (bNot (bVal (eMeth "Task" "ends" 2 f_Task_ends (eVar 0) (aCons (eVar 1) aNil)))) (bNot (bChain oLe oLe (eC (.int 1)) (eBin oIx (eVar 1) (eC (.int 2))) (eC (.int 10000))))))) (sRet (eC (.bl false))) sNext)
    (sSeq (sExpr (eLm mAppend (eFld "Task" (eVar 0) "ways") (aCons (eVar 1) aNil)))
    (sRet (eC (.bl true)))))
noncomputable def f_Task_reads_way : List D → Sto → R D := runF 2 b_Task_reads_way
noncomputable def b_Task_reads_pair : SF :=
  (sSeq (sIf (bOr (bBin oEq (eCb (pure1 gLen) (aCons (eFld "Task" (eVar 0) "pairs") aNil)) (eC (.int 6))) (bOr (bNot (bVal (eMeth "Task" "ends" 2 f_Task_ends (eVar 0) (aCons (eVar 1) aNil)))) (bBin oIn (eVar 1) (eFld "Task" (eVar 0) "pairs")))) (sRet (eC (.bl false))) sNext)
    (sSeq (sExpr (eLm mAppend (eFld "Task" (eVar 0) "pairs") (aCons (eVar 1) aNil)))
    (sRet (eC (.bl true)))))
noncomputable def f_Task_reads_pair : List D → Sto → R D := runF 2 b_Task_reads_pair
noncomputable def b_Task_reads : SF :=
  (sSeq (sStar false 2 1 [(.nm 2), (.nm 3)] (eSplit false (eVar 1) (eC (.str (" " : Str)))))
    (sSeq (sSet 4 (eLc (iSeqD (eVar 3)) (.nm 5) bYes (eCall 1 f_number_of (aCons (eVar 5) aNil)) [5]))
    (sSeq (sIf (bBin oIn (eC .non) (eVar 4)) (sRet (eC (.bl false))) sNext)
    (sSeq (sIf (bAnd (bBin oEq (eVar 2) (eC (.str ("places" : Str)))) (bBin oEq (eCb (pure1 gLen) (aCons (eVar 4) aNil)) (eC (.int 1)))) (sRet (eMeth "Task" "reads_places" 2 f_Task_reads_places (eVar 0) (aCons (eBin oIx (eVar 4) (eC (.int 0))) aNil))) sNext)
    (sSeq (sIf (bAnd (bBin oEq (eVar 2) (eC (.str ("way" : Str)))) (bBin oEq (eCb (pure1 gLen) (aCons (eVar 4) aNil)) (eC (.int 3)))) (sRet (eMeth "Task" "reads_way" 2 f_Task_reads_way (eVar 0) (aCons (eCb (pure1 gTuple) (aCons (eVar 4) aNil)) aNil))) sNext)
    (sSeq (sIf (bAnd (bBin oEq (eVar 2) (eC (.str ("pair" : Str)))) (bBin oEq (eCb (pure1 gLen) (aCons (eVar 4) aNil)) (eC (.int 2)))) (sRet (eMeth "Task" "reads_pair" 2 f_Task_reads_pair (eVar 0) (aCons (eCb (pure1 gTuple) (aCons (eVar 4) aNil)) aNil))) sNext)
    (sRet (eC (.bl false)))))))))
noncomputable def f_Task_reads : List D → Sto → R D := runF 6 b_Task_reads
noncomputable def b_read_task : SF :=
  (sSeq (sStar true 2 0 [(.nm 1), (.nm 2)] (eSplit false (eVar 0) (eC (.str ("\n" : Str)))))
    (sSeq (sIf (bBin oNe (eVar 2) (eC (.str ("" : Str)))) (sExpr (eLm mAppend (eVar 1) (aCons (eVar 2) aNil))) sNext)
    (sSeq (sSet 3 (eMake "Task" 1 f_Task_init aNil))
    (sSeq (sFor (iEnumDS 1 (aCons (eVar 1) aNil)) (.tp [(.nm 4), (.nm 5)]) (sIf (bNot (bVal (eMeth "Task" "reads" 2 f_Task_reads (eVar 3) (aCons (eVar 5) aNil)))) sNo sNext))
    (sSeq (sIf (bOr (bNot (bVal (eVar 1))) (bBin oNe (eVar 2) (eC (.str ("" : Str))))) sNo sNext)
    (sRet (eTup (aCons (eTup (aCons (eFld "Task" (eVar 3) "places") (aCons (eCb (pure1 gTuple) (aCons (eFld "Task" (eVar 3) "ways") aNil)) aNil))) (aCons (eCb (pure1 gTuple) (aCons (eFld "Task" (eVar 3) "pairs") aNil)) aNil)))))))))
noncomputable def f_read_task : List D → Sto → R D := runF 6 b_read_task
noncomputable def b_law : SF :=
  (sSeq (sSet 1 (eCall 1 f_law_pool (aCons (eVar 0) aNil)))
    (sSeq (sSet 2 (eCall 3 f_law_net (aCons (eVar 1) (aCons (eC (.int 12)) (aCons (eC (.int 24)) aNil)))))
    (sSeq (sSet 3 (eCall 3 f_law_pairs (aCons (eVar 1) (aCons (eBin oIx (eVar 2) (eC (.int 0))) (aCons (eC (.int 6)) aNil)))))
    (sSeq (sSet 4 (eJoin (eC (.str ("" : Str))) (eLc (iSeqD (eCall 2 f_law_lines (aCons (eVar 2) (aCons (eVar 3) aNil)))) (.nm 5) bYes (eBin oAdd (eVar 5) (eC (.str ("\n" : Str)))) [5])))
    (sRet (eAnd (eCall 2 f_law_same (aCons (eCall 2 f_write_task (aCons (eVar 2) (aCons (eVar 3) aNil))) (aCons (eVar 4) aNil))) (eCall 2 f_law_same (aCons (eCall 1 f_read_task (aCons (eVar 4) aNil)) (aCons (eTup (aCons (eVar 2) (aCons (eVar 3) aNil))) aNil)))))))))
noncomputable def f_law : List D → Sto → R D := runF 6 b_law
def topS (i : Nat) : Stmt := PySem.Challenge.pw_moatways_k20_texts_of_tasks.main.body.getD i (.Pass ⟨0, 0, 0, 0⟩)
abbrev s_law_pool : Stmt := topS 13
abbrev N_law_pool : List Str := ["_law_script"]
theorem sc_law_pool : FnScope N_law_pool ["_law_script"] (defScope s_law_pool) := ⟨rfl, rfl, rfl, by decide +kernel, rfl, by decide +kernel, by decide +kernel⟩
abbrev s_law_draw : Stmt := topS 14
abbrev N_law_draw : List Str := ["_law_pool_here", "_law_many", "_law_found", "_law_cell", "_law_mixed"]
theorem sc_law_draw : FnScope N_law_draw ["_law_pool_here", "_law_many"] (defScope s_law_draw) := ⟨rfl, rfl, rfl, by decide +kernel, rfl, by decide +kernel, by decide +kernel⟩
abbrev s_law_cost : Stmt := topS 16
abbrev N_law_cost : List Str := ["_law_pool_here", "_law_pick"]
theorem sc_law_cost : FnScope N_law_cost ["_law_pool_here"] (defScope s_law_cost) := ⟨rfl, rfl, rfl, by decide +kernel, rfl, by decide +kernel, by decide +kernel⟩
abbrev s_law_way : Stmt := topS 17
abbrev N_law_way : List Str := ["_law_pool_here", "_law_places", "_law_a"]
theorem sc_law_way : FnScope N_law_way ["_law_pool_here", "_law_places"] (defScope s_law_way) := ⟨rfl, rfl, rfl, by decide +kernel, rfl, by decide +kernel, by decide +kernel⟩
abbrev s_law_net : Stmt := topS 18
abbrev N_law_net : List Str := ["_law_pool_here", "_law_most", "_law_ways", "_law_places", "_law_found", "_law_place", "_law_k"]
theorem sc_law_net : FnScope N_law_net ["_law_pool_here", "_law_most", "_law_ways"] (defScope s_law_net) := ⟨rfl, rfl, rfl, by decide +kernel, rfl, by decide +kernel, by decide +kernel⟩
abbrev s_law_pairs : Stmt := topS 19
abbrev N_law_pairs : List Str := ["_law_pool_here", "_law_places", "_law_most", "_law_found", "_law_k", "_law_a", "_law_pair"]
theorem sc_law_pairs : FnScope N_law_pairs ["_law_pool_here", "_law_places", "_law_most"] (defScope s_law_pairs) := ⟨rfl, rfl, rfl, by decide +kernel, rfl, by decide +kernel, by decide +kernel⟩
abbrev s_law_lines : Stmt := topS 20
abbrev N_law_lines : List Str := ["_law_net_here", "_law_pairs_here", "_law_lines_here", "_law_way_here", "_law_pair"]
theorem sc_law_lines : FnScope N_law_lines ["_law_net_here", "_law_pairs_here"] (defScope s_law_lines) := ⟨rfl, rfl, rfl, by decide +kernel, rfl, by decide +kernel, by decide +kernel⟩
abbrev s_write_task : Stmt := topS 9
abbrev N_write_task : List Str := ["net", "pairs", "lines", "a", "b", "cost", "line"]
theorem sc_write_task : FnScope N_write_task ["net", "pairs"] (defScope s_write_task) := ⟨rfl, rfl, rfl, by decide +kernel, rfl, by decide +kernel, by decide +kernel⟩
abbrev s_law_same : Stmt := topS 15
abbrev N_law_same : List Str := ["_law_actual", "_law_due", "_law_k"]
theorem sc_law_same : FnScope N_law_same ["_law_actual", "_law_due"] (defScope s_law_same) := ⟨rfl, rfl, rfl, by decide +kernel, rfl, by decide +kernel, by decide +kernel⟩
abbrev s_Task_init : Stmt := inClass (topS 10) 0
abbrev N_Task_init : List Str := ["self"]
theorem sc_Task_init : FnScope N_Task_init ["self"] (defScope s_Task_init) := ⟨rfl, rfl, rfl, by decide +kernel, rfl, by decide +kernel, by decide +kernel⟩
abbrev s_number_of : Stmt := topS 8
abbrev N_number_of : List Str := ["word", "char"]
theorem sc_number_of : FnScope N_number_of ["word"] (defScope s_number_of) := ⟨rfl, rfl, rfl, by decide +kernel, rfl, by decide +kernel, by decide +kernel⟩
abbrev s_Task_reads_places : Stmt := inClass (topS 10) 3
abbrev N_Task_reads_places : List Str := ["self", "number"]
theorem sc_Task_reads_places : FnScope N_Task_reads_places ["self", "number"] (defScope s_Task_reads_places) := ⟨rfl, rfl, rfl, by decide +kernel, rfl, by decide +kernel, by decide +kernel⟩
abbrev s_Task_ends : Stmt := inClass (topS 10) 1
abbrev N_Task_ends : List Str := ["self", "numbers"]
theorem sc_Task_ends : FnScope N_Task_ends ["self", "numbers"] (defScope s_Task_ends) := ⟨rfl, rfl, rfl, by decide +kernel, rfl, by decide +kernel, by decide +kernel⟩
abbrev s_Task_reads_way : Stmt := inClass (topS 10) 4
abbrev N_Task_reads_way : List Str := ["self", "way"]
theorem sc_Task_reads_way : FnScope N_Task_reads_way ["self", "way"] (defScope s_Task_reads_way) := ⟨rfl, rfl, rfl, by decide +kernel, rfl, by decide +kernel, by decide +kernel⟩
abbrev s_Task_reads_pair : Stmt := inClass (topS 10) 5
abbrev N_Task_reads_pair : List Str := ["self", "pair"]
theorem sc_Task_reads_pair : FnScope N_Task_reads_pair ["self", "pair"] (defScope s_Task_reads_pair) := ⟨rfl, rfl, rfl, by decide +kernel, rfl, by decide +kernel, by decide +kernel⟩
abbrev s_Task_reads : Stmt := inClass (topS 10) 2
abbrev N_Task_reads : List Str := ["self", "line", "word", "rest", "numbers", "one"]
theorem sc_Task_reads : FnScope N_Task_reads ["self", "line"] (defScope s_Task_reads) := ⟨rfl, rfl, rfl, by decide +kernel, rfl, by decide +kernel, by decide +kernel⟩
abbrev s_read_task : Stmt := topS 11
abbrev N_read_task : List Str := ["text", "lines", "last", "task", "number", "line"]
theorem sc_read_task : FnScope N_read_task ["text"] (defScope s_read_task) := ⟨rfl, rfl, rfl, by decide +kernel, rfl, by decide +kernel, by decide +kernel⟩
abbrev s_law : Stmt := topS 21
abbrev N_law : List Str := ["_law_script", "_law_pool_here", "_law_net_here", "_law_pairs_here", "_law_text", "_law_line"]
theorem sc_law : FnScope N_law ["_law_script"] (defScope s_law) := ⟨rfl, rfl, rfl, by decide +kernel, rfl, by decide +kernel, by decide +kernel⟩
structure Txt (K : PySem.W.Frag) (mg : Str → Option Value) : Prop where
  z_abs : mg "abs" = none
  z_all : mg "all" = none
  z_bool : mg "bool" = none
  z_enumerate : mg "enumerate" = none
  z_int : mg "int" = none
  z_isinstance : mg "isinstance" = none
  z_len : mg "len" = none
  z_list : mg "list" = none
  z_min : mg "min" = none
  z_range : mg "range" = none
  z_str : mg "str" = none
  z_tuple : mg "tuple" = none
  c_MOST_COST : GInt mg "MOST_COST" 10000
  c_MOST_PAIRS : GInt mg "MOST_PAIRS" 6
  c_MOST_PLACES : GInt mg "MOST_PLACES" 12
  c_MOST_WAYS : GInt mg "MOST_WAYS" 24
  a_Task_pairs : FldI K "Task" "pairs"
  a_Task_places : FldI K "Task" "places"
  a_Task_ways : FldI K "Task" "ways"
section
variable {P : Program} {w : World} {K : PySem.W.Frag} {mg : Str → Option Value} {base : Heap}
theorem ok_law_pool {f : Addr} {fd : FuncData} (F : Fun K "_law_pool" "_law_pool" s_law_pool f fd) (T : Txt K mg)  : FnOk P w K mg base CX0 1 f fd ["_law_script"] (spOf K 1 f_law_pool) :=
  fun_ok0 (N := N_law_pool) (b := b_law_pool) (k := 0) F sc_law_pool fun X W cdv A outer s H E hr hX  => by
    subst hX
    exact (S_one (S_ret (E_lstA (A_cons (E_list false T.z_list (A_cons (E_var 0) A_nil)) (A_cons E_int (A_cons E_int (A_cons E_int (A_cons E_int A_nil))))))))
theorem ok_law_draw {f : Addr} {fd : FuncData} (F : Fun K "_law_draw" "_law_draw" s_law_draw f fd) (T : Txt K mg)  : FnOk P w K mg base CX0 1 f fd ["_law_pool_here", "_law_many"] (spOf K 2 f_law_draw) :=
  fun_ok0 (N := N_law_draw) (b := b_law_draw) (k := 0) F sc_law_draw fun X W cdv A outer s H E hr hX  => by
    subst hX
    exact (S_cons (S_if (T_cmp op_gt opS_intB (E_ix (E_var 0) E_int) E_int (nomark _)) (S_cons (S_set 2 sc_law_draw.nd (E_mod (E_intc T.z_int (A_cons (E_ix (E_var 0) E_int) A_nil)) (E_var 1)))
      (S_cons (S_sub (E_div (E_ix (E_var 0) E_int) (E_var 1)) (E_var 0) E_int)
      (S_one (S_ret (E_var 2))))) S_nil)
      (S_cons (S_if (T_and (T_cmp (op_eqA ⟨rfl, hr, sc_law_draw.nd⟩) opS_eq (E_mod (E_intc T.z_int (A_cons (E_ix (E_var 0) E_int) A_nil)) E_int) E_int (nomark _)) (T_and1 (T_cmp op_lt opS_intB (E_ix (E_var 0) E_int) (E_len T.z_len (A_cons (E_ix (E_var 0) E_int) A_nil)) (nomark _)))).pt (S_cons (S_set 3 sc_law_draw.nd (E_abs T.z_abs (A_cons (E_ix (E_ix (E_var 0) E_int) (E_ix (E_var 0) E_int)) A_nil)))
      (S_cons (S_sub (E_add (E_ix (E_var 0) E_int) E_int) (E_var 0) E_int)
      (S_cons (S_if (T_cmp op_ge opS_intB (E_var 3) (E_pow E_int E_int) (nomark _)) (S_cons (S_sub (E_div (E_var 3) (E_var 1)) (E_var 0) E_int)
      (S_one (S_ret (E_mod (E_intc T.z_int (A_cons (E_var 3) A_nil)) (E_var 1))))) S_nil)
      (S_one (S_sub (E_var 3) (E_var 0) E_int))))) S_nil)
      (S_cons (S_sub (E_add (E_ix (E_var 0) E_int) E_int) (E_var 0) E_int)
      (S_cons (S_set 4 sc_law_draw.nd (E_mod (E_intc T.z_int (A_cons (E_add (E_add (E_mul (E_ix (E_var 0) E_int) E_int) (E_mul (E_ix (E_var 0) E_int) E_int)) E_int) A_nil)) E_int))
      (S_cons (S_set 4 sc_law_draw.nd (E_mod (E_intc T.z_int (A_cons (E_add (E_mul (E_var 4) (E_var 4)) (E_mul (E_ix (E_var 0) E_int) E_int)) A_nil)) E_int))
      (S_one (S_ret (E_mod (E_intc T.z_int (A_cons (E_var 4) A_nil)) (E_var 1)))))))))
theorem ok_law_cost {f : Addr} {fd : FuncData} (F : Fun K "_law_cost" "_law_cost" s_law_cost f fd) (T : Txt K mg) (c_law_draw : Cal P w K mg base CX0 1 "_law_draw" 2 f_law_draw) : FnOk P w K mg base CX0 2 f fd ["_law_pool_here"] (spOf K 1 f_law_cost) :=
  fun_ok0 (N := N_law_cost) (b := b_law_cost) (k := 1) F sc_law_cost fun X W cdv A outer s H E hr hX  => by
    subst hX
    exact (S_cons (S_set 1 sc_law_cost.nd (E_call c_law_draw hr (fun σ => pass0S σ) (A_cons (E_var 0) (A_cons E_int A_nil))))
      (S_cons (S_if (T_cmp (op_eqA ⟨rfl, hr, sc_law_cost.nd⟩) opS_eq (E_var 1) E_int (nomark _)) (S_one (S_ret (E_add E_int (E_call c_law_draw hr (fun σ => pass0S σ) (A_cons (E_var 0) (A_cons E_int A_nil)))))) S_nil)
      (S_cons (S_if (T_cmp op_lt opS_intB (E_var 1) E_int (nomark _)) (S_one (S_ret (E_ix (E_lst (A_cons E_int (A_cons E_int (A_cons E_int (A_cons E_int (A_cons E_int A_nil)))))) (E_call c_law_draw hr (fun σ => pass0S σ) (A_cons (E_var 0) (A_cons E_int A_nil)))))) S_nil)
      (S_one (S_ret (E_add E_int (E_call c_law_draw hr (fun σ => pass0S σ) (A_cons (E_var 0) (A_cons E_int A_nil)))))))))
theorem ok_law_way {f : Addr} {fd : FuncData} (F : Fun K "_law_way" "_law_way" s_law_way f fd) (T : Txt K mg) (c_law_draw : Cal P w K mg base CX0 1 "_law_draw" 2 f_law_draw) (c_law_cost : Cal P w K mg base CX0 2 "_law_cost" 1 f_law_cost) : FnOk P w K mg base CX0 3 f fd ["_law_pool_here", "_law_places"] (spOf K 2 f_law_way) :=
  fun_ok0 (N := N_law_way) (b := b_law_way) (k := 2) F sc_law_way fun X W cdv A outer s H E hr hX  => by
    subst hX
    exact (S_cons (S_set 2 sc_law_way.nd (E_call c_law_draw hr (fun σ => pass0S σ) (A_cons (E_var 0) (A_cons (E_sub (E_var 1) E_int) A_nil))))
      (S_one (S_ret (E_tup (A_cons (E_var 2) (A_cons (E_add (E_add (E_var 2) E_int) (E_call c_law_draw hr (fun σ => pass0S σ) (A_cons (E_var 0) (A_cons (E_sub (E_sub (E_var 1) E_int) (E_var 2)) A_nil)))) (A_cons (E_call c_law_cost hr (fun σ => pass0S σ) (A_cons (E_var 0) A_nil)) A_nil)))))))
theorem ok_law_net {f : Addr} {fd : FuncData} (F : Fun K "_law_net" "_law_net" s_law_net f fd) (T : Txt K mg) (c_law_draw : Cal P w K mg base CX0 1 "_law_draw" 2 f_law_draw) (c_law_cost : Cal P w K mg base CX0 2 "_law_cost" 1 f_law_cost) (c_law_way : Cal P w K mg base CX0 3 "_law_way" 2 f_law_way) : FnOk P w K mg base CX0 4 f fd ["_law_pool_here", "_law_most", "_law_ways"] (spOf K 3 f_law_net) :=
  fun_ok0 (N := N_law_net) (b := b_law_net) (k := 3) F sc_law_net fun X W cdv A outer s H E hr hX  => by
    subst hX
    exact (S_cons (S_set 3 sc_law_net.nd (E_add E_int (E_call c_law_draw hr (fun σ => pass0S σ) (A_cons (E_var 0) (A_cons (E_var 1) A_nil)))))
      (S_cons (S_set 4 sc_law_net.nd (E_lstA A_nil))
      (S_cons (S_if (T_and (T_cmp op_gt opS_intB (E_var 3) E_int (nomark _)) (T_and1 (T_cmp op_gt opS_intB (E_call c_law_draw hr (fun σ => pass0S σ) (A_cons (E_var 0) (A_cons E_int A_nil))) E_int (nomark _)))).pt (S_one (S_for PassesOwn.never rfl (I_rng2 T.z_range (A_cons E_int (A_cons (E_var 3) A_nil))) (G_nm 5 sc_law_net.nd) (S_one (S_expr (E_append (E_var 4) (A_cons (E_tup (A_cons (E_call c_law_draw hr (fun σ => pass0S σ) (A_cons (E_var 0) (A_cons (E_var 5) A_nil))) (A_cons (E_var 5) (A_cons (E_call c_law_cost hr (fun σ => pass0S σ) (A_cons (E_var 0) A_nil)) A_nil)))) A_nil)))))) S_nil)
      (S_cons (S_if (T_cmp op_gt opS_intB (E_var 3) E_int (nomark _)) (S_one (S_for PassesOwn.never rfl (I_rng1 T.z_range (A_cons (E_call c_law_draw hr (fun σ => pass0S σ) (A_cons (E_var 0) (A_cons (E_sub (E_add (E_var 2) E_int) (E_min rfl T.z_min (A_cons (E_var 2) (A_cons (E_len T.z_len (A_cons (E_var 4) A_nil)) A_nil)))) A_nil))) A_nil)) (G_nm 6 sc_law_net.nd) (S_one (S_expr (E_insert (E_var 4) (A_cons (E_call c_law_draw hr (fun σ => pass0S σ) (A_cons (E_var 0) (A_cons (E_add (E_len T.z_len (A_cons (E_var 4) A_nil)) E_int) A_nil))) (A_cons (E_call c_law_way hr (fun σ => pass0S σ) (A_cons (E_var 0) (A_cons (E_var 3) A_nil))) A_nil))))))) S_nil)
      (S_one (S_ret (E_tup (A_cons (E_var 3) (A_cons (E_tuple T.z_tuple (A_cons (E_slice false (E_var 4) P_none (P_some (E_var 2))) A_nil)) A_nil)))))))))
theorem ok_law_pairs {f : Addr} {fd : FuncData} (F : Fun K "_law_pairs" "_law_pairs" s_law_pairs f fd) (T : Txt K mg) (c_law_draw : Cal P w K mg base CX0 1 "_law_draw" 2 f_law_draw) : FnOk P w K mg base CX0 2 f fd ["_law_pool_here", "_law_places", "_law_most"] (spOf K 3 f_law_pairs) :=
  fun_ok0 (N := N_law_pairs) (b := b_law_pairs) (k := 1) F sc_law_pairs fun X W cdv A outer s H E hr hX  => by
    subst hX
    exact (S_cons (S_set 3 sc_law_pairs.nd (E_lstA A_nil))
      (S_cons (S_for PassesOwn.never rfl (I_rng1 T.z_range (A_cons (E_call c_law_draw hr (fun σ => pass0S σ) (A_cons (E_var 0) (A_cons (E_add (E_var 2) E_int) A_nil))) A_nil)) (G_nm 4 sc_law_pairs.nd) (S_one (S_if (T_cmp op_gt opS_intB (E_var 1) E_int (nomark _)) (S_cons (S_set 5 sc_law_pairs.nd (E_call c_law_draw hr (fun σ => pass0S σ) (A_cons (E_var 0) (A_cons (E_sub (E_var 1) E_int) A_nil))))
      (S_cons (S_set 6 sc_law_pairs.nd (E_tup (A_cons (E_var 5) (A_cons (E_add (E_add (E_var 5) E_int) (E_call c_law_draw hr (fun σ => pass0S σ) (A_cons (E_var 0) (A_cons (E_sub (E_sub (E_var 1) E_int) (E_var 5)) A_nil)))) A_nil))))
      (S_one (S_if (T_cmp (op_notInA ⟨rfl, hr, sc_law_pairs.nd⟩) opS_notIn (E_var 6) (E_var 3) rfl) (S_one (S_expr (E_append (E_var 3) (A_cons (E_var 6) A_nil)))) S_nil)))) S_nil)))
      (S_one (S_ret (E_tuple T.z_tuple (A_cons (E_var 3) A_nil))))))
theorem ok_law_lines {f : Addr} {fd : FuncData} (F : Fun K "_law_lines" "_law_lines" s_law_lines f fd) (T : Txt K mg)  : FnOk P w K mg base CX0 1 f fd ["_law_net_here", "_law_pairs_here"] (spOf K 2 f_law_lines) :=
  fun_ok0 (N := N_law_lines) (b := b_law_lines) (k := 0) F sc_law_lines fun X W cdv A outer s H E hr hX  => by
    subst hX
    exact (S_cons (S_set 2 sc_law_lines.nd (E_lst (A_cons (E_add E_str (E_strc T.z_str (A_cons (E_ix (E_var 0) E_int) A_nil))) A_nil)))
      (S_cons (S_set 2 sc_law_lines.nd (E_add (E_var 2) (E_lc rfl sc_law_lines.nd (I_seq (E_ix (E_var 0) E_int)) (blkOk_by (N := N_law_lines) (sc := (defScope s_law_lines)) (own := [(("_law_way_here" : Str), 3)]) (by decide +kernel)) (fun _ _ _ _ _ => (G_nm 3 sc_law_lines.nd)) (fun _ _ _ _ _ => C_nil) (fun _ _ _ _ _ => (E_add (E_add (E_add (E_add (E_add E_str (E_strc T.z_str (A_cons (E_ix (E_var 3) E_int) A_nil))) E_str) (E_strc T.z_str (A_cons (E_ix (E_var 3) E_int) A_nil))) E_str) (E_strc T.z_str (A_cons (E_ix (E_var 3) E_int) A_nil)))))))
      (S_one (S_ret (E_add (E_var 2) (E_lc rfl sc_law_lines.nd (I_seq (E_var 1)) (blkOk_by (N := N_law_lines) (sc := (defScope s_law_lines)) (own := [(("_law_pair" : Str), 4)]) (by decide +kernel)) (fun _ _ _ _ _ => (G_nm 4 sc_law_lines.nd)) (fun _ _ _ _ _ => C_nil) (fun _ _ _ _ _ => (E_add (E_add (E_add E_str (E_strc T.z_str (A_cons (E_ix (E_var 4) E_int) A_nil))) E_str) (E_strc T.z_str (A_cons (E_ix (E_var 4) E_int) A_nil))))))))))
theorem ok_write_task {f : Addr} {fd : FuncData} (F : Fun K "write_task" "write_task" s_write_task f fd) (T : Txt K mg)  : FnOk P w K mg base CX0 1 f fd ["net", "pairs"] (spOf K 2 f_write_task) :=
  fun_ok0 (N := N_write_task) (b := b_write_task) (k := 0) F sc_write_task fun X W cdv A outer s H E hr hX  => by
    subst hX
    exact (S_cons (S_set 2 sc_write_task.nd (E_lstA (A_cons (E_js (.cons E_str (.cons (E_fmt (E_ix (E_var 0) E_int)) .nil))) A_nil)))
      (S_cons (S_expr (E_extend (E_var 2) (A_cons (E_lc rfl sc_write_task.nd (I_seq (E_ix (E_var 0) E_int)) (blkOk_by (N := N_write_task) (sc := (defScope s_write_task)) (own := [(("a" : Str), 3), (("b" : Str), 4), (("cost" : Str), 5)]) (by decide +kernel)) (fun _ _ _ _ _ => (G_tp rfl (Gs_cons (G_nm 3 sc_write_task.nd) (Gs_cons (G_nm 4 sc_write_task.nd) (Gs_cons (G_nm 5 sc_write_task.nd) Gs_nil))))) (fun _ _ _ _ _ => C_nil) (fun _ _ _ _ _ => (E_js (.cons E_str (.cons (E_fmt (E_var 3)) (.cons E_str (.cons (E_fmt (E_var 4)) (.cons E_str (.cons (E_fmt (E_var 5)) .nil))))))))) A_nil)))
      (S_cons (S_expr (E_extend (E_var 2) (A_cons (E_lc rfl sc_write_task.nd (I_seq (E_var 1)) (blkOk_by (N := N_write_task) (sc := (defScope s_write_task)) (own := [(("a" : Str), 3), (("b" : Str), 4)]) (by decide +kernel)) (fun _ _ _ _ _ => (G_tp rfl (Gs_cons (G_nm 3 sc_write_task.nd) (Gs_cons (G_nm 4 sc_write_task.nd) Gs_nil)))) (fun _ _ _ _ _ => C_nil) (fun _ _ _ _ _ => (E_js (.cons E_str (.cons (E_fmt (E_var 3)) (.cons E_str (.cons (E_fmt (E_var 4)) .nil))))))) A_nil)))
      (S_one (S_ret (E_join E_str (E_lc rfl sc_write_task.nd (I_seq (E_var 2)) (blkOk_by (N := N_write_task) (sc := (defScope s_write_task)) (own := [(("line" : Str), 6)]) (by decide +kernel)) (fun _ _ _ _ _ => (G_nm 6 sc_write_task.nd)) (fun _ _ _ _ _ => C_nil) (fun _ _ _ _ _ => (E_add (E_var 6) E_str)))))))))
theorem ok_law_sameN {f : Addr} {fd : FuncData} (F : Fun K "_law_same" "_law_same" s_law_same f fd) (T : Txt K mg) (hm : mg "_law_same" = some (.ref f)) (hb : Binds K fd ["_law_actual", "_law_due"] [])  : ∀ k : Nat, FnOk P w K mg base CX0 (0 + k + 1) f fd ["_law_actual", "_law_due"] (spOf K 2 (f_law_sameN k))
  | 0 => fun_ok0 F sc_law_same fun X W cdv A outer s H E hr hX => by
    subst hX
    exact PSs.weak pss_never fun D σ H h => let ⟨_, _, _, _, _, p⟩ := h; p.elim
  | k + 1 => fun_ok0 F sc_law_same fun X W cdv A outer s H E hr hX => by
    have c_law_same : Cal P w K mg base CX0 (0 + k + 1) "_law_same" 2 (f_law_sameN k) := ⟨f, fd, ["_law_actual", "_law_due"], ok_law_sameN F T hm hb  k, hm, F.kp, hb⟩
    subst hX
    exact (S_cons (S_if (T_val (E_isi T.z_isinstance T.z_tuple (E_var 1))) (S_cons (S_if (T_or (T_not (T_val (E_isi T.z_isinstance T.z_tuple (E_var 0)))) (T_or1 (T_cmp (op_neA ⟨rfl, hr, sc_law_same.nd⟩) opS_ne (E_len T.z_len (A_cons (E_var 0) A_nil)) (E_len T.z_len (A_cons (E_var 1) A_nil)) (nomark _)))).pt (S_one (S_ret E_bl)) S_nil)
      (S_one (S_ret (E_cmp (op_eqA ⟨rfl, hr, sc_law_same.nd⟩) opS_eq (E_len T.z_len (A_cons (E_lc rfl sc_law_same.nd (I_rng1 T.z_range (A_cons (E_len T.z_len (A_cons (E_var 1) A_nil)) A_nil)) (blkOk_by (N := N_law_same) (sc := (defScope s_law_same)) (own := [(("_law_k" : Str), 2)]) (by decide +kernel)) (fun _ _ _ _ _ => (G_nm 2 sc_law_same.nd)) (fun _ _ _ _ _ => (C_one (T_not (T_val (E_call c_law_same hr (fun σ => pass0S σ) (A_cons (E_ix (E_var 0) (E_var 2)) (A_cons (E_ix (E_var 1) (E_var 2)) A_nil))))))) (fun _ _ _ _ _ => (E_var 2))) A_nil)) E_int (nomark _))))) S_nil)
      (S_cons (S_if (T_cmp op_isN opS_isN (E_var 1) E_non (nomark _)) (S_one (S_ret (E_cmp op_isN opS_isN (E_var 0) E_non (nomark _)))) S_nil)
      (S_cons (S_if (T_val (E_isi T.z_isinstance T.z_str (E_var 1))) (S_one (S_ret (E_andV (E_isi T.z_isinstance T.z_str (E_var 0)) (E_one (E_cmp (op_eqA ⟨rfl, hr, sc_law_same.nd⟩) opS_eq (E_var 0) (E_var 1) (nomark _)))))) S_nil)
      (S_one (S_ret (E_andV (E_isi T.z_isinstance T.z_int (E_var 0)) (E_andV (E_notV (E_isi T.z_isinstance T.z_bool (E_var 0))) (E_one (E_cmp (op_eqA ⟨rfl, hr, sc_law_same.nd⟩) opS_eq (E_var 0) (E_var 1) (nomark _))))))))))
theorem ok_law_same {f : Addr} {fd : FuncData} (F : Fun K "_law_same" "_law_same" s_law_same f fd) (T : Txt K mg) (hm : mg "_law_same" = some (.ref f)) (hb : Binds K fd ["_law_actual", "_law_due"] [])  : FnOk P w K mg base CX0 8 f fd ["_law_actual", "_law_due"] (spOf K 2 f_law_same) := ok_law_sameN F T hm hb  7
theorem ok_Task_init {f : Addr} {fd : FuncData} (F : Fun K "__init__" "Task.__init__" s_Task_init f fd) (T : Txt K mg)  : FnOk P w K mg base CX0 1 f fd ["self"] (spOf K 1 f_Task_init) :=
  fun_ok0 (N := N_Task_init) (b := b_Task_init) (k := 0) F sc_Task_init fun X W cdv A outer s H E hr hX  => by
    subst hX
    exact (S_cons (S_fldI T.a_Task_places E_int (E_var 0))
      (S_cons (S_fldI T.a_Task_ways (E_lstA A_nil) (E_var 0))
      (S_one (S_fldI T.a_Task_pairs (E_lstA A_nil) (E_var 0)))))
theorem ok_number_of {f : Addr} {fd : FuncData} (F : Fun K "number_of" "number_of" s_number_of f fd) (T : Txt K mg)  : FnOk P w K mg base CX0 1 f fd ["word"] (spOf K 1 f_number_of) :=
  fun_ok0 (N := N_number_of) (b := b_number_of) (k := 0) F sc_number_of fun X W cdv A outer s H E hr hX  => by
    subst hX
    exact (S_cons (S_if (T_or (T_not (T_chain op_le opS_intB op_le opS_intB E_int (E_len T.z_len (A_cons (E_var 0) A_nil)) E_int)) (T_or1 (T_not (T_val (E_all rfl T.z_all (A_cons (E_lc rfl sc_number_of.nd (I_str (E_var 0)) (blkOk_by (N := N_number_of) (sc := (defScope s_number_of)) (own := [(("char" : Str), 1)]) (by decide +kernel)) (fun _ _ _ _ _ => (G_nm 1 sc_number_of.nd)) (fun _ _ _ _ _ => C_nil) (fun _ _ _ _ _ => (E_cmp op_in_sign opS_inS (E_var 1) E_str rfl))) A_nil)))))).pt (S_one (S_ret E_non)) S_nil)
      (S_cons (S_if (T_and (T_cmp (op_eqA ⟨rfl, hr, sc_number_of.nd⟩) opS_eq (E_ix (E_var 0) E_int) E_str (nomark _)) (T_and1 (T_cmp (op_neA ⟨rfl, hr, sc_number_of.nd⟩) opS_ne (E_var 0) E_str (nomark _)))).pt (S_one (S_ret E_non)) S_nil)
      (S_one (S_ret (E_intS T.z_int (A_cons (E_var 0) A_nil))))))
theorem ok_Task_reads_places {f : Addr} {fd : FuncData} (F : Fun K "reads_places" "Task.reads_places" s_Task_reads_places f fd) (T : Txt K mg)  : FnOk P w K mg base CX0 1 f fd ["self", "number"] (spOf K 2 f_Task_reads_places) :=
  fun_ok0 (N := N_Task_reads_places) (b := b_Task_reads_places) (k := 0) F sc_Task_reads_places fun X W cdv A outer s H E hr hX  => by
    subst hX
    exact (S_cons (S_if (T_or (T_cmp op_gt opS_intB (E_fldI T.a_Task_places (E_var 0)) E_int (nomark _)) (T_or1 (T_not (T_chain op_le opS_intB op_le opS_intB E_int (E_var 1) (E_globG T.c_MOST_PLACES))))).pt (S_one (S_ret E_bl)) S_nil)
      (S_cons (S_fldI T.a_Task_places (E_var 1) (E_var 0))
      (S_one (S_ret E_bl))))
theorem ok_Task_ends {f : Addr} {fd : FuncData} (F : Fun K "ends" "Task.ends" s_Task_ends f fd) (T : Txt K mg)  : FnOk P w K mg base CX0 1 f fd ["self", "numbers"] (spOf K 2 f_Task_ends) :=
  fun_ok0 (N := N_Task_ends) (b := b_Task_ends) (k := 0) F sc_Task_ends fun X W cdv A outer s H E hr hX  => by
    subst hX
    exact (S_one (S_ret (E_chain op_lt opS_intB op_lt opS_intB (E_ix (E_var 1) E_int) (E_ix (E_var 1) E_int) (E_fldI T.a_Task_places (E_var 0)))))
theorem ok_Task_reads_way {f : Addr} {fd : FuncData} (F : Fun K "reads_way" "Task.reads_way" s_Task_reads_way f fd) (T : Txt K mg) (c_Task_ends : CalM P w K mg base CX0 1 "Task" "ends" 2 f_Task_ends) : FnOk P w K mg base CX0 2 f fd ["self", "way"] (spOf K 2 f_Task_reads_way) :=
  fun_ok0 (N := N_Task_reads_way) (b := b_Task_reads_way) (k := 1) F sc_Task_reads_way fun X W cdv A outer s H E hr hX  => by
    subst hX
    exact (S_cons (S_if (T_or (T_val (E_fldI T.a_Task_pairs (E_var 0))) (T_or (T_cmp (op_eqA ⟨rfl, hr, sc_Task_reads_way.nd⟩) opS_eq (E_len T.z_len (A_cons (E_fldI T.a_Task_ways (E_var 0)) A_nil)) (E_globG T.c_MOST_WAYS) (nomark _)) (T_or (T_not (T_val (E_meth c_Task_ends hr (fun σ => pass0S σ) (E_var 0) (A_cons (E_var 1) A_nil)))) (T_or1 (T_not (T_chain op_le opS_intB op_le opS_intB E_int (E_ix (E_var 1) E_int) (E_globG T.c_MOST_COST))))))).pt (S_one (S_ret E_bl)) S_nil)
      (S_cons (S_expr (E_append (E_fldI T.a_Task_ways (E_var 0)) (A_cons (E_var 1) A_nil)))
      (S_one (S_ret E_bl))))
theorem ok_Task_reads_pair {f : Addr} {fd : FuncData} (F : Fun K "reads_pair" "Task.reads_pair" s_Task_reads_pair f fd) (T : Txt K mg) (c_Task_ends : CalM P w K mg base CX0 1 "Task" "ends" 2 f_Task_ends) : FnOk P w K mg base CX0 2 f fd ["self", "pair"] (spOf K 2 f_Task_reads_pair) :=
  fun_ok0 (N := N_Task_reads_pair) (b := b_Task_reads_pair) (k := 1) F sc_Task_reads_pair fun X W cdv A outer s H E hr hX  => by
    subst hX
    exact (S_cons (S_if (T_or (T_cmp (op_eqA ⟨rfl, hr, sc_Task_reads_pair.nd⟩) opS_eq (E_len T.z_len (A_cons (E_fldI T.a_Task_pairs (E_var 0)) A_nil)) (E_globG T.c_MOST_PAIRS) (nomark _)) (T_or (T_not (T_val (E_meth c_Task_ends hr (fun σ => pass0S σ) (E_var 0) (A_cons (E_var 1) A_nil)))) (T_or1 (T_cmp (op_inA ⟨rfl, hr, sc_Task_reads_pair.nd⟩) opS_in (E_var 1) (E_fldI T.a_Task_pairs (E_var 0)) rfl)))).pt (S_one (S_ret E_bl)) S_nil)
      (S_cons (S_expr (E_append (E_fldI T.a_Task_pairs (E_var 0)) (A_cons (E_var 1) A_nil)))
      (S_one (S_ret E_bl))))
theorem ok_Task_reads {f : Addr} {fd : FuncData} (F : Fun K "reads" "Task.reads" s_Task_reads f fd) (T : Txt K mg) (c_number_of : Cal P w K mg base CX0 1 "number_of" 1 f_number_of) (c_Task_reads_places : CalM P w K mg base CX0 1 "Task" "reads_places" 2 f_Task_reads_places) (c_Task_reads_way : CalM P w K mg base CX0 2 "Task" "reads_way" 2 f_Task_reads_way) (c_Task_reads_pair : CalM P w K mg base CX0 2 "Task" "reads_pair" 2 f_Task_reads_pair) : FnOk P w K mg base CX0 3 f fd ["self", "line"] (spOf K 2 f_Task_reads) :=
  fun_ok0 (N := N_Task_reads) (b := b_Task_reads) (k := 2) F sc_Task_reads fun X W cdv A outer s H E hr hX  => by
    subst hX
    exact (S_cons (S_star false rfl (E_split false (E_var 1) E_str) (Gs_cons (G_nm 2 sc_Task_reads.nd) (Gs_consS (G_nm 3 sc_Task_reads.nd) Gs_nil)))
      (S_cons (S_setLc 4 rfl sc_Task_reads.nd rfl (sw_true rfl rfl rfl rfl) (I_seq (E_var 3)) (blkOk_by (N := N_Task_reads) (sc := (defScope s_Task_reads)) (own := [(("one" : Str), 5)]) (by decide +kernel)) (fun _ _ _ _ _ => (G_nm 5 sc_Task_reads.nd)) (fun _ _ _ _ _ => C_nil) (fun _ _ _ _ _ => (E_call c_number_of hr (fun σ => pass0S σ) (A_cons (E_var 5) A_nil))))
      (S_cons (S_if (T_cmp (op_inA ⟨rfl, hr, sc_Task_reads.nd⟩) opS_in E_non (E_var 4) rfl) (S_one (S_ret E_bl)) S_nil)
      (S_cons (S_if (T_and (T_cmp (op_eqA ⟨rfl, hr, sc_Task_reads.nd⟩) opS_eq (E_var 2) E_str (nomark _)) (T_and1 (T_cmp (op_eqA ⟨rfl, hr, sc_Task_reads.nd⟩) opS_eq (E_len T.z_len (A_cons (E_var 4) A_nil)) E_int (nomark _)))).pt (S_one (S_ret (E_meth c_Task_reads_places hr (fun σ => pass0S σ) (E_var 0) (A_cons (E_ix (E_var 4) E_int) A_nil)))) S_nil)
      (S_cons (S_if (T_and (T_cmp (op_eqA ⟨rfl, hr, sc_Task_reads.nd⟩) opS_eq (E_var 2) E_str (nomark _)) (T_and1 (T_cmp (op_eqA ⟨rfl, hr, sc_Task_reads.nd⟩) opS_eq (E_len T.z_len (A_cons (E_var 4) A_nil)) E_int (nomark _)))).pt (S_one (S_ret (E_meth c_Task_reads_way hr (fun σ => pass0S σ) (E_var 0) (A_cons (E_tuple T.z_tuple (A_cons (E_var 4) A_nil)) A_nil)))) S_nil)
      (S_cons (S_if (T_and (T_cmp (op_eqA ⟨rfl, hr, sc_Task_reads.nd⟩) opS_eq (E_var 2) E_str (nomark _)) (T_and1 (T_cmp (op_eqA ⟨rfl, hr, sc_Task_reads.nd⟩) opS_eq (E_len T.z_len (A_cons (E_var 4) A_nil)) E_int (nomark _)))).pt (S_one (S_ret (E_meth c_Task_reads_pair hr (fun σ => pass0S σ) (E_var 0) (A_cons (E_tuple T.z_tuple (A_cons (E_var 4) A_nil)) A_nil)))) S_nil)
      (S_one (S_ret E_bl))))))))
theorem ok_read_task {f : Addr} {fd : FuncData} (F : Fun K "read_task" "read_task" s_read_task f fd) (T : Txt K mg) (k_Task : CalC P w K mg base CX0 1 "Task" 1 f_Task_init) (c_Task_reads : CalM P w K mg base CX0 3 "Task" "reads" 2 f_Task_reads) : FnOk P w K mg base CX0 4 f fd ["text"] (spOf K 1 f_read_task) :=
  fun_ok0 (N := N_read_task) (b := b_read_task) (k := 3) F sc_read_task fun X W cdv A outer s H E hr hX  => by
    subst hX
    exact (S_cons (S_star true rfl (E_split false (E_var 0) E_str) (Gs_consS (G_nm 1 sc_read_task.nd) (Gs_cons (G_nm 2 sc_read_task.nd) Gs_nil)))
      (S_cons (S_if (T_cmp (op_neA ⟨rfl, hr, sc_read_task.nd⟩) opS_ne (E_var 2) E_str (nomark _)) (S_one (S_expr (E_append (E_var 1) (A_cons (E_var 2) A_nil)))) S_nil)
      (S_cons (S_set 3 sc_read_task.nd (E_make0 k_Task hr (fun σ => pass0S σ)))
      (S_cons (S_for PassesOwn.never rfl (I_enumS (n := 1) (by decide) T.z_enumerate (A_cons (E_var 1) A_nil)) (G_tp rfl (Gs_cons (G_nm 4 sc_read_task.nd) (Gs_cons (G_nm 5 sc_read_task.nd) Gs_nil))) (S_one (S_if (T_not (T_val (E_meth c_Task_reads hr (fun σ => pass0S σ) (E_var 3) (A_cons (E_var 5) A_nil)))) (S_one S_never) S_nil)))
      (S_cons (S_if (T_or (T_not (T_val (E_var 1))) (T_or1 (T_cmp (op_neA ⟨rfl, hr, sc_read_task.nd⟩) opS_ne (E_var 2) E_str (nomark _)))).pt (S_one S_never) S_nil)
      (S_one (S_ret (E_tup (A_cons (E_tup (A_cons (E_fldI T.a_Task_places (E_var 3)) (A_cons (E_tuple T.z_tuple (A_cons (E_fldI T.a_Task_ways (E_var 3)) A_nil)) A_nil))) (A_cons (E_tuple T.z_tuple (A_cons (E_fldI T.a_Task_pairs (E_var 3)) A_nil)) A_nil))))))))))
theorem ok_law {f : Addr} {fd : FuncData} (F : Fun K "law" "law" s_law f fd) (T : Txt K mg) (c_law_pool : Cal P w K mg base CX0 1 "_law_pool" 1 f_law_pool) (c_law_net : Cal P w K mg base CX0 4 "_law_net" 3 f_law_net) (c_law_pairs : Cal P w K mg base CX0 2 "_law_pairs" 3 f_law_pairs) (c_law_lines : Cal P w K mg base CX0 1 "_law_lines" 2 f_law_lines) (c_write_task : Cal P w K mg base CX0 1 "write_task" 2 f_write_task) (c_law_same : Cal P w K mg base CX0 8 "_law_same" 2 f_law_same) (c_read_task : Cal P w K mg base CX0 4 "read_task" 1 f_read_task) : FnOk P w K mg base CX0 9 f fd ["_law_script"] (spOf K 1 f_law) :=
  fun_ok0 (N := N_law) (b := b_law) (k := 8) F sc_law fun X W cdv A outer s H E hr hX  => by
    subst hX
    exact (S_cons (S_set 1 sc_law.nd (E_call c_law_pool hr (fun σ => pass0S σ) (A_cons (E_var 0) A_nil)))
      (S_cons (S_set 2 sc_law.nd (E_call c_law_net hr (fun σ => pass0S σ) (A_cons (E_var 1) (A_cons E_int (A_cons E_int A_nil)))))
      (S_cons (S_set 3 sc_law.nd (E_call c_law_pairs hr (fun σ => pass0S σ) (A_cons (E_var 1) (A_cons (E_ix (E_var 2) E_int) (A_cons E_int A_nil)))))
      (S_cons (S_set 4 sc_law.nd (E_join E_str (E_lc rfl sc_law.nd (I_seq (E_call c_law_lines hr (fun σ => pass0S σ) (A_cons (E_var 2) (A_cons (E_var 3) A_nil)))) (blkOk_by (N := N_law) (sc := (defScope s_law)) (own := [(("_law_line" : Str), 5)]) (by decide +kernel)) (fun _ _ _ _ _ => (G_nm 5 sc_law.nd)) (fun _ _ _ _ _ => C_nil) (fun _ _ _ _ _ => (E_add (E_var 5) E_str)))))
      (S_one (S_ret (E_andV (E_call c_law_same hr (fun σ => pass0S σ) (A_cons (E_call c_write_task hr (fun σ => pass0S σ) (A_cons (E_var 2) (A_cons (E_var 3) A_nil))) (A_cons (E_var 4) A_nil))) (E_one (E_call c_law_same hr (fun σ => pass0S σ) (A_cons (E_call c_read_task hr (fun σ => pass0S σ) (A_cons (E_var 4) A_nil)) (A_cons (E_tup (A_cons (E_var 2) (A_cons (E_var 3) A_nil))) A_nil)))))))))))
end
end Ev

namespace Ev
open PySem PySem.Spec PyProof.Rows L2
structure Pool where
  s : List Int
  pos : Int
  acc : Int
  cell : Int
  cnt : Int
def poolC (P : Pool) : Cel := .lst [.lst (P.s.map D.int), .int P.pos, .int P.acc, .int P.cell, .int P.cnt]
theorem okC_pool (n : Nat) (P : Pool) : okC n (poolC P) = true := by simp only [poolC, okC, okDs, okD, okDs_ints, Bool.and_self]
def mix (y c : Int) : Int := ((y * 48271 + c * 69621 + 7919) % 2147483647 * ((y * 48271 + c * 69621 + 7919) % 2147483647) + c * 40692) % 2147483399
theorem draw_spec {S : Sto} {p : Nat} {P : Pool} {n : Int} (hS : S[p]? = some (poolC P)) (h0 : 0 ≤ P.pos) (hn : 0 < n) (hn2 : n < 1073741824) :
    ∃ r P', 0 ≤ r ∧ r < n ∧ 0 ≤ P'.pos ∧ f_law_draw [.loc p, .int n] S = .ok (.int r) (S.set p (poolC P')) := by
  have hp : p < S.length := (List.getElem?_eq_some_iff.mp hS).1
  have sg : ∀ (c : Cel), (S.set p c)[p]? = some c := fun c => set_get hp
  have cd : ∀ x : Int, CDv x n := fun x => ⟨hn, by omega⟩
  have pw : ∀ S : Sto, oPow (.int 10) (.int 18) S = some (.int 1000000000000000000) := fun S => oPow_int (by decide)
  have cm1 : ∀ x : Int, CMul x 48271 := fun x => Or.inr (by decide)
  have cm2 : ∀ x : Int, CMul x 69621 := fun x => Or.inr (by decide)
  have cm3 : ∀ x : Int, CMul x 40692 := fun x => Or.inr (by decide)
  have cm4 : ∀ x : Int, CMul (x % 2147483647) (x % 2147483647) := fun x => Or.inl (by omega)
  have m1 : (0 : Int) < 2147483647 := by decide
  have m2 : (0 : Int) < 2147483399 := by decide
  have m3 : (0 : Int) < 8 := by decide
  unfold f_law_draw runF
  by_cases hc : 0 < P.acc
  · refine ⟨P.acc % n, { P with acc := P.acc / n }, Int.emod_nonneg _ (by omega), Int.emod_lt_of_pos _ hn, h0, ?_⟩
    unfold poolC at hS
    simp only [eVar, eC, eBin, bBin, bVal, bAnd, bOr, bNot, eAnd, eOr, eNot, eIf, eNeg, eOrT, liftO_some, liftB_bl, liftG_some, liftP_some, R.bind, R.nox_ok, sB, aNil, aCons, sSeq, sSet, sIf, sRet, sRetN, sNext, sExpr, sAsg, sSub, sBrk, sCnt, eCb, pure1, eIsi, bYes, pNone, pSome, List.getElem?_cons_zero, List.getElem?_cons_succ, List.set_cons_zero, List.set_cons_succ, Option.map_some, Option.bind_some, List.map_cons, List.map_nil, List.length_cons, List.length_nil, List.nil_append, List.cons_append, List.replicate_succ, List.replicate_zero, Nat.reduceSub, Nat.reduceAdd, Nat.add_eq, Nat.zero_add, if_true, if_false, reduceIte, Bool.false_eq_true, Bool.not_true, Bool.not_false, Tg.asg, asgs, tupOf, decide_true, decide_false, ite_true, ite_false, oAdd_int, oSub_int, oLt_int, oLe_int, oGt_int, oGe_int, oEq_int, oNe_int, oEq_str, atI_0, atI_1, atI_2, atI_3, atI_4, ixN51, ixN52, ixN53, ixN54, gInt, gAbs, gMin, gMax, oIx_tup, oIx_lst, oIx_con, seqOf_tup, seqOf_lst, List.length_set, b_law_draw, oIx_loc hS, oMod_int hn, oDiv_int (cd _), hS, hc]
    exact gc_put rfl (okC_pool _ { P with acc := P.acc / n })
  · unfold poolC at hS
    by_cases h8 : P.cnt % 8 = 0 ∧ P.pos < (P.s.length : Int)
    · obtain ⟨x, hx⟩ : ∃ x, P.s[P.pos.toNat]? = some x := ⟨_, List.getElem?_eq_getElem (by omega)⟩
      have hix : atI (P.s.map D.int) P.pos = some (.int x) := by
        have := atI_nat (xs := P.s.map D.int) (j := P.pos.toNat) (v := .int x) (by rw [List.getElem?_map, hx]; rfl)
        rwa [Int.toNat_of_nonneg h0] at this
      generalize hy : (if x < 0 then -x else x) = y
      by_cases hb : (1000000000000000000 : Int) ≤ y
      · refine ⟨y % n, { P with pos := P.pos + 1, acc := y / n }, Int.emod_nonneg _ (by omega), Int.emod_lt_of_pos _ hn, by show 0 ≤ P.pos + 1; omega, ?_⟩
        simp only [eVar, eC, eBin, bBin, bVal, bAnd, bOr, bNot, eAnd, eOr, eNot, eIf, eNeg, eOrT, liftO_some, liftB_bl, liftG_some, liftP_some, R.bind, R.nox_ok, sB, aNil, aCons, sSeq, sSet, sIf, sRet, sRetN, sNext, sExpr, sAsg, sSub, sBrk, sCnt, eCb, pure1, eIsi, bYes, pNone, pSome, List.getElem?_cons_zero, List.getElem?_cons_succ, List.set_cons_zero, List.set_cons_succ, Option.map_some, Option.bind_some, List.map_cons, List.map_nil, List.length_cons, List.length_nil, List.nil_append, List.cons_append, List.replicate_succ, List.replicate_zero, Nat.reduceSub, Nat.reduceAdd, Nat.add_eq, Nat.zero_add, if_true, if_false, reduceIte, Bool.false_eq_true, Bool.not_true, Bool.not_false, Tg.asg, asgs, tupOf, decide_true, decide_false, ite_true, ite_false, oAdd_int, oSub_int, oLt_int, oLe_int, oGt_int, oGe_int, oEq_int, oNe_int, oEq_str, atI_0, atI_1, atI_2, atI_3, atI_4, ixN51, ixN52, ixN53, ixN54, gInt, gAbs, gMin, gMax, oIx_tup, oIx_lst, oIx_con, seqOf_tup, seqOf_lst, List.length_set, b_law_draw, oIx_loc hS, oMod_int hn, oDiv_int (cd _), hS, hc, h8.1, h8.2, oMod_int m3, gLen_seq seqOf_lst, List.length_map, hix, sg, List.set_set, pw, hb, hy, oIx_loc (sg _)]
        exact gc_put rfl (okC_pool _ { P with pos := P.pos + 1, acc := y / n })
      · refine ⟨mix y (P.cnt + 1) % n, { P with pos := P.pos + 1, cell := y, cnt := P.cnt + 1 }, Int.emod_nonneg _ (by omega), Int.emod_lt_of_pos _ hn, by show 0 ≤ P.pos + 1; omega, ?_⟩
        · simp only [eVar, eC, eBin, bBin, bVal, bAnd, bOr, bNot, eAnd, eOr, eNot, eIf, eNeg, eOrT, liftO_some, liftB_bl, liftG_some, liftP_some, R.bind, R.nox_ok, sB, aNil, aCons, sSeq, sSet, sIf, sRet, sRetN, sNext, sExpr, sAsg, sSub, sBrk, sCnt, eCb, pure1, eIsi, bYes, pNone, pSome, List.getElem?_cons_zero, List.getElem?_cons_succ, List.set_cons_zero, List.set_cons_succ, Option.map_some, Option.bind_some, List.map_cons, List.map_nil, List.length_cons, List.length_nil, List.nil_append, List.cons_append, List.replicate_succ, List.replicate_zero, Nat.reduceSub, Nat.reduceAdd, Nat.add_eq, Nat.zero_add, if_true, if_false, reduceIte, Bool.false_eq_true, Bool.not_true, Bool.not_false, Tg.asg, asgs, tupOf, decide_true, decide_false, ite_true, ite_false, oAdd_int, oSub_int, oLt_int, oLe_int, oGt_int, oGe_int, oEq_int, oNe_int, oEq_str, atI_0, atI_1, atI_2, atI_3, atI_4, ixN51, ixN52, ixN53, ixN54, gInt, gAbs, gMin, gMax, oIx_tup, oIx_lst, oIx_con, seqOf_tup, seqOf_lst, List.length_set, b_law_draw, oIx_loc hS, oMod_int hn, oDiv_int (cd _), hS, hc, h8.1, h8.2, oMod_int m3, gLen_seq seqOf_lst, List.length_map, hix, sg, List.set_set, pw, hb, hy, oIx_loc (sg _), oMul_int (cm1 _), oMul_int (cm2 _), oMul_int (cm3 _), oMul_int (cm4 _), oMod_int m1, oMod_int m2]
          exact gc_put rfl (okC_pool _ { P with pos := P.pos + 1, cell := y, cnt := P.cnt + 1 })
    · have hand : (decide (P.cnt % 8 = 0) && decide (P.pos < (P.s.length : Int))) = false := by simp; omega
      refine ⟨mix P.cell (P.cnt + 1) % n, { P with cnt := P.cnt + 1 }, Int.emod_nonneg _ (by omega), Int.emod_lt_of_pos _ hn, h0, ?_⟩
      · by_cases h9 : P.cnt % 8 = 0
        · have h10 : ¬ P.pos < (P.s.length : Int) := fun z => h8 ⟨h9, z⟩
          simp only [eVar, eC, eBin, bBin, bVal, bAnd, bOr, bNot, eAnd, eOr, eNot, eIf, eNeg, eOrT, liftO_some, liftB_bl, liftG_some, liftP_some, R.bind, R.nox_ok, sB, aNil, aCons, sSeq, sSet, sIf, sRet, sRetN, sNext, sExpr, sAsg, sSub, sBrk, sCnt, eCb, pure1, eIsi, bYes, pNone, pSome, List.getElem?_cons_zero, List.getElem?_cons_succ, List.set_cons_zero, List.set_cons_succ, Option.map_some, Option.bind_some, List.map_cons, List.map_nil, List.length_cons, List.length_nil, List.nil_append, List.cons_append, List.replicate_succ, List.replicate_zero, Nat.reduceSub, Nat.reduceAdd, Nat.add_eq, Nat.zero_add, if_true, if_false, reduceIte, Bool.false_eq_true, Bool.not_true, Bool.not_false, Tg.asg, asgs, tupOf, decide_true, decide_false, ite_true, ite_false, oAdd_int, oSub_int, oLt_int, oLe_int, oGt_int, oGe_int, oEq_int, oNe_int, oEq_str, atI_0, atI_1, atI_2, atI_3, atI_4, ixN51, ixN52, ixN53, ixN54, gInt, gAbs, gMin, gMax, oIx_tup, oIx_lst, oIx_con, seqOf_tup, seqOf_lst, List.length_set, b_law_draw, oIx_loc hS, oMod_int hn, oDiv_int (cd _), hS, hc, h9, h10, oMod_int m3, gLen_seq seqOf_lst, List.length_map, sg, List.set_set, pw, oIx_loc (sg _), oMul_int (cm1 _), oMul_int (cm2 _), oMul_int (cm3 _), oMul_int (cm4 _), oMod_int m1, oMod_int m2]
          exact gc_put rfl (okC_pool _ { P with cnt := P.cnt + 1 })
        · simp only [eVar, eC, eBin, bBin, bVal, bAnd, bOr, bNot, eAnd, eOr, eNot, eIf, eNeg, eOrT, liftO_some, liftB_bl, liftG_some, liftP_some, R.bind, R.nox_ok, sB, aNil, aCons, sSeq, sSet, sIf, sRet, sRetN, sNext, sExpr, sAsg, sSub, sBrk, sCnt, eCb, pure1, eIsi, bYes, pNone, pSome, List.getElem?_cons_zero, List.getElem?_cons_succ, List.set_cons_zero, List.set_cons_succ, Option.map_some, Option.bind_some, List.map_cons, List.map_nil, List.length_cons, List.length_nil, List.nil_append, List.cons_append, List.replicate_succ, List.replicate_zero, Nat.reduceSub, Nat.reduceAdd, Nat.add_eq, Nat.zero_add, if_true, if_false, reduceIte, Bool.false_eq_true, Bool.not_true, Bool.not_false, Tg.asg, asgs, tupOf, decide_true, decide_false, ite_true, ite_false, oAdd_int, oSub_int, oLt_int, oLe_int, oGt_int, oGe_int, oEq_int, oNe_int, oEq_str, atI_0, atI_1, atI_2, atI_3, atI_4, ixN51, ixN52, ixN53, ixN54, gInt, gAbs, gMin, gMax, oIx_tup, oIx_lst, oIx_con, seqOf_tup, seqOf_lst, List.length_set, b_law_draw, oIx_loc hS, oMod_int hn, oDiv_int (cd _), hS, hc, h9, oMod_int m3, gLen_seq seqOf_lst, List.length_map, sg, List.set_set, pw, oIx_loc (sg _), oMul_int (cm1 _), oMul_int (cm2 _), oMul_int (cm3 _), oMul_int (cm4 _), oMod_int m1, oMod_int m2]
          exact gc_put rfl (okC_pool _ { P with cnt := P.cnt + 1 })
end Ev

namespace Ev
open PySem PySem.Spec PyProof.Rows L2
theorem pool_get {S : Sto} {p : Nat} (c : Cel) (h : p < S.length) : (S.set p c)[p]? = some c := set_get h
/-- what a def does that draws: it hands back v, the pool turns -/
def Turn1 (p : Nat) (S : Sto) (r : R D) (v : D) : Prop := ∃ P' : Pool, 0 ≤ P'.pos ∧ r = .ok v (S.set p (poolC P'))
theorem cost_spec {S : Sto} {p : Nat} {P : Pool} (hS : S[p]? = some (poolC P)) (h0 : 0 ≤ P.pos) : ∃ c : Nat, 1 ≤ c ∧ c ≤ 10000 ∧ Turn1 p S (f_law_cost [.loc p] S) (.int c) := by
  have hp : p < S.length := (List.getElem?_eq_some_iff.mp hS).1
  obtain ⟨r, P1, r0, r1, p1, e1⟩ := draw_spec (n := 8) hS h0 (by decide) (by decide)
  have hS1 := pool_get (poolC P1) hp
  unfold f_law_cost runF
  by_cases c0 : r = 0
  · obtain ⟨r2, P2, a0, a1, p2, e2⟩ := draw_spec (n := 10000) hS1 p1 (by decide) (by decide)
    refine ⟨(1 + r2).toNat, by omega, by omega, P2, p2, ?_⟩
    rw [Int.toNat_of_nonneg (by omega)]
    simp only [List.set_set] at e2
    simp only [eVar, eC, eBin, bBin, bVal, bAnd, bOr, bNot, eAnd, eOr, eNot, eIf, eNeg, eOrT, liftO_some, liftB_bl, liftG_some, liftP_some, R.bind, R.nox_ok, sB, aNil, aCons, sSeq, sSet, sIf, sRet, sRetN, sNext, sExpr, sAsg, sSub, sBrk, sCnt, eCb, pure1, eIsi, bYes, pNone, pSome, List.getElem?_cons_zero, List.getElem?_cons_succ, List.set_cons_zero, List.set_cons_succ, Option.map_some, Option.bind_some, List.map_cons, List.map_nil, List.length_cons, List.length_nil, List.nil_append, List.cons_append, List.replicate_succ, List.replicate_zero, Nat.reduceSub, Nat.reduceAdd, Nat.add_eq, Nat.zero_add, if_true, if_false, reduceIte, Bool.false_eq_true, Bool.not_true, Bool.not_false, Tg.asg, asgs, tupOf, decide_true, decide_false, ite_true, ite_false, oAdd_int, oSub_int, oLt_int, oLe_int, oGt_int, oGe_int, oEq_int, oNe_int, oEq_str, atI_0, atI_1, atI_2, atI_3, atI_4, ixN51, ixN52, ixN53, ixN54, gInt, gAbs, gMin, gMax, oIx_tup, oIx_lst, oIx_con, seqOf_tup, seqOf_lst, List.length_set, b_law_cost, eCall, e1, c0, e2]
    exact gc_put rfl (okC_pool _ P2)
  · by_cases c4 : r < 4
    · obtain ⟨r2, P2, a0, a1, p2, e2⟩ := draw_spec (n := 5) hS1 p1 (by decide) (by decide)
      simp only [List.set_set] at e2
      have key : ∀ (v : Nat), 1 ≤ v ∧ v ≤ 10000 → atI [D.int 1, .int 2, .int 2, .int 3, .int 4] r2 = some (.int v) → ∃ c : Nat, 1 ≤ c ∧ c ≤ 10000 ∧ Turn1 p S (match b_law_cost (List.map some [D.loc p] ++ List.replicate (2 - [D.loc p].length) none) S with
        | O.rt d S' => gc S d S'
        | O.nx ρ S' => gc S D.non S'
        | O.ex e ρ S' => R.ex e S'
        | x => R.no) (.int c) := by
        intro v hv hix
        refine ⟨v, hv.1, hv.2, P2, p2, ?_⟩
        have sl : (5 : Nat) ≤ sizeLine := sizeLine_ok (by decide)
        simp only [eVar, eC, eBin, bBin, bVal, bAnd, bOr, bNot, eAnd, eOr, eNot, eIf, eNeg, eOrT, liftO_some, liftB_bl, liftG_some, liftP_some, R.bind, R.nox_ok, sB, aNil, aCons, sSeq, sSet, sIf, sRet, sRetN, sNext, sExpr, sAsg, sSub, sBrk, sCnt, eCb, pure1, eIsi, bYes, pNone, pSome, List.getElem?_cons_zero, List.getElem?_cons_succ, List.set_cons_zero, List.set_cons_succ, Option.map_some, Option.bind_some, List.map_cons, List.map_nil, List.length_cons, List.length_nil, List.nil_append, List.cons_append, List.replicate_succ, List.replicate_zero, Nat.reduceSub, Nat.reduceAdd, Nat.add_eq, Nat.zero_add, if_true, if_false, reduceIte, Bool.false_eq_true, Bool.not_true, Bool.not_false, Tg.asg, asgs, tupOf, decide_true, decide_false, ite_true, ite_false, oAdd_int, oSub_int, oLt_int, oLe_int, oGt_int, oGe_int, oEq_int, oNe_int, oEq_str, atI_0, atI_1, atI_2, atI_3, atI_4, ixN51, ixN52, ixN53, ixN54, gInt, gAbs, gMin, gMax, oIx_tup, oIx_lst, oIx_con, seqOf_tup, seqOf_lst, List.length_set, b_law_cost, eCall, e1, c0, c4, e2, eLst, hix, sl]
        exact gc_put rfl (okC_pool _ P2)
      obtain h | h | h | h | h : r2 = 0 ∨ r2 = 1 ∨ r2 = 2 ∨ r2 = 3 ∨ r2 = 4 := by omega
      · exact key 1 (by decide) (by rw [h]; rfl)
      · exact key 2 (by decide) (by rw [h]; rfl)
      · exact key 2 (by decide) (by rw [h]; rfl)
      · exact key 3 (by decide) (by rw [h]; rfl)
      · exact key 4 (by decide) (by rw [h]; rfl)
    · obtain ⟨r2, P2, a0, a1, p2, e2⟩ := draw_spec (n := 12) hS1 p1 (by decide) (by decide)
      refine ⟨(1 + r2).toNat, by omega, by omega, P2, p2, ?_⟩
      rw [Int.toNat_of_nonneg (by omega)]
      simp only [List.set_set] at e2
      simp only [eVar, eC, eBin, bBin, bVal, bAnd, bOr, bNot, eAnd, eOr, eNot, eIf, eNeg, eOrT, liftO_some, liftB_bl, liftG_some, liftP_some, R.bind, R.nox_ok, sB, aNil, aCons, sSeq, sSet, sIf, sRet, sRetN, sNext, sExpr, sAsg, sSub, sBrk, sCnt, eCb, pure1, eIsi, bYes, pNone, pSome, List.getElem?_cons_zero, List.getElem?_cons_succ, List.set_cons_zero, List.set_cons_succ, Option.map_some, Option.bind_some, List.map_cons, List.map_nil, List.length_cons, List.length_nil, List.nil_append, List.cons_append, List.replicate_succ, List.replicate_zero, Nat.reduceSub, Nat.reduceAdd, Nat.add_eq, Nat.zero_add, if_true, if_false, reduceIte, Bool.false_eq_true, Bool.not_true, Bool.not_false, Tg.asg, asgs, tupOf, decide_true, decide_false, ite_true, ite_false, oAdd_int, oSub_int, oLt_int, oLe_int, oGt_int, oGe_int, oEq_int, oNe_int, oEq_str, atI_0, atI_1, atI_2, atI_3, atI_4, ixN51, ixN52, ixN53, ixN54, gInt, gAbs, gMin, gMax, oIx_tup, oIx_lst, oIx_con, seqOf_tup, seqOf_lst, List.length_set, b_law_cost, eCall, e1, c0, c4, e2]
      exact gc_put rfl (okC_pool _ P2)
/-! ### nets -/
structure Way where
  a : Nat
  b : Nat
  c : Nat
def wayD (w : Way) : D := .tup [.int w.a, .int w.b, .int w.c]
def Way.Ok (n : Nat) (w : Way) : Prop := w.a < w.b ∧ w.b < n ∧ 1 ≤ w.c ∧ w.c ≤ 10000
structure Net where
  n : Nat
  ways : List Way
def netD (N : Net) : D := .tup [.int N.n, .tup (N.ways.map wayD)]
structure Net.Ok (most bound : Nat) (N : Net) : Prop where
  n1 : 1 ≤ N.n
  n2 : N.n ≤ most
  len : N.ways.length ≤ bound
  ways : ∀ w ∈ N.ways, w.Ok N.n
theorem way_spec {S : Sto} {p : Nat} {P : Pool} {n : Nat} (hS : S[p]? = some (poolC P)) (h0 : 0 ≤ P.pos) (hn : 2 ≤ n) (hn2 : n ≤ 1000) : ∃ w : Way, w.Ok n ∧ Turn1 p S (f_law_way [.loc p, .int n] S) (wayD w) := by
  have hp : p < S.length := (List.getElem?_eq_some_iff.mp hS).1
  obtain ⟨r, P1, r0, r1, p1, e1⟩ := draw_spec (n := (n : Int) - 1) hS h0 (by omega) (by omega)
  obtain ⟨r2, P2, a0, a1, p2, e2⟩ := draw_spec (n := (n : Int) - 1 - r) (pool_get (poolC P1) hp) p1 (by omega) (by omega)
  simp only [List.set_set] at e2
  obtain ⟨c, c1, c2, P3, p3, e3⟩ := cost_spec (pool_get (poolC P2) hp) p2
  simp only [List.set_set] at e3
  refine ⟨⟨r.toNat, (r + 1 + r2).toNat, c⟩, ⟨by show r.toNat < (r + 1 + r2).toNat; omega, by show (r + 1 + r2).toNat < n; omega, c1, c2⟩, P3, p3, ?_⟩
  unfold f_law_way runF wayD
  rw [Int.toNat_of_nonneg r0, Int.toNat_of_nonneg (by omega)]
  have sl : (3 : Nat) ≤ sizeLine := sizeLine_ok (by decide)
  simp only [eVar, eC, eBin, bBin, bVal, bAnd, bOr, bNot, eAnd, eOr, eNot, eIf, eNeg, eOrT, liftO_some, liftB_bl, liftG_some, liftP_some, R.bind, R.nox_ok, sB, aNil, aCons, sSeq, sSet, sIf, sRet, sRetN, sNext, sExpr, sAsg, sSub, sBrk, sCnt, eCb, pure1, eIsi, bYes, pNone, pSome, List.getElem?_cons_zero, List.getElem?_cons_succ, List.set_cons_zero, List.set_cons_succ, Option.map_some, Option.bind_some, List.map_cons, List.map_nil, List.length_cons, List.length_nil, List.nil_append, List.cons_append, List.replicate_succ, List.replicate_zero, Nat.reduceSub, Nat.reduceAdd, Nat.add_eq, Nat.zero_add, if_true, if_false, reduceIte, Bool.false_eq_true, Bool.not_true, Bool.not_false, Tg.asg, asgs, tupOf, decide_true, decide_false, ite_true, ite_false, oAdd_int, oSub_int, oLt_int, oLe_int, oGt_int, oGe_int, oEq_int, oNe_int, oEq_str, atI_0, atI_1, atI_2, atI_3, atI_4, ixN51, ixN52, ixN53, ixN54, gInt, gAbs, gMin, gMax, oIx_tup, oIx_lst, oIx_con, seqOf_tup, seqOf_lst, List.length_set, b_law_way, eCall, e1, e2, e3, eTup, sl]
  exact gc_put rfl (okC_pool _ P3)
theorem okDs_ways (k : Nat) (ws : List Way) : okDs k (ws.map wayD) = true := by
  induction ws with
  | nil => rfl
  | cons w ws ih => simp only [List.map_cons, okDs, wayD, okD, ih, Bool.and_self]
theorem okD_net (k : Nat) (N : Net) : okD k (netD N) = true := by simp only [netD, okD, okDs, okDs_ways, Bool.and_self]
end Ev

namespace Ev
open PySem PySem.Spec PyProof.Rows L2
theorem draw1 {T : Sto} {P : Pool} {n : Int} (h0 : 0 ≤ P.pos) (hn : 0 < n) (hn2 : n < 1073741824) :
    ∃ r P', 0 ≤ r ∧ r < n ∧ 0 ≤ P'.pos ∧ f_law_draw [.loc 0, .int n] (poolC P :: T) = .ok (.int r) (poolC P' :: T) := by
  obtain ⟨r, P', a, b, c, d⟩ := draw_spec (S := poolC P :: T) (p := 0) rfl h0 hn hn2
  exact ⟨r, P', a, b, c, d⟩
theorem cost1 {T : Sto} {P : Pool} (h0 : 0 ≤ P.pos) : ∃ (c : Nat) (P' : Pool), 1 ≤ c ∧ c ≤ 10000 ∧ 0 ≤ P'.pos ∧ f_law_cost [.loc 0] (poolC P :: T) = .ok (.int c) (poolC P' :: T) := by
  obtain ⟨c, a, b, P', d, e⟩ := cost_spec (S := poolC P :: T) (p := 0) rfl h0
  exact ⟨c, P', a, b, d, e⟩
theorem way1 {T : Sto} {P : Pool} {n : Nat} (h0 : 0 ≤ P.pos) (hn : 2 ≤ n) (hn2 : n ≤ 1000) : ∃ (w : Way) (P' : Pool), w.Ok n ∧ 0 ≤ P'.pos ∧ f_law_way [.loc 0, .int n] (poolC P :: T) = .ok (wayD w) (poolC P' :: T) := by
  obtain ⟨w, a, P', d, e⟩ := way_spec (S := poolC P :: T) (p := 0) rfl h0 hn hn2
  exact ⟨w, P', a, d, e⟩
def netEnv (most W n : Nat) (x5 x6 : Option D) : En := [some (.loc 0), some (.int most), some (.int W), some (.int n), some (.loc 1), x5, x6]
def NetI (most W n : Nat) (ρ : En) (S : Sto) (fs : List Way) : Prop := ∃ (P : Pool) (x5 x6 : Option D), 0 ≤ P.pos ∧ ρ = netEnv most W n x5 x6 ∧ S = [poolC P, .lst (fs.map wayD)] ∧ ∀ w ∈ fs, w.Ok n
theorem sizeLine_lt {n : Nat} (h : n ≤ 1000) : n < sizeLine := by rw [sizeLine_eq]; omega
theorem loopTree {most W n : Nat} (hn : 2 ≤ n) (hn2 : n ≤ 12) {P : Pool} (h0 : 0 ≤ P.pos) {x5 x6 : Option D} :
    ∃ ρ' S' fs, forGo ⟨rngD 1 (n - 1), none⟩ (.nm 5) (sExpr (eLm mAppend (eVar 4) (aCons (eTup (aCons (eCall 2 f_law_draw (aCons (eVar 0) (aCons (eVar 5) aNil))) (aCons (eVar 5) (aCons (eCall 1 f_law_cost (aCons (eVar 0) aNil)) aNil)))) aNil)))
      (rngD 1 (n - 1)) (netEnv most W n x5 x6) [poolC P, .lst []] = .nx ρ' S' ∧ NetI most W n ρ' S' fs ∧ fs.length = n - 1 := by
  have key := forGo_v (items := rngD 1 (n - 1)) (tg := .nm 5) (b := (sExpr (eLm mAppend (eVar 4) (aCons (eTup (aCons (eCall 2 f_law_draw (aCons (eVar 0) (aCons (eVar 5) aNil))) (aCons (eVar 5) (aCons (eCall 1 f_law_cost (aCons (eVar 0) aNil)) aNil)))) aNil))))
    (fun j ρ S => ∃ fs, NetI most W n ρ S fs ∧ fs.length = j) (ρ := netEnv most W n x5 x6) (S := [poolC P, .lst []]) ⟨[], ⟨P, x5, x6, h0, rfl, rfl, by simp⟩, rfl⟩ (by
    rintro j d ρ S hd ⟨fs, ⟨P, y5, y6, p0, rfl, rfl, hf⟩, hl⟩
    obtain ⟨hj, rfl⟩ := rngD_get hd
    obtain ⟨r, P1, r0, r1, p1, e1⟩ := draw1 (T := [.lst (fs.map wayD)]) (n := 1 + (j : Int)) p0 (by omega) (by omega)
    obtain ⟨c, P2, c1, c2, p2, e2⟩ := cost1 (T := [.lst (fs.map wayD)]) p1
    have sl : (3 : Nat) ≤ sizeLine := sizeLine_ok (by decide)
    have sl2 : (fs.map wayD).length < sizeLine := sizeLine_lt (by simp; omega)
    refine ⟨_, netEnv most W n (some (.int (1 + (j : Int)))) y6, [poolC P2, .lst ((fs ++ [(⟨r.toNat, j + 1, c⟩ : Way)]).map wayD)], rfl, .inl ?_, fs ++ [(⟨r.toNat, j + 1, c⟩ : Way)], ?_, by simp [hl]⟩
    · unfold netEnv
      simp only [eVar, eC, eBin, bBin, bVal, bAnd, bOr, bNot, eAnd, eOr, eNot, eIf, eNeg, eOrT, liftO_some, liftB_bl, liftG_some, liftP_some, R.bind, R.nox_ok, sB, aNil, aCons, sSeq, sSet, sIf, sRet, sRetN, sNext, sExpr, sAsg, sSub, sBrk, sCnt, eCb, pure1, eIsi, bYes, pNone, pSome, List.getElem?_cons_zero, List.getElem?_cons_succ, List.set_cons_zero, List.set_cons_succ, Option.map_some, Option.bind_some, List.map_cons, List.map_nil, List.length_cons, List.length_nil, List.nil_append, List.cons_append, List.replicate_succ, List.replicate_zero, Nat.reduceSub, Nat.reduceAdd, Nat.add_eq, Nat.zero_add, if_true, if_false, reduceIte, Bool.false_eq_true, Bool.not_true, Bool.not_false, Tg.asg, asgs, tupOf, decide_true, decide_false, ite_true, ite_false, oAdd_int, oSub_int, oLt_int, oLe_int, oGt_int, oGe_int, oEq_int, oNe_int, oEq_str, atI_0, atI_1, atI_2, atI_3, atI_4, ixN51, ixN52, ixN53, ixN54, gInt, gAbs, gMin, gMax, oIx_tup, oIx_lst, oIx_con, seqOf_tup, seqOf_lst, List.length_set, eLm, isLst, lstOf, lstX, Option.isSome_some, eCall, e1, e2, eTup, sl, mAppend, sl2]
      simp only [List.map_append, List.map_cons, List.map_nil, wayD]
      rw [Int.toNat_of_nonneg r0, show (1 + (j : Int)) = ((j + 1 : Nat) : Int) by omega]
    · refine ⟨P2, _, _, p2, rfl, rfl, fun w hw => ?_⟩
      rcases List.mem_append.mp hw with z | z
      · exact hf w z
      · have : w = ⟨r.toNat, j + 1, c⟩ := by simpa using z
        subst this
        exact ⟨by show r.toNat < j + 1; omega, by show j + 1 < n; omega, c1, c2⟩)
  obtain ⟨ρ', S', h1, fs, h2, h3⟩ := key
  exact ⟨ρ', S', fs, h1, h2, by simpa using h3⟩

theorem loopMore {most W n k : Nat} (hn : 2 ≤ n) (hn2 : n ≤ 12) {ρ : En} {S : Sto} {fs : List Way} (h : NetI most W n ρ S fs) (hk : fs.length + k ≤ 500) :
    ∃ ρ' S' fs', forGo ⟨rngD 0 k, none⟩ (.nm 6) (sExpr (eLm mInsert (eVar 4) (aCons (eCall 2 f_law_draw (aCons (eVar 0) (aCons (eBin oAdd (eCb (pure1 gLen) (aCons (eVar 4) aNil)) (eC (.int 1))) aNil))) (aCons (eCall 2 f_law_way (aCons (eVar 0) (aCons (eVar 3) aNil))) aNil))))
      (rngD 0 k) ρ S = .nx ρ' S' ∧ NetI most W n ρ' S' fs' ∧ fs'.length = fs.length + k := by
  have key := forGo_v (items := rngD 0 k) (tg := .nm 6) (b := (sExpr (eLm mInsert (eVar 4) (aCons (eCall 2 f_law_draw (aCons (eVar 0) (aCons (eBin oAdd (eCb (pure1 gLen) (aCons (eVar 4) aNil)) (eC (.int 1))) aNil))) (aCons (eCall 2 f_law_way (aCons (eVar 0) (aCons (eVar 3) aNil))) aNil)))))
    (fun j ρ S => ∃ fs', NetI most W n ρ S fs' ∧ fs'.length = fs.length + j ∧ j ≤ k) (ρ := ρ) (S := S) ⟨fs, h, rfl, Nat.zero_le _⟩ (by
    rintro j d ρ S hd ⟨fs, ⟨P, y5, y6, p0, rfl, rfl, hf⟩, hl, hjk⟩
    obtain ⟨hj, rfl⟩ := rngD_get hd
    obtain ⟨r, P1, r0, r1, p1, e1⟩ := draw1 (T := [.lst (fs.map wayD)]) (n := (fs.length : Int) + 1) p0 (by omega) (by omega)
    obtain ⟨wy, P2, c1, p2, e2⟩ := way1 (T := [.lst (fs.map wayD)]) (n := n) p1 hn (by omega)
    have sl2 : (fs.map wayD).length < sizeLine ∧ 0 ≤ r ∧ r < 2 ^ 63 := ⟨sizeLine_lt (by simp; omega), r0, by omega⟩
    refine ⟨_, netEnv most W n y5 (some (.int (0 + (j : Int)))), [poolC P2, .lst ((fs.take r.toNat ++ [wy] ++ fs.drop r.toNat).map wayD)], rfl, .inl ?_, fs.take r.toNat ++ [wy] ++ fs.drop r.toNat, ?_, by simp; omega, hj⟩
    · unfold netEnv
      simp only [eVar, eC, eBin, bBin, bVal, bAnd, bOr, bNot, eAnd, eOr, eNot, eIf, eNeg, eOrT, liftO_some, liftB_bl, liftG_some, liftP_some, R.bind, R.nox_ok, sB, aNil, aCons, sSeq, sSet, sIf, sRet, sRetN, sNext, sExpr, sAsg, sSub, sBrk, sCnt, eCb, pure1, eIsi, bYes, pNone, pSome, List.getElem?_cons_zero, List.getElem?_cons_succ, List.set_cons_zero, List.set_cons_succ, Option.map_some, Option.bind_some, List.map_cons, List.map_nil, List.length_cons, List.length_nil, List.nil_append, List.cons_append, List.replicate_succ, List.replicate_zero, Nat.reduceSub, Nat.reduceAdd, Nat.add_eq, Nat.zero_add, if_true, if_false, reduceIte, Bool.false_eq_true, Bool.not_true, Bool.not_false, Tg.asg, asgs, tupOf, decide_true, decide_false, ite_true, ite_false, oAdd_int, oSub_int, oLt_int, oLe_int, oGt_int, oGe_int, oEq_int, oNe_int, oEq_str, atI_0, atI_1, atI_2, atI_3, atI_4, ixN51, ixN52, ixN53, ixN54, gInt, gAbs, gMin, gMax, oIx_tup, oIx_lst, oIx_con, seqOf_tup, seqOf_lst, List.length_set, eLm, isLst, lstOf, lstX, Option.isSome_some, eCall, gLen_seq (seqOf_loc (S := [poolC P, .lst (fs.map wayD)]) (n := 1) rfl), List.length_map, e1, e2, mInsert]
      rw [List.length_map] at sl2
      rw [if_pos sl2]
      simp only [List.map_append, List.map_cons, List.map_nil, List.map_take, List.map_drop]
      rfl
    · refine ⟨P2, _, _, p2, rfl, rfl, fun w hw => ?_⟩
      rcases List.mem_append.mp hw with z | z
      · rcases List.mem_append.mp z with z | z
        · exact hf w (List.mem_of_mem_take z)
        · have : w = wy := by simpa using z
          subst this
          exact c1
      · exact hf w (List.mem_of_mem_drop z))
  obtain ⟨ρ', S', h1, fs', h2, h3⟩ := key
  exact ⟨ρ', S', fs', h1, h2, by simpa using h3.1⟩

theorem net_fin {most W n : Nat} (n1 : 1 ≤ n) (n2 : n ≤ most) : ∀ (ρ : En) (S : Sto) (fs : List Way), NetI most W n ρ S fs → ∃ (N : Net) (P' : Pool), N.Ok most W ∧ 0 ≤ P'.pos ∧ ∃ T, sRet (eTup (aCons (eVar 3) (aCons (eCb (pure1 gTuple) (aCons (eSl false (eVar 4) pNone (pSome (eVar 2))) aNil)) aNil))) ρ S = .rt (netD N) ([poolC P'] ++ T) := by
  rintro ρ S fs ⟨P, y5, y6, q0, rfl, rfl, hf⟩
  have sl : (2 : Nat) ≤ sizeLine := sizeLine_ok (by decide)
  have hcut : cutD (fs.map wayD) none (some (W : Int)) = (fs.take W).map wayD := by
    unfold cutD
    rw [HT.sIx_none, show HT.sIx (fs.map wayD).length (fs.map wayD).length (some (W : Int)) = min W (fs.map wayD).length from HT.sIx_nat _ _ _, List.drop_zero, Nat.sub_zero, List.map_take]
    exact (List.take_eq_take_min).symm
  refine ⟨⟨n, fs.take W⟩, P, ⟨n1, n2, by simp; omega, fun w hw => hf w (List.mem_of_mem_take hw)⟩, q0, [.lst (fs.map wayD)], ?_⟩
  unfold netEnv
  simp only [eVar, eC, eBin, bBin, bVal, bAnd, bOr, bNot, eAnd, eOr, eNot, eIf, eNeg, eOrT, liftO_some, liftB_bl, liftG_some, liftP_some, R.bind, R.nox_ok, sB, aNil, aCons, sSeq, sSet, sIf, sRet, sRetN, sNext, sExpr, sAsg, sSub, sBrk, sCnt, eCb, pure1, eIsi, bYes, pNone, pSome, List.getElem?_cons_zero, List.getElem?_cons_succ, List.set_cons_zero, List.set_cons_succ, Option.map_some, Option.bind_some, List.map_cons, List.map_nil, List.length_cons, List.length_nil, List.nil_append, List.cons_append, List.replicate_succ, List.replicate_zero, Nat.reduceSub, Nat.reduceAdd, Nat.add_eq, Nat.zero_add, if_true, if_false, reduceIte, Bool.false_eq_true, Bool.not_true, Bool.not_false, Tg.asg, asgs, tupOf, decide_true, decide_false, ite_true, ite_false, oAdd_int, oSub_int, oLt_int, oLe_int, oGt_int, oGe_int, oEq_int, oNe_int, oEq_str, atI_0, atI_1, atI_2, atI_3, atI_4, ixN51, ixN52, ixN53, ixN54, gInt, gAbs, gMin, gMax, oIx_tup, oIx_lst, oIx_con, seqOf_tup, seqOf_lst, List.length_set, eSl, oSl, lstOf, lstX, hcut, gTuple, eTup, sl]
  rfl
theorem net_tail {most W n : Nat} (hm2 : most ≤ 12) (hW : W ≤ 24) (n1 : 1 ≤ n) (n2 : n ≤ most) : ∀ (P : Pool) (x5 x6 : Option D) (fs : List Way), 0 ≤ P.pos → (∀ w ∈ fs, w.Ok n) → fs.length ≤ 12 → (n < 2 → fs = []) →
      ∃ (N : Net) (P' : Pool), N.Ok most W ∧ 0 ≤ P'.pos ∧ ∃ T, (sSeq (sIf (bBin oGt (eVar 3) (eC (.int 1))) (sFor (iRng1D (aCons (eCall 2 f_law_draw (aCons (eVar 0) (aCons (eBin oSub (eBin oAdd (eVar 2) (eC (.int 1))) (eCb (pure1 gMin) (aCons (eVar 2) (aCons (eCb (pure1 gLen) (aCons (eVar 4) aNil)) aNil)))) aNil))) aNil)) (.nm 6) (sExpr (eLm mInsert (eVar 4) (aCons (eCall 2 f_law_draw (aCons (eVar 0) (aCons (eBin oAdd (eCb (pure1 gLen) (aCons (eVar 4) aNil)) (eC (.int 1))) aNil))) (aCons (eCall 2 f_law_way (aCons (eVar 0) (aCons (eVar 3) aNil))) aNil))))) sNext)
    (sRet (eTup (aCons (eVar 3) (aCons (eCb (pure1 gTuple) (aCons (eSl false (eVar 4) pNone (pSome (eVar 2))) aNil)) aNil))))) (netEnv most W n x5 x6) [poolC P, .lst (fs.map wayD)] = .rt (netD N) ([poolC P'] ++ T) := by
  intro P x5 x6 fs p0 hf hl12 hnil
  have fin := net_fin (most := most) (W := W) n1 n2
  by_cases h2 : n < 2
  · have := hnil h2
    subst this
    obtain ⟨N, P', a, b, T, e⟩ := fin _ _ [] ⟨P, x5, x6, p0, rfl, rfl, by simp⟩
    refine ⟨N, P', a, b, T, ?_⟩
    rw [← e]
    have hng : ¬ (1 : Int) < n := by omega
    unfold netEnv
    simp only [eVar, eC, eBin, bBin, bVal, bAnd, bOr, bNot, eAnd, eOr, eNot, eIf, eNeg, eOrT, liftO_some, liftB_bl, liftG_some, liftP_some, R.bind, R.nox_ok, sB, aNil, aCons, sSeq, sSet, sIf, sRet, sRetN, sNext, sExpr, sAsg, sSub, sBrk, sCnt, eCb, pure1, eIsi, bYes, pNone, pSome, List.getElem?_cons_zero, List.getElem?_cons_succ, List.set_cons_zero, List.set_cons_succ, Option.map_some, Option.bind_some, List.map_cons, List.map_nil, List.length_cons, List.length_nil, List.nil_append, List.cons_append, List.replicate_succ, List.replicate_zero, Nat.reduceSub, Nat.reduceAdd, Nat.add_eq, Nat.zero_add, if_true, if_false, reduceIte, Bool.false_eq_true, Bool.not_true, Bool.not_false, Tg.asg, asgs, tupOf, decide_true, decide_false, ite_true, ite_false, oAdd_int, oSub_int, oLt_int, oLe_int, oGt_int, oGe_int, oEq_int, oNe_int, oEq_str, atI_0, atI_1, atI_2, atI_3, atI_4, ixN51, ixN52, ixN53, ixN54, gInt, gAbs, gMin, gMax, oIx_tup, oIx_lst, oIx_con, seqOf_tup, seqOf_lst, List.length_set, hng]
  · have hg : (1 : Int) < n := by omega
    obtain ⟨k, P2, k0, k1, p2, e2⟩ := draw1 (T := [.lst (fs.map wayD)]) (n := (W : Int) + 1 - (if (fs.length : Int) < W then (fs.length : Int) else W)) p0 (by split <;> omega) (by split <;> omega)
    obtain ⟨ρ', S', fs', g1, g2, g3⟩ := loopMore (most := most) (W := W) (k := k.toNat) (by omega) (by omega) ⟨P2, x5, x6, p2, rfl, rfl, hf⟩ (by split at k1 <;> omega)
    obtain ⟨N, P', a, b, T, e⟩ := fin _ _ fs' g2
    refine ⟨N, P', a, b, T, ?_⟩
    rw [← e]
    have hb : big62 k = true := decide_eq_true (by split at k1 <;> omega)
    unfold netEnv at g1 ⊢
    have hlen := gLen_seq (seqOf_loc (S := [poolC P, .lst (fs.map wayD)]) (n := 1) rfl)
    rw [List.length_map] at hlen
    simp only [eVar, eC, eBin, bBin, bVal, bAnd, bOr, bNot, eAnd, eOr, eNot, eIf, eNeg, eOrT, liftO_some, liftB_bl, liftG_some, liftP_some, R.bind, R.nox_ok, sB, aNil, aCons, sSeq, sSet, sIf, sRet, sRetN, sNext, sExpr, sAsg, sSub, sBrk, sCnt, eCb, pure1, eIsi, bYes, pNone, pSome, List.getElem?_cons_zero, List.getElem?_cons_succ, List.set_cons_zero, List.set_cons_succ, Option.map_some, Option.bind_some, List.map_cons, List.map_nil, List.length_cons, List.length_nil, List.nil_append, List.cons_append, List.replicate_succ, List.replicate_zero, Nat.reduceSub, Nat.reduceAdd, Nat.add_eq, Nat.zero_add, if_true, if_false, reduceIte, Bool.false_eq_true, Bool.not_true, Bool.not_false, Tg.asg, asgs, tupOf, decide_true, decide_false, ite_true, ite_false, oAdd_int, oSub_int, oLt_int, oLe_int, oGt_int, oGe_int, oEq_int, oNe_int, oEq_str, atI_0, atI_1, atI_2, atI_3, atI_4, ixN51, ixN52, ixN53, ixN54, gInt, gAbs, gMin, gMax, oIx_tup, oIx_lst, oIx_con, seqOf_tup, seqOf_lst, List.length_set, hg, sFor, iRng1D, eCall, hlen, e2, hb, g1]
end Ev

namespace Ev
open PySem PySem.Spec PyProof.Rows L2
theorem net_gc (P : Pool) (N : Net) (P' : Pool) (T : Sto) : gc [poolC P] (netD N) ([poolC P'] ++ T) = .ok (netD N) [poolC P'] := gc_put_app (S := [poolC P]) (p := 0) (c := poolC P') (T := T) (okD_net _ N) (okC_pool _ P')
theorem net_s1 {most W n : Nat} {P P1 : Pool} {r : Int} (hn : (n : Int) = 1 + r) (e1 : f_law_draw [.loc 0, .int most] [poolC P] = .ok (.int r) [poolC P1]) : (sSet 3 (eBin oAdd (eC (.int 1)) (eCall 2 f_law_draw (aCons (eVar 0) (aCons (eVar 1) aNil))))) [some (.loc 0), some (.int most), some (.int W), none, none, none, none] [poolC P] = .nx [some (.loc 0), some (.int most), some (.int W), some (.int n), none, none, none] [poolC P1] := by
    simp only [eVar, eC, eBin, bBin, bVal, bAnd, bOr, bNot, eAnd, eOr, eNot, eIf, eNeg, eOrT, liftO_some, liftB_bl, liftG_some, liftP_some, R.bind, R.nox_ok, sB, aNil, aCons, sSeq, sSet, sIf, sRet, sRetN, sNext, sExpr, sAsg, sSub, sBrk, sCnt, eCb, pure1, eIsi, bYes, pNone, pSome, List.getElem?_cons_zero, List.getElem?_cons_succ, List.set_cons_zero, List.set_cons_succ, Option.map_some, Option.bind_some, List.map_cons, List.map_nil, List.length_cons, List.length_nil, List.nil_append, List.cons_append, List.replicate_succ, List.replicate_zero, Nat.reduceSub, Nat.reduceAdd, Nat.add_eq, Nat.zero_add, if_true, if_false, reduceIte, Bool.false_eq_true, Bool.not_true, Bool.not_false, Tg.asg, asgs, tupOf, decide_true, decide_false, ite_true, ite_false, oAdd_int, oSub_int, oLt_int, oLe_int, oGt_int, oGe_int, oEq_int, oNe_int, oEq_str, atI_0, atI_1, atI_2, atI_3, atI_4, ixN51, ixN52, ixN53, ixN54, gInt, gAbs, gMin, gMax, oIx_tup, oIx_lst, oIx_con, seqOf_tup, seqOf_lst, List.length_set, eCall, e1]
    rw [hn]
theorem net_s2 {most W n : Nat} {P1 : Pool} : (sSet 4 (eLstA aNil)) [some (.loc 0), some (.int most), some (.int W), some (.int n), none, none, none] [poolC P1] = .nx (netEnv most W n none none) [poolC P1, .lst []] := by
    unfold netEnv
    simp only [eVar, eC, eBin, bBin, bVal, bAnd, bOr, bNot, eAnd, eOr, eNot, eIf, eNeg, eOrT, liftO_some, liftB_bl, liftG_some, liftP_some, R.bind, R.nox_ok, sB, aNil, aCons, sSeq, sSet, sIf, sRet, sRetN, sNext, sExpr, sAsg, sSub, sBrk, sCnt, eCb, pure1, eIsi, bYes, pNone, pSome, List.getElem?_cons_zero, List.getElem?_cons_succ, List.set_cons_zero, List.set_cons_succ, Option.map_some, Option.bind_some, List.map_cons, List.map_nil, List.length_cons, List.length_nil, List.nil_append, List.cons_append, List.replicate_succ, List.replicate_zero, Nat.reduceSub, Nat.reduceAdd, Nat.add_eq, Nat.zero_add, if_true, if_false, reduceIte, Bool.false_eq_true, Bool.not_true, Bool.not_false, Tg.asg, asgs, tupOf, decide_true, decide_false, ite_true, ite_false, oAdd_int, oSub_int, oLt_int, oLe_int, oGt_int, oGe_int, oEq_int, oNe_int, oEq_str, atI_0, atI_1, atI_2, atI_3, atI_4, ixN51, ixN52, ixN53, ixN54, gInt, gAbs, gMin, gMax, oIx_tup, oIx_lst, oIx_con, seqOf_tup, seqOf_lst, List.length_set, eLstA, Nat.zero_le]
theorem net_s3a {most W n : Nat} {P1 : Pool} (hng : ¬ (1 : Int) < n) (g : SF) : (sIf (bAnd (bBin oGt (eVar 3) (eC (.int 1))) (bBin oGt (eCall 2 f_law_draw (aCons (eVar 0) (aCons (eC (.int 5)) aNil))) (eC (.int 0)))) g sNext) (netEnv most W n none none) [poolC P1, .lst []] = .nx (netEnv most W n none none) [poolC P1, .lst []] := by
      unfold netEnv
      simp only [eVar, eC, eBin, bBin, bVal, bAnd, bOr, bNot, eAnd, eOr, eNot, eIf, eNeg, eOrT, liftO_some, liftB_bl, liftG_some, liftP_some, R.bind, R.nox_ok, sB, aNil, aCons, sSeq, sSet, sIf, sRet, sRetN, sNext, sExpr, sAsg, sSub, sBrk, sCnt, eCb, pure1, eIsi, bYes, pNone, pSome, List.getElem?_cons_zero, List.getElem?_cons_succ, List.set_cons_zero, List.set_cons_succ, Option.map_some, Option.bind_some, List.map_cons, List.map_nil, List.length_cons, List.length_nil, List.nil_append, List.cons_append, List.replicate_succ, List.replicate_zero, Nat.reduceSub, Nat.reduceAdd, Nat.add_eq, Nat.zero_add, if_true, if_false, reduceIte, Bool.false_eq_true, Bool.not_true, Bool.not_false, Tg.asg, asgs, tupOf, decide_true, decide_false, ite_true, ite_false, oAdd_int, oSub_int, oLt_int, oLe_int, oGt_int, oGe_int, oEq_int, oNe_int, oEq_str, atI_0, atI_1, atI_2, atI_3, atI_4, ixN51, ixN52, ixN53, ixN54, gInt, gAbs, gMin, gMax, oIx_tup, oIx_lst, oIx_con, seqOf_tup, seqOf_lst, List.length_set, hng]
theorem net_s3b {most W n : Nat} {P1 P2 : Pool} {q : Int} (hg : (1 : Int) < n) (e2 : f_law_draw [.loc 0, .int 5] [poolC P1, .lst []] = .ok (.int q) [poolC P2, .lst []]) (hq : ¬ 0 < q) (g : SF) : (sIf (bAnd (bBin oGt (eVar 3) (eC (.int 1))) (bBin oGt (eCall 2 f_law_draw (aCons (eVar 0) (aCons (eC (.int 5)) aNil))) (eC (.int 0)))) g sNext) (netEnv most W n none none) [poolC P1, .lst []] = .nx (netEnv most W n none none) [poolC P2, .lst []] := by
        unfold netEnv
        simp only [eVar, eC, eBin, bBin, bVal, bAnd, bOr, bNot, eAnd, eOr, eNot, eIf, eNeg, eOrT, liftO_some, liftB_bl, liftG_some, liftP_some, R.bind, R.nox_ok, sB, aNil, aCons, sSeq, sSet, sIf, sRet, sRetN, sNext, sExpr, sAsg, sSub, sBrk, sCnt, eCb, pure1, eIsi, bYes, pNone, pSome, List.getElem?_cons_zero, List.getElem?_cons_succ, List.set_cons_zero, List.set_cons_succ, Option.map_some, Option.bind_some, List.map_cons, List.map_nil, List.length_cons, List.length_nil, List.nil_append, List.cons_append, List.replicate_succ, List.replicate_zero, Nat.reduceSub, Nat.reduceAdd, Nat.add_eq, Nat.zero_add, if_true, if_false, reduceIte, Bool.false_eq_true, Bool.not_true, Bool.not_false, Tg.asg, asgs, tupOf, decide_true, decide_false, ite_true, ite_false, oAdd_int, oSub_int, oLt_int, oLe_int, oGt_int, oGe_int, oEq_int, oNe_int, oEq_str, atI_0, atI_1, atI_2, atI_3, atI_4, ixN51, ixN52, ixN53, ixN54, gInt, gAbs, gMin, gMax, oIx_tup, oIx_lst, oIx_con, seqOf_tup, seqOf_lst, List.length_set, hg, eCall, e2, hq]
theorem net_s3c {most W n : Nat} {P1 P2 P3 : Pool} {x5 x6 : Option D} {fs : List Way} {q : Int} (hg : (1 : Int) < n) (hn2 : n ≤ 12) (e2 : f_law_draw [.loc 0, .int 5] [poolC P1, .lst []] = .ok (.int q) [poolC P2, .lst []]) (hq : 0 < q)
    (g1 : forGo ⟨rngD 1 (n - 1), none⟩ (.nm 5) (sExpr (eLm mAppend (eVar 4) (aCons (eTup (aCons (eCall 2 f_law_draw (aCons (eVar 0) (aCons (eVar 5) aNil))) (aCons (eVar 5) (aCons (eCall 1 f_law_cost (aCons (eVar 0) aNil)) aNil)))) aNil)))
      (rngD 1 (n - 1)) (netEnv most W n none none) [poolC P2, .lst []] = .nx (netEnv most W n x5 x6) [poolC P3, .lst (fs.map wayD)]) :
    (sIf (bAnd (bBin oGt (eVar 3) (eC (.int 1))) (bBin oGt (eCall 2 f_law_draw (aCons (eVar 0) (aCons (eC (.int 5)) aNil))) (eC (.int 0)))) (sFor (iRng2D (aCons (eC (.int 1)) (aCons (eVar 3) aNil))) (.nm 5) (sExpr (eLm mAppend (eVar 4) (aCons (eTup (aCons (eCall 2 f_law_draw (aCons (eVar 0) (aCons (eVar 5) aNil))) (aCons (eVar 5) (aCons (eCall 1 f_law_cost (aCons (eVar 0) aNil)) aNil)))) aNil)))) sNext) (netEnv most W n none none) [poolC P1, .lst []] = .nx (netEnv most W n x5 x6) [poolC P3, .lst (fs.map wayD)] := by
  have hit : ∀ S, iRng2D (aCons (eC (.int 1)) (aCons (eVar 3) aNil)) (netEnv most W n none none) S = .ok ⟨rngD 1 (n - 1), none⟩ S := by
    intro S
    have := iRng2D_ok (fa := (aCons (eC (.int 1)) (aCons (eVar 3) aNil))) (ρ := netEnv most W n none none) (S := S) (S1 := S) (i := 1) (j := n) rfl ⟨by omega, by omega⟩ ⟨by omega, by omega⟩
    rw [this, show ((n : Int) - 1).toNat = n - 1 by omega]
  have hc : (bAnd (bBin oGt (eVar 3) (eC (.int 1))) (bBin oGt (eCall 2 f_law_draw (aCons (eVar 0) (aCons (eC (.int 5)) aNil))) (eC (.int 0)))) (netEnv most W n none none) [poolC P1, .lst []] = .ok true [poolC P2, .lst []] := by
    unfold netEnv
    simp only [eVar, eC, eBin, bBin, bVal, bAnd, bOr, bNot, eAnd, eOr, eNot, eIf, eNeg, eOrT, liftO_some, liftB_bl, liftG_some, liftP_some, R.bind, R.nox_ok, sB, aNil, aCons, sSeq, sSet, sIf, sRet, sRetN, sNext, sExpr, sAsg, sSub, sBrk, sCnt, eCb, pure1, eIsi, bYes, pNone, pSome, List.getElem?_cons_zero, List.getElem?_cons_succ, List.set_cons_zero, List.set_cons_succ, Option.map_some, Option.bind_some, List.map_cons, List.map_nil, List.length_cons, List.length_nil, List.nil_append, List.cons_append, List.replicate_succ, List.replicate_zero, Nat.reduceSub, Nat.reduceAdd, Nat.add_eq, Nat.zero_add, if_true, if_false, reduceIte, Bool.false_eq_true, Bool.not_true, Bool.not_false, Tg.asg, asgs, tupOf, decide_true, decide_false, ite_true, ite_false, oAdd_int, oSub_int, oLt_int, oLe_int, oGt_int, oGe_int, oEq_int, oNe_int, oEq_str, atI_0, atI_1, atI_2, atI_3, atI_4, ixN51, ixN52, ixN53, ixN54, gInt, gAbs, gMin, gMax, oIx_tup, oIx_lst, oIx_con, seqOf_tup, seqOf_lst, List.length_set, hg, eCall, e2, hq]
  rw [sIf_t hc]
  exact sFor_ok (hit _) g1

theorem net_spec {most W : Nat} (hm : 1 ≤ most) (hm2 : most ≤ 12) (hW : W ≤ 24) {P : Pool} (h0 : 0 ≤ P.pos) :
    ∃ (N : Net) (P' : Pool), N.Ok most W ∧ 0 ≤ P'.pos ∧ f_law_net [.loc 0, .int most, .int W] [poolC P] = .ok (netD N) [poolC P'] := by
  obtain ⟨r, P1, r0, r1, p1, e1⟩ := draw1 (T := []) (n := (most : Int)) h0 (by omega) (by omega)
  obtain ⟨n, hn⟩ : ∃ n : Nat, (n : Int) = 1 + r := ⟨(1 + r).toNat, by omega⟩
  have n1 : 1 ≤ n := by omega
  have n2 : n ≤ most := by omega
  have tail := net_tail (most := most) (W := W) hm2 hW n1 n2
  have h : ∃ (N : Net) (P' : Pool), N.Ok most W ∧ 0 ≤ P'.pos ∧ ∃ T, b_law_net [some (.loc 0), some (.int most), some (.int W), none, none, none, none] [poolC P] = .rt (netD N) ([poolC P'] ++ T) := by
    unfold b_law_net
    rw [sSeq_nx (net_s1 hn e1), sSeq_nx net_s2]
    by_cases h2 : n < 2
    · have hng : ¬ (1 : Int) < n := by omega
      rw [sSeq_nx (net_s3a hng _)]
      exact tail P1 none none [] p1 (by simp) (by simp) (fun _ => rfl)
    · have hg : (1 : Int) < n := by omega
      obtain ⟨q, P2, q0, q1, p2, e2⟩ := draw1 (T := [.lst []]) (n := 5) p1 (by omega) (by omega)
      by_cases hq : 0 < q
      · obtain ⟨ρ', S', fs, g1, ⟨P3, x5, x6, p3, hρ, hS, hf⟩, g3⟩ := loopTree (most := most) (W := W) (n := n) (by omega) (by omega) p2 (x5 := none) (x6 := none)
        subst hρ hS
        rw [sSeq_nx (net_s3c hg (by omega) e2 hq g1)]
        exact tail P3 x5 x6 fs p3 hf (by omega) (fun z => absurd z h2)
      · rw [sSeq_nx (net_s3b hg e2 hq _)]
        exact tail P2 none none [] p2 (by simp) (by simp) (fun _ => rfl)
  obtain ⟨N, P', a, b, T, e⟩ := h
  refine ⟨N, P', a, b, ?_⟩
  unfold f_law_net runF
  simp only [List.map_cons, List.map_nil, List.length_cons, List.length_nil, Nat.reduceAdd, Nat.reduceSub, Nat.zero_add, List.replicate_succ, List.replicate_zero, List.cons_append, List.nil_append, e]
  exact net_gc P N P' T
end Ev

namespace Ev
open PySem PySem.Spec PyProof.Rows L2
/-! ### a drawn choice, groups, price -/
def wayAt (N : Net) (k : Nat) : Way := N.ways.getD k ⟨0, 1, 1⟩
def edgeAt (N : Net) (k : Nat) : Edge := ((wayAt N k).a, (wayAt N k).b)
def edges (N : Net) (c : List Nat) : List Edge := c.map (edgeAt N)
def ChOk (N : Net) (c : List Nat) : Prop := c.length ≤ N.ways.length ∧ ∀ k ∈ c, k < N.ways.length
theorem ways_at {N : Net} {k : Nat} (h : k < N.ways.length) : N.ways[k]? = some (wayAt N k) := by
  unfold wayAt
  rw [List.getD_eq_getElem?_getD, List.getElem?_eq_getElem h]
  rfl
theorem wayAt_ok {N : Net} {most W k : Nat} (hN : N.Ok most W) (h : k < N.ways.length) : (wayAt N k).Ok N.n := hN.ways _ (List.mem_of_getElem? (ways_at h))
theorem edges_ok {N : Net} {most W : Nat} {c : List Nat} (hN : N.Ok most W) (hc : ChOk N c) : Eok N.n (edges N c) := by
  intro e he
  obtain ⟨k, hk, rfl⟩ := List.mem_map.mp he
  have := wayAt_ok hN (hc.2 k hk)
  exact ⟨Nat.lt_trans this.1 this.2.1, this.2.1⟩
/-- net[1][k] -/
theorem net_ix {N : Net} {k : Nat} {S : Sto} (h : k < N.ways.length) : oIx (.tup (N.ways.map wayD)) (.int k) S = some (wayD (wayAt N k)) := by
  rw [oIx_tup]
  refine atI_ok ?_
  rw [List.getElem?_map, ways_at h]
  rfl
theorem way_asg {a b c : Nat} {w : Way} {ρ : En} {S : Sto} : (Tg.tp [.nm a, .nm b, .nm c]).asg (wayD w) ρ S = some (((ρ.set a (some (.int w.a))).set b (some (.int w.b))).set c (some (.int w.c))) := by
  simp only [Tg.asg, asgs, tupOf, wayD, List.length_cons, List.length_nil, if_true, Nat.reduceAdd]
theorem take_get {α : Type} {xs : List α} {j : Nat} {x : α} (h : xs[j]? = some x) : xs.take (j + 1) = xs.take j ++ [x] := by
  rw [List.take_succ, h]; rfl
theorem put_stmt {ρ : En} {S : Sto} {F : List Nat} {a b i j : Nat} (hi : ρ[i]? = some (some (.int a))) (hj : ρ[j]? = some (some (.int b))) (h3 : ρ[3]? = some (some (.loc S.length))) (hl : F.length ≤ 1000) :
    (sIf (bAnd (bBin oIn (eVar i) (eVar 3)) (bBin oNotIn (eVar j) (eVar 3))) (sExpr (eLm mAppend (eVar 3) (aCons (eVar j) aNil))) sNext) ρ (S ++ [.lst (natD F)]) = .nx ρ (S ++ [.lst (natD (putF F a b))]) := by
  have hg : (S ++ [Cel.lst (natD F)])[S.length]? = some (.lst (natD F)) := get_app
  have t1 : (bBin oIn (eVar i) (eVar 3)) ρ (S ++ [.lst (natD F)]) = .ok (decide (a ∈ F)) (S ++ [.lst (natD F)]) := bBin_ok (eVar_ok hi) (eVar_ok h3) (oIn_nat (seqOf_loc hg))
  have t2 : (bBin oNotIn (eVar j) (eVar 3)) ρ (S ++ [.lst (natD F)]) = .ok (!decide (b ∈ F)) (S ++ [.lst (natD F)]) := bBin_ok (eVar_ok hj) (eVar_ok h3) (oNotIn_nat (seqOf_loc hg))
  have sl : (natD F).length < sizeLine := sizeLine_lt (by rw [natD_len]; exact hl)
  have t3 : sExpr (eLm mAppend (eVar 3) (aCons (eVar j) aNil)) ρ (S ++ [.lst (natD F)]) = .nx ρ (S ++ [.lst (natD (F ++ [b]))]) := by
    refine sExpr_ok (d := .non) (eLm_ok (eVar_ok h3) (isLst_loc hg) (aCons_ok (eVar_ok hj) aNil_ok) ?_)
    rw [mAppend_ok hg sl, set_app, natD_app]
    rfl
  unfold putF
  by_cases ha : a ∈ F
  · by_cases hb : b ∈ F
    · rw [if_neg (fun q => q.2 hb)]
      refine sIf_f ?_
      unfold bAnd
      simp only [t1, t2, ha, hb, decide_true, R.bind, if_true, Bool.not_true]
    · rw [if_pos ⟨ha, hb⟩, ← t3]
      refine sIf_t ?_
      unfold bAnd
      simp only [t1, t2, ha, hb, decide_true, decide_false, R.bind, if_true, Bool.not_false]
  · rw [if_neg (fun q => ha q.1)]
    refine sIf_f ?_
    unfold bAnd
    simp only [t1, ha, decide_false, R.bind, Bool.false_eq_true, if_false]
/-- a choice, as a tuple or as a list -/
def SeqC (cd : D) (c : List Nat) : Prop := cd = .tup (natD c) ∨ cd = .lst (natD c)
theorem iSeqD_c {cd : D} {c : List Nat} {fe : EF} {ρ : En} {S S1 : Sto} (hcd : SeqC cd c) (h : fe ρ S = .ok cd S1) : iSeqD fe ρ S = .ok ⟨natD c, none⟩ S1 := by
  rcases hcd with rfl | rfl
  · exact iSeqD_tup h
  · exact iSeqD_lst h
def gEnv (N : Net) (cd : D) (p k : Nat) (x4 x5 x6 x7 x8 : Option D) : En := [some (netD N), some cd, some (.int p), some (.loc k), x4, x5, x6, x7, x8]
theorem foldF_length_le {n p : Nat} {E : List Edge} (hE : Eok n E) (hp : p < n) (k : Nat) (G : List Edge) (hG : ∀ e ∈ G, e ∈ E) : (G.foldl stepF (roundsF E [p] k)).length ≤ n := by
  have h0 : FoundI n E p [p] := ⟨by simp, fun x hx => by have : x = p := by simpa using hx
                                                         rw [this]; exact ⟨hp, Con.refl _ _⟩, by simp⟩
  have h := FoundI.fold hE G _ hG (h0.rounds hE k)
  exact found_len h.nd fun x hx => (h.con x hx).1
theorem gInner {N : Net} {most W : Nat} {c : List Nat} {p k : Nat} {S : Sto} {cd : D} (hcd : SeqC cd c) (hm : most ≤ 1000) (hN : N.Ok most W) (hc : ChOk N c) (hp : p < N.n) {x4 x5 x6 x7 x8 : Option D} :
    ∃ y5 y6 y7 y8, sFor (iSeqD (eVar 1)) (.nm 5) (sSeq (sAsg (.tp [(.nm 6), (.nm 7), (.nm 8)]) (eBin oIx (eBin oIx (eVar 0) (eC (.int 1))) (eVar 5)))
      (sSeq (sIf (bAnd (bBin oIn (eVar 6) (eVar 3)) (bBin oNotIn (eVar 7) (eVar 3))) (sExpr (eLm mAppend (eVar 3) (aCons (eVar 7) aNil))) sNext)
      (sIf (bAnd (bBin oIn (eVar 7) (eVar 3)) (bBin oNotIn (eVar 6) (eVar 3))) (sExpr (eLm mAppend (eVar 3) (aCons (eVar 6) aNil))) sNext)))
      (gEnv N cd p S.length x4 x5 x6 x7 x8) (S ++ [.lst (natD (roundsF (edges N c) [p] k))]) = .nx (gEnv N cd p S.length x4 y5 y6 y7 y8) (S ++ [.lst (natD (roundsF (edges N c) [p] (k + 1)))]) := by
  have hE := edges_ok hN hc
  have key := forGo_v (items := natD c) (tg := .nm 5) (b := (sSeq (sAsg (.tp [(.nm 6), (.nm 7), (.nm 8)]) (eBin oIx (eBin oIx (eVar 0) (eC (.int 1))) (eVar 5)))
      (sSeq (sIf (bAnd (bBin oIn (eVar 6) (eVar 3)) (bBin oNotIn (eVar 7) (eVar 3))) (sExpr (eLm mAppend (eVar 3) (aCons (eVar 7) aNil))) sNext)
      (sIf (bAnd (bBin oIn (eVar 7) (eVar 3)) (bBin oNotIn (eVar 6) (eVar 3))) (sExpr (eLm mAppend (eVar 3) (aCons (eVar 6) aNil))) sNext))))
    (fun j ρ S' => ∃ y5 y6 y7 y8, ρ = gEnv N cd p S.length x4 y5 y6 y7 y8 ∧ S' = S ++ [.lst (natD (((edges N c).take j).foldl stepF (roundsF (edges N c) [p] k)))])
    (ρ := gEnv N cd p S.length x4 x5 x6 x7 x8) (S := S ++ [.lst (natD (roundsF (edges N c) [p] k))]) ⟨x5, x6, x7, x8, rfl, rfl⟩ (by
    rintro j d ρ S' hd ⟨y5, y6, y7, y8, rfl, rfl⟩
    obtain ⟨q, hq, rfl⟩ := natD_inv hd
    have hk := hc.2 q (List.mem_of_getElem? hq)
    have he : (edges N c)[j]? = some (edgeAt N q) := by unfold edges; rw [List.getElem?_map, hq]; rfl
    have hl1 := foldF_length_le hE hp k ((edges N c).take j) (fun e he => List.mem_of_mem_take he)
    have hl2 := foldF_length_le hE hp k ((edges N c).take (j + 1)) (fun e he => List.mem_of_mem_take he)
    have hn := hN.n2
    rw [take_get he, List.foldl_append] at hl2 ⊢
    simp only [List.foldl_cons, List.foldl_nil] at hl2 ⊢
    generalize ((edges N c).take j).foldl stepF (roundsF (edges N c) [p] k) = F at hl1 hl2 ⊢
    refine ⟨gEnv N cd p S.length x4 (some (.int q)) y6 y7 y8, gEnv N cd p S.length x4 (some (.int q)) (some (.int (wayAt N q).a)) (some (.int (wayAt N q).b)) (some (.int (wayAt N q).c)), S ++ [.lst (natD (stepF F (edgeAt N q)))], rfl, .inl ?_, _, _, _, _, rfl, rfl⟩
    rw [sSeq_nx (sAsg_ok (eBin_ok (eBin_ok (eVar_ok rfl) eC_ok oIx_tup) (eVar_ok rfl) (by exact net_ix hk)) way_asg)]
    have l1 : (putF F (wayAt N q).a (wayAt N q).b).length ≤ 1000 := Nat.le_trans (putF_le _ (wayAt N q).b (wayAt N q).a) (Nat.le_trans hl2 (Nat.le_trans hn hm))
    rw [sSeq_nx (put_stmt (i := 6) (j := 7) (a := (wayAt N q).a) (b := (wayAt N q).b) rfl rfl rfl (by omega))]
    exact put_stmt (i := 7) (j := 6) (a := (wayAt N q).b) (b := (wayAt N q).a) rfl rfl rfl l1)
  obtain ⟨ρ', S', h1, y5, y6, y7, y8, rfl, rfl⟩ := key
  refine ⟨y5, y6, y7, y8, sFor_ok (iSeqD_c hcd (eVar_ok rfl)) ?_⟩
  rw [h1, List.take_of_length_le (by rw [natD_len]; unfold edges; simp)]
  rfl
end Ev

namespace Ev
open PySem PySem.Spec PyProof.Rows L2
/-! ### drawn pairs -/
def pairD (p : Nat × Nat) : D := .tup [.int p.1, .int p.2]
def pairsD (ps : List (Nat × Nat)) : D := .tup (ps.map pairD)
def PrOk (n : Nat) (ps : List (Nat × Nat)) : Prop := ∀ p ∈ ps, p.1 < p.2 ∧ p.2 < n
theorem deq_pair (a b : Nat) : deq (pairD (a, b)) (.tup [.int a, .int b]) = true := by
  unfold deq pairD
  simp [py, pys, PyData.eqv, PyData.eqvAll]
theorem pairD_flat (p : Nat × Nat) : flat 1 (pairD p) = true := by simp only [pairD, flat, flats, Bool.and_self]
theorem pairs_flat (ps : List (Nat × Nat)) : flats 1 (ps.map pairD) = true := flats_of fun d hd => by
  obtain ⟨p, _, rfl⟩ := List.mem_map.mp hd
  exact pairD_flat p
theorem okDs_pairs (k : Nat) (ps : List (Nat × Nat)) : okDs k (ps.map pairD) = true := by
  induction ps with
  | nil => rfl
  | cons p ps ih => simp only [List.map_cons, pairD, okDs, okD, ih, Bool.and_self]
def prEnv (n most : Nat) (x4 x5 x6 : Option D) : En := [some (.loc 0), some (.int n), some (.int most), some (.loc 1), x4, x5, x6]
noncomputable def prBody : SF := (sIf (bBin oGt (eVar 1) (eC (.int 1))) (sSeq (sSet 5 (eCall 2 f_law_draw (aCons (eVar 0) (aCons (eBin oSub (eVar 1) (eC (.int 1))) aNil))))
    (sSeq (sSet 6 (eTup (aCons (eVar 5) (aCons (eBin oAdd (eBin oAdd (eVar 5) (eC (.int 1))) (eCall 2 f_law_draw (aCons (eVar 0) (aCons (eBin oSub (eBin oSub (eVar 1) (eC (.int 1))) (eVar 5)) aNil)))) aNil))))
    (sIf (bBin oNotIn (eVar 6) (eVar 3)) (sExpr (eLm mAppend (eVar 3) (aCons (eVar 6) aNil))) sNext))) sNext)
theorem pr_step {n most : Nat} {P : Pool} {ps : List (Nat × Nat)} {x4 x5 x6 : Option D} (hn : n ≤ 1000) (h0 : 0 ≤ P.pos) (hp : PrOk n ps) (nd : ps.Nodup) (hl : ps.length < 1000) :
    ∃ (P' : Pool) (ps' : List (Nat × Nat)) (y5 y6 : Option D), 0 ≤ P'.pos ∧ PrOk n ps' ∧ ps'.Nodup ∧ ps'.length ≤ ps.length + 1 ∧ prBody (prEnv n most x4 x5 x6) [poolC P, .lst (ps.map pairD)] = .nx (prEnv n most x4 y5 y6) [poolC P', .lst (ps'.map pairD)] := by
  unfold prBody
  by_cases h1 : 1 < n
  · obtain ⟨a, P1, a0, a1, p1, e1⟩ := draw1 (T := [.lst (ps.map pairD)]) (n := (n : Int) - 1) h0 (by omega) (by omega)
    obtain ⟨b, P2, b0, b1, p2, e2⟩ := draw1 (T := [.lst (ps.map pairD)]) (n := (n : Int) - 1 - a) p1 (by omega) (by omega)
    obtain ⟨a', rfl⟩ : ∃ a' : Nat, a = a' := ⟨a.toNat, by omega⟩
    obtain ⟨b', hb'⟩ : ∃ b' : Nat, (a' : Int) + 1 + b = b' := ⟨((a' : Int) + 1 + b).toNat, by omega⟩
    have hpr : a' < b' ∧ b' < n := by omega
    have t1 : (bBin oGt (eVar 1) (eC (.int 1))) (prEnv n most x4 x5 x6) [poolC P, .lst (ps.map pairD)] = .ok true [poolC P, .lst (ps.map pairD)] := bBin_ok (eVar_ok rfl) eC_ok (by rw [oGt_int, decide_eq_true (by omega)])
    have s1 : (sSet 5 (eCall 2 f_law_draw (aCons (eVar 0) (aCons (eBin oSub (eVar 1) (eC (.int 1))) aNil)))) (prEnv n most x4 x5 x6) [poolC P, .lst (ps.map pairD)] = .nx (prEnv n most x4 (some (.int a')) x6) [poolC P1, .lst (ps.map pairD)] :=
      sSet_ok (eCall_ok (aCons_ok (eVar_ok rfl) (aCons_ok (eBin_ok (eVar_ok rfl) eC_ok oSub_int) aNil_ok)) rfl e1)
    have s2 : (sSet 6 (eTup (aCons (eVar 5) (aCons (eBin oAdd (eBin oAdd (eVar 5) (eC (.int 1))) (eCall 2 f_law_draw (aCons (eVar 0) (aCons (eBin oSub (eBin oSub (eVar 1) (eC (.int 1))) (eVar 5)) aNil)))) aNil)))) (prEnv n most x4 (some (.int a')) x6) [poolC P1, .lst (ps.map pairD)] = .nx (prEnv n most x4 (some (.int a')) (some (pairD (a', b')))) [poolC P2, .lst (ps.map pairD)] := by
      have := eTup_ok (fa := (aCons (eVar 5) (aCons (eBin oAdd (eBin oAdd (eVar 5) (eC (.int 1))) (eCall 2 f_law_draw (aCons (eVar 0) (aCons (eBin oSub (eBin oSub (eVar 1) (eC (.int 1))) (eVar 5)) aNil)))) aNil))) (ρ := prEnv n most x4 (some (.int a')) x6) (S := [poolC P1, .lst (ps.map pairD)])
        (aCons_ok (eVar_ok rfl) (aCons_ok (eBin_ok (eBin_ok (eVar_ok rfl) eC_ok oAdd_int) (eCall_ok (aCons_ok (eVar_ok rfl) (aCons_ok (eBin_ok (eBin_ok (eVar_ok rfl) eC_ok oSub_int) (eVar_ok rfl) oSub_int) aNil_ok)) rfl e2) oAdd_int) aNil_ok)) (by simp)
      rw [hb'] at this
      exact sSet_ok this
    have hg : ([poolC P2, Cel.lst (ps.map pairD)] : Sto)[1]? = some (.lst (ps.map pairD)) := rfl
    have t2 := bBin_ok (op := oNotIn) (fe := eVar 6) (fb := eVar 3) (ρ := prEnv n most x4 (some (.int a')) (some (pairD (a', b')))) (S := [poolC P2, .lst (ps.map pairD)]) (eVar_ok rfl) (eVar_ok rfl) (oNotIn_flat (k := 1) (xs := [.int a', .int b']) (seqOf_loc hg) (by omega) (by simp only [flat, flats, Bool.and_self]) (pairs_flat ps))
    cases hc : (ps.map pairD).any fun z => deq z (.tup [.int a', .int b']) with
    | true =>
      rw [hc] at t2
      exact ⟨P2, ps, _, _, p2, hp, nd, Nat.le_succ _, (sIf_t t1).trans (sSeq_nxo s1 (sSeq_nxo s2 (sIf_fn t2)))⟩
    | false =>
      rw [hc] at t2
      refine ⟨P2, ps ++ [(a', b')], some (.int a'), some (pairD (a', b')), p2, fun p hp' => ?_, ?_, by simp, (sIf_t t1).trans (sSeq_nxo s1 (sSeq_nxo s2 ((sIf_t t2).trans ?_)))⟩
      · rcases List.mem_append.mp hp' with z | z
        · exact hp p z
        · have : p = (a', b') := by simpa using z
          rw [this]
          exact hpr
      · rw [List.nodup_append]
        refine ⟨nd, by simp, fun p h1 q h2 z => ?_⟩
        have hq : q = (a', b') := by simpa using h2
        rw [z, hq] at h1
        have : (ps.map pairD).any (fun z => deq z (.tup [.int a', .int b'])) = true := List.any_eq_true.mpr ⟨pairD (a', b'), List.mem_map.mpr ⟨_, h1, rfl⟩, deq_pair a' b'⟩
        rw [hc] at this
        cases this
      · refine sExpr_ok (d := .non) (eLm_ok (eVar_ok rfl) (isLst_loc hg) (aCons_ok (eVar_ok rfl) aNil_ok) ?_)
        rw [mAppend_ok hg (sizeLine_lt (by rw [List.length_map]; omega)), List.map_append]
        rfl
  · have t1 : (bBin oGt (eVar 1) (eC (.int 1))) (prEnv n most x4 x5 x6) [poolC P, .lst (ps.map pairD)] = .ok false [poolC P, .lst (ps.map pairD)] := bBin_ok (eVar_ok rfl) eC_ok (by rw [oGt_int, decide_eq_false (by omega)])
    exact ⟨P, ps, x5, x6, h0, hp, nd, Nat.le_succ _, sIf_fn t1⟩
theorem pairs_specN {n most : Nat} (hn : n ≤ 1000) (hm : most ≤ 100) {P : Pool} (h0 : 0 ≤ P.pos) :
    ∃ (ps : List (Nat × Nat)) (P' : Pool), PrOk n ps ∧ ps.Nodup ∧ ps.length ≤ most ∧ 0 ≤ P'.pos ∧ f_law_pairs [.loc 0, .int n, .int most] [poolC P] = .ok (pairsD ps) [poolC P'] := by
  obtain ⟨k, P1, k0, k1, p1, e1⟩ := draw1 (T := [.lst []]) (n := (most : Int) + 1) h0 (by omega) (by omega)
  obtain ⟨k', rfl⟩ : ∃ k' : Nat, k = k' := ⟨k.toNat, by omega⟩
  have s1 : (sSet 3 (eLstA aNil)) [some (.loc 0), some (.int n), some (.int most), none, none, none, none] [poolC P] = .nx (prEnv n most none none none) [poolC P, .lst []] := (sSet_ok eLstA_nil).trans rfl
  have key := forGo_v (items := rngD 0 k') (tg := .nm 4) (b := prBody)
    (fun j ρ S => j ≤ k' ∧ (∃ x4 x5 x6, ρ = prEnv n most x4 x5 x6) ∧ ∃ (P : Pool) (ps : List (Nat × Nat)), 0 ≤ P.pos ∧ PrOk n ps ∧ ps.Nodup ∧ ps.length ≤ j ∧ S = [poolC P, .lst (ps.map pairD)])
    (ρ := prEnv n most none none none) (S := [poolC P1, .lst []]) ⟨Nat.zero_le _, ⟨_, _, _, rfl⟩, P1, [], p1, (fun p h => by simp at h), List.nodup_nil, Nat.le_refl _, rfl⟩ (by
    rintro j d ρ S hd ⟨hj0, ⟨x4, x5, x6, rfl⟩, P, ps, p0, hp, nd, hl, rfl⟩
    obtain ⟨hj, rfl⟩ := rngD_get hd
    obtain ⟨P', ps', y5, y6, a, b, b2, c, e⟩ := pr_step (n := n) (most := most) (x4 := some (.int (0 + (j : Int)))) (x5 := x5) (x6 := x6) hn p0 hp nd (by omega)
    exact ⟨prEnv n most (some (.int (0 + (j : Int)))) x5 x6, _, _, rfl, .inl e, hj, ⟨_, _, _, rfl⟩, P', ps', a, b, b2, by omega, rfl⟩)
  obtain ⟨ρ', S', h1, -, ⟨x4, x5, x6, rfl⟩, P2, ps, p2, hp, nd, hl, rfl⟩ := key
  rw [rngD_length] at hl
  refine ⟨ps, P2, hp, nd, by omega, p2, ?_⟩
  have okk : okD [poolC P].length (pairsD ps) = true := okDs_pairs _ ps
  refine runF_rt (S1 := [poolC P2] ++ [.lst (ps.map pairD)]) (d := pairsD ps) ?_ (gc_put_app (S := [poolC P]) (p := 0) (c := poolC P2) okk (okC_pool _ P2))
  show b_law_pairs [some (.loc 0), some (.int n), some (.int most), none, none, none, none] [poolC P] = _
  unfold b_law_pairs
  refine sSeq_nxo s1 (sSeq_nxo (sFor_ok (k := ⟨rngD 0 k', none⟩) (iRng1D_ok (j := k') (aCons_ok (eCall_ok (aCons_ok (eVar_ok rfl) (aCons_ok (eBin_ok (eVar_ok rfl) eC_ok oAdd_int) aNil_ok)) rfl e1) aNil_ok) (by omega)) h1) ?_)
  exact sRet_ok (eCb_ok (aCons_ok (eVar_ok rfl) aNil_ok) rfl)
theorem pairs_spec {n most : Nat} (hn : n ≤ 1000) (hm : most ≤ 100) {P : Pool} (h0 : 0 ≤ P.pos) :
    ∃ (ps : List (Nat × Nat)) (P' : Pool), PrOk n ps ∧ ps.length ≤ most ∧ 0 ≤ P'.pos ∧ f_law_pairs [.loc 0, .int n, .int most] [poolC P] = .ok (pairsD ps) [poolC P'] := by
  obtain ⟨ps, P', h1, _, h2, h3, h4⟩ := pairs_specN (n := n) (most := most) hn hm h0
  exact ⟨ps, P', h1, h2, h3, h4⟩
end Ev

namespace Ev
open PySem PySem.Spec PyProof.Rows L2
def partsD (n : Nat) (E : List Edge) (ps : List Nat) : List D := (ps.filter fun p => rep n E p == p).map fun p => .tup (natD (groupOf n E p))
theorem okDs_parts (k n : Nat) (E : List Edge) (ps : List Nat) : okDs k (partsD n E ps) = true := by
  unfold partsD
  induction (ps.filter fun p => rep n E p == p) with
  | nil => rfl
  | cons p ps ih => simp only [List.map_cons, okDs, okD, okDs_nat, ih, Bool.and_self]
theorem partsD_snoc (n : Nat) (E : List Edge) (ps : List Nat) (p : Nat) : partsD n E (ps ++ [p]) = if rep n E p = p then partsD n E ps ++ [.tup (natD (groupOf n E p))] else partsD n E ps := by
  unfold partsD
  rw [List.filter_append, List.map_append]
  by_cases h : rep n E p = p
  · simp only [List.filter_cons, List.filter_nil, beq_iff_eq, h, if_true, List.map_cons, List.map_nil]
  · simp only [List.filter_cons, List.filter_nil, beq_iff_eq, h, if_false, List.map_nil, List.append_nil]
theorem partsD_len (n : Nat) (E : List Edge) (ps : List Nat) : (partsD n E ps).length ≤ ps.length := by
  unfold partsD
  rw [List.length_map]
  exact List.length_filter_le _ _
end Ev

namespace Ev
open PySem PySem.Spec PyProof.Rows L2
/-! ### same -/
theorem isi_tt {S : Sto} {ρ : En} {i : Nat} {ds : List D} (h : ρ[i]? = some (some (.tup ds))) : eIsi "tuple" (eVar i) ρ S = .ok (.bl true) S := by
  unfold eIsi
  rw [eVar_ok h]
  rfl
theorem isi_ti {S : Sto} {ρ : En} {i : Nat} {j : Int} (h : ρ[i]? = some (some (.int j))) : eIsi "tuple" (eVar i) ρ S = .ok (.bl false) S := by
  unfold eIsi
  rw [eVar_ok h]
  rfl
theorem isi_si {S : Sto} {ρ : En} {i : Nat} {j : Int} (h : ρ[i]? = some (some (.int j))) : eIsi "str" (eVar i) ρ S = .ok (.bl false) S := by
  unfold eIsi
  rw [eVar_ok h]
  rfl
theorem isi_ii {S : Sto} {ρ : En} {i : Nat} {j : Int} (h : ρ[i]? = some (some (.int j))) : eIsi "int" (eVar i) ρ S = .ok (.bl true) S := by
  unfold eIsi
  rw [eVar_ok h]
  rfl
theorem isi_bi {S : Sto} {ρ : En} {i : Nat} {j : Int} (h : ρ[i]? = some (some (.int j))) : eIsi "bool" (eVar i) ρ S = .ok (.bl false) S := by
  unfold eIsi
  rw [eVar_ok h]
  rfl
theorem bVal_ok {fe : EF} {ρ : En} {S S1 : Sto} {b : Bool} (h : fe ρ S = .ok (.bl b) S1) : bVal fe ρ S = .ok b S1 := by
  unfold bVal
  rw [h]
  rfl
theorem bNot_ok {t : BF} {ρ : En} {S S1 : Sto} {b : Bool} (h : t ρ S = .ok b S1) : bNot t ρ S = .ok (!b) S1 := by
  unfold bNot
  rw [h]
  rfl
theorem same_int (k : Nat) (i : Int) (S : Sto) : f_law_sameN (k + 1) [.int i, .int i] S = .ok (.bl true) S := by
  refine runF_rt (S1 := S) (d := .bl true) ?_ (gc_same rfl)
  show b_law_same (f_law_sameN k) [some (.int i), some (.int i), none] S = _
  unfold b_law_same
  rw [sSeq_nx (sIf_fn (bVal_ok (isi_ti rfl)))]
  rw [sSeq_nx (sIf_fn (bBin_ok (c := false) (eVar_ok rfl) eC_ok rfl))]
  rw [sSeq_nx (sIf_fn (bVal_ok (isi_si rfl)))]
  refine sRet_ok ?_
  have e3 : (eBin oEq (eVar 0) (eVar 1)) [some (.int i), some (.int i), none] S = .ok (.bl true) S := eBin_ok (eVar_ok rfl) (eVar_ok rfl) (by rw [oEq_int, decide_eq_true rfl])
  unfold eAnd eNot
  rw [isi_ii rfl]
  simp only [liftG_some, R.bind, truD]
  rw [isi_bi rfl]
  simp only [liftG_some, R.bind, truD, Bool.not_false, if_true]
  exact e3
theorem same_tup (k : Nat) (ds : List D) (hl : ds.length ≤ 1000) (S : Sto) (h : ∀ d ∈ ds, f_law_sameN k [d, d] S = .ok (.bl true) S) : f_law_sameN (k + 1) [.tup ds, .tup ds] S = .ok (.bl true) S := by
  refine runF_rt (S1 := S) (d := .bl true) ?_ (gc_same rfl)
  show b_law_same (f_law_sameN k) [some (.tup ds), some (.tup ds), none] S = _
  unfold b_law_same
  refine sSeq_rt ?_
  refine (sIf_t (bVal_ok (isi_tt rfl))).trans ?_
  have gl : (eCb (pure1 gLen) (aCons (eVar 0) aNil)) [some (.tup ds), some (.tup ds), none] S = .ok (.int ds.length) S := eCb_ok (aCons_ok (eVar_ok rfl) aNil_ok) rfl
  have gl1 : (eCb (pure1 gLen) (aCons (eVar 1) aNil)) [some (.tup ds), some (.tup ds), none] S = .ok (.int ds.length) S := eCb_ok (aCons_ok (eVar_ok rfl) aNil_ok) rfl
  have ne : (bBin oNe (eCb (pure1 gLen) (aCons (eVar 0) aNil)) (eCb (pure1 gLen) (aCons (eVar 1) aNil))) [some (.tup ds), some (.tup ds), none] S = .ok false S := bBin_ok gl gl1 (by rw [oNe_int, decide_eq_true rfl]; rfl)
  have orr : (bOr (bNot (bVal (eIsi "tuple" (eVar 0)))) (bBin oNe (eCb (pure1 gLen) (aCons (eVar 0) aNil)) (eCb (pure1 gLen) (aCons (eVar 1) aNil)))) [some (.tup ds), some (.tup ds), none] S = .ok false S := by
    unfold bOr
    rw [bNot_ok (bVal_ok (isi_tt rfl))]
    exact ne
  rw [sSeq_nx (sIf_fn orr)]
  have lm : lcGo ⟨rngD 0 ds.length, none⟩ (.nm 2) (bNot (bVal (eCall 2 (f_law_sameN k) (aCons (eBin oIx (eVar 0) (eVar 2)) (aCons (eBin oIx (eVar 1) (eVar 2)) aNil))))) (eVar 2) [some (.tup ds), some (.tup ds), none] (natD (List.range ds.length)) S =
      .ok (((List.range ds.length).filter fun _ => false).map fun (x : Nat) => D.int (x : Int)) S := lcGo_filterN (List.range ds.length) fun x hx => by
    rw [List.mem_range] at hx
    refine ⟨[some (.tup ds), some (.tup ds), some (.int x)], rfl, ?_, fun z => by cases z⟩
    have ix : oIx (.tup ds) (.int x) S = some ds[x] := oIx_tup.trans (atI_ok (List.getElem?_eq_getElem hx))
    exact bNot_ok (b := true) (bVal_ok (eCall_ok (aCons_ok (eBin_ok (eVar_ok rfl) (eVar_ok rfl) ix) (aCons_ok (eBin_ok (eVar_ok rfl) (eVar_ok rfl) ix) aNil_ok)) rfl (h _ (List.getElem_mem hx))))
  have hf : (List.range ds.length).filter (fun _ => false) = [] := by simp
  rw [hf, List.map_nil, ← rngD_nat] at lm
  refine sRet_ok (eBin_ok (eCb_ok (aCons_ok (eLc_ok (k := ⟨rngD 0 ds.length, none⟩) (iRng1D_ok (aCons_ok gl1 aNil_ok) (by omega)) (by exact lm) (Nat.zero_le _)) aNil_ok) rfl) eC_ok ?_)
  rfl
theorem same_nats (k : Nat) (F : List Nat) (hl : F.length ≤ 1000) (S : Sto) : f_law_sameN (k + 2) [.tup (natD F), .tup (natD F)] S = .ok (.bl true) S :=
  same_tup (k + 1) _ (by rw [natD_len]; exact hl) S fun d hd => by
    obtain ⟨x, _, rfl⟩ := natD_mem hd
    exact same_int k _ S
theorem same_parts {n : Nat} {E : List Edge} (hn : n ≤ 1000) (S : Sto) : f_law_same [.tup (partsD n E (List.range n)), .tup (partsD n E (List.range n))] S = .ok (.bl true) S :=
  same_tup 6 _ (Nat.le_trans (partsD_len _ _ _) (by rw [List.length_range]; exact hn)) S fun d hd => by
    unfold partsD at hd
    obtain ⟨p, _, rfl⟩ := List.mem_map.mp hd
    exact same_nats 4 _ (Nat.le_trans (List.length_filter_le _ _) (by rw [List.length_range]; exact hn)) S
end Ev

namespace Ev
open PySem PySem.Spec PyProof.Rows L2
/-! ### evaluation with exceptions -/
section
variable {ρ ρ1 : En} {S S1 S2 : Sto} {e : Exn} {f g : SF} {t : BF} {fe : EF} {fa : AF} {d : D} {ds : List D} {o : O}
theorem sSeq_ex (h : f ρ S = .ex e ρ1 S1) : sSeq f g ρ S = .ex e ρ1 S1 := by
  unfold sSeq
  rw [h]
theorem sIf_to (h : t ρ S = .ok true S1) (h2 : f ρ S1 = o) : sIf t f g ρ S = o := (sIf_t h).trans h2
theorem sRaise_ok {c fld : Str} (h : fe ρ S = .ok d S1) : sRaise c fld fe ρ S = .ex ⟨c, fld, d⟩ ρ S1 := by
  unfold sRaise
  rw [h]
  rfl
theorem runF_ex {n : Nat} {b : SF} (h : b (ds.map some ++ List.replicate (n - ds.length) none) S = .ex e ρ1 S1) : runF n b ds S = .ex e S1 := by
  unfold runF
  rw [h]
theorem eMake_ex {c : Str} {n : Nat} {F : List D → Sto → R D} (ha : fa ρ S = .ok ds S1) (hn : ds.length + 1 = n) (hF : F (.loc S1.length :: ds) (S1 ++ [.ins c []]) = .ex e S2) : eMake c n F fa ρ S = .ex e S2 := by
  unfold eMake
  rw [ha]
  simp only [R.bind_ok]
  rw [if_pos hn, hF]
  rfl
theorem sTry_nx {tab : List (Str × Bool)} {i : Nat} {b : SF} {fs : SuF} (h : b ρ S = .nx ρ1 S1) : sTryAs tab i b fs ρ S = .nx ρ1 S1 := by
  unfold sTryAs
  rw [h]
theorem sTry_rt {tab : List (Str × Bool)} {i : Nat} {b : SF} {fs : SuF} (h : b ρ S = .rt d S1) : sTryAs tab i b fs ρ S = .rt d S1 := by
  unfold sTryAs
  rw [h]
theorem sTry_ex {tab : List (Str × Bool)} {i : Nat} {b : SF} {fs : SuF} (h : b ρ S = .ex e ρ1 S1) (ht : tab.lookup e.cls = some true) (k : ∀ a dd, finX i (fs a dd e (ρ1.set i (some (.exc a dd e.f e.val))) S1) = o) : sTryAs tab i b fs ρ S = o := by
  unfold sTryAs
  rw [h]
  simp only [ht]
  exact pickO_of k
theorem sExpr_ex (h : fe ρ S = .ex e S1) : sExpr fe ρ S = .ex e ρ S1 := by
  unfold sExpr
  rw [h]
  rfl
theorem eIsX_ok {i : Nat} {a dd : Addr} {tab : List (Str × Bool)} {f' : Str} {v : D} {b : Bool} (h : ρ[i]? = some (some (.exc a dd f' v))) (ht : tab.lookup e.cls = some b) : eIsX i a dd e tab ρ S = .ok (.bl b) S := by
  unfold eIsX
  rw [h]
  simp only [ht, and_self, if_true]
theorem eXf_ok {i : Nat} {a dd : Addr} {c f' : Str} {v : D} (h : ρ[i]? = some (some (.exc a dd f' v))) (hc : e.cls = c) : eXf i a dd e c f' ρ S = .ok v S := by
  unfold eXf
  rw [h]
  simp only [hc, and_self, if_true]
theorem eCallV_eq {i n : Nat} {tab : List (Str × (List D → Sto → R D))} {x : Str} {F : List D → Sto → R D} (h : ρ[i]? = some (some (.fn x))) (hF : tab.lookup x = some F) (ha : fa ρ S = .ok ds S1) (hn : ds.length = n) : eCallV i n tab fa ρ S = F ds S1 := by
  unfold eCallV
  rw [h]
  simp only [hF]
  rw [ha]
  simp only [R.bind_ok]
  rw [if_pos hn]
theorem eFld_ex {c f' : Str} (h : fe ρ S = .ex e S1) : eFld c fe f' ρ S = .ex e S1 := by
  unfold eFld
  rw [h]
  rfl
theorem aCons_ex {fr : AF} (h : fe ρ S = .ex e S1) : aCons fe fr ρ S = .ex e S1 := by
  unfold aCons
  rw [h]
  rfl
theorem eCb_ex {op : OpN} (h : fa ρ S = .ex e S1) : eCb op fa ρ S = .ex e S1 := by
  unfold eCb
  rw [h]
  rfl
theorem sRet_ex (h : fe ρ S = .ex e S1) : sRet fe ρ S = .ex e ρ S1 := by
  unfold sRet
  rw [h]
  rfl
theorem sSet_ex {i : Nat} (h : fe ρ S = .ex e S1) : sSet i fe ρ S = .ex e ρ S1 := by
  unfold sSet
  rw [h]
  rfl
theorem iSeqD_ex (h : fe ρ S = .ex e S1) : iSeqD fe ρ S = .ex e S1 := by
  unfold iSeqD
  rw [h]
  rfl
theorem eLc_ex {fi : IF} {tg : Tg} {tt : BF} {te : EF} {vs : List Nat} (h : fi ρ S = .ex e S1) : eLc fi tg tt te vs ρ S = .ex e S1 := by
  unfold eLc
  rw [h]
  rfl
theorem eMeth_ex {c m : Str} {n : Nat} {F : List D → Sto → R D} (h : fe ρ S = .ex e S1) : eMeth c m n F fe fa ρ S = .ex e S1 := by
  unfold eMeth
  rw [h]
  rfl
end
end Ev

namespace Ev
open PySem PySem.Spec PyProof.Rows L2 TL
/-! ### numbers as words -/
theorem pure1_okS {g : List D → Sto → Option D} {ds : List D} {S : Sto} {d : D} (h : g ds S = some d) : pure1 g ds S = some (d, S) := by
  unfold pure1
  rw [h]
  rfl
def numS (n : Nat) : Str := Str.ofString (toString ((n : Nat) : Int))
theorem numS_tl (n : Nat) : tl (numS n) = numL n := tl_num n
theorem numS_len {n : Nat} (h : n < 100000) : (numS n).length ≤ 5 := by
  rw [len_tl, numS_tl]
  exact numL_len (k := 5) (by decide) (by omega)
theorem numS_pos (n : Nat) : 1 ≤ (numS n).length := by
  rw [len_tl, numS_tl]
  have := numL_ne n
  cases h : numL n with
  | nil => exact absurd h this
  | cons c l => simp
theorem numL_head {n : Nat} (h : 0 < n) : ∃ c l, numL n = c :: l ∧ c ≠ 48 := by
  induction n using Nat.strongRecOn with
  | _ n ih =>
    by_cases hn : n < 10
    · rw [numL_lt hn]
      exact ⟨_, _, rfl, by omega⟩
    · obtain ⟨c, l, e, hc⟩ := ih (n / 10) (by omega) (by omega)
      rw [numL_step (by omega), e]
      exact ⟨c, _, rfl, hc⟩
theorem numL_zero : numL 0 = [48] := numL_lt (by decide)
theorem digits_tl : tl ("0123456789" : Str) = [48, 49, 50, 51, 52, 53, 54, 55, 56, 57] := by decide +kernel
theorem numL_dig {n c : Nat} (h : c ∈ numL n) : c ∈ tl ("0123456789" : Str) := by
  have := numL_digits n c h
  rw [digits_tl]
  have : c = 48 ∨ c = 49 ∨ c = 50 ∨ c = 51 ∨ c = 52 ∨ c = 53 ∨ c = 54 ∨ c = 55 ∨ c = 56 ∨ c = 57 := by omega
  simpa using this
theorem gStr_nat (n : Nat) (h : n < 100000) (S : Sto) : gStr [.int (n : Nat)] S = some (.str (numS n)) := by
  unfold gStr
  have : ((n : Nat) : Int).natAbs.log2 < 1920 := by
    have h1 : ((n : Nat) : Int).natAbs < 2 ^ 17 := by omega
    by_cases h0 : ((n : Nat) : Int).natAbs = 0
    · rw [h0]; decide
    · have := (Nat.log2_lt h0).mpr h1
      omega
  dsimp only
  rw [if_pos this]
  rfl
theorem bChain_le {ρ : En} {S : Sto} {fa fb fc : EF} {i j k : Int} (ha : fa ρ S = .ok (.int i) S) (hb : fb ρ S = .ok (.int j) S) (hc : fc ρ S = .ok (.int k) S) : bChain oLe oLe fa fb fc ρ S = .ok (decide (i ≤ j) && decide (j ≤ k)) S := by
  unfold bChain
  rw [ha]
  simp only [R.bind_ok]
  rw [hb]
  simp only [R.bind_ok]
  have e1 : oLe (.int i) (.int j) S = some (.bl (decide (i ≤ j))) := rfl
  rw [e1]
  simp only [liftB_bl, R.bind_ok]
  cases h : decide (i ≤ j) with
  | false => simp
  | true =>
    simp only [if_true, Bool.true_and]
    rw [hc]
    simp only [R.bind_ok]
    have e2 : oLe (.int j) (.int k) S = some (.bl (decide (j ≤ k))) := rfl
    rw [e2]
    rfl
theorem all_true {l : List Nat} : (l.map fun (_ : Nat) => true).all id = true := by
  induction l with
  | nil => rfl
  | cons a l ih => simpa using ih
theorem oEq_strD {a b : Str} {S : Sto} : oEq (.str a) (.str b) S = some (.bl (decide (a = b))) := rfl
theorem oNe_strD {a b : Str} {S : Sto} : oNe (.str a) (.str b) S = some (.bl (!decide (a = b))) := rfl
theorem number_spec {n : Nat} (h : n < 100000) (S : Sto) : f_number_of [.str (numS n)] S = .ok (.int (n : Nat)) S := by
  have l5 := numS_len h
  have l1 := numS_pos n
  obtain ⟨wd, hw⟩ : ∃ wd, wd = numS n := ⟨_, rfl⟩
  have ht : tl wd = numL n := by rw [hw, numS_tl]
  rw [← hw] at l5 l1 ⊢
  refine runF_rt (S1 := S) (d := .int (n : Nat)) ?_ (gc_same rfl)
  show b_number_of [some (.str wd), none] S = _
  unfold b_number_of
  have ln : (eCb (pure1 gLen) (aCons (eVar 0) aNil)) [some (.str wd), none] S = .ok (.int (wd.length : Nat)) S := by
    refine eCb_ok (aCons_ok (eVar_ok rfl) aNil_ok) ?_
    unfold pure1 gLen
    have : seqOf S (.str wd) = none := rfl
    simp only [this]
    rw [if_pos (sizeLine_ok (by omega))]
    rfl
  have al : (eCb (pure1 gAll) (aCons (eLc (iStrD (eVar 0)) (.nm 1) bYes (eBin oInS (eVar 1) (eC (.str ("0123456789" : Str)))) [1]) aNil)) [some (.str wd), none] S = .ok (.bl true) S := by
    have lc := eLc_m (k := ⟨wd.cps.toList.map fun c => D.str ⟨#[c]⟩, none⟩) (xs := wd.cps.toList) (F := fun c => D.str ⟨#[c]⟩) (G := fun _ => D.bl true) (ρ := [some (.str wd), none]) (S := S) (S1 := S) (fi := iStrD (eVar 0)) (tg := .nm 1) (te := eBin oInS (eVar 1) (eC (.str ("0123456789" : Str)))) (vs := [1])
      (by unfold iStrD; rw [eVar_ok rfl]; rfl) True.intro rfl (by rw [show wd.cps.toList.length = wd.length from (len_tl wd).symm]; omega) fun c hc => by
        refine ⟨_, rfl, eBin_ok (eVar_ok rfl) eC_ok ?_⟩
        have hd : c ∈ tl ("0123456789" : Str) := numL_dig (n := n) (by rw [← ht]; exact hc)
        show (match ([c] : List Nat) with | [c] => some (D.bl (decide (c ∈ tl ("0123456789" : Str)))) | _ => none) = _
        simp only [hd, decide_true]
    refine eCb_ok (aCons_ok lc aNil_ok) (pure1_okS ?_)
    unfold gAll
    have : lstOf S (.lst (wd.cps.toList.map fun _ => D.bl true)) = some ((wd.cps.toList.map fun _ => true).map D.bl) := by
      rw [List.map_map]
      rfl
    simp only [this, Option.bind_some, blsOf_map, Option.map_some]
    rw [all_true]
  refine q_nx (ρ1 := [some (.str wd), none]) (S1 := S) (sIf_fn (bOr_s (q := false) (r := false) (bNot_ok (b := true) ?_) fun _ => bNot_ok (b := true) (bVal_ok al))) ?_
  · have := bChain_le (ρ := [some (.str wd), none]) (S := S) (fa := eC (.int 1)) (fb := eCb (pure1 gLen) (aCons (eVar 0) aNil)) (fc := eC (.int 5)) eC_ok ln eC_ok
    rw [this]
    have h1 : (1 : Int) ≤ ((wd.length : Nat) : Int) := by omega
    have h2 : ((wd.length : Nat) : Int) ≤ 5 := by omega
    rw [decide_eq_true h1, decide_eq_true h2]
    rfl
  · obtain ⟨c, l, hl, hc⟩ : ∃ c l, tl wd = c :: l ∧ (c = 48 → wd = ("0" : Str)) := by
      by_cases h0 : n = 0
      · subst h0
        refine ⟨48, [], by rw [ht, numL_zero], fun _ => ext_tl ?_⟩
        rw [ht, numL_zero]
        decide +kernel
      · obtain ⟨c, l, e, hc⟩ := numL_head (n := n) (by omega)
        exact ⟨c, l, by rw [ht, e], fun z => absurd z hc⟩
    have ix : (eBin oIx (eVar 0) (eC (.int 0))) [some (.str wd), none] S = .ok (.str ⟨#[c]⟩) S := by
      refine eBin_ok (eVar_ok rfl) eC_ok ?_
      show (if wd.length ≤ sizeLine then (atI wd.cps.toList 0).map fun c => D.str ⟨#[c]⟩ else none) = _
      rw [if_pos (sizeLine_ok (by omega)), show wd.cps.toList = c :: l from hl, atI_0]
      rfl
    have t2 : (bAnd (bBin oEq (eBin oIx (eVar 0) (eC (.int 0))) (eC (.str ("0" : Str)))) (bBin oNe (eVar 0) (eC (.str ("0" : Str))))) [some (.str wd), none] S = .ok false S := by
      by_cases hcc : c = 48
      · have hz := hc hcc
        have := bAnd_s (q := decide ((⟨#[c]⟩ : Str) = ("0" : Str))) (r := false) (bBin_ok ix eC_ok oEq_strD) (t2 := bBin oNe (eVar 0) (eC (.str ("0" : Str)))) (ρ := [some (.str wd), none]) (S := S) fun _ => bBin_ok (eVar_ok rfl) eC_ok (by rw [oNe_strD, hz, decide_eq_true rfl]; rfl)
        rw [Bool.and_false] at this
        exact this
      · refine bAnd_s (q := false) (r := false) (bBin_ok ix eC_ok ?_) fun h => by cases h
        rw [oEq_strD, decide_eq_false]
        intro z
        have := congrArg tl z
        have e0 : tl ("0" : Str) = [48] := by decide +kernel
        rw [e0] at this
        have : c = 48 := by simpa [tl] using this
        exact hcc this
    refine q_nx (ρ1 := [some (.str wd), none]) (S1 := S) (sIf_fn t2) ?_
    refine sRet_ok (eCb_ok (aCons_ok (eVar_ok rfl) aNil_ok) (pure1_okS ?_))
    unfold gIntS
    simp only
    rw [if_pos (by omega), hw]
    rw [show PySem.intText? (numS n) = some (n : Int) from int_num (by have := numS_len h; rw [len_tl, numS_tl] at this; omega)]
    rfl
end Ev

namespace Ev
open PySem PySem.Spec PyProof.Rows L2 TL
/-! ### the lines of a task -/
def lineP (n : Nat) : Str := ("places " : Str) ++ numS n
def lineW (w : Way) : Str := ("way " : Str) ++ numS w.a ++ (" " : Str) ++ numS w.b ++ (" " : Str) ++ numS w.c
def lineQ (p : Nat × Nat) : Str := ("pair " : Str) ++ numS p.1 ++ (" " : Str) ++ numS p.2
def linesL (N : Net) (prs : List (Nat × Nat)) : List Str := [lineP N.n] ++ N.ways.map lineW ++ prs.map lineQ
def textL (ls : List Str) : Str := Txt.join ("" : Str) (ls.map fun l => l ++ ("\n" : Str))
theorem len_app (a b : Str) : (a ++ b).length = a.length + b.length := by rw [len_tl, tl_append, List.length_append, ← len_tl, ← len_tl]
theorem len_places : ("places " : Str).length = 7 := by decide +kernel
theorem len_way : ("way " : Str).length = 4 := by decide +kernel
theorem len_pair : ("pair " : Str).length = 5 := by decide +kernel
theorem len_sp : (" " : Str).length = 1 := by decide +kernel
theorem len_nl : ("\n" : Str).length = 1 := by decide +kernel
theorem len_emp : ("" : Str).length = 0 := by decide +kernel
section
variable {ρ : En} {S : Sto} {fe fa fb fx : EF} {f : EF} {fs : List EF} {acc y : Str} {d : D}
theorem oAdd_strs {a b : Str} (h : a.length + b.length ≤ 1000) : oAdd (.str a) (.str b) S = some (.str (a ++ b)) := by
  show (if a.length + b.length ≤ sizeLine then some (D.str (a ++ b)) else none) = _
  rw [if_pos (sizeLine_ok h)]
theorem js_cons (h : f ρ S = .ok (.str y) S) (hz : (acc ++ y).length ≤ 1000) : jsGo (f :: fs) acc ρ S = jsGo fs (acc ++ y) ρ S := by
  show ((f ρ S).bind fun x S1 => match x with
    | .str y => if (acc ++ y).length ≤ sizeLine then jsGo fs (acc ++ y) ρ S1 else .no
    | _ => .no) = _
  rw [h]
  simp only [R.bind_ok]
  rw [if_pos (sizeLine_ok hz)]
theorem eFmt_nat {n : Nat} (h : fe ρ S = .ok (.int (n : Nat)) S) (hn : n < 100000) : eFmt fe ρ S = .ok (.str (numS n)) S := by
  have g := gStr_nat n hn S
  unfold gStr at g
  dsimp only at g
  split at g
  · rename_i hz
    unfold eFmt
    rw [h]
    simp only [R.bind_ok]
    rw [if_pos hz]
    rfl
  · cases g
theorem strE_nat {n : Nat} (h : fe ρ S = .ok (.int (n : Nat)) S) (hn : n < 100000) : (eCb (pure1 gStr) (aCons fe aNil)) ρ S = .ok (.str (numS n)) S := eCb_ok (aCons_ok h aNil_ok) (pure1_okS (gStr_nat n hn S))
end
theorem wayD_0 {w : Way} {S : Sto} : oIx (wayD w) (.int 0) S = some (.int (w.a : Nat)) := oIx_tup.trans atI_0
theorem wayD_1 {w : Way} {S : Sto} : oIx (wayD w) (.int 1) S = some (.int (w.b : Nat)) := oIx_tup.trans atI_1
theorem wayD_2 {w : Way} {S : Sto} : oIx (wayD w) (.int 2) S = some (.int (w.c : Nat)) := oIx_tup.trans atI_2
theorem pairD_0 {p : Nat × Nat} {S : Sto} : oIx (pairD p) (.int 0) S = some (.int (p.1 : Nat)) := oIx_tup.trans atI_0
theorem pairD_1 {p : Nat × Nat} {S : Sto} : oIx (pairD p) (.int 1) S = some (.int (p.2 : Nat)) := oIx_tup.trans atI_1
section
variable {N : Net} {prs : List (Nat × Nat)}
/-- small numbers throughout -/
structure Small (N : Net) (prs : List (Nat × Nat)) : Prop where
  n : N.n ≤ 12
  w : ∀ w ∈ N.ways, w.Ok N.n
  wl : N.ways.length ≤ 24
  p : PrOk N.n prs
  pl : prs.length ≤ 6
theorem lineW_e (w : Way) : ((((((Str.empty ++ ("way " : Str)) ++ numS w.a) ++ (" " : Str)) ++ numS w.b) ++ (" " : Str)) ++ numS w.c) = lineW w := by rw [PySem.Str.empty_append]; rfl
theorem lineQ_e (p : Nat × Nat) : ((((Str.empty ++ ("pair " : Str)) ++ numS p.1) ++ (" " : Str)) ++ numS p.2) = lineQ p := by rw [PySem.Str.empty_append]; rfl
theorem lineP_e (n : Nat) : ((Str.empty ++ ("places " : Str)) ++ numS n) = lineP n := by rw [PySem.Str.empty_append]; rfl
theorem emp_len : Str.empty.length = 0 := rfl
theorem lineW_len {w : Way} (h : w.Ok 12) : (lineW w).length ≤ 21 := by
  unfold lineW
  obtain ⟨h1, h2, h3, h4⟩ := h
  have := numS_len (n := w.a) (by omega)
  have := numS_len (n := w.b) (by omega)
  have := numS_len (n := w.c) (by omega)
  simp only [len_app, len_way, len_sp]
  omega
theorem lineQ_len {p : Nat × Nat} (h : p.1 < p.2 ∧ p.2 < 12) : (lineQ p).length ≤ 16 := by
  unfold lineQ
  have := numS_len (n := p.1) (by omega)
  have := numS_len (n := p.2) (by omega)
  simp only [len_app, len_pair, len_sp]
  omega
theorem lineP_len {n : Nat} (h : n ≤ 12) : (lineP n).length ≤ 12 := by
  unfold lineP
  have := numS_len (n := n) (by omega)
  simp only [len_app, len_places]
  omega
theorem Small.w12 (h : Small N prs) {w : Way} (hw : w ∈ N.ways) : w.Ok 12 := by
  obtain ⟨h1, h2, h3, h4⟩ := h.w w hw
  have := h.n
  exact ⟨h1, by omega, h3, h4⟩
theorem Small.p12 (h : Small N prs) {p : Nat × Nat} (hp : p ∈ prs) : p.1 < p.2 ∧ p.2 < 12 := by
  have := h.p p hp
  have := h.n
  omega
theorem linesL_len (h : Small N prs) : (linesL N prs).length ≤ 31 := by
  unfold linesL
  have := h.wl
  have := h.pl
  simp only [List.length_append, List.length_map, List.length_singleton]
  omega
theorem line_len (h : Small N prs) {l : Str} (hl : l ∈ linesL N prs) : l.length ≤ 21 := by
  unfold linesL at hl
  rcases List.mem_append.mp hl with hl | hl
  · rcases List.mem_append.mp hl with hl | hl
    · have : l = lineP N.n := by simpa using hl
      rw [this]
      exact Nat.le_trans (lineP_len h.n) (by decide)
    · obtain ⟨w, hw, rfl⟩ := List.mem_map.mp hl
      exact lineW_len (h.w12 hw)
  · obtain ⟨p, hp, rfl⟩ := List.mem_map.mp hl
    exact Nat.le_trans (lineQ_len (h.p12 hp)) (by decide)
theorem sum_len {l : List Str} {k : Nat} (h : ∀ x ∈ l, x.length ≤ k) : (l.map (·.length)).sum ≤ l.length * k := by
  induction l with
  | nil => exact Nat.zero_le _
  | cons a l ih =>
    have h1 := h a List.mem_cons_self
    have h2 := ih fun x hx => h x (List.mem_cons_of_mem _ hx)
    simp only [List.map_cons, List.sum_cons, List.length_cons, Nat.succ_mul]
    omega
theorem eJoin_lines {ρ : En} {S : Sto} {fe : EF} {ys : List Str} (hl : ys.length ≤ 40) (h22 : ∀ x ∈ ys, x.length ≤ 22) (h : fe ρ S = .ok (.lst (ys.map D.str)) S) : eJoin (eC (.str ("" : Str))) fe ρ S = .ok (.str (Txt.join ("" : Str) ys)) S := by
  unfold eJoin
  rw [eC_ok]
  simp only [R.bind_ok]
  rw [h]
  simp only [R.bind_ok]
  have : (seqOf S (.lst (ys.map D.str))).bind strsOf = some ys := by rw [seqOf_lst]; simp
  simp only [this]
  rw [if_pos]
  have := sum_len h22
  rw [len_emp]
  have : ys.length * 22 ≤ 40 * 22 := Nat.mul_le_mul_right _ hl
  omega
theorem text_of {ρ : En} {S : Sto} {fi : IF} {k : Wk} {ls : List Str} {i : Nat} (hl : ls.length ≤ 31) (h21 : ∀ l ∈ ls, l.length ≤ 21) (hi : fi ρ S = .ok k S) (hk : k.ok S) (hx : k.ds = ls.map D.str) (hii : i < ρ.length) :
    eJoin (eC (.str ("" : Str))) (eLc fi (.nm i) bYes (eBin oAdd (eVar i) (eC (.str ("\n" : Str)))) [i]) ρ S = .ok (.str (textL ls)) S := by
  refine eJoin_lines (ys := ls.map fun l => l ++ ("\n" : Str)) (by rw [List.length_map]; omega) (fun x hx => ?_) ?_
  · obtain ⟨l, hl', rfl⟩ := List.mem_map.mp hx
    rw [len_app, len_nl]
    have := h21 l hl'
    omega
  · rw [List.map_map]
    refine eLc_m (xs := ls) (F := D.str) (G := fun l => D.str (l ++ ("\n" : Str))) hi hk hx (by omega) fun l hl' => ⟨_, rfl, eBin_ok (eVar_ok (List.getElem?_set_self (by simpa [wipeD] using hii))) eC_ok (oAdd_strs (by rw [len_nl]; have := h21 l hl'; omega))⟩
theorem netD_11 {S : Sto} : oIx (netD N) (.int 1) S = some (.tup (N.ways.map wayD)) := oIx_tup.trans atI_1
theorem netD_00 {S : Sto} : oIx (netD N) (.int 0) S = some (.int (N.n : Nat)) := oIx_tup.trans atI_0
theorem law_lines_spec (h : Small N prs) (S : Sto) : f_law_lines [netD N, pairsD prs] S = .ok (.lst ((linesL N prs).map D.str)) S := by
  have wl := h.wl
  have pl := h.pl
  refine runF_rt (S1 := S) (d := .lst ((linesL N prs).map D.str)) ?_ (gc_same ?_)
  rotate_left
  · simp only [okD]
    generalize linesL N prs = ls
    induction ls with
    | nil => rfl
    | cons a l ih => simpa [okDs, okD] using ih
  show b_law_lines [some (netD N), some (pairsD prs), none, none, none] S = _
  unfold b_law_lines
  refine q_set (d := .lst [.str (lineP N.n)]) (S1 := S) (eLst_ok (aCons_ok (eBin_ok eC_ok (strE_nat (eBin_ok (eVar_ok rfl) eC_ok netD_00) (by have := h.n; omega)) (oAdd_strs (by rw [len_places]; have := numS_len (n := N.n) (by have := h.n; omega); omega))) aNil_ok) (by simp)) ?_
  refine q_set (d := .lst ([.str (lineP N.n)] ++ N.ways.map fun w => D.str (lineW w))) (S1 := S) (eBin_ok (eVar_ok rfl) (eLc_m (k := ⟨N.ways.map wayD, none⟩) (xs := N.ways) (F := wayD) (G := fun w => D.str (lineW w)) (iSeqD_tup (eBin_ok (eVar_ok rfl) eC_ok netD_11)) True.intro rfl (by omega) fun w hw => ⟨_, rfl, ?_⟩) (oAdd_lst (sizeLine_ok (by simp; omega)))) ?_
  · have h12 := h.w12 hw
    obtain ⟨h1, h2, h3, h4⟩ := h12
    have a5 := numS_len (n := w.a) (by omega)
    have b5 := numS_len (n := w.b) (by omega)
    have c5 := numS_len (n := w.c) (by omega)
    refine eBin_ok (eBin_ok (eBin_ok (eBin_ok (eBin_ok eC_ok (strE_nat (eBin_ok (eVar_ok rfl) eC_ok wayD_0) (by omega)) (oAdd_strs ?_)) eC_ok (oAdd_strs ?_)) (strE_nat (eBin_ok (eVar_ok rfl) eC_ok wayD_1) (by omega)) (oAdd_strs ?_)) eC_ok (oAdd_strs ?_)) (strE_nat (eBin_ok (eVar_ok rfl) eC_ok wayD_2) (by omega)) (oAdd_strs ?_)
    all_goals simp only [len_app, len_way, len_sp]; omega
  refine sRet_ok (eBin_ok (eVar_ok rfl) (eLc_m (k := ⟨prs.map pairD, none⟩) (xs := prs) (F := pairD) (G := fun p => D.str (lineQ p)) (iSeqD_tup (eVar_ok rfl)) True.intro rfl (by omega) fun p hp => ⟨_, rfl, ?_⟩) ?_)
  · have h12 := h.p12 hp
    have a5 := numS_len (n := p.1) (by omega)
    have b5 := numS_len (n := p.2) (by omega)
    refine eBin_ok (eBin_ok (eBin_ok eC_ok (strE_nat (eBin_ok (eVar_ok rfl) eC_ok pairD_0) (by omega)) (oAdd_strs ?_)) eC_ok (oAdd_strs ?_)) (strE_nat (eBin_ok (eVar_ok rfl) eC_ok pairD_1) (by omega)) (oAdd_strs ?_)
    all_goals simp only [len_app, len_pair, len_sp]; omega
  · rw [oAdd_lst (sizeLine_ok (by simp; omega))]
    unfold linesL
    simp only [List.map_append, List.map_cons, List.map_nil, List.map_map]
    rfl
end
end Ev

namespace Ev
open PySem PySem.Spec PyProof.Rows L2 TL
theorem appS_get {S l : Sto} {i : Nat} {c : Cel} (h : l[i]? = some c) : (S ++ l)[S.length + i]? = some c := by
  rw [List.getElem?_append_right (by omega), Nat.add_sub_cancel_left]
  exact h
theorem appS_set {S l : Sto} {i : Nat} {c : Cel} : (S ++ l).set (S.length + i) c = S ++ l.set i c := by
  rw [List.set_append_right _ _ (by omega), Nat.add_sub_cancel_left]
theorem appS_get0 {S l : Sto} {c : Cel} : (S ++ c :: l)[S.length]? = some c := appS_get (i := 0) rfl
theorem appS_set0 {S l : Sto} {c c' : Cel} : (S ++ c :: l).set S.length c' = S ++ c' :: l := by
  have := appS_set (S := S) (l := c :: l) (i := 0) (c := c')
  rw [Nat.add_zero] at this
  exact this
theorem mExtend_ok {S : Sto} {n : Nat} {es fs : List D} (h : S[n]? = some (.lst es)) (hl : es.length + fs.length ≤ 1000) : mExtend (.loc n) [.lst fs] S = some (.non, S.set n (.lst (es ++ fs))) := by
  unfold mExtend
  simp only [h, lstX]
  rw [if_pos (sizeLine_ok hl)]
theorem okDs_strs (n : Nat) (l : List Str) : okDs n (l.map D.str) = true := by
  induction l with
  | nil => rfl
  | cons a l ih => simpa [okDs, okD] using ih
section
variable {N : Net} {prs : List (Nat × Nat)}
theorem js_P {ρ : En} {S : Sto} {fe : EF} {n : Nat} (hn : n ≤ 12) (h : fe ρ S = .ok (.int (n : Nat)) S) : (eJs [(eC (.str ("places " : Str))), (eFmt fe)]) ρ S = .ok (.str (lineP n)) S := by
  have a5 := numS_len (n := n) (by omega)
  unfold eJs
  rw [js_cons eC_ok (by simp only [len_app, len_places, emp_len]; omega), js_cons (eFmt_nat h (by omega)) (by simp only [len_app, len_places, emp_len]; omega), ← lineP_e]
  rfl
theorem js_W {ρ : En} {S : Sto} {f1 f2 f3 : EF} {w : Way} (hw : w.Ok 12) (h1 : f1 ρ S = .ok (.int (w.a : Nat)) S) (h2 : f2 ρ S = .ok (.int (w.b : Nat)) S) (h3 : f3 ρ S = .ok (.int (w.c : Nat)) S) :
    (eJs [(eC (.str ("way " : Str))), (eFmt f1), (eC (.str (" " : Str))), (eFmt f2), (eC (.str (" " : Str))), (eFmt f3)]) ρ S = .ok (.str (lineW w)) S := by
  obtain ⟨q1, q2, q3, q4⟩ := hw
  have a5 := numS_len (n := w.a) (by omega)
  have b5 := numS_len (n := w.b) (by omega)
  have c5 := numS_len (n := w.c) (by omega)
  unfold eJs
  rw [js_cons eC_ok (by simp only [len_app, len_way, len_sp, emp_len]; omega), js_cons (eFmt_nat h1 (by omega)) (by simp only [len_app, len_way, len_sp, emp_len]; omega), js_cons eC_ok (by simp only [len_app, len_way, len_sp, emp_len]; omega),
    js_cons (eFmt_nat h2 (by omega)) (by simp only [len_app, len_way, len_sp, emp_len]; omega), js_cons eC_ok (by simp only [len_app, len_way, len_sp, emp_len]; omega), js_cons (eFmt_nat h3 (by omega)) (by simp only [len_app, len_way, len_sp, emp_len]; omega), ← lineW_e]
  rfl
theorem js_Q {ρ : En} {S : Sto} {f1 f2 : EF} {p : Nat × Nat} (hp : p.1 < p.2 ∧ p.2 < 12) (h1 : f1 ρ S = .ok (.int (p.1 : Nat)) S) (h2 : f2 ρ S = .ok (.int (p.2 : Nat)) S) :
    (eJs [(eC (.str ("pair " : Str))), (eFmt f1), (eC (.str (" " : Str))), (eFmt f2)]) ρ S = .ok (.str (lineQ p)) S := by
  have a5 := numS_len (n := p.1) (by omega)
  have b5 := numS_len (n := p.2) (by omega)
  unfold eJs
  rw [js_cons eC_ok (by simp only [len_app, len_pair, len_sp, emp_len]; omega), js_cons (eFmt_nat h1 (by omega)) (by simp only [len_app, len_pair, len_sp, emp_len]; omega), js_cons eC_ok (by simp only [len_app, len_pair, len_sp, emp_len]; omega),
    js_cons (eFmt_nat h2 (by omega)) (by simp only [len_app, len_pair, len_sp, emp_len]; omega), ← lineQ_e]
  rfl
theorem write_task_spec (h : Small N prs) (S : Sto) : f_write_task [netD N, pairsD prs] S = .ok (.str (textL (linesL N prs))) S := by
  have wl := h.wl
  have pl := h.pl
  refine runF_rt (S1 := S ++ [.lst ((linesL N prs).map D.str)]) (d := .str (textL (linesL N prs))) ?_ (gc_app rfl)
  show b_write_task [some (netD N), some (pairsD prs), none, none, none, none, none] S = _
  unfold b_write_task
  refine q_set (d := .loc S.length) (S1 := S ++ [.lst [.str (lineP N.n)]]) (eLstA_ok (aCons_ok (js_P h.n (eBin_ok (eVar_ok rfl) eC_ok netD_00)) aNil_ok) (by simp)) ?_
  refine q_nx (ρ1 := [some (netD N), some (pairsD prs), some (.loc S.length), none, none, none, none]) (S1 := S ++ [.lst ([.str (lineP N.n)] ++ N.ways.map fun w => D.str (lineW w))]) (sExpr_ok (d := .non) (eLm_ok (eVar_ok rfl) (isLst_loc appS_get0) (aCons_ok
    (eLc_m (k := ⟨N.ways.map wayD, none⟩) (xs := N.ways) (F := wayD) (G := fun w => D.str (lineW w)) (iSeqD_tup (eBin_ok (eVar_ok rfl) eC_ok netD_11)) True.intro rfl (by omega) fun w hw => ⟨_, rfl, js_W (h.w12 hw) (eVar_ok rfl) (eVar_ok rfl) (eVar_ok rfl)⟩) aNil_ok) ?_)) ?_
  · rw [mExtend_ok appS_get0 (by simp; omega), appS_set0]
  refine q_nx (ρ1 := [some (netD N), some (pairsD prs), some (.loc S.length), none, none, none, none]) (S1 := S ++ [.lst ((linesL N prs).map D.str)]) (sExpr_ok (d := .non) (eLm_ok (eVar_ok rfl) (isLst_loc appS_get0) (aCons_ok
    (eLc_m (k := ⟨prs.map pairD, none⟩) (xs := prs) (F := pairD) (G := fun p => D.str (lineQ p)) (iSeqD_tup (eVar_ok rfl)) True.intro rfl (by omega) fun p hp => ⟨_, rfl, js_Q (h.p12 hp) (eVar_ok rfl) (eVar_ok rfl)⟩) aNil_ok) ?_)) ?_
  · rw [mExtend_ok appS_get0 (by simp; omega), appS_set0]
    unfold linesL
    simp only [List.map_append, List.map_cons, List.map_nil, List.map_map]
    rfl
  refine sRet_ok (text_of (k := ⟨(linesL N prs).map D.str, some (S.length, .lst ((linesL N prs).map D.str))⟩) (linesL_len h) (fun l hl => line_len h hl) ?_ ?_ rfl (by simp))
  · exact iSeqD_loc (eVar_ok rfl) appS_get0
  · exact appS_get0
end
end Ev

namespace Ev
open PySem PySem.Spec PyProof.Rows L2 TL
/-! ### a task while it is read -/
def tkF (b pl : Nat) : List (Str × D) := [("places", .int (pl : Nat)), ("ways", .loc (b + 1)), ("pairs", .loc (b + 2))]
def tkS (B : Sto) (pl : Nat) (ws : List Way) (ps : List (Nat × Nat)) : Sto := B ++ [.ins "Task" (tkF B.length pl), .lst (ws.map wayD), .lst (ps.map pairD)]
theorem gcS_no2 {S S' : Sto} {d : D} {i : Nat} {c : Cel} (hi : i < S.length) (h1 : S'[i]? = some c) (h2 : S[i]? ≠ some c) (h3 : okC S.length c = false) : gc S d S' = .ok d S' := by
  unfold gc
  rw [if_neg]
  rintro ⟨_, _, z⟩
  rcases z i hi with z | ⟨c', z1, z2⟩
  · exact h2 (z.symm.trans h1)
  · rw [h1] at z1
    cases z1
    rw [h3] at z2
    cases z2
section
variable {B : Sto} {pl : Nat} {ws : List Way} {ps : List (Nat × Nat)}
theorem tkS_0 : (tkS B pl ws ps)[B.length]? = some (.ins "Task" (tkF B.length pl)) := appS_get0
theorem tkS_1 : (tkS B pl ws ps)[B.length + 1]? = some (.lst (ws.map wayD)) := appS_get (i := 1) rfl
theorem tkS_2 : (tkS B pl ws ps)[B.length + 2]? = some (.lst (ps.map pairD)) := appS_get (i := 2) rfl
theorem tkS_len : (tkS B pl ws ps).length = B.length + 3 := by unfold tkS; rw [List.length_append]; rfl
theorem task_init_spec : f_Task_init [.loc B.length] (B ++ [.ins "Task" []]) = .ok .non (tkS B 0 [] []) := by
  have key : b_Task_init [some (.loc B.length)] (B ++ [.ins "Task" []]) = .nx [some (.loc B.length)] (tkS B 0 [] []) := by
    unfold b_Task_init
    refine q_nx (sFld_ok (d := .int (0 : Nat)) eC_ok (eVar_ok rfl) appS_get0 (by decide)) ?_
    rw [appS_set0]
    refine q_nx (sFld_ok (d := .loc (B.length + 1)) (S1 := B ++ [.ins "Task" (putD "places" (.int (0 : Nat)) []), .lst []]) ?_ (eVar_ok rfl) appS_get0 (by show 1 < 1000; decide)) ?_
    · rw [eLstA_nil, List.length_append, List.append_assoc]
      rfl
    rw [appS_set0]
    refine (sFld_ok (d := .loc (B.length + 2)) (S1 := B ++ [.ins "Task" (putD "ways" (.loc (B.length + 1)) (putD "places" (.int (0 : Nat)) [])), .lst [], .lst []]) ?_ (eVar_ok rfl) appS_get0 (by show 2 < 1000; decide)).trans ?_
    · rw [eLstA_nil, List.length_append, List.append_assoc]
      rfl
    rw [appS_set0]
    rfl
  refine runF_nx key ?_
  refine gcS_no2 (i := B.length) (c := .ins "Task" (tkF B.length 0)) (by simp) tkS_0 ?_ ?_
  · rw [appS_get0]
    unfold tkF
    simp
  · unfold okC tkF
    simp [okD, okDs]
theorem fld_places {ρ : En} (h0 : ρ[0]? = some (some (.loc B.length))) : eFld "Task" (eVar 0) "places" ρ (tkS B pl ws ps) = .ok (.int (pl : Nat)) (tkS B pl ws ps) := eFld_ok (eVar_ok h0) tkS_0 rfl
theorem fld_ways {ρ : En} (h0 : ρ[0]? = some (some (.loc B.length))) : eFld "Task" (eVar 0) "ways" ρ (tkS B pl ws ps) = .ok (.loc (B.length + 1)) (tkS B pl ws ps) := eFld_ok (eVar_ok h0) tkS_0 rfl
theorem fld_pairs {ρ : En} (h0 : ρ[0]? = some (some (.loc B.length))) : eFld "Task" (eVar 0) "pairs" ρ (tkS B pl ws ps) = .ok (.loc (B.length + 2)) (tkS B pl ws ps) := eFld_ok (eVar_ok h0) tkS_0 rfl
theorem reads_places_spec {n : Nat} (h1 : 1 ≤ n) (h2 : n ≤ 12) : f_Task_reads_places [.loc B.length, .int (n : Nat)] (tkS B 0 [] []) = .ok (.bl true) (tkS B n [] []) := by
  have key : b_Task_reads_places [some (.loc B.length), some (.int (n : Nat))] (tkS B 0 [] []) = .rt (.bl true) ((tkS B 0 [] []).set B.length (.ins "Task" (tkF B.length n))) := by
    unfold b_Task_reads_places
    have t : (bChain oLe oLe (eC (.int 1)) (eVar 1) (eC (.int 12))) [some (.loc B.length), some (.int (n : Nat))] (tkS B 0 [] []) = .ok true (tkS B 0 [] []) := by
      rw [bChain_le (i := 1) (j := (n : Nat)) (k := 12) eC_ok (eVar_ok rfl) eC_ok, decide_eq_true (by omega), decide_eq_true (by omega)]
      rfl
    refine q_nx (ρ1 := [some (.loc B.length), some (.int (n : Nat))]) (S1 := tkS B 0 [] []) (sIf_fn (bOr_s (q := false) (r := false) (bBin_ok (fld_places rfl) eC_ok rfl) fun _ => bNot_ok (b := true) t)) ?_
    refine q_nx (sFld_ok (d := .int (n : Nat)) (eVar_ok rfl) (eVar_ok rfl) tkS_0 (by show 3 < 1000; decide)) ?_
    exact sRet_ok eC_ok
  have e1 : (tkS B 0 [] []).set B.length (.ins "Task" (tkF B.length n)) = tkS B n [] [] := appS_set0
  refine runF_rt key ?_
  rw [← e1]
  refine gc_put rfl ?_
  unfold okC tkF
  rw [tkS_len]
  simp [okD, okDs]
theorem ends_spec {xs : List D} {d : D} {a b : Nat} (h1 : a < b) (h2 : b < pl) (hx : d = .tup (.int (a : Nat) :: .int (b : Nat) :: xs)) : f_Task_ends [.loc B.length, d] (tkS B pl ws ps) = .ok (.bl true) (tkS B pl ws ps) := by
  subst hx
  refine runF_rt (S1 := tkS B pl ws ps) (d := .bl true) ?_ (gc_same rfl)
  show b_Task_ends [some (.loc B.length), some (.tup (.int (a : Nat) :: .int (b : Nat) :: xs))] (tkS B pl ws ps) = _
  unfold b_Task_ends
  refine sRet_ok ?_
  unfold eChain
  rw [eBin_ok (d := .int (a : Nat)) (S1 := tkS B pl ws ps) (eVar_ok rfl) eC_ok (oIx_tup.trans atI_0)]
  simp only [R.bind_ok]
  rw [eBin_ok (d := .int (b : Nat)) (S1 := tkS B pl ws ps) (eVar_ok rfl) eC_ok (oIx_tup.trans atI_1)]
  simp only [R.bind_ok]
  have e1 : oLt (.int (a : Nat)) (.int (b : Nat)) (tkS B pl ws ps) = some (.bl true) := by
    show some (D.bl (decide ((a : Int) < (b : Int)))) = _
    rw [decide_eq_true (by omega)]
  rw [e1]
  simp only [liftB_bl, R.bind_ok, if_true]
  rw [fld_places rfl]
  simp only [R.bind_ok]
  have e2 : oLt (.int (b : Nat)) (.int (pl : Nat)) (tkS B pl ws ps) = some (.bl true) := by
    show some (D.bl (decide ((b : Int) < (pl : Int)))) = _
    rw [decide_eq_true (by omega)]
  rw [e2]
  rfl
end
end Ev

namespace Ev
open PySem PySem.Spec PyProof.Rows L2 TL
section
variable {B : Sto} {pl : Nat} {ws : List Way} {ps : List (Nat × Nat)}
theorem bVal_lst {ρ : En} {S : Sto} {fe : EF} {n : Nat} {ds : List D} (h : fe ρ S = .ok (.loc n) S) (h2 : S[n]? = some (.lst ds)) : bVal fe ρ S = .ok (!ds.isEmpty) S := by
  refine bVal_tru h ?_
  unfold truD
  simp only [h2]
theorem len_locS {ρ : En} {S : Sto} {fe : EF} {n : Nat} {ds : List D} (h : fe ρ S = .ok (.loc n) S) (h2 : S[n]? = some (.lst ds)) : (eCb (pure1 gLen) (aCons fe aNil)) ρ S = .ok (.int (ds.length : Nat)) S :=
  eCb_ok (aCons_ok h aNil_ok) (pure1_okS (gLen_seq (seqOf_loc h2)))
theorem len_lstS {ρ : En} {S : Sto} {fe : EF} {ds : List D} (h : fe ρ S = .ok (.lst ds) S) : (eCb (pure1 gLen) (aCons fe aNil)) ρ S = .ok (.int (ds.length : Nat)) S :=
  eCb_ok (aCons_ok h aNil_ok) (pure1_okS (gLen_seq seqOf_lst))
theorem oEq_intD {i j : Int} {S : Sto} : oEq (.int i) (.int j) S = some (.bl (decide (i = j))) := rfl
theorem reads_way_spec {w : Way} (hw : w.Ok pl) (hl : ws.length < 24) : f_Task_reads_way [.loc B.length, wayD w] (tkS B pl ws []) = .ok (.bl true) (tkS B pl (ws ++ [w]) []) := by
  obtain ⟨q1, q2, q3, q4⟩ := hw
  have key : b_Task_reads_way [some (.loc B.length), some (wayD w)] (tkS B pl ws []) = .rt (.bl true) ((tkS B pl ws []).set (B.length + 1) (.lst (ws.map wayD ++ [wayD w]))) := by
    unfold b_Task_reads_way
    have t1 : (bVal (eFld "Task" (eVar 0) "pairs")) [some (.loc B.length), some (wayD w)] (tkS B pl ws []) = .ok false (tkS B pl ws []) := bVal_lst (fld_pairs rfl) tkS_2
    have t2 : (bBin oEq (eCb (pure1 gLen) (aCons (eFld "Task" (eVar 0) "ways") aNil)) (eC (.int 24))) [some (.loc B.length), some (wayD w)] (tkS B pl ws []) = .ok false (tkS B pl ws []) :=
      bBin_ok (len_locS (fld_ways rfl) tkS_1) eC_ok (by rw [oEq_intD, decide_eq_false]; rw [List.length_map]; omega)
    have t3 : (bNot (bVal (eMeth "Task" "ends" 2 f_Task_ends (eVar 0) (aCons (eVar 1) aNil)))) [some (.loc B.length), some (wayD w)] (tkS B pl ws []) = .ok false (tkS B pl ws []) :=
      bNot_ok (b := true) (bVal_ok (eMeth_ok (eVar_ok rfl) tkS_0 rfl (aCons_ok (eVar_ok rfl) aNil_ok) rfl (ends_spec q1 q2 rfl)))
    have t4 : (bNot (bChain oLe oLe (eC (.int 1)) (eBin oIx (eVar 1) (eC (.int 2))) (eC (.int 10000)))) [some (.loc B.length), some (wayD w)] (tkS B pl ws []) = .ok false (tkS B pl ws []) := by
      refine bNot_ok (b := true) ?_
      rw [bChain_le (i := 1) (j := (w.c : Nat)) (k := 10000) eC_ok (eBin_ok (eVar_ok rfl) eC_ok wayD_2) eC_ok, decide_eq_true (by omega), decide_eq_true (by omega)]
      rfl
    refine q_nx (ρ1 := [some (.loc B.length), some (wayD w)]) (S1 := tkS B pl ws []) (sIf_fn (bOr_s (q := false) (r := false) t1 fun _ => bOr_s (q := false) (r := false) t2 fun _ => bOr_s (q := false) (r := false) t3 fun _ => t4)) ?_
    refine q_nx (sExpr_ok (d := .non) (eLm_ok (fld_ways rfl) (isLst_loc tkS_1) (aCons_ok (eVar_ok rfl) aNil_ok) (mAppend_ok tkS_1 (Nat.lt_of_lt_of_le (by rw [List.length_map]; exact hl) (sizeLine_ok (n := 24) (by decide)))))) ?_
    exact sRet_ok eC_ok
  have e1 : (tkS B pl ws []).set (B.length + 1) (.lst (ws.map wayD ++ [wayD w])) = tkS B pl (ws ++ [w]) [] := by
    unfold tkS
    rw [appS_set, List.map_append]
    rfl
  refine runF_rt key ?_
  rw [← e1]
  refine gc_put rfl ?_
  unfold okC
  have := okDs_ways (tkS B pl ws []).length (ws ++ [w])
  rw [List.map_append] at this
  exact this
theorem deq_pairs {p q : Nat × Nat} (h : p ≠ q) : deq (pairD p) (pairD q) = false := by
  unfold deq pairD
  simp only [py, pys, PyData.eqv, PyData.eqvAll]
  by_cases h1 : p.1 = q.1
  · have h2 : p.2 ≠ q.2 := fun z => h (Prod.ext h1 z)
    have : ((p.2 : Int) == (q.2 : Int)) = false := beq_eq_false_iff_ne.mpr (by omega)
    simp [this]
  · have : ((p.1 : Int) == (q.1 : Int)) = false := beq_eq_false_iff_ne.mpr (by omega)
    simp [this]
theorem reads_pair_spec {p : Nat × Nat} (hp : p.1 < p.2 ∧ p.2 < pl) (hl : ps.length < 6) (hn : p ∉ ps) : f_Task_reads_pair [.loc B.length, pairD p] (tkS B pl ws ps) = .ok (.bl true) (tkS B pl ws (ps ++ [p])) := by
  obtain ⟨q1, q2⟩ := hp
  have key : b_Task_reads_pair [some (.loc B.length), some (pairD p)] (tkS B pl ws ps) = .rt (.bl true) ((tkS B pl ws ps).set (B.length + 2) (.lst (ps.map pairD ++ [pairD p]))) := by
    unfold b_Task_reads_pair
    have t2 : (bBin oEq (eCb (pure1 gLen) (aCons (eFld "Task" (eVar 0) "pairs") aNil)) (eC (.int 6))) [some (.loc B.length), some (pairD p)] (tkS B pl ws ps) = .ok false (tkS B pl ws ps) :=
      bBin_ok (len_locS (fld_pairs rfl) tkS_2) eC_ok (by rw [oEq_intD, decide_eq_false]; rw [List.length_map]; omega)
    have t3 : (bNot (bVal (eMeth "Task" "ends" 2 f_Task_ends (eVar 0) (aCons (eVar 1) aNil)))) [some (.loc B.length), some (pairD p)] (tkS B pl ws ps) = .ok false (tkS B pl ws ps) :=
      bNot_ok (b := true) (bVal_ok (eMeth_ok (eVar_ok rfl) tkS_0 rfl (aCons_ok (eVar_ok rfl) aNil_ok) rfl (ends_spec q1 q2 rfl)))
    have t4 : (bBin oIn (eVar 1) (eFld "Task" (eVar 0) "pairs")) [some (.loc B.length), some (pairD p)] (tkS B pl ws ps) = .ok false (tkS B pl ws ps) := by
      refine bBin_ok (eVar_ok rfl) (fld_pairs rfl) ?_
      have hx : flat (1 + 1) (.tup [.int (p.1 : Nat), .int (p.2 : Nat)]) = true := by simp only [flat, flats, Bool.and_self]
      have := oIn_flat (k := 1) (xs := [.int (p.1 : Nat), .int (p.2 : Nat)]) (seqOf_loc (tkS_2 (B := B) (pl := pl) (ws := ws) (ps := ps))) (by omega) hx (pairs_flat ps)
      have e0 : ((ps.map pairD).any fun z => deq z (.tup [.int (p.1 : Nat), .int (p.2 : Nat)])) = false := by
        rw [List.any_eq_false]
        intro z hz
        obtain ⟨q, hq, rfl⟩ := List.mem_map.mp hz
        have := deq_pairs (p := q) (q := p) fun e => hn (e ▸ hq)
        unfold pairD at this ⊢
        rw [this]
        simp
      rw [e0] at this
      exact this
    refine q_nx (ρ1 := [some (.loc B.length), some (pairD p)]) (S1 := tkS B pl ws ps) (sIf_fn (bOr_s (q := false) (r := false) t2 fun _ => bOr_s (q := false) (r := false) t3 fun _ => t4)) ?_
    refine q_nx (sExpr_ok (d := .non) (eLm_ok (fld_pairs rfl) (isLst_loc tkS_2) (aCons_ok (eVar_ok rfl) aNil_ok) (mAppend_ok tkS_2 (Nat.lt_of_lt_of_le (by rw [List.length_map]; exact hl) (sizeLine_ok (n := 6) (by decide)))))) ?_
    exact sRet_ok eC_ok
  have e1 : (tkS B pl ws ps).set (B.length + 2) (.lst (ps.map pairD ++ [pairD p])) = tkS B pl ws (ps ++ [p]) := by
    unfold tkS
    rw [appS_set, List.map_append]
    rfl
  refine runF_rt key ?_
  rw [← e1]
  refine gc_put rfl ?_
  unfold okC
  have := okDs_pairs (tkS B pl ws ps).length (ps ++ [p])
  rw [List.map_append] at this
  exact this
end
/-! ### the words of a line -/
theorem sp_tl : tl (" " : Str) = 32 :: [] := by decide +kernel
theorem sp_all : (" " : Str).cps.all (· < 256) = true := by decide +kernel
theorem nl_tl : tl ("\n" : Str) = 10 :: [] := by decide +kernel
theorem nl_all : ("\n" : Str).cps.all (· < 256) = true := by decide +kernel
theorem tl_places : tl ("places " : Str) = tl ("places" : Str) ++ [32] := by decide +kernel
theorem tl_way : tl ("way " : Str) = tl ("way" : Str) ++ [32] := by decide +kernel
theorem tl_pair : tl ("pair " : Str) = tl ("pair" : Str) ++ [32] := by decide +kernel
theorem numS_free {n s : Nat} (h : s < 48) : s ∉ tl (numS n) := by rw [numS_tl]; exact numL_free (.inl h)
theorem word_free {s : Nat} (h : s < 48) : s ∉ tl ("places" : Str) ∧ s ∉ tl ("way" : Str) ∧ s ∉ tl ("pair" : Str) := by
  have e1 : tl ("places" : Str) = [112, 108, 97, 99, 101, 115] := by decide +kernel
  have e2 : tl ("way" : Str) = [119, 97, 121] := by decide +kernel
  have e3 : tl ("pair" : Str) = [112, 97, 105, 114] := by decide +kernel
  rw [e1, e2, e3]
  refine ⟨?_, ?_, ?_⟩ <;> simp <;> omega
theorem split_W (w : Way) : Txt.split (lineW w) (" " : Str) = ("way" : Str) :: [w.a, w.b, w.c].map numS := by
  have e : lineW w = Txt.join (" " : Str) [("way" : Str), numS w.a, numS w.b, numS w.c] := by
    refine ext_tl ?_
    rw [join_eq, tl_join]
    unfold lineW
    simp only [tl_append, List.map_cons, List.map_nil, joinL, List.append_assoc, tl_way, sp_tl, List.singleton_append, List.cons_append, List.nil_append]
  rw [e]
  refine split_join sp_tl sp_all (by simp) fun p hp => ?_
  simp only [List.mem_cons, List.not_mem_nil, or_false] at hp
  rcases hp with rfl | rfl | rfl | rfl
  · exact (word_free (by decide)).2.1
  all_goals exact numS_free (by decide)
theorem split_Q (q : Nat × Nat) : Txt.split (lineQ q) (" " : Str) = ("pair" : Str) :: [q.1, q.2].map numS := by
  have e : lineQ q = Txt.join (" " : Str) [("pair" : Str), numS q.1, numS q.2] := by
    refine ext_tl ?_
    rw [join_eq, tl_join]
    unfold lineQ
    simp only [tl_append, List.map_cons, List.map_nil, joinL, List.append_assoc, tl_pair, sp_tl, List.singleton_append, List.cons_append, List.nil_append]
  rw [e]
  refine split_join sp_tl sp_all (by simp) fun p hp => ?_
  simp only [List.mem_cons, List.not_mem_nil, or_false] at hp
  rcases hp with rfl | rfl | rfl
  · exact (word_free (by decide)).2.2
  all_goals exact numS_free (by decide)
theorem split_P (n : Nat) : Txt.split (lineP n) (" " : Str) = ("places" : Str) :: [n].map numS := by
  have e : lineP n = Txt.join (" " : Str) [("places" : Str), numS n] := by
    refine ext_tl ?_
    rw [join_eq, tl_join]
    unfold lineP
    simp only [tl_append, List.map_cons, List.map_nil, joinL, List.append_assoc, tl_places, sp_tl, List.singleton_append, List.cons_append, List.nil_append]
  rw [e]
  refine split_join sp_tl sp_all (by simp) fun p hp => ?_
  simp only [List.mem_cons, List.not_mem_nil, or_false] at hp
  rcases hp with rfl | rfl
  · exact (word_free (by decide)).1
  all_goals exact numS_free (by decide)
theorem line_free {N : Net} {prs : List (Nat × Nat)} {l : Str} (hl : l ∈ linesL N prs) : 10 ∉ tl l := by
  have hs : 10 ∉ tl (" " : Str) := by rw [sp_tl]; simp
  unfold linesL at hl
  rcases List.mem_append.mp hl with hl | hl
  · rcases List.mem_append.mp hl with hl | hl
    · have : l = lineP N.n := by simpa using hl
      rw [this]
      unfold lineP
      rw [tl_append, List.mem_append, tl_places, List.mem_append]
      rintro ((z | z) | z)
      · exact (word_free (by decide)).1 z
      · simp at z
      · exact numS_free (by decide) z
    · obtain ⟨w, hw, rfl⟩ := List.mem_map.mp hl
      unfold lineW
      simp only [tl_append, List.mem_append, tl_way]
      rintro ((((((z | z) | z) | z) | z) | z) | z)
      · exact (word_free (by decide)).2.1 z
      · simp at z
      · exact numS_free (by decide) z
      · exact hs z
      · exact numS_free (by decide) z
      · exact hs z
      · exact numS_free (by decide) z
  · obtain ⟨q, hq, rfl⟩ := List.mem_map.mp hl
    unfold lineQ
    simp only [tl_append, List.mem_append, tl_pair]
    rintro ((((z | z) | z) | z) | z)
    · exact (word_free (by decide)).2.2 z
    · simp at z
    · exact numS_free (by decide) z
    · exact hs z
    · exact numS_free (by decide) z
theorem joinL_nl : ∀ ls : List Str, joinL (tl ("" : Str)) ((ls.map fun l => l ++ ("\n" : Str)).map tl) = joinL (tl ("\n" : Str)) ((ls ++ [("" : Str)]).map tl)
  | [] => rfl
  | [a] => by
    have e0 : tl ("" : Str) = [] := by decide +kernel
    simp only [List.map_cons, List.map_nil, List.cons_append, List.nil_append, joinL, tl_append, e0, List.append_nil]
  | a :: b :: r => by
    have e0 : tl ("" : Str) = [] := by decide +kernel
    have ih := joinL_nl (b :: r)
    simp only [List.map_cons, List.cons_append] at ih ⊢
    show tl (a ++ ("\n" : Str)) ++ (tl ("" : Str) ++ joinL (tl ("" : Str)) (tl (b ++ ("\n" : Str)) :: _)) = tl a ++ (tl ("\n" : Str) ++ joinL (tl ("\n" : Str)) (tl b :: _))
    rw [ih, tl_append, e0, List.nil_append, List.append_assoc]
theorem split_text {N : Net} {prs : List (Nat × Nat)} : Txt.split (textL (linesL N prs)) ("\n" : Str) = linesL N prs ++ [("" : Str)] := by
  have e : textL (linesL N prs) = Txt.join ("\n" : Str) (linesL N prs ++ [("" : Str)]) := by
    refine ext_tl ?_
    unfold textL
    rw [join_eq, join_eq, tl_join, tl_join]
    exact joinL_nl _
  rw [e]
  refine split_join nl_tl nl_all (by simp) fun p hp => ?_
  rcases List.mem_append.mp hp with hp | hp
  · exact line_free hp
  · have : p = ("" : Str) := by simpa using hp
    rw [this]
    have e0 : tl ("" : Str) = [] := by decide +kernel
    rw [e0]
    simp
end Ev

namespace Ev
open PySem PySem.Spec PyProof.Rows L2 TL
theorem eSplit_ok {ρ : En} {S : Sto} {fx fe : EF} {a b : Str} (hx : fx ρ S = .ok (.str a) S) (hb : fe ρ S = .ok (.str b) S) (h1 : b.length = 1) (h2 : a.length ≤ 900) : eSplit false fx fe ρ S = .ok (.lst ((Txt.split a b).map D.str)) S := by
  unfold eSplit
  rw [hx]
  simp only [R.bind_ok]
  rw [hb]
  simp only [R.bind_ok]
  rw [if_pos ⟨by rw [h1]; rfl, sizeLine_ok (by omega)⟩]
  rfl
theorem starMid_1 {d0 : D} {rest : List D} : starMid (d0 :: rest) 2 1 = rest := by
  unfold starMid
  rw [List.drop_succ_cons, List.drop_zero, List.length_cons]
  exact List.take_of_length_le (by omega)
theorem starAll_1 {d0 m : D} {rest : List D} : starAll (d0 :: rest) 2 1 m = [d0, m] := by
  unfold starAll
  rw [List.drop_succ_cons, List.drop_zero, List.length_cons, List.drop_of_length_le (by omega)]
  rfl
theorem starMid_0 {d0 : D} {rest : List D} : starMid (rest ++ [d0]) 2 0 = rest := by
  unfold starMid
  rw [List.drop_zero, List.length_append, List.length_singleton]
  have : rest.length + 1 + 1 - 2 = rest.length := by omega
  rw [this, List.take_left']
  rfl
theorem starAll_0 {d0 m : D} {rest : List D} : starAll (rest ++ [d0]) 2 0 m = [m, d0] := by
  unfold starAll
  rw [List.drop_zero, List.take_zero, List.length_append, List.length_singleton]
  have : rest.length + 1 + 1 - 2 = rest.length := by omega
  rw [this, List.drop_left']
  · rfl
  · rfl
theorem flats_nat (k : Nat) (l : List Nat) : flats k (natD l) = true := by
  unfold natD
  induction l with
  | nil => simp only [List.map_nil, flats]
  | cons a l ih => simp only [List.map_cons, flats, flat, ih, Bool.and_self]
theorem oIn_non {l : List Nat} {S : Sto} : oIn .non (.lst (natD l)) S = some (.bl false) := by
  unfold oIn inB
  have e1 : eqOk .non = true := eqOk_flat (k := 1) (by simp only [flat]) (by omega)
  have e2 : eqOk (.lst (natD l)) = true := eqOk_flat (k := 1 + 1) (by simp only [flat]; exact flats_nat _ _) (by omega)
  rw [seqOf_lst]
  simp only [e1, e2, Bool.and_self, if_true, Option.map_some]
  congr 2
  rw [List.any_eq_false]
  intro z hz
  unfold natD at hz
  obtain ⟨n, hn, rfl⟩ := List.mem_map.mp hz
  simp [deq, py, PyData.eqv]
noncomputable def rdRest : SF := (sSeq (sIf (bAnd (bBin oEq (eVar 2) (eC (.str ("places" : Str)))) (bBin oEq (eCb (pure1 gLen) (aCons (eVar 4) aNil)) (eC (.int 1)))) (sRet (eMeth "Task" "reads_places" 2 f_Task_reads_places (eVar 0) (aCons (eBin oIx (eVar 4) (eC (.int 0))) aNil))) sNext)
    (sSeq (sIf (bAnd (bBin oEq (eVar 2) (eC (.str ("way" : Str)))) (bBin oEq (eCb (pure1 gLen) (aCons (eVar 4) aNil)) (eC (.int 3)))) (sRet (eMeth "Task" "reads_way" 2 f_Task_reads_way (eVar 0) (aCons (eCb (pure1 gTuple) (aCons (eVar 4) aNil)) aNil))) sNext)
    (sSeq (sIf (bAnd (bBin oEq (eVar 2) (eC (.str ("pair" : Str)))) (bBin oEq (eCb (pure1 gLen) (aCons (eVar 4) aNil)) (eC (.int 2)))) (sRet (eMeth "Task" "reads_pair" 2 f_Task_reads_pair (eVar 0) (aCons (eCb (pure1 gTuple) (aCons (eVar 4) aNil)) aNil))) sNext)
    (sRet (eC (.bl false))))))
def rdEnv (b : Nat) (line wd : Str) (nums : List Nat) : En := [some (.loc b), some (.str line), some (.str wd), some (.lst (nums.map fun n => D.str (numS n))), some (.lst (natD nums)), none]
theorem reads_head {b : Nat} {line wd : Str} {nums : List Nat} {S : Sto} {o : O} (hs : Txt.split line (" " : Str) = wd :: nums.map numS) (hl : line.length ≤ 900) (hn : nums.length ≤ 10) (h5 : ∀ n ∈ nums, n < 100000) (hk : rdRest (rdEnv b line wd nums) S = o) :
    b_Task_reads [some (.loc b), some (.str line), none, none, none, none] S = o := by
  unfold b_Task_reads
  have sp := eSplit_ok (ρ := [some (.loc b), some (.str line), none, none, none, none]) (S := S) (fx := eVar 1) (fe := eC (.str (" " : Str))) (eVar_ok rfl) eC_ok len_sp hl
  rw [hs, List.map_cons, List.map_map] at sp
  refine q_nx (ρ1 := [some (.loc b), some (.str line), some (.str wd), some (.lst (nums.map fun n => D.str (numS n))), none, none]) (S1 := S) ?_ ?_
  · unfold sStar
    rw [sp]
    simp only [sB_ok, lstOf, lstX]
    rw [if_pos ⟨by decide, by simp, by simp; omega, rfl⟩]
    simp only [Bool.false_eq_true, if_false]
    rw [starAll_1, starMid_1]
    rfl
  refine q_set (d := .lst (natD nums)) (S1 := S) (eLc_m (k := ⟨nums.map fun n => D.str (numS n), none⟩) (xs := nums) (F := fun n => D.str (numS n)) (G := fun (n : Nat) => D.int (n : Int)) (iSeqD_lst (eVar_ok rfl)) True.intro rfl (by omega) fun n hn => ⟨_, rfl, eCall_ok (aCons_ok (eVar_ok rfl) aNil_ok) rfl (number_spec (h5 n hn) S)⟩) ?_
  refine q_nx (ρ1 := rdEnv b line wd nums) (S1 := S) (sIf_fn (bBin_ok eC_ok (eVar_ok rfl) oIn_non)) ?_
  exact hk
section
variable {B : Sto} {n : Nat} {ws : List Way} {ps : List (Nat × Nat)}
theorem gTuple_lst {ds : List D} {S : Sto} : gTuple [.lst ds] S = some (.tup ds) := by rfl
theorem wd_ne1 : (("way" : Str) = ("places" : Str)) ↔ False := by
  constructor
  · intro h; exact absurd h (by decide +kernel)
  · exact False.elim
theorem wd_ne2 : (("pair" : Str) = ("places" : Str)) ↔ False := by
  constructor
  · intro h; exact absurd h (by decide +kernel)
  · exact False.elim
theorem wd_ne3 : (("pair" : Str) = ("way" : Str)) ↔ False := by
  constructor
  · intro h; exact absurd h (by decide +kernel)
  · exact False.elim
theorem lenNums {b : Nat} {line wd : Str} {nums : List Nat} {S : Sto} : (eCb (pure1 gLen) (aCons (eVar 4) aNil)) (rdEnv b line wd nums) S = .ok (.int (nums.length : Nat)) S := by
  have := len_lstS (ρ := rdEnv b line wd nums) (S := S) (fe := eVar 4) (ds := natD nums) (eVar_ok rfl)
  unfold natD at this
  rw [List.length_map] at this
  exact this
theorem h5P {n k : Nat} (h2 : n ≤ 12) (hk : k ∈ [n]) : k < 100000 := by
  have e : k = n := by simpa using hk
  omega
theorem reads_P (h1 : 1 ≤ n) (h2 : n ≤ 12) : f_Task_reads [.loc B.length, .str (lineP n)] (tkS B 0 [] []) = .ok (.bl true) (tkS B n [] []) := by
  have key : b_Task_reads [some (.loc B.length), some (.str (lineP n)), none, none, none, none] (tkS B 0 [] []) = .rt (.bl true) (tkS B n [] []) := by
    refine reads_head (split_P n) (Nat.le_trans (lineP_len h2) (by decide)) (by simp) (fun k hk => h5P h2 hk) ?_
    unfold rdRest
    refine q_rt (sIf_to (bAnd_s (q := true) (r := true) (bBin_ok (eVar_ok rfl) eC_ok (by rw [oEq_strD, decide_eq_true rfl])) fun _ => bBin_ok lenNums eC_ok rfl) ?_)
    exact sRet_ok (eMeth_ok (eVar_ok rfl) tkS_0 rfl (aCons_ok (eBin_ok (eVar_ok rfl) eC_ok (oIx_lst.trans atI_0)) aNil_ok) rfl (reads_places_spec h1 h2))
  have e1 : tkS B n [] [] = (tkS B 0 [] []).set B.length (.ins "Task" (tkF B.length n)) := appS_set0.symm
  refine runF_rt key ?_
  rw [e1]
  refine gc_put rfl ?_
  unfold okC tkF
  rw [tkS_len]
  simp [okD, okDs]
theorem reads_W {w : Way} (hw : w.Ok n) (h12 : n ≤ 12) (hl : ws.length < 24) : f_Task_reads [.loc B.length, .str (lineW w)] (tkS B n ws []) = .ok (.bl true) (tkS B n (ws ++ [w]) []) := by
  have hw12 : w.Ok 12 := ⟨hw.1, by have := hw.2.1; omega, hw.2.2⟩
  have key : b_Task_reads [some (.loc B.length), some (.str (lineW w)), none, none, none, none] (tkS B n ws []) = .rt (.bl true) (tkS B n (ws ++ [w]) []) := by
    refine reads_head (split_W w) (Nat.le_trans (lineW_len hw12) (by decide)) (by simp) (fun k hk => ?_) ?_
    · obtain ⟨q1, q2, q3, q4⟩ := hw12
      simp only [List.mem_cons, List.not_mem_nil, or_false] at hk
      rcases hk with rfl | rfl | rfl <;> omega
    unfold rdRest
    refine q_nx (sIf_fn (bAnd_s (q := false) (r := false) (bBin_ok (eVar_ok rfl) eC_ok (by rw [oEq_strD, decide_eq_false (fun h => wd_ne1.mp h)])) fun h => by cases h)) ?_
    refine q_rt (sIf_to (bAnd_s (q := true) (r := true) (bBin_ok (eVar_ok rfl) eC_ok (by rw [oEq_strD, decide_eq_true rfl])) fun _ => bBin_ok lenNums eC_ok rfl) ?_)
    exact sRet_ok (eMeth_ok (eVar_ok rfl) tkS_0 rfl (aCons_ok (eCb_ok (aCons_ok (eVar_ok rfl) aNil_ok) (pure1_okS gTuple_lst)) aNil_ok) rfl (reads_way_spec hw hl))
  have e1 : tkS B n (ws ++ [w]) [] = (tkS B n ws []).set (B.length + 1) (.lst ((ws ++ [w]).map wayD)) := by
    unfold tkS
    rw [appS_set]
    rfl
  refine runF_rt key ?_
  rw [e1]
  exact gc_put rfl (okDs_ways _ _)
theorem reads_Q {p : Nat × Nat} (hp : p.1 < p.2 ∧ p.2 < n) (h12 : n ≤ 12) (hl : ps.length < 6) (hn : p ∉ ps) : f_Task_reads [.loc B.length, .str (lineQ p)] (tkS B n ws ps) = .ok (.bl true) (tkS B n ws (ps ++ [p])) := by
  have key : b_Task_reads [some (.loc B.length), some (.str (lineQ p)), none, none, none, none] (tkS B n ws ps) = .rt (.bl true) (tkS B n ws (ps ++ [p])) := by
    refine reads_head (split_Q p) (Nat.le_trans (lineQ_len ⟨hp.1, by omega⟩) (by decide)) (by simp) (fun k hk => ?_) ?_
    · simp only [List.mem_cons, List.not_mem_nil, or_false] at hk
      rcases hk with rfl | rfl <;> omega
    unfold rdRest
    refine q_nx (sIf_fn (bAnd_s (q := false) (r := false) (bBin_ok (eVar_ok rfl) eC_ok (by rw [oEq_strD, decide_eq_false (fun h => wd_ne2.mp h)])) fun h => by cases h)) ?_
    refine q_nx (sIf_fn (bAnd_s (q := false) (r := false) (bBin_ok (eVar_ok rfl) eC_ok (by rw [oEq_strD, decide_eq_false (fun h => wd_ne3.mp h)])) fun h => by cases h)) ?_
    refine q_rt (sIf_to (bAnd_s (q := true) (r := true) (bBin_ok (eVar_ok rfl) eC_ok (by rw [oEq_strD, decide_eq_true rfl])) fun _ => bBin_ok lenNums eC_ok rfl) ?_)
    exact sRet_ok (eMeth_ok (eVar_ok rfl) tkS_0 rfl (aCons_ok (eCb_ok (aCons_ok (eVar_ok rfl) aNil_ok) (pure1_okS gTuple_lst)) aNil_ok) rfl (reads_pair_spec hp hl hn))
  have e1 : tkS B n ws (ps ++ [p]) = (tkS B n ws ps).set (B.length + 2) (.lst ((ps ++ [p]).map pairD)) := by
    unfold tkS
    rw [appS_set]
    rfl
  refine runF_rt key ?_
  rw [e1]
  exact gc_put rfl (okDs_pairs _ _)
end
end Ev

namespace Ev
open PySem PySem.Spec PyProof.Rows L2 TL
/-! ### read_task and law_true of k20 -/
theorem pool_spec (ns : List Int) : f_law_pool [.frz (ns.map D.int)] [] = .ok (.loc 0) [poolC ⟨ns, 0, 0, 0, 0⟩] := by
  refine runF_rt (S1 := [poolC ⟨ns, 0, 0, 0, 0⟩]) (d := .loc 0) ?_ ?_
  · show b_law_pool [some (.frz (ns.map D.int))] [] = _
    unfold b_law_pool
    refine sRet_ok ?_
    unfold eLstA
    rw [aCons_ok (eCb_ok (op := oList false) (d := .lst (ns.map D.int)) (S2 := []) (aCons_ok (eVar_ok rfl) aNil_ok) rfl) (aCons_ok eC_ok (aCons_ok eC_ok (aCons_ok eC_ok (aCons_ok eC_ok aNil_ok))))]
    have sl : (5 : Nat) ≤ sizeLine := sizeLine_ok (by omega)
    simp only [R.bind, List.length_cons, List.length_nil, Nat.reduceAdd, sl, if_true, List.nil_append]
    rfl
  · unfold gc
    rw [if_neg]
    rintro ⟨_, h, _⟩
    cases h
section
variable {N : Net} {prs : List (Nat × Nat)} {B S : Sto}
theorem joinL_len {e : List Nat} (he : e = []) (k : Nat) : ∀ ls : List (List Nat), (∀ x ∈ ls, x.length ≤ k) → (joinL e ls).length ≤ ls.length * k
  | [], _ => Nat.zero_le _
  | [a], h => by
    have := h a List.mem_cons_self
    simp only [joinL, List.length_cons, List.length_nil]
    omega
  | a :: b :: r, h => by
    have h1 := h a List.mem_cons_self
    have h2 := joinL_len he k (b :: r) fun x hx => h x (List.mem_cons_of_mem _ hx)
    simp only [joinL, List.length_cons, List.length_append, he, List.length_nil, Nat.succ_mul] at h2 ⊢
    omega
theorem txt_len (h : Small N prs) : (textL (linesL N prs)).length ≤ 900 := by
  have h1 := linesL_len h
  have e0 : tl ("" : Str) = [] := by decide +kernel
  have h2 := joinL_len e0 22 (((linesL N prs).map fun l => l ++ ("\n" : Str)).map tl) fun x hx => by
    obtain ⟨y, hy, rfl⟩ := List.mem_map.mp hx
    obtain ⟨l, hl, rfl⟩ := List.mem_map.mp hy
    have := line_len h hl
    rw [← len_tl, len_app, len_nl]
    omega
  rw [List.length_map, List.length_map] at h2
  unfold textL
  rw [join_eq, len_tl, tl_join]
  have : (linesL N prs).length * 22 ≤ 31 * 22 := Nat.mul_le_mul_right _ h1
  omega
def tkAt (B : Sto) (N : Net) (prs : List (Nat × Nat)) (j : Nat) : Sto :=
  match j with
  | 0 => tkS B 0 [] []
  | k + 1 => tkS B N.n (N.ways.take k) (prs.take (k - N.ways.length))
theorem tkAt_0 (B : Sto) (j : Nat) : ∃ pl ws ps, tkAt B N prs j = tkS B pl ws ps := by
  cases j with
  | zero => exact ⟨_, _, _, rfl⟩
  | succ k => exact ⟨_, _, _, rfl⟩
theorem reads_at (h : Small N prs) (hn : 1 ≤ N.n) (nd : prs.Nodup) {j : Nat} {l : Str} (hl : (linesL N prs)[j]? = some l) : f_Task_reads [.loc B.length, .str l] (tkAt B N prs j) = .ok (.bl true) (tkAt B N prs (j + 1)) := by
  have wl := h.wl
  have pl := h.pl
  cases j with
  | zero =>
    have : l = lineP N.n := by
      unfold linesL at hl
      simpa using hl.symm
    subst this
    show _ = R.ok (D.bl true) (tkS B N.n (N.ways.take 0) (prs.take (0 - N.ways.length)))
    rw [Nat.zero_sub, List.take_zero, List.take_zero]
    exact reads_P hn h.n
  | succ k =>
    unfold linesL at hl
    rw [List.append_assoc, List.singleton_append, List.getElem?_cons_succ] at hl
    by_cases hk : k < N.ways.length
    · rw [List.getElem?_append_left (by rw [List.length_map]; exact hk), List.getElem?_map, List.getElem?_eq_getElem hk] at hl
      obtain rfl : lineW N.ways[k] = l := by simpa using hl
      show f_Task_reads _ (tkS B N.n (N.ways.take k) (prs.take (k - N.ways.length))) = R.ok (.bl true) (tkS B N.n (N.ways.take (k + 1)) (prs.take (k + 1 - N.ways.length)))
      have e1 : k - N.ways.length = 0 := by omega
      have e2 : k + 1 - N.ways.length = 0 := by omega
      rw [e1, e2, List.take_zero, List.take_succ_eq_append_getElem hk]
      exact reads_W (h.w _ (List.getElem_mem hk)) h.n (by rw [List.length_take]; omega)
    · rw [List.getElem?_append_right (by rw [List.length_map]; omega), List.length_map, List.getElem?_map] at hl
      obtain ⟨p, hp, rfl⟩ := Option.map_eq_some_iff.mp hl
      obtain ⟨hi, hp⟩ := List.getElem?_eq_some_iff.mp hp
      show f_Task_reads _ (tkS B N.n (N.ways.take k) (prs.take (k - N.ways.length))) = R.ok (.bl true) (tkS B N.n (N.ways.take (k + 1)) (prs.take (k + 1 - N.ways.length)))
      have e2 : k + 1 - N.ways.length = (k - N.ways.length) + 1 := by omega
      rw [e2, List.take_of_length_le (by omega : N.ways.length ≤ k), List.take_of_length_le (by omega : N.ways.length ≤ k + 1), List.take_succ_eq_append_getElem hi, hp]
      refine reads_Q (h.p p (hp ▸ List.getElem_mem hi)) h.n (by rw [List.length_take]; omega) fun hm => ?_
      obtain ⟨i, hi2, e⟩ := List.getElem_of_mem hm
      rw [List.length_take] at hi2
      rw [List.getElem_take] at e
      have := (List.getElem_inj nd).mp (e.trans hp.symm)
      omega
theorem lstOf_at {T : Sto} {i : Nat} {ds : List D} (h : T[i]? = some (.lst ds)) : lstOf T (.loc i) = some ds := by
  unfold lstOf
  simp [lstX, h]
theorem read_task_spec (h : Small N prs) (hn : 1 ≤ N.n) (nd : prs.Nodup) (S : Sto) : f_read_task [.str (textL (linesL N prs))] S = .ok (.tup [netD N, pairsD prs]) S := by
  have wl := h.wl
  have pl := h.pl
  have ll := linesL_len h
  obtain ⟨L, hL⟩ : ∃ L, L = (linesL N prs).map D.str := ⟨_, rfl⟩
  have hLl : L.length = (linesL N prs).length := by rw [hL, List.length_map]
  have hL1 : (linesL N prs).length = 1 + N.ways.length + prs.length := by unfold linesL; simp; omega
  obtain ⟨B, hB⟩ : ∃ B, B = S ++ [Cel.lst L] := ⟨_, rfl⟩
  have hBl : B.length = S.length + 1 := by rw [hB, List.length_append]; rfl
  have cel : ∀ pl ws ps, (tkS B pl ws ps)[S.length]? = some (.lst L) := fun pl ws ps => by
    unfold tkS
    rw [List.getElem?_append_left (by omega), hB, List.getElem?_append_right (Nat.le_refl _), Nat.sub_self]
    rfl
  obtain ⟨tx, htx⟩ : ∃ tx, tx = textL (linesL N prs) := ⟨_, rfl⟩
  rw [← htx]
  have key : b_read_task [some (.str tx), none, none, none, none, none] S = .rt (.tup [netD N, pairsD prs]) (tkS B N.n N.ways prs) := by
    unfold b_read_task
    have sp := eSplit_ok (ρ := [some (.str tx), none, none, none, none, none]) (S := S) (fx := eVar 0) (fe := eC (.str ("\n" : Str))) (eVar_ok rfl) eC_ok len_nl (by rw [htx]; exact txt_len h)
    rw [htx, split_text, List.map_append, ← hL, ← htx] at sp
    refine q_nx (ρ1 := [some (.str tx), some (.loc S.length), some (.str ("" : Str)), none, none, none]) (S1 := B) ?_ ?_
    · unfold sStar
      rw [sp]
      simp only [sB_ok, lstOf, lstX]
      rw [if_pos ⟨by decide, by simp, by simp; omega, rfl⟩]
      simp only [if_true]
      rw [List.map_cons, List.map_nil, starAll_0, starMid_0, hB]
      rfl
    refine q_nx (ρ1 := [some (.str tx), some (.loc S.length), some (.str ("" : Str)), none, none, none]) (S1 := B) (sIf_fn (bBin_ok (eVar_ok rfl) eC_ok ?_)) ?_
    · rw [oNe_strD, decide_eq_true rfl]
      rfl
    refine q_set (d := .loc B.length) (S1 := tkS B 0 [] []) (eMake_ok aNil_ok rfl task_init_spec) ?_
    refine q_forL (w := ⟨enumDs 1 L, some (S.length, .lst L)⟩) (S1 := tkS B 0 [] []) (fun j ρ S' => (∃ x4 x5, ρ = [some (.str tx), some (.loc S.length), some (.str ("" : Str)), some (.loc B.length), x4, x5]) ∧ S' = tkAt B N prs j) ?_ ?_ ⟨⟨_, _, rfl⟩, rfl⟩ ?_ ?_
    · unfold iEnumDS
      rw [aCons_ok (eVar_ok rfl) aNil_ok]
      simp only [R.bind_ok]
      rw [cel]
    · rintro j ρ S' ⟨_, rfl⟩
      obtain ⟨a, b, c, e⟩ := tkAt_0 (N := N) (prs := prs) B j
      rw [e]
      exact cel a b c
    · rintro j d ρ S' hd ⟨⟨x4, x5, rfl⟩, rfl⟩
      rw [enumDs_get, hL, List.getElem?_map] at hd
      obtain ⟨d1, hd1, rfl⟩ := Option.map_eq_some_iff.mp hd
      obtain ⟨l, hl, rfl⟩ := Option.map_eq_some_iff.mp hd1
      obtain ⟨a, b, c, e⟩ := tkAt_0 (N := N) (prs := prs) B j
      have c0 : (tkAt B N prs j)[B.length]? = some (.ins "Task" (tkF B.length a)) := by rw [e]; exact tkS_0
      refine ⟨_, rfl, _, _, .inl (sIf_fn (bNot_ok (b := true) (bVal_ok (eMeth_ok (eVar_ok rfl) c0 rfl (aCons_ok (eVar_ok rfl) aNil_ok) rfl (reads_at h hn nd hl))))), ⟨_, _, rfl⟩, rfl⟩
    · rintro ρ S' ⟨⟨x4, x5, rfl⟩, e⟩
      have e1 : tkAt B N prs (enumDs 1 L).length = tkS B N.n N.ways prs := by
        rw [enumDs_len, hLl, hL1]
        have : 1 + N.ways.length + prs.length = (N.ways.length + prs.length) + 1 := by omega
        rw [this]
        show tkS B N.n (N.ways.take (N.ways.length + prs.length)) (prs.take (N.ways.length + prs.length - N.ways.length)) = _
        rw [List.take_of_length_le (by omega), List.take_of_length_le (by omega)]
      rw [e1] at e
      subst e
      refine q_nx (ρ1 := [some (.str tx), some (.loc S.length), some (.str ("" : Str)), some (.loc B.length), x4, x5]) (S1 := tkS B N.n N.ways prs) (sIf_fn (bOr_s (q := false) (r := false) (bNot_ok (b := true) ?_) fun _ => bBin_ok (eVar_ok rfl) eC_ok ?_)) ?_
      · unfold bVal
        rw [eVar_ok rfl]
        simp only [R.bind_ok]
        have : truD (.loc S.length) (tkS B N.n N.ways prs) = some true := by
          show (match (tkS B N.n N.ways prs)[S.length]? with
            | some (Cel.lst ds) => some !ds.isEmpty
            | some (Cel.dK kvs) => some !kvs.isEmpty
            | x => none) = some true
          rw [cel]
          cases hc : L with
          | nil => rw [hc] at hLl; simp at hLl; omega
          | cons _ _ => rfl
        rw [this]
        rfl
      · rw [oNe_strD, decide_eq_true rfl]
        rfl
      refine sRet_ok ?_
      refine eTup_ok (aCons_ok (eTup_ok (aCons_ok (d := .int (N.n : Nat)) (eFld_ok (eVar_ok rfl) tkS_0 rfl) (aCons_ok (d := .tup (N.ways.map wayD)) (eCb_ok (aCons_ok (eFld_ok (eVar_ok rfl) tkS_0 rfl) aNil_ok) (pure1_okS ?_)) aNil_ok)) (by simp)) (aCons_ok (d := .tup (prs.map pairD)) (eCb_ok (aCons_ok (eFld_ok (eVar_ok rfl) tkS_0 rfl) aNil_ok) (pure1_okS ?_)) aNil_ok)) (by simp)
      · show gTuple [.loc (B.length + 1)] _ = _
        have e : lstOf (tkS B N.n N.ways prs) (.loc (B.length + 1)) = some _ := lstOf_at tkS_1
        unfold gTuple
        show Option.map D.tup (lstOf (tkS B N.n N.ways prs) (D.loc (B.length + 1))) = _
        rw [e]
        rfl
      · show gTuple [.loc (B.length + 2)] _ = _
        have e : lstOf (tkS B N.n N.ways prs) (.loc (B.length + 2)) = some _ := lstOf_at tkS_2
        unfold gTuple
        show Option.map D.tup (lstOf (tkS B N.n N.ways prs) (D.loc (B.length + 2))) = _
        rw [e]
        rfl
  refine runF_rt key ?_
  have e1 : tkS B N.n N.ways prs = S ++ ([.lst L] ++ [.ins "Task" (tkF B.length N.n), .lst (N.ways.map wayD), .lst (prs.map pairD)]) := by
    unfold tkS
    rw [hB, List.append_assoc]
  rw [e1]
  refine gc_app ?_
  unfold netD pairsD
  simp only [okD, okDs, okDs_ways, okDs_pairs, Bool.and_self]
theorem oEq_strT {x : Str} : oEq (.str x) (.str x) S = some (.bl true) := by rw [oEq_strD, decide_eq_true rfl]
theorem same_str (k : Nat) (x : Str) (S : Sto) : f_law_sameN (k + 1) [.str x, .str x] S = .ok (.bl true) S := by
  refine runF_rt (S1 := S) (d := .bl true) ?_ (gc_same rfl)
  show b_law_same (f_law_sameN k) [some (.str x), some (.str x), none] S = _
  unfold b_law_same
  have h1 : (eIsi "tuple" (eVar 1)) [some (.str x), some (.str x), none] S = .ok (.bl false) S := by unfold eIsi; rw [eVar_ok rfl]; rfl
  have h2 : (eIsi "str" (eVar 1)) [some (.str x), some (.str x), none] S = .ok (.bl true) S := by unfold eIsi; rw [eVar_ok rfl]; rfl
  have h3 : (eIsi "str" (eVar 0)) [some (.str x), some (.str x), none] S = .ok (.bl true) S := by unfold eIsi; rw [eVar_ok rfl]; rfl
  rw [sSeq_nx (sIf_fn (bVal_ok h1))]
  rw [sSeq_nx (sIf_fn (bBin_ok (c := false) (eVar_ok rfl) eC_ok rfl))]
  refine q_rt (sIf_to (bVal_ok h2) (sRet_ok ?_))
  unfold eAnd
  rw [h3]
  simp only [R.bind_ok]
  exact eBin_ok (eVar_ok rfl) (eVar_ok rfl) oEq_strT
theorem same_task (h : Small N prs) (S : Sto) : f_law_same [.tup [netD N, pairsD prs], .tup [netD N, pairsD prs]] S = .ok (.bl true) S := by
  have wl := h.wl
  have pl := h.pl
  refine same_tup 6 _ (by simp) S fun d hd => ?_
  simp only [List.mem_cons, List.not_mem_nil, or_false] at hd
  rcases hd with rfl | rfl
  · refine same_tup 5 _ (by simp) S fun d hd => ?_
    simp only [List.mem_cons, List.not_mem_nil, or_false] at hd
    rcases hd with rfl | rfl
    · exact same_int 4 _ S
    · refine same_tup 4 _ (by rw [List.length_map]; omega) S fun d hd => ?_
      obtain ⟨w, hw, rfl⟩ := List.mem_map.mp hd
      refine same_tup 3 _ (by simp) S fun d hd => ?_
      simp only [List.mem_cons, List.not_mem_nil, or_false] at hd
      rcases hd with rfl | rfl | rfl <;> exact same_int 2 _ S
  · refine same_tup 5 _ (by rw [List.length_map]; omega) S fun d hd => ?_
    obtain ⟨w, hw, rfl⟩ := List.mem_map.mp hd
    refine same_tup 4 _ (by simp) S fun d hd => ?_
    simp only [List.mem_cons, List.not_mem_nil, or_false] at hd
    rcases hd with rfl | rfl <;> exact same_int 3 _ S
end
theorem law_true (ns : List Int) (hl : ns.length ≤ 63) : ∃ S, f_law [.frz (ns.map D.int)] [] = .ok (.bl true) S := by
  obtain ⟨N, P1, hN, p1, e1⟩ := net_spec (P := ⟨ns, 0, 0, 0, 0⟩) (most := 12) (W := 24) (by omega) (by omega) (by omega) (Int.le_refl 0)
  obtain ⟨prs, P2, hp, nd, pl, p2, e2⟩ := pairs_specN (n := N.n) (most := 6) (by have := hN.n2; omega) (by omega) p1
  have h : Small N prs := ⟨hN.n2, fun w hw => hN.ways w hw, hN.len, hp, pl⟩
  obtain ⟨sc, hsc⟩ : ∃ sc, sc = D.frz (ns.map D.int) := ⟨_, rfl⟩
  rw [← hsc]
  have e1 : f_law_net [.loc 0, .int 12, .int 24] [poolC ⟨ns, 0, 0, 0, 0⟩] = .ok (netD N) [poolC P1] := e1
  have e2 : f_law_pairs [.loc 0, .int N.n, .int 6] [poolC P1] = .ok (pairsD prs) [poolC P2] := e2
  obtain ⟨tx, htx⟩ : ∃ tx, tx = textL (linesL N prs) := ⟨_, rfl⟩
  have hb : b_law [some sc, none, none, none, none, none] [] = .rt (.bl true) [poolC P2] := by
    unfold b_law
    refine q_set (d := .loc 0) (S1 := [poolC ⟨ns, 0, 0, 0, 0⟩]) (eCall_ok (aCons_ok (eVar_ok rfl) aNil_ok) rfl (by rw [hsc]; exact pool_spec ns)) ?_
    refine q_set (d := netD N) (eCall_ok (aCons_ok (eVar_ok rfl) (aCons_ok eC_ok (aCons_ok eC_ok aNil_ok))) rfl e1) ?_
    refine q_set (d := pairsD prs) (eCall_ok (aCons_ok (eVar_ok rfl) (aCons_ok (eBin_ok (eVar_ok rfl) eC_ok (oIx_tup.trans atI_0)) (aCons_ok eC_ok aNil_ok))) rfl e2) ?_
    refine q_set (d := .str tx) (S1 := [poolC P2]) ?_ ?_
    · rw [htx]
      exact text_of (k := ⟨(linesL N prs).map D.str, none⟩) (linesL_len h) (fun l hl => line_len h hl) (iSeqD_lst (eCall_ok (aCons_ok (eVar_ok rfl) (aCons_ok (eVar_ok rfl) aNil_ok)) rfl (law_lines_spec h _))) True.intro rfl (by simp)
    refine sRet_ok ?_
    have w1 := write_task_spec h [poolC P2]
    have w2 := read_task_spec h hN.n1 nd [poolC P2]
    rw [← htx] at w1 w2
    have q1 : (eCall 2 f_law_same (aCons (eCall 2 f_write_task (aCons (eVar 2) (aCons (eVar 3) aNil))) (aCons (eVar 4) aNil))) [some sc, some (.loc 0), some (netD N), some (pairsD prs), some (.str tx), none] [poolC P2] = .ok (.bl true) [poolC P2] := eCall_ok (aCons_ok (eCall_ok (aCons_ok (eVar_ok rfl) (aCons_ok (eVar_ok rfl) aNil_ok)) rfl w1) (aCons_ok (eVar_ok rfl) aNil_ok)) rfl (same_str 6 tx _)
    unfold eAnd
    show ((eCall 2 f_law_same (aCons (eCall 2 f_write_task (aCons (eVar 2) (aCons (eVar 3) aNil))) (aCons (eVar 4) aNil))) [some sc, some (.loc 0), some (netD N), some (pairsD prs), some (.str tx), none] [poolC P2]).bind _ = _
    rw [q1]
    simp only [R.bind_ok]
    exact eCall_ok (aCons_ok (eCall_ok (aCons_ok (eVar_ok rfl) aNil_ok) rfl w2) (aCons_ok (eTup_ok (aCons_ok (eVar_ok rfl) (aCons_ok (eVar_ok rfl) aNil_ok)) (by simp)) aNil_ok)) rfl (same_task h _)
  exact ⟨[], runF_rt hb (gc_app (S := []) (T := [poolC P2]) rfl)⟩
end Ev

namespace Ev
open PySem PySem.Spec PyProof.Rows L2

theorem all_mk {l : PySem.W.OpenLaw} {w : World} {K : PySem.W.Frag} {h : Heap} {mg : Str → Option Value} {fa : Addr} (X : K.In h) (G : h.Ns mainGlobals mg) (hfa : mg "law" = some (.ref fa))
    {od1 an1 od2 an2 od3 an3 od4 an4 od5 an5 od6 an6 od7 an7 od8 an8 od9 an9 od10 an10 od11 an11 od12 an12 od13 an13 od14 an14 od15 an15 od16 an16 od17 an17 od18 an18 : Option Addr} {sl1 sl2 sl3 sl4 sl5 sl6 sl7 sl8 sl9 sl10 sl11 sl12 sl13 sl14 sl15 sl16 sl17 sl18 : Array (Option Value)} {oc1 dc1 pm1 ct1 kV1 cd1 oc2 dc2 pm2 ct2 kV2 cd2 oc3 dc3 pm3 ct3 kV3 cd3 oc4 dc4 pm4 ct4 kV4 cd4 oc5 dc5 pm5 ct5 kV5 cd5 oc6 dc6 pm6 ct6 kV6 cd6 oc7 dc7 pm7 ct7 kV7 cd7 oc8 dc8 pm8 ct8 kV8 cd8 oc9 dc9 pm9 ct9 kV9 cd9 oc10 dc10 pm10 ct10 kV10 cd10 oc11 dc11 pm11 ct11 kV11 cd11 oc12 dc12 pm12 ct12 kV12 cd12 oc13 dc13 pm13 ct13 kV13 cd13 oc14 dc14 pm14 ct14 kV14 cd14 oc15 dc15 pm15 ct15 kV15 cd15 oc16 dc16 pm16 ct16 kV16 cd16 oc17 dc17 pm17 ct17 kV17 cd17 oc18 dc18 pm18 ct18 kV18 cd18 : Value} {aC_Task a1 a2 a3 a4 a5 a6 a7 a8 a9 a10 a11 a12 a13 a14 a15 a16 a17 a18 : Addr} {tk_MOST_COST tk_MOST_PAIRS tk_MOST_PLACES tk_MOST_WAYS : Tok}
    (nC_Task : PySem.W.nsIn K mainGlobals "Task" = some (some (.ref aC_Task)))
    (pg_Task : PySem.W.plainGet K aC_Task Str.empty = true)
    (hd_Task : PySem.W.hasDictIn K aC_Task = true)
    (po_Task : PySem.W.plainOver K aC_Task = true)
    (sa_Task : PySem.W.findIn K (.ref aC_Task) "__setattr__" = some (some (.builtin "object.__setattr__")))
    (fC_Task_pairs : PySem.W.findIn K (.ref aC_Task) "pairs" = some none)
    (fC_Task_places : PySem.W.findIn K (.ref aC_Task) "places" = some none)
    (fC_Task_ways : PySem.W.findIn K (.ref aC_Task) "ways" = some none)
    (n1 : PySem.W.nsIn K mainGlobals "_law_pool" = some (some (.ref a1)))
    (l1 : K.lookup a1 = some ⟨oc1, od1, .func (PySem.W.fnOf "_law_pool" "_law_pool" (defArgs s_law_pool) (defBody s_law_pool) (defScope s_law_pool) .none kV1 dc1 pm1 an1 cd1 ct1), sl1⟩)
    (e1 : PySem.W.codeIn K cd1 "_law_pool" = true)
    (k1 : PySem.W.keepIn K (.ref a1) = true)
    (n2 : PySem.W.nsIn K mainGlobals "_law_draw" = some (some (.ref a2)))
    (l2 : K.lookup a2 = some ⟨oc2, od2, .func (PySem.W.fnOf "_law_draw" "_law_draw" (defArgs s_law_draw) (defBody s_law_draw) (defScope s_law_draw) .none kV2 dc2 pm2 an2 cd2 ct2), sl2⟩)
    (e2 : PySem.W.codeIn K cd2 "_law_draw" = true)
    (k2 : PySem.W.keepIn K (.ref a2) = true)
    (n3 : PySem.W.nsIn K mainGlobals "_law_cost" = some (some (.ref a3)))
    (l3 : K.lookup a3 = some ⟨oc3, od3, .func (PySem.W.fnOf "_law_cost" "_law_cost" (defArgs s_law_cost) (defBody s_law_cost) (defScope s_law_cost) .none kV3 dc3 pm3 an3 cd3 ct3), sl3⟩)
    (e3 : PySem.W.codeIn K cd3 "_law_cost" = true)
    (k3 : PySem.W.keepIn K (.ref a3) = true)
    (n4 : PySem.W.nsIn K mainGlobals "_law_way" = some (some (.ref a4)))
    (l4 : K.lookup a4 = some ⟨oc4, od4, .func (PySem.W.fnOf "_law_way" "_law_way" (defArgs s_law_way) (defBody s_law_way) (defScope s_law_way) .none kV4 dc4 pm4 an4 cd4 ct4), sl4⟩)
    (e4 : PySem.W.codeIn K cd4 "_law_way" = true)
    (k4 : PySem.W.keepIn K (.ref a4) = true)
    (n5 : PySem.W.nsIn K mainGlobals "_law_net" = some (some (.ref a5)))
    (l5 : K.lookup a5 = some ⟨oc5, od5, .func (PySem.W.fnOf "_law_net" "_law_net" (defArgs s_law_net) (defBody s_law_net) (defScope s_law_net) .none kV5 dc5 pm5 an5 cd5 ct5), sl5⟩)
    (e5 : PySem.W.codeIn K cd5 "_law_net" = true)
    (k5 : PySem.W.keepIn K (.ref a5) = true)
    (n6 : PySem.W.nsIn K mainGlobals "_law_pairs" = some (some (.ref a6)))
    (l6 : K.lookup a6 = some ⟨oc6, od6, .func (PySem.W.fnOf "_law_pairs" "_law_pairs" (defArgs s_law_pairs) (defBody s_law_pairs) (defScope s_law_pairs) .none kV6 dc6 pm6 an6 cd6 ct6), sl6⟩)
    (e6 : PySem.W.codeIn K cd6 "_law_pairs" = true)
    (k6 : PySem.W.keepIn K (.ref a6) = true)
    (n7 : PySem.W.nsIn K mainGlobals "_law_lines" = some (some (.ref a7)))
    (l7 : K.lookup a7 = some ⟨oc7, od7, .func (PySem.W.fnOf "_law_lines" "_law_lines" (defArgs s_law_lines) (defBody s_law_lines) (defScope s_law_lines) .none kV7 dc7 pm7 an7 cd7 ct7), sl7⟩)
    (e7 : PySem.W.codeIn K cd7 "_law_lines" = true)
    (k7 : PySem.W.keepIn K (.ref a7) = true)
    (n8 : PySem.W.nsIn K mainGlobals "write_task" = some (some (.ref a8)))
    (l8 : K.lookup a8 = some ⟨oc8, od8, .func (PySem.W.fnOf "write_task" "write_task" (defArgs s_write_task) (defBody s_write_task) (defScope s_write_task) .none kV8 dc8 pm8 an8 cd8 ct8), sl8⟩)
    (e8 : PySem.W.codeIn K cd8 "write_task" = true)
    (k8 : PySem.W.keepIn K (.ref a8) = true)
    (n9 : PySem.W.nsIn K mainGlobals "_law_same" = some (some (.ref a9)))
    (l9 : K.lookup a9 = some ⟨oc9, od9, .func (PySem.W.fnOf "_law_same" "_law_same" (defArgs s_law_same) (defBody s_law_same) (defScope s_law_same) .none kV9 dc9 pm9 an9 cd9 ct9), sl9⟩)
    (e9 : PySem.W.codeIn K cd9 "_law_same" = true)
    (k9 : PySem.W.keepIn K (.ref a9) = true)
    (n10 : PySem.W.findIn K (.ref aC_Task) "__init__" = some (some (.ref a10)))
    (i10 : PySem.W.isFn K (.ref a10) = true)
    (mk_Task : PySem.W.makesIn K aC_Task = true)
    (kc_Task : PySem.W.keepIn K (.ref aC_Task) = true)
    (l10 : K.lookup a10 = some ⟨oc10, od10, .func (PySem.W.fnOf "__init__" "Task.__init__" (defArgs s_Task_init) (defBody s_Task_init) (defScope s_Task_init) .none kV10 dc10 pm10 an10 cd10 ct10), sl10⟩)
    (e10 : PySem.W.codeIn K cd10 "Task.__init__" = true)
    (k10 : PySem.W.keepIn K (.ref a10) = true)
    (n11 : PySem.W.nsIn K mainGlobals "number_of" = some (some (.ref a11)))
    (l11 : K.lookup a11 = some ⟨oc11, od11, .func (PySem.W.fnOf "number_of" "number_of" (defArgs s_number_of) (defBody s_number_of) (defScope s_number_of) .none kV11 dc11 pm11 an11 cd11 ct11), sl11⟩)
    (e11 : PySem.W.codeIn K cd11 "number_of" = true)
    (k11 : PySem.W.keepIn K (.ref a11) = true)
    (n12 : PySem.W.findIn K (.ref aC_Task) "reads_places" = some (some (.ref a12)))
    (i12 : PySem.W.isFn K (.ref a12) = true)
    (l12 : K.lookup a12 = some ⟨oc12, od12, .func (PySem.W.fnOf "reads_places" "Task.reads_places" (defArgs s_Task_reads_places) (defBody s_Task_reads_places) (defScope s_Task_reads_places) .none kV12 dc12 pm12 an12 cd12 ct12), sl12⟩)
    (e12 : PySem.W.codeIn K cd12 "Task.reads_places" = true)
    (k12 : PySem.W.keepIn K (.ref a12) = true)
    (n13 : PySem.W.findIn K (.ref aC_Task) "ends" = some (some (.ref a13)))
    (i13 : PySem.W.isFn K (.ref a13) = true)
    (l13 : K.lookup a13 = some ⟨oc13, od13, .func (PySem.W.fnOf "ends" "Task.ends" (defArgs s_Task_ends) (defBody s_Task_ends) (defScope s_Task_ends) .none kV13 dc13 pm13 an13 cd13 ct13), sl13⟩)
    (e13 : PySem.W.codeIn K cd13 "Task.ends" = true)
    (k13 : PySem.W.keepIn K (.ref a13) = true)
    (n14 : PySem.W.findIn K (.ref aC_Task) "reads_way" = some (some (.ref a14)))
    (i14 : PySem.W.isFn K (.ref a14) = true)
    (l14 : K.lookup a14 = some ⟨oc14, od14, .func (PySem.W.fnOf "reads_way" "Task.reads_way" (defArgs s_Task_reads_way) (defBody s_Task_reads_way) (defScope s_Task_reads_way) .none kV14 dc14 pm14 an14 cd14 ct14), sl14⟩)
    (e14 : PySem.W.codeIn K cd14 "Task.reads_way" = true)
    (k14 : PySem.W.keepIn K (.ref a14) = true)
    (n15 : PySem.W.findIn K (.ref aC_Task) "reads_pair" = some (some (.ref a15)))
    (i15 : PySem.W.isFn K (.ref a15) = true)
    (l15 : K.lookup a15 = some ⟨oc15, od15, .func (PySem.W.fnOf "reads_pair" "Task.reads_pair" (defArgs s_Task_reads_pair) (defBody s_Task_reads_pair) (defScope s_Task_reads_pair) .none kV15 dc15 pm15 an15 cd15 ct15), sl15⟩)
    (e15 : PySem.W.codeIn K cd15 "Task.reads_pair" = true)
    (k15 : PySem.W.keepIn K (.ref a15) = true)
    (n16 : PySem.W.findIn K (.ref aC_Task) "reads" = some (some (.ref a16)))
    (i16 : PySem.W.isFn K (.ref a16) = true)
    (l16 : K.lookup a16 = some ⟨oc16, od16, .func (PySem.W.fnOf "reads" "Task.reads" (defArgs s_Task_reads) (defBody s_Task_reads) (defScope s_Task_reads) .none kV16 dc16 pm16 an16 cd16 ct16), sl16⟩)
    (e16 : PySem.W.codeIn K cd16 "Task.reads" = true)
    (k16 : PySem.W.keepIn K (.ref a16) = true)
    (n17 : PySem.W.nsIn K mainGlobals "read_task" = some (some (.ref a17)))
    (l17 : K.lookup a17 = some ⟨oc17, od17, .func (PySem.W.fnOf "read_task" "read_task" (defArgs s_read_task) (defBody s_read_task) (defScope s_read_task) .none kV17 dc17 pm17 an17 cd17 ct17), sl17⟩)
    (e17 : PySem.W.codeIn K cd17 "read_task" = true)
    (k17 : PySem.W.keepIn K (.ref a17) = true)
    (n18 : PySem.W.nsIn K mainGlobals "law" = some (some (.ref a18)))
    (l18 : K.lookup a18 = some ⟨oc18, od18, .func (PySem.W.fnOf "law" "law" (defArgs s_law) (defBody s_law) (defScope s_law) .none kV18 dc18 pm18 an18 cd18 ct18), sl18⟩)
    (e18 : PySem.W.codeIn K cd18 "law" = true)
    (k18 : PySem.W.keepIn K (.ref a18) = true)
    (y_MOST_COST : PySem.W.nsIn K mainGlobals "MOST_COST" = some (some (.int 10000 tk_MOST_COST)))
    (y_MOST_PAIRS : PySem.W.nsIn K mainGlobals "MOST_PAIRS" = some (some (.int 6 tk_MOST_PAIRS)))
    (y_MOST_PLACES : PySem.W.nsIn K mainGlobals "MOST_PLACES" = some (some (.int 12 tk_MOST_PLACES)))
    (y_MOST_WAYS : PySem.W.nsIn K mainGlobals "MOST_WAYS" = some (some (.int 24 tk_MOST_WAYS)))
    (z_abs : PySem.W.nsIn K mainGlobals "abs" = some none)
    (z_all : PySem.W.nsIn K mainGlobals "all" = some none)
    (z_bool : PySem.W.nsIn K mainGlobals "bool" = some none)
    (z_enumerate : PySem.W.nsIn K mainGlobals "enumerate" = some none)
    (z_int : PySem.W.nsIn K mainGlobals "int" = some none)
    (z_isinstance : PySem.W.nsIn K mainGlobals "isinstance" = some none)
    (z_len : PySem.W.nsIn K mainGlobals "len" = some none)
    (z_list : PySem.W.nsIn K mainGlobals "list" = some none)
    (z_min : PySem.W.nsIn K mainGlobals "min" = some none)
    (z_range : PySem.W.nsIn K mainGlobals "range" = some none)
    (z_str : PySem.W.nsIn K mainGlobals "str" = some none)
    (z_tuple : PySem.W.nsIn K mainGlobals "tuple" = some none) :
    ∃ fd : FuncData, (∀ (s : Shared) (v : Value), BindsTo s fd ⟨[v], []⟩ [("_law_script", v)]) ∧ ∀ base : Heap, K.In base → base.Ns mainGlobals mg → FnOk l.prog w K mg base CX0 9 fa fd ["_law_script"] (spOf K 1 f_law) := by
  have e := hfa.symm.trans (PySem.W.mg_of X G n18)
  cases e
  have CI_Task : CI K "Task" aC_Task := ⟨nC_Task, ⟨pg_Task, hd_Task, po_Task, sa_Task⟩⟩
  have T : Txt K mg := ⟨PySem.W.mg_none_of X G z_abs, PySem.W.mg_none_of X G z_all, PySem.W.mg_none_of X G z_bool, PySem.W.mg_none_of X G z_enumerate, PySem.W.mg_none_of X G z_int, PySem.W.mg_none_of X G z_isinstance, PySem.W.mg_none_of X G z_len, PySem.W.mg_none_of X G z_list, PySem.W.mg_none_of X G z_min, PySem.W.mg_none_of X G z_range, PySem.W.mg_none_of X G z_str, PySem.W.mg_none_of X G z_tuple, ⟨_, PySem.W.mg_of X G y_MOST_COST⟩, ⟨_, PySem.W.mg_of X G y_MOST_PAIRS⟩, ⟨_, PySem.W.mg_of X G y_MOST_PLACES⟩, ⟨_, PySem.W.mg_of X G y_MOST_WAYS⟩, ⟨_, CI_Task, fC_Task_pairs⟩, ⟨_, CI_Task, fC_Task_places⟩, ⟨_, CI_Task, fC_Task_ways⟩⟩
  have F1 := fun_mk (st := s_law_pool) l1 e1 k1
  have b1 := F1.binds (ps := ["_law_script"]) fun _ _ _ _ _ _ us hl => match us, hl with | [_], _ => rfl
  have c_law_pool : ∀ base : Heap, Cal l.prog w K mg base CX0 1 "_law_pool" 1 f_law_pool := fun base => ⟨a1, _, _, (ok_law_pool F1 T ), PySem.W.mg_of X G n1, k1, b1⟩
  have F2 := fun_mk (st := s_law_draw) l2 e2 k2
  have b2 := F2.binds (ps := ["_law_pool_here", "_law_many"]) fun _ _ _ _ _ _ us hl => match us, hl with | [_, _], _ => rfl
  have c_law_draw : ∀ base : Heap, Cal l.prog w K mg base CX0 1 "_law_draw" 2 f_law_draw := fun base => ⟨a2, _, _, (ok_law_draw F2 T ), PySem.W.mg_of X G n2, k2, b2⟩
  have F3 := fun_mk (st := s_law_cost) l3 e3 k3
  have b3 := F3.binds (ps := ["_law_pool_here"]) fun _ _ _ _ _ _ us hl => match us, hl with | [_], _ => rfl
  have c_law_cost : ∀ base : Heap, Cal l.prog w K mg base CX0 2 "_law_cost" 1 f_law_cost := fun base => ⟨a3, _, _, (ok_law_cost F3 T (c_law_draw base)), PySem.W.mg_of X G n3, k3, b3⟩
  have F4 := fun_mk (st := s_law_way) l4 e4 k4
  have b4 := F4.binds (ps := ["_law_pool_here", "_law_places"]) fun _ _ _ _ _ _ us hl => match us, hl with | [_, _], _ => rfl
  have c_law_way : ∀ base : Heap, Cal l.prog w K mg base CX0 3 "_law_way" 2 f_law_way := fun base => ⟨a4, _, _, (ok_law_way F4 T (c_law_draw base) (c_law_cost base)), PySem.W.mg_of X G n4, k4, b4⟩
  have F5 := fun_mk (st := s_law_net) l5 e5 k5
  have b5 := F5.binds (ps := ["_law_pool_here", "_law_most", "_law_ways"]) fun _ _ _ _ _ _ us hl => match us, hl with | [_, _, _], _ => rfl
  have c_law_net : ∀ base : Heap, Cal l.prog w K mg base CX0 4 "_law_net" 3 f_law_net := fun base => ⟨a5, _, _, (ok_law_net F5 T (c_law_draw base) (c_law_cost base) (c_law_way base)), PySem.W.mg_of X G n5, k5, b5⟩
  have F6 := fun_mk (st := s_law_pairs) l6 e6 k6
  have b6 := F6.binds (ps := ["_law_pool_here", "_law_places", "_law_most"]) fun _ _ _ _ _ _ us hl => match us, hl with | [_, _, _], _ => rfl
  have c_law_pairs : ∀ base : Heap, Cal l.prog w K mg base CX0 2 "_law_pairs" 3 f_law_pairs := fun base => ⟨a6, _, _, (ok_law_pairs F6 T (c_law_draw base)), PySem.W.mg_of X G n6, k6, b6⟩
  have F7 := fun_mk (st := s_law_lines) l7 e7 k7
  have b7 := F7.binds (ps := ["_law_net_here", "_law_pairs_here"]) fun _ _ _ _ _ _ us hl => match us, hl with | [_, _], _ => rfl
  have c_law_lines : ∀ base : Heap, Cal l.prog w K mg base CX0 1 "_law_lines" 2 f_law_lines := fun base => ⟨a7, _, _, (ok_law_lines F7 T ), PySem.W.mg_of X G n7, k7, b7⟩
  have F8 := fun_mk (st := s_write_task) l8 e8 k8
  have b8 := F8.binds (ps := ["net", "pairs"]) fun _ _ _ _ _ _ us hl => match us, hl with | [_, _], _ => rfl
  have c_write_task : ∀ base : Heap, Cal l.prog w K mg base CX0 1 "write_task" 2 f_write_task := fun base => ⟨a8, _, _, (ok_write_task F8 T ), PySem.W.mg_of X G n8, k8, b8⟩
  have F9 := fun_mk (st := s_law_same) l9 e9 k9
  have b9 := F9.binds (ps := ["_law_actual", "_law_due"]) fun _ _ _ _ _ _ us hl => match us, hl with | [_, _], _ => rfl
  have c_law_same : ∀ base : Heap, Cal l.prog w K mg base CX0 8 "_law_same" 2 f_law_same := fun base => ⟨a9, _, _, (ok_law_same F9 T (PySem.W.mg_of X G n9) b9 ), PySem.W.mg_of X G n9, k9, b9⟩
  have F10 := fun_mk (st := s_Task_init) l10 e10 k10
  have b10 := F10.binds (ps := ["self"]) fun _ _ _ _ _ _ us hl => match us, hl with | [_], _ => rfl
  have k_Task : ∀ base : Heap, CalC l.prog w K mg base CX0 1 "Task" 1 f_Task_init := fun base => ⟨aC_Task, a10, _, _, CI_Task, ⟨mk_Task, n10, i10, kc_Task⟩, PySem.W.mg_of X G nC_Task, (ok_Task_init F10 T ), b10⟩
  have F11 := fun_mk (st := s_number_of) l11 e11 k11
  have b11 := F11.binds (ps := ["word"]) fun _ _ _ _ _ _ us hl => match us, hl with | [_], _ => rfl
  have c_number_of : ∀ base : Heap, Cal l.prog w K mg base CX0 1 "number_of" 1 f_number_of := fun base => ⟨a11, _, _, (ok_number_of F11 T ), PySem.W.mg_of X G n11, k11, b11⟩
  have F12 := fun_mk (st := s_Task_reads_places) l12 e12 k12
  have b12 := F12.binds (ps := ["self", "number"]) fun _ _ _ _ _ _ us hl => match us, hl with | [_, _], _ => rfl
  have c_Task_reads_places : ∀ base : Heap, CalM l.prog w K mg base CX0 1 "Task" "reads_places" 2 f_Task_reads_places := fun base => ⟨aC_Task, a12, _, _, CI_Task, ⟨n12, i12, k12⟩, (ok_Task_reads_places F12 T ), b12⟩
  have F13 := fun_mk (st := s_Task_ends) l13 e13 k13
  have b13 := F13.binds (ps := ["self", "numbers"]) fun _ _ _ _ _ _ us hl => match us, hl with | [_, _], _ => rfl
  have c_Task_ends : ∀ base : Heap, CalM l.prog w K mg base CX0 1 "Task" "ends" 2 f_Task_ends := fun base => ⟨aC_Task, a13, _, _, CI_Task, ⟨n13, i13, k13⟩, (ok_Task_ends F13 T ), b13⟩
  have F14 := fun_mk (st := s_Task_reads_way) l14 e14 k14
  have b14 := F14.binds (ps := ["self", "way"]) fun _ _ _ _ _ _ us hl => match us, hl with | [_, _], _ => rfl
  have c_Task_reads_way : ∀ base : Heap, CalM l.prog w K mg base CX0 2 "Task" "reads_way" 2 f_Task_reads_way := fun base => ⟨aC_Task, a14, _, _, CI_Task, ⟨n14, i14, k14⟩, (ok_Task_reads_way F14 T (c_Task_ends base)), b14⟩
  have F15 := fun_mk (st := s_Task_reads_pair) l15 e15 k15
  have b15 := F15.binds (ps := ["self", "pair"]) fun _ _ _ _ _ _ us hl => match us, hl with | [_, _], _ => rfl
  have c_Task_reads_pair : ∀ base : Heap, CalM l.prog w K mg base CX0 2 "Task" "reads_pair" 2 f_Task_reads_pair := fun base => ⟨aC_Task, a15, _, _, CI_Task, ⟨n15, i15, k15⟩, (ok_Task_reads_pair F15 T (c_Task_ends base)), b15⟩
  have F16 := fun_mk (st := s_Task_reads) l16 e16 k16
  have b16 := F16.binds (ps := ["self", "line"]) fun _ _ _ _ _ _ us hl => match us, hl with | [_, _], _ => rfl
  have c_Task_reads : ∀ base : Heap, CalM l.prog w K mg base CX0 3 "Task" "reads" 2 f_Task_reads := fun base => ⟨aC_Task, a16, _, _, CI_Task, ⟨n16, i16, k16⟩, (ok_Task_reads F16 T (c_number_of base) (c_Task_reads_places base) (c_Task_reads_way base) (c_Task_reads_pair base)), b16⟩
  have F17 := fun_mk (st := s_read_task) l17 e17 k17
  have b17 := F17.binds (ps := ["text"]) fun _ _ _ _ _ _ us hl => match us, hl with | [_], _ => rfl
  have c_read_task : ∀ base : Heap, Cal l.prog w K mg base CX0 4 "read_task" 1 f_read_task := fun base => ⟨a17, _, _, (ok_read_task F17 T (k_Task base) (c_Task_reads base)), PySem.W.mg_of X G n17, k17, b17⟩
  have F18 := fun_mk (st := s_law) l18 e18 k18
  exact ⟨_, fun s v => .of_eq rfl, fun base _ _ => ok_law F18 T (c_law_pool base) (c_law_net base) (c_law_pairs base) (c_law_lines base) (c_write_task base) (c_law_same base) (c_read_task base)⟩
end Ev

open PySem PySem.W PyProof.Rows
set_option maxRecDepth 100000 in
set_option maxHeartbeats 0 in
theorem PySem.Challenge.cw_moatways_k20_texts_of_tasks_holds : PySem.Challenge.rw_moatways_k20_texts_of_tasks.Holds := by
  w_on; o_law; k_head; (case hw => w_witness2)
  k_fill
  refine L2.walk_of (l := PySem.Challenge.rw_moatways_k20_texts_of_tasks) (n := 63) (k := 9) (x := "_law_script") (CX := fun _ => L2.CX0) (sp := fun w => Ev.spOf _ 1 Ev.f_law) rfl (by decide) rfl ⟨rfl, by decide, by decide⟩ (fun w h Y => PySem.W.kIn_of Y) ?F (fun w H a ns hl ho hS => Ev.law_sp ho hS (Ev.law_true ns hl)) (fun _ _ _ _ _ h => h)
  case F =>
    intro w mg fa h KX G hmg
    refine' Ev.all_mk KX G hmg ?nC_Task ?pg_Task ?hd_Task ?po_Task ?sa_Task ?fC_Task_pairs ?fC_Task_places ?fC_Task_ways ?n1 ?l1 ?e1 ?k1 ?n2 ?l2 ?e2 ?k2 ?n3 ?l3 ?e3 ?k3 ?n4 ?l4 ?e4 ?k4 ?n5 ?l5 ?e5 ?k5 ?n6 ?l6 ?e6 ?k6 ?n7 ?l7 ?e7 ?k7 ?n8 ?l8 ?e8 ?k8 ?n9 ?l9 ?e9 ?k9 ?n10 ?i10 ?mk_Task ?kc_Task ?l10 ?e10 ?k10 ?n11 ?l11 ?e11 ?k11 ?n12 ?i12 ?l12 ?e12 ?k12 ?n13 ?i13 ?l13 ?e13 ?k13 ?n14 ?i14 ?l14 ?e14 ?k14 ?n15 ?i15 ?l15 ?e15 ?k15 ?n16 ?i16 ?l16 ?e16 ?k16 ?n17 ?l17 ?e17 ?k17 ?n18 ?l18 ?e18 ?k18 ?y_MOST_COST ?y_MOST_PAIRS ?y_MOST_PLACES ?y_MOST_WAYS ?z_abs ?z_all ?z_bool ?z_enumerate ?z_int ?z_isinstance ?z_len ?z_list ?z_min ?z_range ?z_str ?z_tuple
    (case nC_Task => k_is)
    (case pg_Task => k_is)
    (case hd_Task => k_is)
    (case po_Task => k_is)
    (case sa_Task => k_is)
    (case fC_Task_pairs => k_is)
    (case fC_Task_places => k_is)
    (case fC_Task_ways => k_is)
    (case n1 => k_is)
    (case l1 => k_is)
    (case e1 => k_is)
    (case k1 => k_is)
    (case n2 => k_is)
    (case l2 => k_is)
    (case e2 => k_is)
    (case k2 => k_is)
    (case n3 => k_is)
    (case l3 => k_is)
    (case e3 => k_is)
    (case k3 => k_is)
    (case n4 => k_is)
    (case l4 => k_is)
    (case e4 => k_is)
    (case k4 => k_is)
    (case n5 => k_is)
    (case l5 => k_is)
    (case e5 => k_is)
    (case k5 => k_is)
    (case n6 => k_is)
    (case l6 => k_is)
    (case e6 => k_is)
    (case k6 => k_is)
    (case n7 => k_is)
    (case l7 => k_is)
    (case e7 => k_is)
    (case k7 => k_is)
    (case n8 => k_is)
    (case l8 => k_is)
    (case e8 => k_is)
    (case k8 => k_is)
    (case n9 => k_is)
    (case l9 => k_is)
    (case e9 => k_is)
    (case k9 => k_is)
    (case n10 => k_is)
    (case i10 => k_is)
    (case mk_Task => k_is)
    (case kc_Task => k_is)
    (case l10 => k_is)
    (case e10 => k_is)
    (case k10 => k_is)
    (case n11 => k_is)
    (case l11 => k_is)
    (case e11 => k_is)
    (case k11 => k_is)
    (case n12 => k_is)
    (case i12 => k_is)
    (case l12 => k_is)
    (case e12 => k_is)
    (case k12 => k_is)
    (case n13 => k_is)
    (case i13 => k_is)
    (case l13 => k_is)
    (case e13 => k_is)
    (case k13 => k_is)
    (case n14 => k_is)
    (case i14 => k_is)
    (case l14 => k_is)
    (case e14 => k_is)
    (case k14 => k_is)
    (case n15 => k_is)
    (case i15 => k_is)
    (case l15 => k_is)
    (case e15 => k_is)
    (case k15 => k_is)
    (case n16 => k_is)
    (case i16 => k_is)
    (case l16 => k_is)
    (case e16 => k_is)
    (case k16 => k_is)
    (case n17 => k_is)
    (case l17 => k_is)
    (case e17 => k_is)
    (case k17 => k_is)
    (case n18 => k_is)
    (case l18 => k_is)
    (case e18 => k_is)
    (case k18 => k_is)
    (case y_MOST_COST => k_is)
    (case y_MOST_PAIRS => k_is)
    (case y_MOST_PLACES => k_is)
    (case y_MOST_WAYS => k_is)
    (case z_abs => k_is)
    (case z_all => k_is)
    (case z_bool => k_is)
    (case z_enumerate => k_is)
    (case z_int => k_is)
    (case z_isinstance => k_is)
    (case z_len => k_is)
    (case z_list => k_is)
    (case z_min => k_is)
    (case z_range => k_is)
    (case z_str => k_is)
    (case z_tuple => k_is)
