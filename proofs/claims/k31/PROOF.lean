import PyProof.Rows.All
import Wide.All
import OpenK.AllK
import Wide.FinOn
import HandS.ForMost
import HandS.Walk
import HandS.Lambda
import HandS.IsInst
import HandS.Wide
import HandS.HeadWalk
import HandS.HeadHook4
import KE.DataEq
import HandS.TupAny
import HandS.SortInts
import HandS.SortRule
import HandS.Text
import HandS.ForExc
import HandS.ExcCtx
import KE.GoesNew
import HandS.Conv
import KE.KDictKeyed
import KE.KeyNested
import KE.DataFind
import HandS.Style
import HandS.Dict
import HandS.WordsDict
import HandS.SetFor
import HandS.Exc
import HandS.ExcOwn
import HandS.HeadHook1
import PyProof.ExcBaseAll.ValueError
import HandS.TupLen
import HandS.TupMul
import HandS.HotCalls
import PyProof.Conv_int_bool
import KE.KExcIs
import KE.KDictDisplayH
import PyProof.AutoSeq1
import HandS.TupLe
import KE.KDictZip
import HandS.ListItems
import KE.SortData
import KE.KStateDown
import Lean
import HandS.Head0
import HandS.Head1
import HandS.Head2
import HandS.HeadEnd
import HandS.HeadHook2
import HandS.Words
import PySem.Challenge.RW_evenlanes_k31_whole_in_any_order
set_option Elab.async false
set_option linter.all false
set_option maxRecDepth 100000
set_option maxHeartbeats 4000000
set_option autoImplicit false
namespace DL
open PySem PySem.Spec PyProof.Rows L2

abbrev PD := PyData
abbrev St := L2.St
abbrev Tb := List (Addr × Str)
abbrev Fr := PySem.W.Frag
abbrev Xt : Hp → Hp → Prop := LamX.ExtN
abbrev NT (o : HO) : Prop := ∀ ps : Array Value, o ≠ .tbl ps
/-- nothing but a table stands there -/
def Nw (H : Hp) (p : Addr) : Prop := ∀ o, H p = some o → ¬ NT o
/-- what may be owned and changed -/
def Mu (o : HO) : Prop := NT o ∧ ∀ (c : Addr) (q : Str), o ≠ LamX.CodeO c q
theorem Mu.lst {xs : List V} : Mu (.lst xs) := ⟨fun ps h => (by cases h), fun c q h => by unfold LamX.CodeO at h; cases h⟩
theorem Mu.dK {kvs : List (Key × V)} : Mu (.dK kvs) := ⟨fun ps h => (by cases h), fun c q h => by unfold LamX.CodeO at h; cases h⟩
theorem Mu.dT {kvs : List (List Key × V)} : Mu (.dT kvs) := ⟨fun ps h => (by cases h), fun c q h => by unfold LamX.CodeO at h; cases h⟩
theorem Xt.refl {H : Hp} : Xt H H := LamX.ExtN.refl H
theorem Xt.trans {H H1 H2 : Hp} (a : Xt H H1) (b : Xt H1 H2) : Xt H H2 := LamX.ExtN.trans a b
theorem Xt.at {H H' : Hp} {a : Addr} {o : HO} (e : Xt H H') (h : H a = some o) (m : Mu o) : H' a = some o := e a o h m.1
theorem Xt.new {H : Hp} {p : Addr} {o : HO} (h : H p = none) : Xt H (upd H p o) := fun b u e _ => by rw [upd_ne (ne_of_none e h)]; exact e
theorem Xt.ex {H H' : Hp} (e : ∀ b o, H b = some o → H' b = some o) : Xt H H' := fun b o h _ => e b o h
theorem tabs_new {T : Tb} {H : Hp} {p : Addr} {o : HO} (t : LamX.Tabs T H) (h : H p = none) : LamX.Tabs T (upd H p o) :=
  t.ext fun b u e => by rw [upd_ne (ne_of_none e h)]; exact e
theorem tabs_upd {T : Tb} {H : Hp} {a : Addr} {o o' : HO} (t : LamX.Tabs T H) (h : H a = some o) (m : Mu o) : LamX.Tabs T (upd H a o') := fun p hp => by
  obtain ⟨ps, h1, h2, h3⟩ := t p hp
  refine ⟨ps, ?_, h2, fun pos cv hc => ?_⟩
  · rw [upd_ne (fun z => by rw [z, h] at h1; exact m.1 ps (Option.some.inj h1))]; exact h1
  · obtain ⟨c, e1, e2⟩ := h3 pos cv hc
    exact ⟨c, e1, by rw [upd_ne (fun z => by rw [z, h] at e2; exact m.2 a p.2 (Option.some.inj (z ▸ e2)))]; exact e2⟩

theorem Nw.of {H : Hp} {p : Addr} (h : H p = none) : Nw H p := fun o e => by rw [h] at e; cases e
theorem Nw.back {H H' : Hp} {p : Addr} (h : Nw H' p) (e : Xt H H') : Nw H p := fun o q n => h o (e p o q n) n
/-- the heap without the owned -/
noncomputable def fz (O : Addr → Prop) (H : Hp) : Hp := fun a => open Classical in if O a then none else H a
theorem fz_out {O : Addr → Prop} {H : Hp} {a : Addr} (h : ¬ O a) : fz O H a = H a := by unfold fz; rw [if_neg h]
theorem fz_in {O : Addr → Prop} {H : Hp} {a : Addr} (h : O a) : fz O H a = none := by unfold fz; rw [if_pos h]
theorem fz_some {O : Addr → Prop} {H : Hp} {a : Addr} {o : HO} (h : fz O H a = some o) : ¬ O a ∧ H a = some o := by
  by_cases q : O a
  · rw [fz_in q] at h; cases h
  · rw [fz_out q] at h; exact ⟨q, h⟩
theorem fz_ext {O : Addr → Prop} {H H' : Hp} (e : Xt H H') : Xt (fz O H) (fz O H') := fun a o h n => by
  obtain ⟨h1, h2⟩ := fz_some h
  rw [fz_out h1]; exact e a o h2 n
theorem fz_mono {O O' : Addr → Prop} {H : Hp} (h : ∀ a, O' a → O a) : Xt (fz O H) (fz O' H) := fun a o q _ => by
  obtain ⟨h1, h2⟩ := fz_some q
  rw [fz_out (fun z => h1 (h a z))]; exact h2
theorem fz_sub {O : Addr → Prop} {H : Hp} : Xt (fz O H) H := fun a o q _ => (fz_some q).2

/-! ### data over the heap: lists and tuples stand by themselves -/
mutual
inductive Dq (H : Hp) : V → PD → Prop
  | non : Dq H .non .none
  | bl (b : Bool) : Dq H (.bl b) (.bool b)
  | int (i : Int) : Dq H (.int i) (.int i)
  | str (x : Str) : Dq H (.str x) (.str x)
  | lst {a : Addr} {xs : List V} {ds : List PD} : H a = some (.lst xs) → Dqs H xs ds → Dq H (.ref a) (.list ds)
  | tup {a : Addr} {xs : List V} {ds : List PD} : H a = some (.tup xs) → Dqs H xs ds → Dq H (.ref a) (.tuple ds)
inductive Dqs (H : Hp) : List V → List PD → Prop
  | nil : Dqs H [] []
  | cons {v : V} {vs : List V} {d : PD} {ds : List PD} : Dq H v d → Dqs H vs ds → Dqs H (v :: vs) (d :: ds)
end
section
variable {K : Fr} {H H' : Hp}
mutual
theorem Dq.ext (e : Xt H H') : ∀ (d : PD) {v : V}, Dq H v d → Dq H' v d
  | .none, _, h => by cases h; exact .non
  | .bool b, _, h => by cases h; exact .bl b
  | .int i, _, h => by cases h; exact .int i
  | .str x, _, h => by cases h; exact .str x
  | .list ds, _, h => by
    cases h with
    | lst hs ha => exact .lst (e _ _ hs fun _ z => by cases z) (Dqs.ext e ds ha)
  | .tuple ds, _, h => by
    cases h with
    | tup hs ha => exact .tup (e _ _ hs fun _ z => by cases z) (Dqs.ext e ds ha)
  | .dict _, _, h => by cases h
theorem Dqs.ext (e : Xt H H') : ∀ (ds : List PD) {vs : List V}, Dqs H vs ds → Dqs H' vs ds
  | [], _, h => by cases h; exact .nil
  | d :: ds, _, h => by
    cases h with
    | cons h1 h2 => exact .cons (Dq.ext e d h1) (Dqs.ext e ds h2)
end
mutual
theorem Dq.dp : ∀ (d : PD) {v : V}, Dq H v d → Dp K H v d
  | .none, _, h => by cases h; exact .non
  | .bool b, _, h => by cases h; exact .bl b
  | .int i, _, h => by cases h; exact .int i
  | .str x, _, h => by cases h; exact .str x
  | .list ds, _, h => by
    cases h with
    | lst hs ha => exact .lst (SqL.of hs) (Dqs.dp ds ha)
  | .tuple ds, _, h => by
    cases h with
    | tup hs ha => exact .tup (SqT.of hs) (Dqs.dp ds ha)
  | .dict _, _, h => by cases h
theorem Dqs.dp : ∀ (ds : List PD) {vs : List V}, Dqs H vs ds → DpAll K H vs ds
  | [], _, h => by cases h; exact .nil
  | d :: ds, _, h => by
    cases h with
    | cons h1 h2 => exact .cons (Dq.dp d h1) (Dqs.dp ds h2)
end
mutual
theorem Dq.plain : ∀ (d : PD) {v : V}, Dq H v d → d.plain = true
  | .none, _, h => by rfl
  | .bool b, _, h => by rfl
  | .int i, _, h => by rfl
  | .str x, _, h => by rfl
  | .list ds, _, h => by
    cases h with
    | lst hs ha => simp only [PyData.plain]; exact Dqs.plain ds ha
  | .tuple ds, _, h => by
    cases h with
    | tup hs ha => simp only [PyData.plain]; exact Dqs.plain ds ha
  | .dict _, _, h => by cases h
theorem Dqs.plain : ∀ (ds : List PD) {vs : List V}, Dqs H vs ds → PyData.plainAll ds = true
  | [], _, h => by rfl
  | d :: ds, _, h => by
    cases h with
    | cons h1 h2 => simp only [PyData.plainAll, Dq.plain d h1, Dqs.plain ds h2, Bool.and_self]
end
theorem Dq.mv {d : PD} {v : V} (h : Dq H v d) (e : Xt H H') : Dq H' v d := Dq.ext e d h
theorem Dqs.mv {ds : List PD} {vs : List V} (h : Dqs H vs ds) (e : Xt H H') : Dqs H' vs ds := Dqs.ext e ds h
theorem Dqs.length : ∀ {ds : List PD} {vs : List V}, Dqs H vs ds → vs.length = ds.length
  | [], _, h => by cases h; rfl
  | _ :: _, _, h => by
    cases h with
    | cons _ h2 => simp [Dqs.length h2]
theorem Dqs.get : ∀ {ds : List PD} {vs : List V} {i : Nat} {d : PD}, Dqs H vs ds → ds[i]? = some d → ∃ v, vs[i]? = some v ∧ Dq H v d
  | [], _, _, _, _, e => by simp at e
  | _ :: _, _, 0, _, h, e => by
    cases h with
    | cons h1 _ => simp at e; subst e; exact ⟨_, rfl, h1⟩
  | _ :: _, _, i + 1, _, h, e => by
    cases h with
    | cons _ h2 =>
      obtain ⟨v, q, r⟩ := Dqs.get (i := i) h2 (by simpa using e)
      exact ⟨v, by simpa using q, r⟩
theorem Dqs.get' : ∀ {ds : List PD} {vs : List V} {i : Nat} {v : V}, Dqs H vs ds → vs[i]? = some v → ∃ d, ds[i]? = some d ∧ Dq H v d
  | [], _, _, _, h, e => by cases h; simp at e
  | _ :: _, _, 0, _, h, e => by
    cases h with
    | cons h1 _ => simp at e; subst e; exact ⟨_, rfl, h1⟩
  | _ :: _, _, i + 1, _, h, e => by
    cases h with
    | cons _ h2 =>
      obtain ⟨v, q, r⟩ := Dqs.get' (i := i) h2 (by simpa using e)
      exact ⟨v, by simpa using q, r⟩
theorem Dqs.app : ∀ {ds es : List PD} {vs us : List V}, Dqs H vs ds → Dqs H us es → Dqs H (vs ++ us) (ds ++ es)
  | [], _, _, _, h, g => by cases h; exact g
  | _ :: _, _, _, _, h, g => by
    cases h with
    | cons h1 h2 => exact .cons h1 (Dqs.app h2 g)
theorem Dqs.snoc {ds : List PD} {d : PD} {vs : List V} {v : V} (h : Dqs H vs ds) (g : Dq H v d) : Dqs H (vs ++ [v]) (ds ++ [d]) := h.app (.cons g .nil)
theorem Dqs.take : ∀ {ds : List PD} {vs : List V} (n : Nat), Dqs H vs ds → Dqs H (vs.take n) (ds.take n)
  | _, _, 0, _ => .nil
  | [], _, _ + 1, h => by cases h; exact .nil
  | _ :: _, _, n + 1, h => by
    cases h with
    | cons h1 h2 => exact .cons h1 (Dqs.take n h2)
theorem Dqs.drop : ∀ {ds : List PD} {vs : List V} (n : Nat), Dqs H vs ds → Dqs H (vs.drop n) (ds.drop n)
  | _, _, 0, h => h
  | [], _, _ + 1, h => by cases h; exact .nil
  | _ :: _, _, n + 1, h => by
    cases h with
    | cons h1 h2 => exact Dqs.drop n h2
theorem Dqs.set : ∀ {ds : List PD} {vs : List V} {d : PD} {v : V} (n : Nat), Dqs H vs ds → Dq H v d → Dqs H (vs.set n v) (ds.set n d)
  | [], _, _, _, _, h, _ => by cases h; exact .nil
  | _ :: _, _, _, _, 0, h, g => by
    cases h with
    | cons h1 h2 => exact .cons g h2
  | _ :: _, _, _, _, n + 1, h, g => by
    cases h with
    | cons h1 h2 => exact .cons h1 (Dqs.set n h2 g)
theorem Dqs.rev : ∀ {ds : List PD} {vs : List V}, Dqs H vs ds → Dqs H vs.reverse ds.reverse
  | [], _, h => by cases h; exact .nil
  | _ :: _, _, h => by
    cases h with
    | cons h1 h2 =>
      rw [List.reverse_cons, List.reverse_cons]
      exact (Dqs.rev h2).snoc h1
end

/-- what a slot holds: F the heap without the owned, H the heap, the owned addresses, the slot's value -/
structure SV where
  rep : Hp → Hp → List Addr → Option V → Prop
  mono : ∀ {F F' H H' : Hp} {o : List Addr} {v : Option V}, Xt F F' → (∀ a ∈ o, H' a = H a) → rep F H o v → rep F' H' o v
/-- nothing is known -/
def un : SV := ⟨fun _ _ o _ => o = [], fun _ _ h => h⟩
/-- data, shared -/
def dat (d : PD) : SV := ⟨fun F _ o v => o = [] ∧ ∃ x, v = some x ∧ Dq F x d, fun e _ ⟨h, x, h1, h2⟩ => ⟨h, x, h1, h2.mv e⟩⟩
/-- a list of one's own -/
def own (ds : List PD) : SV := ⟨fun F H o v => ∃ a xs, o = [a] ∧ v = some (.ref a) ∧ H a = some (.lst xs) ∧ Dqs F xs ds,
  fun e k ⟨a, xs, h1, h2, h3, h4⟩ => ⟨a, xs, h1, h2, by rw [k a (by simp [h1])]; exact h3, h4.mv e⟩⟩
abbrev AS := List SV

def Ow (O0 : Addr → Prop) (os : Nat → List Addr) (a : Addr) : Prop := O0 a ∨ ∃ i, a ∈ os i
/-- the slots σ and the heap H are as S tells; H0 the heap at the beginning, O0 what others own -/
structure RpO (T : Tb) (O0 : Addr → Prop) (H0 : Hp) (os : Nat → List Addr) (S : AS) (σ : St) (H : Hp) : Prop where
  len : σ.length = S.length
  apart : ∀ i j a, a ∈ os i → a ∈ os j → i = j
  new : ∀ i a, a ∈ os i → ¬ O0 a ∧ (∀ o, H0 a = some o → ¬ NT o) ∧ ∃ o, H a = some o ∧ Mu o
  old : ∀ a, O0 a → ∃ o, H0 a = some o ∧ Mu o
  ext : Xt H0 H
  tabs : LamX.Tabs T H
  rep : ∀ (i : Nat) (s : SV), S[i]? = some s → ∃ v, σ[i]? = some v ∧ s.rep (fz (Ow O0 os) H) H (os i) v
  out : ∀ i, S.length ≤ i → os i = []
def Rp (T : Tb) (O0 : Addr → Prop) (H0 : Hp) (S : AS) (σ : St) (H : Hp) : Prop := ∃ os, RpO T O0 H0 os S σ H

section
variable {T : Tb} {O0 : Addr → Prop} {H0 H H' : Hp} {os : Nat → List Addr} {S : AS} {σ : St}
theorem RpO.allo (r : RpO T O0 H0 os S σ H) {a : Addr} (h : Ow O0 os a) : ∃ o, H a = some o ∧ Mu o := by
  rcases h with h | ⟨i, h⟩
  · obtain ⟨o, e, m⟩ := r.old a h
    exact ⟨o, r.ext.at e m, m⟩
  · exact (r.new i a h).2.2
theorem RpO.free (r : RpO T O0 H0 os S σ H) {p : Addr} (h : Nw H p) : ¬ Ow O0 os p := fun z => by
  obtain ⟨o, e, m⟩ := r.allo z
  exact h o e m.1
theorem RpO.grow (r : RpO T O0 H0 os S σ H) (e : Xt H H') (t : LamX.Tabs T H') : RpO T O0 H0 os S σ H' where
  len := r.len
  apart := r.apart
  new := fun i a h => by
    obtain ⟨h1, h2, o, h3, m⟩ := r.new i a h
    exact ⟨h1, h2, o, e.at h3 m, m⟩
  old := r.old
  ext := r.ext.trans e
  tabs := t
  rep := fun i s h => by
    obtain ⟨v, h1, h2⟩ := r.rep i s h
    refine ⟨v, h1, s.mono (fz_ext e) (fun a ha => ?_) h2⟩
    obtain ⟨_, _, o, h3, m⟩ := r.new i a ha
    rw [h3]; exact e.at h3 m
  out := r.out
/-- a slot is let go -/
theorem RpO.drop (r : RpO T O0 H0 os S σ H) (i : Nat) (s : SV) {σ' : St} (hl : σ'.length = σ.length) (hσ : ∀ j, j ≠ i → σ'[j]? = σ[j]?)
    (hs : i < S.length → ∃ v, σ'[i]? = some v ∧ s.rep (fz (Ow O0 fun j => if j = i then [] else os j) H) H [] v) : RpO T O0 H0 (fun j => if j = i then [] else os j) (S.set i s) σ' H where
  len := by rw [List.length_set, hl]; exact r.len
  apart := fun j k a h1 h2 => by
    split at h1
    · cases h1
    · split at h2
      · cases h2
      · exact r.apart j k a h1 h2
  new := fun j a h => by
    split at h
    · cases h
    · exact r.new j a h
  old := r.old
  ext := r.ext
  tabs := r.tabs
  rep := fun j s' h => by
    by_cases hj : j = i
    · subst hj
      have hlt : j < S.length := by
        have := (List.getElem?_eq_some_iff.mp h).1
        simpa using this
      rw [List.getElem?_set_self hlt] at h
      cases h
      obtain ⟨v, h1, h2⟩ := hs hlt
      exact ⟨v, h1, by simpa using h2⟩
    · rw [List.getElem?_set_ne (Ne.symm hj)] at h
      obtain ⟨v, h1, h2⟩ := r.rep j s' h
      refine ⟨v, (hσ j hj).trans h1, ?_⟩
      rw [if_neg hj]
      refine s'.mono (fz_mono fun a ha => ?_) (fun _ _ => rfl) h2
      rcases ha with ha | ⟨k, ha⟩
      · exact .inl ha
      · dsimp only at ha
        split at ha
        · cases ha
        · exact .inr ⟨k, ha⟩
  out := fun j hj => by
    split
    · rfl
    · exact r.out j (by simpa using hj)
theorem ow_drop {i : Nat} {a : Addr} (h : Ow O0 (fun j => if j = i then [] else os j) a) : Ow O0 os a := by
  rcases h with h | ⟨k, h⟩
  · exact .inl h
  · dsimp only at h
    split at h
    · cases h
    · exact .inr ⟨k, h⟩
theorem RpO.set_dat (r : RpO T O0 H0 os S σ H) (i : Nat) {v : V} {d : PD} (h : Dq (fz (Ow O0 os) H) v d) : Rp T O0 H0 (S.set i (dat d)) (σ.set i (some v)) H :=
  ⟨_, r.drop i (dat d) (by simp) (fun j hj => List.getElem?_set_ne (Ne.symm hj)) fun hlt => ⟨some v, List.getElem?_set_self (by rw [r.len]; exact hlt), rfl, v, rfl, h.mv (fz_mono fun a => ow_drop)⟩⟩
theorem RpO.set_un (r : RpO T O0 H0 os S σ H) (i : Nat) {v : Option V} : Rp T O0 H0 (S.set i un) (σ.set i v) H :=
  ⟨_, r.drop i un (by simp) (fun j hj => List.getElem?_set_ne (Ne.symm hj)) fun hlt => ⟨v, List.getElem?_set_self (by rw [r.len]; exact hlt), rfl⟩⟩
/-- the slot as it stands, nothing more said of it -/
theorem RpO.forget (r : RpO T O0 H0 os S σ H) (i : Nat) : Rp T O0 H0 (S.set i un) σ H :=
  ⟨_, r.drop i un rfl (fun _ _ => rfl) fun hlt => by
    have : i < σ.length := by rw [r.len]; exact hlt
    exact ⟨σ[i], by simp [this], rfl⟩⟩
/-- an own list is shared from now on -/
theorem RpO.freeze (r : RpO T O0 H0 os S σ H) (i : Nat) {ds : List PD} (h : S[i]? = some (own ds)) : Rp T O0 H0 (S.set i (dat (.list ds))) σ H :=
  ⟨_, r.drop i _ rfl (fun _ _ => rfl) fun hlt => by
    obtain ⟨v, h1, a, xs, h2, h3, h4, h5⟩ := r.rep i _ h
    refine ⟨v, h1, rfl, .ref a, h3, .lst ?_ (h5.mv (fz_mono fun a => ow_drop))⟩
    rw [fz_out ?_]
    · exact h4
    · rintro (z | ⟨k, z⟩)
      · exact (r.new i a (by simp [h2])).1 z
      · dsimp only at z
        split at z
        · cases z
        · rename_i hk
          exact hk (r.apart k i a z (by simp [h2]))⟩
/-- a new list comes into a slot -/
theorem RpO.set_new (r : RpO T O0 H0 os S σ H) (i : Nat) (hi : i < S.length) {s : SV} {p : Addr} {o : HO} (hp : Nw H p) (e : Xt H H') (t : LamX.Tabs T H') (ho : H' p = some o) (hm : Mu o)
    (hs : s.rep (fz (fun a => Ow O0 os a ∨ a = p) H') H' [p] (some (.ref p))) : Rp T O0 H0 (S.set i s) (σ.set i (some (.ref p))) H' := by
  have np : ¬ Ow O0 os p := r.free hp
  have np2 : ∀ j, p ∉ os j := fun j z => np (.inr ⟨j, z⟩)
  have ow : ∀ {a : Addr}, Ow O0 (fun j => if j = i then [p] else os j) a → Ow O0 os a ∨ a = p := fun {a} h => by
    rcases h with h | ⟨k, h⟩
    · exact .inl (.inl h)
    · dsimp only at h
      split at h
      · exact .inr (by simpa using h)
      · exact .inl (.inr ⟨k, h⟩)
  refine ⟨fun j => if j = i then [p] else os j, by simpa using r.len, fun j k a h1 h2 => ?_, fun j a h => ?_, r.old, r.ext.trans e, t, fun j s' h => ?_, fun j hj => ?_⟩
  · split at h1
    · rename_i q1
      have e1 : a = p := by simpa using h1
      subst e1
      split at h2
      · rename_i q2; rw [q1, q2]
      · exact absurd h2 (np2 k)
    · split at h2
      · have e1 : a = p := by simpa using h2
        subst e1
        exact absurd h1 (np2 j)
      · exact r.apart j k a h1 h2
  · split at h
    · have e1 : a = p := by simpa using h
      subst e1
      exact ⟨fun z => np (.inl z), fun u q n => hp u (r.ext a u q n) n, o, ho, hm⟩
    · obtain ⟨h1, h2, u, h3, m⟩ := r.new j a h
      exact ⟨h1, h2, u, e.at h3 m, m⟩
  · by_cases hj : j = i
    · subst hj
      rw [List.getElem?_set_self hi] at h
      cases h
      refine ⟨_, List.getElem?_set_self (by rw [r.len]; exact hi), ?_⟩
      rw [if_pos rfl]
      exact s.mono (fz_mono fun a ha => ow ha) (fun _ _ => rfl) hs
    · rw [List.getElem?_set_ne (Ne.symm hj)] at h
      obtain ⟨v, h1, h2⟩ := r.rep j s' h
      refine ⟨v, (List.getElem?_set_ne (Ne.symm hj)).trans h1, ?_⟩
      rw [if_neg hj]
      refine s'.mono (fun a u q n => ?_) (fun a ha => ?_) h2
      · obtain ⟨q1, q2⟩ := fz_some q
        rw [fz_out]
        · exact e a u q2 n
        · intro z
          rcases ow z with z | z
          · exact q1 z
          · rw [z] at q2; exact hp u q2 n
      · obtain ⟨_, _, u, h3, m⟩ := r.new j a ha
        rw [h3]; exact e.at h3 m
  · have hj' : S.length ≤ j := by simpa using hj
    rw [if_neg (by omega)]
    exact r.out j hj'
/-- an own object is changed -/
theorem RpO.change (r : RpO T O0 H0 os S σ H) (i : Nat) (hi : i < S.length) {s : SV} {a : Addr} {o : HO} (ha : a ∈ os i) (hm : Mu o) (hs : ∃ v, σ[i]? = some v ∧ s.rep (fz (Ow O0 os) H) (upd H a o) (os i) v) :
    RpO T O0 H0 os (S.set i s) σ (upd H a o) := by
  obtain ⟨n1, n2, u, hu, mu⟩ := r.new i a ha
  have ef : Xt (fz (Ow O0 os) H) (fz (Ow O0 os) (upd H a o)) := fun b w q n => by
    obtain ⟨q1, q2⟩ := fz_some q
    rw [fz_out q1, upd_ne (fun z => q1 (by rw [z]; exact .inr ⟨i, ha⟩))]
    exact q2
  refine ⟨by simpa using r.len, r.apart, fun j b h => ?_, r.old, fun b w q n => ?_, tabs_upd r.tabs hu mu, fun j s' h => ?_, fun j hj => r.out j (by simpa using hj)⟩
  · obtain ⟨h1, h2, w, h3, m⟩ := r.new j b h
    refine ⟨h1, h2, ?_⟩
    by_cases hb : b = a
    · rw [hb, upd_same]; exact ⟨o, rfl, hm⟩
    · rw [upd_ne hb]; exact ⟨w, h3, m⟩
  · rw [upd_ne (fun z => n2 w (by rw [← z]; exact q) n)]
    exact r.ext b w q n
  · by_cases hj : j = i
    · subst hj
      rw [List.getElem?_set_self hi] at h
      cases h
      obtain ⟨v, h1, h2⟩ := hs
      exact ⟨v, h1, s.mono ef (fun _ _ => rfl) h2⟩
    · rw [List.getElem?_set_ne (Ne.symm hj)] at h
      obtain ⟨v, h1, h2⟩ := r.rep j s' h
      exact ⟨v, h1, s'.mono ef (fun b hb => upd_ne (fun z => hj (r.apart j i a (z ▸ hb) ha))) h2⟩
/-- what is told of the beginning's heap stands -/
theorem RpO.base (r : RpO T O0 H0 os S σ H) : Xt (fz O0 H0) (fz (Ow O0 os) H) := fun a o q n => by
  obtain ⟨q1, q2⟩ := fz_some q
  rw [fz_out]
  · exact r.ext a o q2 n
  · rintro (z | ⟨i, z⟩)
    · exact q1 z
    · exact (r.new i a z).2.1 o q2 n
theorem ow0 {a : Addr} (h : O0 a) : Ow O0 os a := .inl h
/-- the state from here on: what is owned now is as if it were new -/
theorem RpO.rebase (r : RpO T O0 H0 os S σ H) : RpO T O0 (fz (fun a => ∃ i, a ∈ os i) H) os S σ H where
  len := r.len
  apart := r.apart
  new := fun i a h => ⟨(r.new i a h).1, fun o q => by rw [fz_in ⟨i, h⟩] at q; (cases q), (r.new i a h).2.2⟩
  old := fun a h => by
    obtain ⟨o, e, m⟩ := r.old a h
    refine ⟨o, ?_, m⟩
    rw [fz_out]
    · exact r.ext.at e m
    · rintro ⟨i, z⟩
      exact (r.new i a z).1 h
  ext := fz_sub
  tabs := r.tabs
  rep := r.rep
  out := r.out
theorem RpO.rebased (r : RpO T O0 H0 os S σ H) : Xt H0 (fz (fun a => ∃ i, a ∈ os i) H) := fun a o q n => by
  rw [fz_out]
  · exact r.ext a o q n
  · rintro ⟨i, z⟩
    exact (r.new i a z).2.1 o q n
theorem RpO.unbase {H1 : Hp} (r : RpO T O0 H1 os S σ H) (e : Xt H0 H1) (old : ∀ a, O0 a → ∃ o, H0 a = some o ∧ Mu o) : RpO T O0 H0 os S σ H :=
  ⟨r.len, r.apart, fun i a h => ⟨(r.new i a h).1, fun o q n => (r.new i a h).2.1 o (e a o q n) n, (r.new i a h).2.2⟩, old, e.trans r.ext, r.tabs, r.rep, r.out⟩
end
/-- S says more than S' -/
def Le (S S' : AS) : Prop := ∀ (T : Tb) (O0 : Addr → Prop) (H0 : Hp) (σ : St) (H : Hp), Rp T O0 H0 S σ H → Rp T O0 H0 S' σ H
section
variable {S S' S'' : AS}
theorem Le.refl : Le S S := fun _ _ _ _ _ h => h
theorem Le.of (e : S = S') : Le S S' := e ▸ Le.refl
theorem Le.trans (a : Le S S') (b : Le S' S'') : Le S S'' := fun T O0 H0 σ H h => b T O0 H0 σ H (a T O0 H0 σ H h)
theorem le_un (i : Nat) : Le S (S.set i un) := fun _ _ _ _ _ ⟨_, r⟩ => r.forget i
theorem le_fr (i : Nat) {ds : List PD} (h : S[i]? = some (own ds)) : Le S (S.set i (dat (.list ds))) := fun _ _ _ _ _ ⟨_, r⟩ => r.freeze i h
end
end DL

namespace DL
open PySem PySem.Spec PyProof.Rows L2

/-- the heap has grown -/
structure Gr (T : Tb) (H H' : Hp) : Prop where
  ext : Xt H H'
  tabs : LamX.Tabs T H'
/-- what an operation may lean on: the tables, the owned stand -/
structure EC (T : Tb) (O : Addr → Prop) (H : Hp) : Prop where
  tabs : LamX.Tabs T H
  allo : ∀ a, O a → ∃ o, H a = some o ∧ Mu o
section
variable {T : Tb} {O O0 : Addr → Prop} {H0 H H' H'' : Hp} {os : Nat → List Addr} {S : AS} {σ : St}
theorem Gr.trans (a : Gr T H H') (b : Gr T H' H'') : Gr T H H'' := ⟨a.ext.trans b.ext, b.tabs⟩
theorem EC.refl (c : EC T O H) : Gr T H H := ⟨Xt.refl, c.tabs⟩
theorem EC.grow (c : EC T O H) (g : Gr T H H') : EC T O H' := ⟨g.tabs, fun a h => by
  obtain ⟨o, e, m⟩ := c.allo a h
  exact ⟨o, g.ext.at e m, m⟩⟩
theorem EC.free (c : EC T O H) {p : Addr} (h : Nw H p) : ¬ O p := fun z => by
  obtain ⟨o, e, m⟩ := c.allo p z
  exact h o e m.1
theorem EC.new (c : EC T O H) {p : Addr} {o : HO} (h : H p = none) : Gr T H (upd H p o) := ⟨Xt.new h, tabs_new c.tabs h⟩
theorem RpO.ec (r : RpO T O0 H0 os S σ H) : EC T (Ow O0 os) H := ⟨r.tabs, fun _ h => r.allo h⟩
theorem RpO.gr (r : RpO T O0 H0 os S σ H) (g : Gr T H H') : RpO T O0 H0 os S σ H' := r.grow g.ext g.tabs
theorem fz_new (c : EC T O H) {p : Addr} {o : HO} (h : H p = none) : fz O (upd H p o) p = some o := by rw [fz_out (c.free (.of h))]; exact upd_same
theorem dq_new (c : EC T O H) {p : Addr} (h : H p = none) {xs : List V} {ds : List PD} (q : Dqs (fz O H) xs ds) : Dq (fz O (upd H p (.lst xs))) (.ref p) (.list ds) :=
  .lst (fz_new c h) (q.mv (fz_ext (Xt.new h)))
theorem dq_newT (c : EC T O H) {p : Addr} (h : H p = none) {xs : List V} {ds : List PD} (q : Dqs (fz O H) xs ds) : Dq (fz O (upd H p (.tup xs))) (.ref p) (.tuple ds) :=
  .tup (fz_new c h) (q.mv (fz_ext (Xt.new h)))
theorem fz_add {p : Addr} {o : HO} (h : H p = none) : Xt (fz O H) (fz (fun a => O a ∨ a = p) (upd H p o)) := fun a u q n => by
  obtain ⟨q1, q2⟩ := fz_some q
  have ne : a ≠ p := ne_of_none q2 h
  rw [fz_out (fun z => z.elim q1 ne), upd_ne ne]; exact q2
theorem fzl {a : Addr} {o : HO} (h : fz O H a = some o) : H a = some o := (fz_some h).2
end

/-! ### the judgements -/
/-- e is d -/
def tD (T : Tb) (S : AS) (d : PD) : TE := fun σ H Q => ∃ O0 H0 os, RpO T O0 H0 os S σ H ∧ ∀ v H', Gr T H H' → Dq (fz (Ow O0 os) H') v d → Q v H'
abbrev DE (X : Cx) (T : Tb) (e : Expr) (S : AS) (d : PD) : Prop := PE X e (tD T S d)
/-- e is a new list of ds -/
def tN (T : Tb) (S : AS) (ds : List PD) : TE := fun σ H Q => ∃ O0 H0 os, RpO T O0 H0 os S σ H ∧ ∀ p xs H', Nw H p → Gr T H H' → H' p = some (.lst xs) → Dqs (fz (fun a => Ow O0 os a ∨ a = p) H') xs ds → Q (.ref p) H'
abbrev DN (X : Cx) (T : Tb) (e : Expr) (S : AS) (ds : List PD) : Prop := PE X e (tN T S ds)
def tQ (T : Tb) (S : AS) (b : Bool) : TT := fun σ H Q => ∃ O0 H0 os, RpO T O0 H0 os S σ H ∧ ∀ H', Gr T H H' → Q b H'
abbrev DT (X : Cx) (T : Tb) (e : Expr) (S : AS) (b : Bool) : Prop := PT X e (tQ T S b)
abbrev DW (X : Cx) (T : Tb) (e : Expr) (S : AS) (b : Bool) : Prop := PW X e (tQ T S b)
def tA (T : Tb) (S : AS) (ds : List PD) : TA := fun σ H Q => ∃ O0 H0 os, RpO T O0 H0 os S σ H ∧ ∀ vs H', Gr T H H' → Dqs (fz (Ow O0 os) H') vs ds → Q vs H'
abbrev DA (X : Cx) (T : Tb) (es : List Expr) (S : AS) (ds : List PD) : Prop := PA X es (tA T S ds)
/-- an operation by data -/
def OS (T : Tb) (r : R2) (a b d : PD) : Prop := ∀ (O : Addr → Prop) (H : Hp) (x y : V) (Q : VK), EC T O H → Dq (fz O H) x a → Dq (fz O H) y b → (∀ v H', Gr T H H' → Dq (fz O H') v d → Q v H') → r x y H Q
/-- .. that makes a new list -/
def ON (T : Tb) (r : R2) (a b : PD) (ds : List PD) : Prop := ∀ (O : Addr → Prop) (H : Hp) (x y : V) (Q : VK), EC T O H → Dq (fz O H) x a → Dq (fz O H) y b → (∀ p xs H', Nw H p → Gr T H H' → H' p = some (.lst xs) → Dqs (fz (fun a => O a ∨ a = p) H') xs ds → Q (.ref p) H') → r x y H Q
def US (T : Tb) (r : V → Hp → VK → Prop) (a d : PD) : Prop := ∀ (O : Addr → Prop) (H : Hp) (x : V) (Q : VK), EC T O H → Dq (fz O H) x a → (∀ v H', Gr T H H' → Dq (fz O H') v d → Q v H') → r x H Q
def CS (T : Tb) (r : List V → Hp → VK → Prop) (ds : List PD) (d : PD) : Prop := ∀ (O : Addr → Prop) (H : Hp) (vs : List V) (Q : VK), EC T O H → Dqs (fz O H) vs ds → (∀ v H', Gr T H H' → Dq (fz O H') v d → Q v H') → r vs H Q
def CN (T : Tb) (r : List V → Hp → VK → Prop) (ds es : List PD) : Prop := ∀ (O : Addr → Prop) (H : Hp) (vs : List V) (Q : VK), EC T O H → Dqs (fz O H) vs ds → (∀ p xs H', Nw H p → Gr T H H' → H' p = some (.lst xs) → Dqs (fz (fun a => O a ∨ a = p) H') xs es → Q (.ref p) H') → r vs H Q

section
variable {X : Cx} {T : Tb} {S S' : AS} {d da db dr : PD} {ds es : List PD} {e a b : Expr} {pos : Pos} {r : R2}
theorem pe_of {t u : TE} (h : PE X e t) (k : ∀ σ H Q, u σ H Q → t σ H Q) : PE X e u := ⟨fun pins s σ H Q I q => h.run pins s σ H Q I (k σ H Q q)⟩
theorem pt_of {t u : TT} (h : PT X e t) (k : ∀ σ H Q, u σ H Q → t σ H Q) : PT X e u := ⟨fun pins s σ H Q I q => h.run pins s σ H Q I (k σ H Q q)⟩
theorem pw_of {t u : TT} (h : PW X e t) (k : ∀ σ H Q, u σ H Q → t σ H Q) : PW X e u := ⟨fun wh pins s σ H Q I q => h.run wh pins s σ H Q I (k σ H Q q)⟩
theorem pa_of {l : List Expr} {t u : TA} (h : PA X l t) (k : ∀ σ H Q, u σ H Q → t σ H Q) : PA X l u := ⟨fun p pins s σ H Q I q => h.run p pins s σ H Q I (k σ H Q q)⟩
theorem de_to (h : DE X T e S da) (q : da = db) : DE X T e S db := q ▸ h
theorem dn_to (h : DN X T e S ds) (q : ds = es) : DN X T e S es := q ▸ h
theorem dt_to {x y : Bool} (h : DT X T e S x) (q : x = y) : DT X T e S y := q ▸ h
theorem de_dn (h : DN X T e S ds) : DE X T e S (.list ds) := pe_of h fun σ H Q ⟨O0, H0, os, r, k⟩ => ⟨O0, H0, os, r, fun p xs H' hp g hl hd => k _ _ g
  (.lst (by rw [fz_out (r.free hp)]; exact hl) (hd.mv (fz_mono fun a ha => .inl ha)))⟩
/-! names, constants -/
theorem de_nm {x : Str} (i : Nat) (hi : S[i]? = some (dat d) := by rfl) (hN : X.N[i]? = some x := by rfl) (hv : Vis X.env.scope x := by first | exact Or.inl rfl | exact Or.inr (Or.inl rfl) | exact Or.inr (Or.inr rfl)) (hd : (x == ("__debug__" : Str)) = false := by decide)
    (hcd : (x == ("__classdict__" : Str)) = false := by decide) : DE X T (.Name x pos) S d := pe_of (pe_var hN hv hd hcd) fun σ H Q ⟨O0, H0, os, r, k⟩ => by
  obtain ⟨v, h1, _, x, rfl, h2⟩ := r.rep i _ hi
  exact ⟨x, h1, k x H r.ec.refl h2⟩
theorem de_tc {v : V} (h : PE X e (tC v)) (q : ∀ H, Dq H v d) : DE X T e S d := pe_of h fun σ H Q ⟨O0, H0, os, r, k⟩ => k v H r.ec.refl (q _)
theorem de_int {i : Int} {j : Nat} : DE X T (.Constant (.int i) j pos) S (.int i) := de_tc pe_int fun _ => .int i
theorem de_str {x : Str} {j : Nat} : DE X T (.Constant (.str x) j pos) S (.str x) := de_tc pe_str fun _ => .str x
theorem de_bool {x : Bool} {j : Nat} : DE X T (.Constant (.bool x) j pos) S (.bool x) := de_tc pe_bl fun _ => .bl x
theorem de_none {j : Nat} : DE X T (.Constant .none j pos) S .none := de_tc pe_non fun _ => .non
theorem de_gint {x : Str} {i : Int} (hm : ∃ t, X.mg x = some (.int i t)) (hg : Gl X x := by rfl) (hd : (x == ("__debug__" : Str)) = false := by decide) : DE X T (.Name x pos) S (.int i) := by
  obtain ⟨t, hm⟩ := hm
  exact de_tc (pe_glob (v := .int i) hg hm ⟨t, rfl⟩ hd) fun _ => .int i
theorem de_gstr {x y : Str} (hm : ∃ t, X.mg x = some (.str y t)) (hg : Gl X x := by rfl) (hd : (x == ("__debug__" : Str)) = false := by decide) : DE X T (.Name x pos) S (.str y) := by
  obtain ⟨t, hm⟩ := hm
  exact de_tc (pe_glob (v := .str y) hg hm ⟨t, rfl⟩ hd) fun _ => .str y
/-! arguments, tuples, lists -/
theorem da_nil : DA X T [] S [] := pa_of pa_nil fun σ H Q ⟨O0, H0, os, r, k⟩ => k [] H r.ec.refl .nil
theorem da_cons {l : List Expr} (ha : DE X T a S d) (hb : DA X T l S ds) (hs : starEach (a :: l) X.env = (false, eval a X.env) :: starEach l X.env := by rfl) : DA X T (a :: l) S (d :: ds) :=
  pa_of (pa_cons ha hb hs) fun σ H Q ⟨O0, H0, os, r, k⟩ => ⟨O0, H0, os, r, fun v H1 g1 h1 => ⟨O0, H0, os, r.gr g1, fun vs H2 g2 h2 => k _ _ (g1.trans g2) (.cons (h1.mv (fz_ext g2.ext)) h2)⟩⟩
theorem dqs_len {H : Hp} {vs : List V} {n : Nat} (h : Dqs H vs ds) (q : ds.length ≤ n) : vs.length ≤ n := by rw [h.length]; exact q
theorem de_tup {l : List Expr} {k : Nat} (h : DA X T l S ds) (hl : ds.length ≤ sizeLine := by first | decide | (rw [sizeLine_eq]; simp)) : DE X T (.Tuple l k pos) S (.tuple ds) := pe_of (pe_tup h) fun σ H Q ⟨O0, H0, os, r, k⟩ =>
  ⟨O0, H0, os, r, fun vs H' g q => ⟨dqs_len q hl, fun p hp => k _ _ (g.trans ((r.gr g).ec.new hp)) (dq_newT (r.gr g).ec hp q)⟩⟩
theorem dn_lst {l : List Expr} (h : DA X T l S ds) (hl : ds.length ≤ sizeLine := by first | decide | (rw [sizeLine_eq]; simp)) : DN X T (.List l pos) S ds := pe_of (pe_lst h) fun σ H Q ⟨O0, H0, os, r, k⟩ =>
  ⟨O0, H0, os, r, fun vs H' g q => ⟨dqs_len q hl, fun p hp => k p vs _ ((Nw.of hp).back g.ext) (g.trans ((r.gr g).ec.new hp)) upd_same (q.mv (fz_add hp))⟩⟩
/-! ### operators -/
def OB (X : Cx) (T : Tb) (op : Operator) (a b d : PD) : Prop := ∃ r, OpR X (binaryOp op) r ∧ OS T r a b d
def OBN (X : Cx) (T : Tb) (op : Operator) (a b : PD) (ds : List PD) : Prop := ∃ r, OpR X (binaryOp op) r ∧ ON T r a b ds
def CB (X : Cx) (T : Tb) (op : CmpOp) (a b : PD) (k : Bool) : Prop := ∃ r, OpR X (compareOp op) r ∧ OS T r a b (.bool k)
def UB (X : Cx) (T : Tb) (op : UnaryOp) (a d : PD) : Prop := ∃ r, UnR X (unaryOp op) r ∧ US T r a d
theorem de_bin {op : Operator} (ha : DE X T a S da) (hb : DE X T b S db) (ho : OB X T op da db dr) : DE X T (.BinOp a op b pos) S dr := by
  obtain ⟨r, hr, hs⟩ := ho
  exact pe_of (pe_op hr ha hb) fun σ H Q ⟨O0, H0, os, q, k⟩ => ⟨O0, H0, os, q, fun x H1 g1 h1 => ⟨O0, H0, os, q.gr g1, fun y H2 g2 h2 => hs _ H2 x y Q ((q.gr g1).gr g2).ec (h1.mv (fz_ext g2.ext)) h2 fun v H' g h => k v H' ((g1.trans g2).trans g) h⟩⟩
theorem dn_bin {op : Operator} (ha : DE X T a S da) (hb : DE X T b S db) (ho : OBN X T op da db ds) : DN X T (.BinOp a op b pos) S ds := by
  obtain ⟨r, hr, hs⟩ := ho
  exact pe_of (pe_op hr ha hb) fun σ H Q ⟨O0, H0, os, q, k⟩ => ⟨O0, H0, os, q, fun x H1 g1 h1 => ⟨O0, H0, os, q.gr g1, fun y H2 g2 h2 => hs _ H2 x y Q ((q.gr g1).gr g2).ec (h1.mv (fz_ext g2.ext)) h2
    fun p xs H' n g h hd => k p xs H' (n.back (g1.trans g2).ext) ((g1.trans g2).trans g) h hd⟩⟩
theorem ob_n {op : Operator} (h : OBN X T op da db ds) : OB X T op da db (.list ds) := by
  obtain ⟨r, hr, hs⟩ := h
  exact ⟨r, hr, fun O H x y Q c hx hy k => hs O H x y Q c hx hy fun p xs H' n g h hd => k _ _ g (.lst (by rw [fz_out (c.free n)]; exact h) (hd.mv (fz_mono fun a ha => .inl ha)))⟩
theorem de_un {op : UnaryOp} (ha : DE X T a S da) (ho : UB X T op da dr) : DE X T (.UnaryOp op a pos) S dr := by
  obtain ⟨r, hr, hs⟩ := ho
  exact pe_of (pe_un hr ha) fun σ H Q ⟨O0, H0, os, q, k⟩ => ⟨O0, H0, os, q, fun x H1 g1 h1 => hs _ H1 x Q (q.gr g1).ec h1 fun v H' g h => k v H' (g1.trans g) h⟩
theorem os_I0 {g : Int → Int → Int} {i j : Int} : OS T (rI0 fun i j => .int (g i j)) (.int i) (.int j) (.int (g i j)) := fun O H x y Q c hx hy k => by
  cases hx; cases hy
  exact ⟨i, j, rfl, rfl, k _ _ c.refl (.int _)⟩
theorem os_I {C : Int → Int → Prop} {g : Int → Int → Int} {i j : Int} (h : C i j) : OS T (rI C fun i j => .int (g i j)) (.int i) (.int j) (.int (g i j)) := fun O H x y Q c hx hy k => by
  cases hx; cases hy
  exact ⟨i, j, rfl, rfl, h, k _ _ c.refl (.int _)⟩
theorem os_B0 {g : Int → Int → Bool} {i j : Int} : OS T (rI0 fun i j => .bl (g i j)) (.int i) (.int j) (.bool (g i j)) := fun O H x y Q c hx hy k => by
  cases hx; cases hy
  exact ⟨i, j, rfl, rfl, k _ _ c.refl (.bl _)⟩
theorem ob_add {i j : Int} : OB X T .Add (.int i) (.int j) (.int (i + j)) := ⟨_, op_add, os_I0⟩
theorem ob_sub {i j : Int} : OB X T .Sub (.int i) (.int j) (.int (i - j)) := ⟨_, op_sub, os_I0⟩
theorem ob_mul {i j : Int} (h : CMul i j) : OB X T .Mult (.int i) (.int j) (.int (i * j)) := ⟨_, op_mul, os_I h⟩
theorem ob_mulW {i j : Int} (h : CMulW i j) : OB X T .Mult (.int i) (.int j) (.int (i * j)) := ⟨_, op_mulW, os_I h⟩
theorem ob_div {i j : Int} (h : CDivN i j) : OB X T .FloorDiv (.int i) (.int j) (.int (i.fdiv j)) := ⟨_, op_fdivN, os_I h⟩
theorem ob_divW {i j : Int} (h : CDivW i j) : OB X T .FloorDiv (.int i) (.int j) (.int (i / j)) := ⟨_, op_fdivW, os_I h⟩
theorem ob_mod {i j : Int} (h : 0 < j) : OB X T .Mod (.int i) (.int j) (.int (i % j)) := ⟨_, op_mod, os_I h⟩
theorem ob_pow {i j : Int} (h : CPow i j) : OB X T .Pow (.int i) (.int j) (.int (i ^ j.toNat)) := ⟨_, op_pow, os_I h⟩
theorem ub_neg {i : Int} : UB X T .USub (.int i) (.int (-i)) := ⟨_, un_neg, fun O H x Q c hx k => by cases hx; exact ⟨i, rfl, k _ _ c.refl (.int _)⟩⟩
theorem ob_adds {x y : Str} (h : x.length + y.length ≤ sizeLine) : OB X T .Add (.str x) (.str y) (.str (x ++ y)) := ⟨_, op_add_str, fun O H u v Q c hx hy k => by
  cases hx; cases hy
  exact ⟨x, y, rfl, rfl, h, k _ _ c.refl (.str _)⟩⟩
theorem obn_cat {ds es : List PD} (h : ds.length + es.length ≤ sizeLine) : OBN X T .Add (.list ds) (.list es) (ds ++ es) := ⟨_, op_cat, fun O H x y Q c hx hy k => by
  cases hx with
  | lst h1 h2 =>
    cases hy with
    | lst k1 k2 => exact ⟨_, _, _, _, rfl, rfl, fzl h1, fzl k1, by rw [h2.length, k2.length]; exact h, fun p hp => k p _ _ (.of hp) (c.new hp) upd_same ((h2.app k2).mv (fz_add hp))⟩⟩
theorem ob_catT {ds es : List PD} (h : ds.length + es.length ≤ sizeLine) : OB X T .Add (.tuple ds) (.tuple es) (.tuple (ds ++ es)) := ⟨_, op_catA, fun O H x y Q c hx hy k => by
  cases hx with
  | tup h1 h2 =>
    cases hy with
    | tup k1 k2 =>
      rename_i a xs b ys
      refine ⟨a, b, xs, ys, rfl, rfl, SqT.of (fzl h1), SqT.of (fzl k1), by rw [h2.length, k2.length]; exact h, fun e => ?_, fun e1 e2 => ?_, fun _ _ p hp => k _ _ (c.new hp) (dq_newT c hp (h2.app k2))⟩
      · subst e
        cases h2
        exact k _ _ c.refl (.tup k1 k2)
      · subst e2
        cases k2
        rw [List.append_nil] at k
        exact k _ _ c.refl (.tup h1 h2)⟩
theorem dqs_rep {H : Hp} {xs : List V} {ds : List PD} (h : Dqs H xs ds) : ∀ n : Nat, Dqs H (List.replicate n xs).flatten (List.replicate n ds).flatten
  | 0 => .nil
  | n + 1 => by
    rw [List.replicate_succ, List.replicate_succ, List.flatten_cons, List.flatten_cons]
    exact h.app (dqs_rep h n)
theorem obn_rep {ds : List PD} {n : Int} (h : -(2 ^ 63) ≤ n ∧ n < 2 ^ 63) (hz : ds.length * n.toNat ≤ sizeLine) : OBN X T .Mult (.list ds) (.int n) (List.replicate n.toNat ds).flatten := ⟨_, op_rep, fun O H x y Q c hx hy k => by
  cases hx with
  | lst h1 h2 =>
    cases hy
    exact ⟨_, n, _, rfl, rfl, fzl h1, h.1, h.2, by rw [h2.length]; exact hz, fun p hp => k p _ _ (.of hp) (c.new hp) upd_same ((dqs_rep h2 _).mv (fz_add hp))⟩⟩
/-! comparisons -/
theorem de_cmp {op : CmpOp} {k : Bool} (ha : DE X T a S da) (hb : DE X T b S db) (ho : CB X T op da db k) (hm : behindInMarks op b = false := by first | exact nomark _ | rfl | with_unfolding_all rfl) : DE X T (.Compare a [op] [b] pos) S (.bool k) := by
  obtain ⟨r, hr, hs⟩ := ho
  exact pe_of (pe_cmpR hr ha hb hm) fun σ H Q ⟨O0, H0, os, q, k⟩ => ⟨O0, H0, os, q, fun x H1 g1 h1 => ⟨O0, H0, os, q.gr g1, fun y H2 g2 h2 => hs _ H2 x y Q ((q.gr g1).gr g2).ec (h1.mv (fz_ext g2.ext)) h2 fun v H' g h => k v H' ((g1.trans g2).trans g) h⟩⟩
theorem dt_cmp {op : CmpOp} {k : Bool} (ha : DE X T a S da) (hb : DE X T b S db) (ho : CB X T op da db k) (hm : behindInMarks op b = false := by first | exact nomark _ | rfl | with_unfolding_all rfl) : DT X T (.Compare a [op] [b] pos) S k := by
  obtain ⟨r, hr, hs⟩ := ho
  exact pt_of (pt_cmpR hr ha hb hm) fun σ H Q ⟨O0, H0, os, q, kk⟩ => ⟨O0, H0, os, q, fun x H1 g1 h1 => ⟨O0, H0, os, q.gr g1, fun y H2 g2 h2 => hs _ H2 x y _ ((q.gr g1).gr g2).ec (h1.mv (fz_ext g2.ext)) h2
    fun v H' g h => by cases h; exact ⟨k, rfl, kk H' ((g1.trans g2).trans g)⟩⟩⟩
theorem cb_lt {i j : Int} : CB X T .Lt (.int i) (.int j) (decide (i < j)) := ⟨_, op_lt, os_B0⟩
theorem cb_le {i j : Int} : CB X T .LtE (.int i) (.int j) (decide (i ≤ j)) := ⟨_, op_le, os_B0⟩
theorem cb_gt {i j : Int} : CB X T .Gt (.int i) (.int j) (decide (j < i)) := ⟨_, op_gt, os_B0⟩
theorem cb_ge {i j : Int} : CB X T .GtE (.int i) (.int j) (decide (j ≤ i)) := ⟨_, op_ge, os_B0⟩
def isNo : PD → Bool
  | .none => true
  | _ => false
theorem isNo_dq {H : Hp} {x : V} {d : PD} (h : Dq H x d) : decide (x = .non) = isNo d := by cases h <;> rfl
theorem cb_is : CB X T .Is d .none (isNo d) := ⟨_, op_isN, fun O H x y Q c hx hy k => by cases hy; exact ⟨rfl, k _ _ c.refl (by rw [isNo_dq hx]; exact .bl _)⟩⟩
theorem cb_isnot : CB X T .IsNot d .none (!isNo d) := ⟨_, op_notN, fun O H x y Q c hx hy k => by cases hy; exact ⟨rfl, k _ _ c.refl (by rw [isNo_dq hx]; exact .bl _)⟩⟩
/-- data compared -/
def rEqP : R2 := fun x y H Q => ∃ d e, Dq H x d ∧ Dq H y e ∧ min d.depth e.depth ≤ 64 ∧ Q (.bl (PyData.eqv d e)) H
def rNeP : R2 := fun x y H Q => ∃ d e, Dq H x d ∧ Dq H y e ∧ min d.depth e.depth ≤ 64 ∧ Q (.bl (!PyData.eqv d e)) H
theorem op_eqP (hu : X.A.units + 100 < cLine) : OpR X (compareOp .Eq) rEqP := by
  intro pins s σ H x y v u Q I rx ry h
  obtain ⟨d, e, hd, he, m, q⟩ := h
  obtain ⟨as, r1⟩ := Dp.reads I d x v (Dq.dp d hd) rx
  obtain ⟨bs, r2⟩ := Dp.reads I e y u (Dq.dp e he) ry
  exact SeqAt.eq_plain r1 r2 (Dq.plain d hd) (Dq.plain e he) (by omega) ⟨.bl _, H, I, rfl, q⟩
theorem op_neP (hu : X.A.units + 100 < cLine) : OpR X (compareOp .NotEq) rNeP := by
  intro pins s σ H x y v u Q I rx ry h
  obtain ⟨d, e, hd, he, m, q⟩ := h
  obtain ⟨as, r1⟩ := Dp.reads I d x v (Dq.dp d hd) rx
  obtain ⟨bs, r2⟩ := Dp.reads I e y u (Dq.dp e he) ry
  exact SeqAt.ne_plain r1 r2 (Dq.plain d hd) (Dq.plain e he) (by omega) ⟨.bl _, H, I, rfl, q⟩
theorem cb_eq (hu : X.A.units + 100 < cLine) (h : min da.depth db.depth ≤ 64) : CB X T .Eq da db (PyData.eqv da db) := ⟨_, op_eqP hu, fun O H x y Q c hx hy k => ⟨da, db, hx.mv fz_sub, hy.mv fz_sub, h, k _ _ c.refl (.bl _)⟩⟩
theorem cb_ne (hu : X.A.units + 100 < cLine) (h : min da.depth db.depth ≤ 64) : CB X T .NotEq da db (!PyData.eqv da db) := ⟨_, op_neP hu, fun O H x y Q c hx hy k => ⟨da, db, hx.mv fz_sub, hy.mv fz_sub, h, k _ _ c.refl (.bl _)⟩⟩
theorem cb_eqI {i j : Int} (hu : X.A.units + 100 < cLine) : CB X T .Eq (.int i) (.int j) (decide (i = j)) := by
  have z := cb_eq (X := X) (T := T) (da := .int i) (db := .int j) hu (by simp [PyData.depth])
  rwa [show PyData.eqv (.int i) (.int j) = decide (i = j) by simp [PyData.eqv]; rfl] at z
theorem cb_neI {i j : Int} (hu : X.A.units + 100 < cLine) : CB X T .NotEq (.int i) (.int j) (!decide (i = j)) := by
  have z := cb_ne (X := X) (T := T) (da := .int i) (db := .int j) hu (by simp [PyData.depth])
  rwa [show PyData.eqv (.int i) (.int j) = decide (i = j) by simp [PyData.eqv]; rfl] at z
theorem cb_eqS {i j : Str} (hu : X.A.units + 100 < cLine) : CB X T .Eq (.str i) (.str j) (decide (i = j)) := by
  have z := cb_eq (X := X) (T := T) (da := .str i) (db := .str j) hu (by simp [PyData.depth])
  rwa [show PyData.eqv (.str i) (.str j) = decide (i = j) by simp only [PyData.eqv]; exact Bool.beq_eq_decide_eq i j] at z
theorem cb_neS {i j : Str} (hu : X.A.units + 100 < cLine) : CB X T .NotEq (.str i) (.str j) (!decide (i = j)) := by
  have z := cb_ne (X := X) (T := T) (da := .str i) (db := .str j) hu (by simp [PyData.depth])
  rwa [show PyData.eqv (.str i) (.str j) = decide (i = j) by simp only [PyData.eqv]; exact Bool.beq_eq_decide_eq i j] at z
def inD (d : PD) (ds : List PD) : Bool := ds.any fun y => PyData.eqv y d
/-- x in a list or a tuple -/
def rInP (neg : Bool) : R2 := fun x y H Q => ∃ d e ds, Dq H x d ∧ Dq H y e ∧ (e = .list ds ∨ e = .tuple ds) ∧ min (PyData.depthAll ds) d.depth ≤ 64 ∧ Q (.bl (if neg then !inD d ds else inD d ds)) H
theorem op_inP (hu : X.A.units + 100 < cLine) : OpR X (compareOp .In) (rInP false) := by
  intro pins s σ H x y v u Q I rx ry h
  obtain ⟨d, e, ds, hd, he, ht, m, q⟩ := h
  obtain ⟨as, r1⟩ := Dp.reads I d x v (Dq.dp d hd) rx
  obtain ⟨bs, r2⟩ := Dp.reads I e y u (Dq.dp e he) ry
  have hp := Dq.plain e he
  rcases ht with rfl | rfl
  · exact SeqAt.in_list_data r2 r1 (by simpa [PyData.plain] using hp) (Dq.plain d hd) (by omega) ⟨.bl _, H, I, rfl, q⟩
  · exact SeqAt.in_tuple_data r2 r1 (by simpa [PyData.plain] using hp) (Dq.plain d hd) (by omega) ⟨.bl _, H, I, rfl, q⟩
theorem op_notInP (hu : X.A.units + 100 < cLine) : OpR X (compareOp .NotIn) (rInP true) := by
  intro pins s σ H x y v u Q I rx ry h
  obtain ⟨d, e, ds, hd, he, ht, m, q⟩ := h
  obtain ⟨as, r1⟩ := Dp.reads I d x v (Dq.dp d hd) rx
  obtain ⟨bs, r2⟩ := Dp.reads I e y u (Dq.dp e he) ry
  have hp := Dq.plain e he
  rcases ht with rfl | rfl
  · exact SeqAt.notIn_list_data r2 r1 (by simpa [PyData.plain] using hp) (Dq.plain d hd) (by omega) ⟨.bl _, H, I, rfl, q⟩
  · exact SeqAt.notIn_tuple_data r2 r1 (by simpa [PyData.plain] using hp) (Dq.plain d hd) (by omega) ⟨.bl _, H, I, rfl, q⟩
theorem cb_inL {ds : List PD} (hu : X.A.units + 100 < cLine) (h : min (PyData.depthAll ds) d.depth ≤ 64) : CB X T .In d (.list ds) (inD d ds) := ⟨_, op_inP hu, fun O H x y Q c hx hy k => ⟨d, _, ds, hx.mv fz_sub, hy.mv fz_sub, .inl rfl, h, k _ _ c.refl (.bl _)⟩⟩
theorem cb_inT {ds : List PD} (hu : X.A.units + 100 < cLine) (h : min (PyData.depthAll ds) d.depth ≤ 64) : CB X T .In d (.tuple ds) (inD d ds) := ⟨_, op_inP hu, fun O H x y Q c hx hy k => ⟨d, _, ds, hx.mv fz_sub, hy.mv fz_sub, .inr rfl, h, k _ _ c.refl (.bl _)⟩⟩
theorem cb_niL {ds : List PD} (hu : X.A.units + 100 < cLine) (h : min (PyData.depthAll ds) d.depth ≤ 64) : CB X T .NotIn d (.list ds) (!inD d ds) := ⟨_, op_notInP hu, fun O H x y Q c hx hy k => ⟨d, _, ds, hx.mv fz_sub, hy.mv fz_sub, .inl rfl, h, k _ _ c.refl (.bl _)⟩⟩
theorem cb_niT {ds : List PD} (hu : X.A.units + 100 < cLine) (h : min (PyData.depthAll ds) d.depth ≤ 64) : CB X T .NotIn d (.tuple ds) (!inD d ds) := ⟨_, op_notInP hu, fun O H x y Q c hx hy k => ⟨d, _, ds, hx.mv fz_sub, hy.mv fz_sub, .inr rfl, h, k _ _ c.refl (.bl _)⟩⟩
/-- a ≤ b ≤ c and the like, of ints -/
theorem de_chain {op op' : CmpOp} {c : Expr} {dc : PD} {k k' : Bool} (ha : DE X T a S da) (hb : DE X T b S db) (hc : DE X T c S dc) (ho : CB X T op da db k) (ho' : CB X T op' db dc k')
    (hm : lastMarks [op, op'] [b, c] = false := by with_unfolding_all rfl) : DE X T (.Compare a [op, op'] [b, c] pos) S (.bool (k && k')) := by
  obtain ⟨r, hr, hs⟩ := ho
  obtain ⟨r', hr', hs'⟩ := ho'
  refine pe_of (pe_chain hr hr' ha hb hc hm) fun σ H Q ⟨O0, H0, os, q, kk⟩ => ⟨O0, H0, os, q, fun x H1 g1 h1 => ⟨O0, H0, os, q.gr g1, fun y H2 g2 h2 => hs _ H2 x y _ ((q.gr g1).gr g2).ec (h1.mv (fz_ext g2.ext)) h2 fun z H3 g3 h3 => ?_⟩⟩
  cases h3
  refine ⟨k, rfl, ?_⟩
  have g := (g1.trans g2).trans g3
  cases k with
  | true =>
    rw [if_pos rfl]
    exact ⟨O0, H0, os, q.gr g, fun w H4 g4 h4 => hs' _ H4 y w Q ((q.gr g).gr g4).ec (h2.mv (fz_ext (g3.trans g4).ext)) h4 fun v H' g' h => kk v H' ((g.trans g4).trans g') (by simpa using h)⟩
  | false =>
    rw [if_neg Bool.false_ne_true]
    exact kk _ _ g (by simpa using Dq.bl false)
/-! ### tests -/
theorem dt_val {k : Bool} (h : DE X T e S (.bool k)) (he : ∀ whole, isTrue e X.env whole = (do let v ← whole; standAt e.pos; holding [v] (truthy v)) := by intro _; rfl) : DT X T e S k :=
  pt_of (pt_val h he) fun σ H Q ⟨O0, H0, os, q, kk⟩ => ⟨O0, H0, os, q, fun v H' g h => by cases h; exact ⟨k, rfl, kk H' g⟩⟩
theorem dt_not {k : Bool} (h : DT X T e S k) : DT X T (.UnaryOp .Not e pos) S (!k) := pt_of (pt_not h) fun σ H Q ⟨O0, H0, os, q, kk⟩ => ⟨O0, H0, os, q, fun H' g => kk H' g⟩
theorem dw_and1 {k : Bool} (h : DT X T e S k) : DW X T (.BoolOp .And [e] pos) S k := pw_and1 h
theorem dw_or1 {k : Bool} (h : DT X T e S k) : DW X T (.BoolOp .Or [e] pos) S k := pw_or1 h
theorem dw_and {k k' : Bool} {rest : List Expr} (ha : DT X T a S k) (hb : k = true → DW X T (.BoolOp .And (b :: rest) pos) S k') : DW X T (.BoolOp .And (a :: b :: rest) pos) S (k && k') := by
  cases k with
  | true => exact pw_of (pw_and ha (hb rfl)) fun σ H Q ⟨O0, H0, os, q, kk⟩ => ⟨O0, H0, os, q, fun H' g => by
      dsimp only; rw [if_pos rfl]; exact ⟨O0, H0, os, q.gr g, fun H'' g' => kk _ (g.trans g')⟩⟩
  | false =>
    refine ⟨fun wh pins s σ H Q I ⟨O0, H0, os, q, kk⟩ => ?_⟩
    refine isTrue_and (thn (ha.run pins s σ H (fun c H1 => c = false ∧ Q false H1) I ⟨O0, H0, os, q, fun H' g => ⟨rfl, kk H' g⟩⟩) fun c s1 ⟨H1, I1, e, q1⟩ => ?_)
    subst e
    exact ⟨H1, I1, q1⟩
theorem dw_or {k k' : Bool} {rest : List Expr} (ha : DT X T a S k) (hb : k = false → DW X T (.BoolOp .Or (b :: rest) pos) S k') : DW X T (.BoolOp .Or (a :: b :: rest) pos) S (k || k') := by
  cases k with
  | false => exact pw_of (pw_or ha (hb rfl)) fun σ H Q ⟨O0, H0, os, q, kk⟩ => ⟨O0, H0, os, q, fun H' g => by
      dsimp only; rw [if_neg Bool.false_ne_true]; exact ⟨O0, H0, os, q.gr g, fun H'' g' => kk _ (g.trans g')⟩⟩
  | true =>
    refine ⟨fun wh pins s σ H Q I ⟨O0, H0, os, q, kk⟩ => ?_⟩
    refine isTrue_or (thn (ha.run pins s σ H (fun c H1 => c = true ∧ Q true H1) I ⟨O0, H0, os, q, fun H' g => ⟨rfl, kk H' g⟩⟩) fun c s1 ⟨H1, I1, e, q1⟩ => ?_)
    subst e
    exact ⟨H1, I1, q1⟩
theorem dt_w {k : Bool} (h : DW X T e S k) : DT X T e S k := h.pt
/-- .. as values -/
theorem de_and1 {op : BoolOp} (h : DE X T e S d) : DE X T (.BoolOp op [e] pos) S d := pe_one h
theorem de_and {k : Bool} {k' : Bool} {rest : List Expr} (ha : DE X T a S (.bool k)) (hb : k = true → DE X T (.BoolOp .And (b :: rest) pos) S (.bool k')) : DE X T (.BoolOp .And (a :: b :: rest) pos) S (.bool (k && k')) := by
  cases k with
  | true => exact pe_of (pe_and ha (hb rfl)) fun σ H Q ⟨O0, H0, os, q, kk⟩ => ⟨O0, H0, os, q, fun v H' g h => by
      cases h
      refine ⟨true, rfl, ?_⟩
      rw [if_pos rfl]; exact ⟨O0, H0, os, q.gr g, fun v H'' g' h => kk _ _ (g.trans g') h⟩⟩
  | false =>
    refine ⟨fun pins s σ H Q I ⟨O0, H0, os, q, kk⟩ => ?_⟩
    refine BoolOp_and (thn (ha.run pins s σ H (fun x H1 => x = .bl false ∧ Q x H1) I ⟨O0, H0, os, q, fun v H' g h => by cases h; exact ⟨rfl, kk _ H' g (.bl _)⟩⟩) fun v s1 ⟨x, H1, I1, r1, e, q1⟩ => ?_)
    subst e
    cases r1
    exact wpAny_truthy_bool (show EP X pins σ Q (Value.bool _) s1 from ⟨.bl false, H1, I1, rfl, q1⟩)
theorem de_or {k : Bool} {k' : Bool} {rest : List Expr} (ha : DE X T a S (.bool k)) (hb : k = false → DE X T (.BoolOp .Or (b :: rest) pos) S (.bool k')) : DE X T (.BoolOp .Or (a :: b :: rest) pos) S (.bool (k || k')) := by
  cases k with
  | false => exact pe_of (pe_or ha (hb rfl)) fun σ H Q ⟨O0, H0, os, q, kk⟩ => ⟨O0, H0, os, q, fun v H' g h => by
      cases h
      refine ⟨false, rfl, ?_⟩
      rw [if_neg Bool.false_ne_true]; exact ⟨O0, H0, os, q.gr g, fun v H'' g' h => kk _ _ (g.trans g') h⟩⟩
  | true =>
    refine ⟨fun pins s σ H Q I ⟨O0, H0, os, q, kk⟩ => ?_⟩
    refine BoolOp_or (thn (ha.run pins s σ H (fun x H1 => x = .bl true ∧ Q x H1) I ⟨O0, H0, os, q, fun v H' g h => by cases h; exact ⟨rfl, kk _ H' g (.bl _)⟩⟩) fun v s1 ⟨x, H1, I1, r1, e, q1⟩ => ?_)
    subst e
    cases r1
    exact wpAny_truthy_bool (show EP X pins σ Q (Value.bool _) s1 from ⟨.bl true, H1, I1, rfl, q1⟩)
theorem de_not {k : Bool} (h : DE X T e S (.bool k)) : DE X T (.UnaryOp .Not e pos) S (.bool (!k)) := pe_of (pe_not h) fun σ H Q ⟨O0, H0, os, q, kk⟩ => ⟨O0, H0, os, q, fun v H' g h => by cases h; exact ⟨k, rfl, kk _ _ g (.bl _)⟩⟩
theorem de_if {c : Expr} {k : Bool} (hc : DT X T c S k) (ha : k = true → DE X T a S d) (hb : k = false → DE X T b S d) : DE X T (.IfExp c a b pos) S d := by
  refine ⟨fun pins s σ H Q I ⟨O0, H0, os, q, kk⟩ => ?_⟩
  refine wpAny_IfExp (thn (hc.run pins s σ H (fun c H1 => c = k ∧ Gr T H H1) I ⟨O0, H0, os, q, fun H' g => ⟨rfl, g⟩⟩) fun c s1 ⟨H1, I1, e, g⟩ => ?_)
  subst e
  cases c with
  | true => exact (ha rfl).run pins s1 σ H1 Q I1 ⟨O0, H0, os, q.gr g, fun v H' g' h => kk v H' (g.trans g') h⟩
  | false => exact (hb rfl).run pins s1 σ H1 Q I1 ⟨O0, H0, os, q.gr g, fun v H' g' h => kk v H' (g.trans g') h⟩
/-- own things read as if shared, for a test or a plain value -/
theorem dt_le {k : Bool} (l : Le S S') (h : DT X T e S' k) : DT X T e S k := pt_of h fun σ H Q ⟨O0, H0, os, q, kk⟩ => by
  obtain ⟨os', q'⟩ := l T O0 H0 σ H ⟨os, q⟩
  exact ⟨O0, H0, os', q', kk⟩
def flat : PD → Bool
  | .list _ => false
  | .tuple _ => false
  | _ => true
theorem dq_flat {H H' : Hp} {v : V} (f : flat d = true) (h : Dq H v d) : Dq H' v d := by
  cases h with
  | non => exact .non
  | bl b => exact .bl b
  | int i => exact .int i
  | str x => exact .str x
  | lst _ _ => cases f
  | tup _ _ => cases f
theorem de_le (l : Le S S') (f : flat d = true) (h : DE X T e S' d) : DE X T e S d := pe_of h fun σ H Q ⟨O0, H0, os, q, kk⟩ => by
  obtain ⟨os', q'⟩ := l T O0 H0 σ H ⟨os, q⟩
  exact ⟨O0, H0, os', q', fun v H' g h => kk v H' g (dq_flat f h)⟩
/-! ### items, slices -/
theorem de_ixT {i : Int} (ha : DE X T a S (.tuple ds)) (hb : DE X T b S (.int i)) (hi : atI ds i = some d) (hs : PlainIx b := by exact fun _ _ => rfl) : DE X T (.Subscript a b pos) S d :=
  pe_of (pe_ix ix_tup ha hb hs) fun σ H Q ⟨O0, H0, os, q, kk⟩ => ⟨O0, H0, os, q, fun x H1 g1 h1 => ⟨O0, H0, os, q.gr g1, fun y H2 g2 h2 => by
    cases h1 with
    | tup h1 h3 =>
      cases h2
      rename_i p xs
      obtain ⟨v, hv, hd⟩ : ∃ v, atI xs i = some v ∧ Dq (fz (Ow O0 os) H1) v d := by
        unfold atI at hi ⊢
        rw [h3.length]
        cases e : ixN ds.length i with
        | none => rw [e] at hi; cases hi
        | some j => rw [e] at hi; exact h3.get hi
      exact ⟨p, xs, i, v, rfl, rfl, SqT.of (g2.ext _ _ (fzl h1) fun _ z => by cases z), hv, kk v H2 (g1.trans g2) (hd.mv (fz_ext g2.ext))⟩⟩⟩
theorem de_ixL {i : Int} (ha : DE X T a S (.list ds)) (hb : DE X T b S (.int i)) (hi : atI ds i = some d) (hs : PlainIx b := by exact fun _ _ => rfl) : DE X T (.Subscript a b pos) S d :=
  pe_of (pe_ix ix_list ha hb hs) fun σ H Q ⟨O0, H0, os, q, kk⟩ => ⟨O0, H0, os, q, fun x H1 g1 h1 => ⟨O0, H0, os, q.gr g1, fun y H2 g2 h2 => by
    cases h1 with
    | lst h1 h3 =>
      cases h2
      rename_i p xs
      obtain ⟨v, hv, hd⟩ : ∃ v, atI xs i = some v ∧ Dq (fz (Ow O0 os) H1) v d := by
        unfold atI at hi ⊢
        rw [h3.length]
        cases e : ixN ds.length i with
        | none => rw [e] at hi; cases hi
        | some j => rw [e] at hi; exact h3.get hi
      exact ⟨p, xs, i, v, rfl, rfl, SqL.of (g2.ext _ _ (fzl h1) fun _ z => by cases z), hv, kk v H2 (g1.trans g2) (hd.mv (fz_ext g2.ext))⟩⟩⟩
/-! ### calls of built-ins -/
theorem de_callB {id : String} {r : List V → Hp → VK → Prop} {x : Str} {l : List Expr} {p : Pos} (hc : CallR X (.builtin id) r) (hs : CS T r ds d) (hm : X.mg x = none) (ha : DA X T (e :: l) S ds) (hv : bootBuiltins x = some (.builtin id) := by decide +kernel) (hg : Gl X x := by rfl) (hn : x ≠ "__name__" := by decide) (hdb : (x == ("__debug__" : Str)) = false := by decide)
    (he : starEach (e :: l) X.env = (false, eval e X.env) :: starEach l X.env := by rfl) (hpl : (backTo pos (starEach l X.env)).any (·.1) = false := by rfl) : DE X T (.Call (.Name x p) (e :: l) [] pos) S d :=
  pe_of (pe_callB hc hg hm hv ha hn hdb he hpl) fun σ H Q ⟨O0, H0, os, q, kk⟩ => ⟨O0, H0, os, q, fun vs H1 g1 h1 => hs _ H1 vs Q (q.gr g1).ec h1 fun v H' g h => kk v H' (g1.trans g) h⟩
theorem de_callTy {id : String} {r : List V → Hp → VK → Prop} {x : Str} {l : List Expr} {p : Pos} (hc : CallR X (.type id) r) (hs : CS T r ds d) (hm : X.mg x = none) (ha : DA X T (e :: l) S ds) (hv : bootBuiltins x = some (.type id) := by decide +kernel) (hg : Gl X x := by rfl) (hn : x ≠ "__name__" := by decide) (hdb : (x == ("__debug__" : Str)) = false := by decide)
    (he : starEach (e :: l) X.env = (false, eval e X.env) :: starEach l X.env := by rfl) (hpl : (backTo pos (starEach l X.env)).any (·.1) = false := by rfl) : DE X T (.Call (.Name x p) (e :: l) [] pos) S d :=
  pe_of (pe_callTy hc hg hm hv ha hn hdb he hpl) fun σ H Q ⟨O0, H0, os, q, kk⟩ => ⟨O0, H0, os, q, fun vs H1 g1 h1 => hs _ H1 vs Q (q.gr g1).ec h1 fun v H' g h => kk v H' (g1.trans g) h⟩
theorem dn_callB {id : String} {r : List V → Hp → VK → Prop} {x : Str} {l : List Expr} {p : Pos} (hc : CallR X (.builtin id) r) (hs : CN T r ds es) (hm : X.mg x = none) (ha : DA X T (e :: l) S ds) (hv : bootBuiltins x = some (.builtin id) := by decide +kernel) (hg : Gl X x := by rfl) (hn : x ≠ "__name__" := by decide) (hdb : (x == ("__debug__" : Str)) = false := by decide)
    (he : starEach (e :: l) X.env = (false, eval e X.env) :: starEach l X.env := by rfl) (hpl : (backTo pos (starEach l X.env)).any (·.1) = false := by rfl) : DN X T (.Call (.Name x p) (e :: l) [] pos) S es :=
  pe_of (pe_callB hc hg hm hv ha hn hdb he hpl) fun σ H Q ⟨O0, H0, os, q, kk⟩ => ⟨O0, H0, os, q, fun vs H1 g1 h1 => hs _ H1 vs Q (q.gr g1).ec h1 fun p xs H' n g h hd => kk p xs H' (n.back g1.ext) (g1.trans g) h hd⟩
theorem dn_callTy {id : String} {r : List V → Hp → VK → Prop} {x : Str} {l : List Expr} {p : Pos} (hc : CallR X (.type id) r) (hs : CN T r ds es) (hm : X.mg x = none) (ha : DA X T (e :: l) S ds) (hv : bootBuiltins x = some (.type id) := by decide +kernel) (hg : Gl X x := by rfl) (hn : x ≠ "__name__" := by decide) (hdb : (x == ("__debug__" : Str)) = false := by decide)
    (he : starEach (e :: l) X.env = (false, eval e X.env) :: starEach l X.env := by rfl) (hpl : (backTo pos (starEach l X.env)).any (·.1) = false := by rfl) : DN X T (.Call (.Name x p) (e :: l) [] pos) S es :=
  pe_of (pe_callTy hc hg hm hv ha hn hdb he hpl) fun σ H Q ⟨O0, H0, os, q, kk⟩ => ⟨O0, H0, os, q, fun vs H1 g1 h1 => hs _ H1 vs Q (q.gr g1).ec h1 fun p xs H' n g h hd => kk p xs H' (n.back g1.ext) (g1.trans g) h hd⟩
end
end DL

namespace DL
open PySem PySem.Spec PyProof.Rows L2

/-- J walks ds; F: where the items stand, B: what stays through the walk -/
def WalkD (T : Tb) (F B : Hp) (ds : List PD) (J : It) : Prop := ∃ (G : Hp → Prop) (Y : Nat → Hp → V → Hp → Prop), Walk J ds.length G Y ∧ (∀ H, Xt B H → G H) ∧
  ∀ (i : Nat) (H : Hp) (x : V) (H' : Hp), i < ds.length → Xt B H → LamX.Tabs T H → Y i H x H' → Gr T H H' ∧ ∀ O : Addr → Prop, EC T O H → Xt F (fz O H) → ∃ d, ds[i]? = some d ∧ Dq (fz O H') x d
theorem WalkD.up {T : Tb} {F B B' : Hp} {ds : List PD} {J : It} (w : WalkD T F B ds J) (e : Xt B B') : WalkD T F B' ds J := by
  obtain ⟨G, Y, h1, h2, h3⟩ := w
  exact ⟨G, Y, h1, fun H h => h2 H (e.trans h), fun i H x H' l h => h3 i H x H' l (e.trans h)⟩
abbrev owned (os : Nat → List Addr) : Addr → Prop := fun a => ∃ i, a ∈ os i
/-- for a loop; for a comprehension -/
def tI (T : Tb) (S : AS) (ds : List PD) : TI := fun σ H R => ∃ O0 H0 os, RpO T O0 H0 os S σ H ∧ ∀ J H', Gr T H H' → WalkD T (fz (Ow O0 os) H') (fz (owned os) H') ds J → R J H'
def tIc (T : Tb) (S : AS) (ds : List PD) : TI := fun σ H R => ∃ O0 H0 os, RpO T O0 H0 os S σ H ∧ ∀ J H', Gr T H H' → WalkD T (fz (Ow O0 os) H') H' ds J → R J H'
abbrev DI (X : Cx) (T : Tb) (tg e : Expr) (S : AS) (ds : List PD) : Prop := PI X tg e (tI T S ds)
abbrev DIc (X : Cx) (T : Tb) (tg e : Expr) (S : AS) (ds : List PD) : Prop := PI X tg e (tIc T S ds)
theorem pi_of {X : Cx} {tg e : Expr} {t u : TI} (h : PI X tg e t) (k : ∀ σ H R, u σ H R → t σ H R) : PI X tg e u := ⟨fun pins s σ H R I q => h.run pins s σ H R I (k σ H R q)⟩
theorem pg_of {X : Cx} {tg : Expr} {t u : TG} (h : PG X tg t) (k : ∀ v σ H Q, u v σ H Q → t v σ H Q) : PG X tg u := ⟨fun pins s σ H v w Q I r q => h.run pins s σ H v w Q I r (k v σ H Q q)⟩
theorem pgs_of {X : Cx} {l : List Expr} {t u : TGs} (h : PGs X l t) (k : ∀ v σ H Q, u v σ H Q → t v σ H Q) : PGs X l u := ⟨fun pins s σ H v w Q I r q => h.run pins s σ H v w Q I r (k v σ H Q q)⟩
section
variable {X : Cx} {T : Tb} {S S' S1 : AS} {d da db dr : PD} {ds es : List PD} {e a b tg : Expr} {pos : Pos}
theorem dic_of (h : DI X T tg e S ds) : DIc X T tg e S ds := pi_of h fun σ H R ⟨O0, H0, os, r, k⟩ => ⟨O0, H0, os, r, fun J H' g w => k J H' g (w.up fz_sub)⟩
theorem fz_own {O0 : Addr → Prop} {os : Nat → List Addr} {H : Hp} {a : Addr} {o : HO} (h : fz (Ow O0 os) H a = some o) : fz (owned os) H a = some o := by
  obtain ⟨h1, h2⟩ := fz_some h
  rw [fz_out (fun z => h1 (.inr z))]; exact h2
theorem walkL {K : Fr} {F B : Hp} {p : Addr} {xs : List V} (hp : B p = some (.lst xs)) (h : Dqs F xs ds) : WalkD T F B ds (Itl K p) :=
  ⟨_, _, by rw [← h.length]; exact walk_list (xs := xs), fun H e => SqL.of (e _ _ hp fun _ z => by cases z), fun i H x H' l e t y => ⟨by obtain ⟨rfl, _⟩ := y; exact ⟨Xt.refl, t⟩, fun O c f => by
    obtain ⟨rfl, hx⟩ := y
    obtain ⟨d, h1, h2⟩ := h.get' hx
    exact ⟨d, h1, h2.mv f⟩⟩⟩
theorem walkT {K : Fr} {F B : Hp} {p : Addr} {xs : List V} (hp : B p = some (.tup xs)) (h : Dqs F xs ds) : WalkD T F B ds (Itt K p) :=
  ⟨_, _, by rw [← h.length]; exact walk_tup (xs := xs), fun H e => SqT.of (e _ _ hp fun _ z => by cases z), fun i H x H' l e t y => ⟨by obtain ⟨rfl, _⟩ := y; exact ⟨Xt.refl, t⟩, fun O c f => by
    obtain ⟨rfl, hx⟩ := y
    obtain ⟨d, h1, h2⟩ := h.get' hx
    exact ⟨d, h1, h2.mv f⟩⟩⟩
theorem di_list (h : DE X T e S (.list ds)) : DI X T tg e S ds := pi_of (pi_list h) fun σ H R ⟨O0, H0, os, r, k⟩ => ⟨O0, H0, os, r, fun v H' g h => by
  cases h with
  | lst h1 h2 => exact ⟨_, rfl, ⟨_, SqL.of (fzl h1)⟩, k _ H' g (walkL (fz_own h1) h2)⟩⟩
theorem di_tup (h : DE X T e S (.tuple ds)) : DI X T tg e S ds := pi_of (pi_tup h) fun σ H R ⟨O0, H0, os, r, k⟩ => ⟨O0, H0, os, r, fun v H' g h => by
  cases h with
  | tup h1 h2 => exact ⟨_, rfl, ⟨_, SqT.of (fzl h1)⟩, k _ H' g (walkT (fz_own h1) h2)⟩⟩
/-- an own list walked in a comprehension -/
theorem dic_own {x : Str} (i : Nat) (hi : S[i]? = some (own ds) := by rfl) (hN : X.N[i]? = some x := by rfl) (hv : Vis X.env.scope x := by first | exact Or.inl rfl | exact Or.inr (Or.inl rfl) | exact Or.inr (Or.inr rfl)) (hd : (x == ("__debug__" : Str)) = false := by decide)
    (hcd : (x == ("__classdict__" : Str)) = false := by decide) : DIc X T tg (.Name x pos) S ds := pi_of (pi_list (pe_var hN hv hd hcd)) fun σ H R ⟨O0, H0, os, r, k⟩ => by
  obtain ⟨v, h1, p, xs, h2, rfl, h3, h4⟩ := r.rep i _ hi
  exact ⟨_, h1, p, rfl, ⟨_, SqL.of h3⟩, k _ H r.ec.refl (walkL h3 h4)⟩
def upTo (n : Nat) : List PD := (List.range n).map fun i => .int (i : Nat)
def fromTo (lo hi : Int) : List PD := (List.range (hi - lo).toNat).map fun i => .int (lo + (i : Nat))
theorem walkR {F B : Hp} {lo : Int} {n : Nat} : WalkD T F B ((List.range n).map fun i => .int (lo + (i : Nat))) (Itr lo n) :=
  ⟨fun _ => True, YFn fun i => .int (lo + i), by simpa using walk_range (lo := lo) (n := n) |>.mono (fun _ _ => trivial) (fun i H x H' hi _ y => y), fun _ _ => trivial, fun i H x H' l e t y => ⟨by obtain ⟨rfl, _⟩ := y; exact ⟨Xt.refl, t⟩, fun O c f => by
    obtain ⟨rfl, rfl⟩ := y
    exact ⟨_, by rw [List.getElem?_map, List.getElem?_range (by simpa using l)]; rfl, .int _⟩⟩⟩
theorem di_range {p : Pos} {n : Int} (ha : DA X T [a] S [.int n]) (hm : X.mg "range" = none) (hn : n < 2 ^ 62 ∧ -(2 ^ 62) ≤ n) (hg : Gl X "range" := by rfl) (hs : starEach [a] X.env = [(false, eval a X.env)] := by rfl) : DI X T tg (.Call (.Name "range" p) [a] [] pos) S (upTo n.toNat) :=
  pi_of (pi_range1 hg hm ha hs) fun σ H R ⟨O0, H0, os, r, k⟩ => ⟨O0, H0, os, r, fun vs H' g h => by
    cases h with
    | cons h1 h2 =>
      cases h2
      cases h1
      refine ⟨n, rfl, hn.2, hn.1, k _ H' g ?_⟩
      have w := walkR (T := T) (F := fz (Ow O0 os) H') (B := fz (owned os) H') (lo := 0) (n := n.toNat)
      simp only [Int.zero_add] at w
      exact w⟩
theorem di_range2 {p : Pos} {lo hi : Int} (ha : DA X T [a, b] S [.int lo, .int hi]) (hm : X.mg "range" = none) (hn : -(2 ^ 62) ≤ lo ∧ lo < 2 ^ 62 ∧ -(2 ^ 62) ≤ hi ∧ hi < 2 ^ 62) (hg : Gl X "range" := by rfl) (hs : starEach [a, b] X.env = [(false, eval a X.env), (false, eval b X.env)] := by rfl) (hs2 : starEach [b] X.env = [(false, eval b X.env)] := by rfl) : DI X T tg (.Call (.Name "range" p) [a, b] [] pos) S (fromTo lo hi) :=
  pi_of (pi_range2 hg hm ha hs hs2) fun σ H R ⟨O0, H0, os, r, k⟩ => ⟨O0, H0, os, r, fun vs H' g h => by
    cases h with
    | cons h1 h2 =>
      cases h2 with
      | cons h2 h3 =>
      cases h3
      cases h1
      cases h2
      exact ⟨lo, hi, rfl, hn, k _ H' g walkR⟩⟩
/-! ### targets -/
/-- a slot that owns nothing -/
def Free1 (S : AS) (v : Nat) : Prop := S[v]? = some un ∨ ∃ d, S[v]? = some (dat d)
def FreeS (S : AS) : List Nat → Prop
  | [] => True
  | v :: vs => Free1 S v ∧ FreeS S vs
theorem Free1.os {O0 : Addr → Prop} {H0 H : Hp} {os : Nat → List Addr} {σ : St} {v : Nat} (f : Free1 S v) (r : RpO T O0 H0 os S σ H) : os v = [] := by
  rcases f with f | ⟨d, f⟩
  · obtain ⟨_, _, h⟩ := r.rep v _ f
    exact h
  · obtain ⟨_, _, h, _⟩ := r.rep v _ f
    exact h
theorem RpO.put {O0 : Addr → Prop} {H0 H : Hp} {os : Nat → List Addr} {σ : St} (r : RpO T O0 H0 os S σ H) {i : Nat} (f : os i = []) {v : V} (h : Dq (fz (Ow O0 os) H) v d) : RpO T O0 H0 os (S.set i (dat d)) (σ.set i (some v)) H := by
  have e : (fun j => if j = i then [] else os j) = os := funext fun j => by
    by_cases q : j = i
    · rw [if_pos q, q, f]
    · rw [if_neg q]
  have z := r.drop i (dat d) (σ' := σ.set i (some v)) (by simp) (fun j hj => List.getElem?_set_ne (Ne.symm hj)) fun hlt => ⟨some v, List.getElem?_set_self (by rw [r.len]; exact hlt), rfl, v, rfl, h.mv (fz_mono fun a => ow_drop)⟩
  rw [e] at z
  exact z
theorem RpO.blank {O0 : Addr → Prop} {H0 H : Hp} {os : Nat → List Addr} {σ : St} (r : RpO T O0 H0 os S σ H) {i : Nat} (f : os i = []) {v : Option V} : RpO T O0 H0 os (S.set i un) (σ.set i v) H := by
  have e : (fun j => if j = i then [] else os j) = os := funext fun j => by
    by_cases q : j = i
    · rw [if_pos q, q, f]
    · rw [if_neg q]
  have z := r.drop i un (σ' := σ.set i v) (by simp) (fun j hj => List.getElem?_set_ne (Ne.symm hj)) fun hlt => ⟨v, List.getElem?_set_self (by rw [r.len]; exact hlt), rfl⟩
  rw [e] at z
  exact z
/-- d is stored at a target: S becomes S'; only the slots js change -/
def tG (T : Tb) (js : List Nat) (S : AS) (d : PD) (S' : AS) : TG := fun v σ H Q => ∃ O0 H0 os, RpO T O0 H0 os S σ H ∧ Dq (fz (Ow O0 os) H) v d ∧
  ∀ σ', σ'.length = σ.length → (∀ i, i ∉ js → σ'[i]? = σ[i]?) → RpO T O0 H0 os S' σ' H → Q σ' H
abbrev DG (X : Cx) (T : Tb) (tg : Expr) (js : List Nat) (S : AS) (d : PD) (S' : AS) : Prop := PG X tg (tG T js S d S')
def tGs (T : Tb) (js : List Nat) (S : AS) (ds : List PD) (S' : AS) : TGs := fun vs σ H Q => ∃ O0 H0 os, RpO T O0 H0 os S σ H ∧ Dqs (fz (Ow O0 os) H) vs ds ∧
  ∀ σ', σ'.length = σ.length → (∀ i, i ∉ js → σ'[i]? = σ[i]?) → RpO T O0 H0 os S' σ' H → Q σ' H
abbrev DGs (X : Cx) (T : Tb) (l : List Expr) (js : List Nat) (S : AS) (ds : List PD) (S' : AS) : Prop := PGs X l (tGs T js S ds S')
theorem dg_nm {x : Str} (i : Nat) (nd : X.N.Nodup) (f : Free1 S i) (hN : X.N[i]? = some x := by rfl) (hx : Loc X.env.scope x := by first | exact Or.inl rfl | exact Or.inr rfl)
    (hf : X.fn x = true ∨ X.env.scope.names.lookup x = some .local := by first | exact .inl rfl | exact .inr rfl) : DG X T (.Name x pos) [i] S d (S.set i (dat d)) := pg_of (pg_name nd hN hx hf) fun v σ H Q ⟨O0, H0, os, r, h, k⟩ =>
  k _ (by simp) (fun j hj => List.getElem?_set_ne (by intro e; exact hj (by simp [e]))) (r.put (f.os r) h)
theorem dgs_nil : DGs X T [] [] S [] S := pgs_of pgs_nil fun vs σ H Q ⟨O0, H0, os, r, h, k⟩ => by
  cases h
  exact ⟨rfl, k σ rfl (fun _ _ => rfl) r⟩
theorem dgs_cons {l : List Expr} {js ks : List Nat} (h1 : DG X T a js S d S1) (h2 : DGs X T l ks S1 ds S') (hs : (assignEach (a :: l) X.env).map (·.2) = assign a X.env :: (assignEach l X.env).map (·.2) := by rfl) : DGs X T (a :: l) (js ++ ks) S (d :: ds) S' :=
  pgs_of (pgs_cons h1 h2 hs) fun vs σ H Q ⟨O0, H0, os, r, h, k⟩ => by
    cases h with
    | cons q1 q2 =>
      exact ⟨_, _, rfl, O0, H0, os, r, q1, fun σ1 l1 e1 r1 => ⟨O0, H0, os, r1, q2, fun σ2 l2 e2 r2 => k σ2 (l2.trans l1) (fun i hi => by
        simp only [List.mem_append, not_or] at hi
        exact (e2 i hi.2).trans (e1 i hi.1)) r2⟩⟩
theorem dg_tup {l : List Expr} {k : Nat} {js : List Nat} (hc : X.calm = true) (h : DGs X T l js S ds S') (hl : (assignEach l X.env).length = ds.length := by rfl) (hst : (assignEach l X.env).findIdx? (·.1) = none := by rfl) : DG X T (.Tuple l k pos) js S (.tuple ds) S' :=
  pg_of (pg_tup hc h hl hst) fun v σ H Q ⟨O0, H0, os, r, h, k⟩ => by
    cases h with
    | tup q1 q2 => exact ⟨_, _, rfl, SqT.of (fzl q1), q2.length, O0, H0, os, r, q2, k⟩
/-! ### comprehensions -/
def wipeS (S : AS) : List Nat → AS
  | [] => S
  | v :: vs => (wipeS S vs).set v un
theorem FreeS.mem : ∀ {vs : List Nat} {v : Nat}, FreeS S vs → v ∈ vs → Free1 S v
  | [], _, _, h => by cases h
  | w :: ws, v, f, h => by
    rcases List.mem_cons.mp h with e | h
    · subst e; exact f.1
    · exact FreeS.mem f.2 h
theorem RpO.wiped {O0 : Addr → Prop} {H0 H : Hp} {os : Nat → List Addr} {σ : St} (r : RpO T O0 H0 os S σ H) : ∀ {vs : List Nat}, (∀ v ∈ vs, os v = []) → RpO T O0 H0 os (wipeS S vs) (wipe σ vs) H
  | [], _ => r
  | v :: vs, f => RpO.blank (RpO.wiped r fun w hw => f w (List.mem_cons_of_mem _ hw)) (f v List.mem_cons_self)
theorem wipe_len (σ : St) : ∀ vs : List Nat, (wipe σ vs).length = σ.length := wipe_length σ
theorem wipe_at {σ : St} {i : Nat} : ∀ {vs : List Nat}, i < σ.length → (wipe σ vs)[i]? = if i ∈ vs then some none else σ[i]?
  | [], _ => by simp [wipe]
  | v :: vs, h => by
    unfold wipe
    by_cases e : v = i
    · subst e
      rw [List.getElem?_set_self (by rw [wipe_len]; exact h), if_pos List.mem_cons_self]
    · rw [List.getElem?_set_ne e, wipe_at h]
      by_cases m : i ∈ vs
      · rw [if_pos m, if_pos (List.mem_cons_of_mem _ m)]
      · rw [if_neg m, if_neg (by simp only [List.mem_cons, not_or]; exact ⟨fun z => e z.symm, m⟩)]
theorem wipe_same {σ σ' : St} {vs js : List Nat} (hl : σ'.length = σ.length) (h : ∀ i, i ∉ js → σ'[i]? = (wipe σ vs)[i]?) (hj : ∀ j ∈ js, j ∈ vs) : wipe σ' vs = wipe σ vs := by
  apply List.ext_getElem?
  intro i
  by_cases hi : i < σ.length
  · rw [wipe_at (by omega), wipe_at hi]
    by_cases m : i ∈ vs
    · rw [if_pos m, if_pos m]
    · rw [if_neg m, if_neg m, h i (fun z => m (hj i z)), wipe_at hi, if_neg m]
  · rw [List.getElem?_eq_none (by rw [wipe_len]; omega), List.getElem?_eq_none (by rw [wipe_len]; omega)]
/-- the state with the list at D out of sight -/
theorem RpO.hide {O0 : Addr → Prop} {H0 H1 H : Hp} {os : Nat → List Addr} {σ : St} (r : RpO T O0 H0 os S σ H1) {D : Addr} (n : Nw H1 D) (e : Xt H1 H) (t : LamX.Tabs T H) {acc : List V} (hD : H D = some (.lst acc)) :
    RpO T (fun a => O0 a ∨ a = D) (fz (owned os) H) os S σ H := by
  have nD : ¬ Ow O0 os D := r.free n
  have r2 := r.grow e t
  refine ⟨r2.len, r2.apart, fun i a h => ⟨?_, fun o q => by rw [fz_in ⟨i, h⟩] at q; (cases q), (r2.new i a h).2.2⟩, ?_, fz_sub, t, fun i s h => ?_, r2.out⟩
  · rintro (z | z)
    · exact (r2.new i a h).1 z
    · exact nD (z ▸ .inr ⟨i, h⟩)
  · rintro a (z | rfl)
    · obtain ⟨o, q, m⟩ := r2.allo (.inl z)
      refine ⟨o, ?_, m⟩
      rw [fz_out]
      · exact q
      · rintro ⟨i, w⟩
        exact (r2.new i a w).1 z
    · exact ⟨_, by rw [fz_out (fun ⟨i, z⟩ => nD (.inr ⟨i, z⟩))]; exact hD, Mu.lst⟩
  · obtain ⟨v, h1, h2⟩ := r.rep i s h
    refine ⟨v, h1, s.mono (fun a u q m => ?_) (fun a ha => ?_) h2⟩
    · obtain ⟨q1, q2⟩ := fz_some q
      rw [fz_out]
      · exact e a u q2 m
      · rintro ((z | z) | z)
        · exact q1 (.inl z)
        · exact n u (z ▸ q2) m
        · exact q1 (.inr z)
    · obtain ⟨_, _, o, h3, m⟩ := r.new i a ha
      rw [h3]; exact e.at h3 m
/-- what stands behind the i-th turn -/
structure LcAt (T : Tb) (O : Addr → Prop) (H1 : Hp) (D : Addr) (res : List PD) (H : Hp) : Prop where
  ext : Xt H1 H
  tabs : LamX.Tabs T H
  acc : ∃ acc, H D = some (.lst acc) ∧ Dqs (fz (fun a => O a ∨ a = D) H) acc res
theorem ow_or {O0 : Addr → Prop} {os : Nat → List Addr} {D a : Addr} : Ow (fun a => O0 a ∨ a = D) os a ↔ (Ow O0 os a ∨ a = D) := by
  constructor
  · rintro ((z | z) | z)
    · exact .inl (.inl z)
    · exact .inr z
    · exact .inl (.inr z)
  · rintro ((z | z) | z)
    · exact .inl (.inl z)
    · exact .inr z
    · exact .inl (.inr z)
theorem fz_or {O0 : Addr → Prop} {os : Nat → List Addr} {D : Addr} {H : Hp} : fz (Ow (fun a => O0 a ∨ a = D) os) H = fz (fun a => Ow O0 os a ∨ a = D) H := by
  have e : Ow (fun a => O0 a ∨ a = D) os = fun a => Ow O0 os a ∨ a = D := funext fun a => propext ow_or
  rw [e]
/-- the union over the items -/
theorem pe_any {α : Type} {P : α → Prop} {t : α → TE} (h : ∀ x, P x → PE X e (t x)) : PE X e (fun σ H Q => ∃ x, P x ∧ t x σ H Q) := ⟨fun pins s σ H Q I ⟨x, p, q⟩ => (h x p).run pins s σ H Q I q⟩
theorem pts_any {α : Type} {P : α → Prop} {l : List Expr} {t : α → TT} (h : ∀ x, P x → PTs X l (t x)) : PTs X l (fun σ H Q => ∃ x, P x ∧ t x σ H Q) := ⟨fun pins s σ H Q I ⟨x, p, q⟩ => (h x p).run pins s σ H Q I q⟩
theorem pg_any {α : Type} {P : α → Prop} {t : α → TG} (h : ∀ x, P x → PG X tg (t x)) : PG X tg (fun v σ H Q => ∃ x, P x ∧ t x v σ H Q) := ⟨fun pins s σ H v u Q I r ⟨x, p, q⟩ => (h x p).run pins s σ H v u Q I r q⟩
abbrev DTs (X : Cx) (T : Tb) (l : List Expr) (S : AS) (b : Bool) : Prop := PTs X l (tQ T S b)
theorem dts_nil : DTs X T [] S true := ⟨fun pins s σ H Q I ⟨O0, H0, os, r, k⟩ => pts_nil.run pins s σ H Q I (k H r.ec.refl)⟩
theorem dts_one {k : Bool} (h : DT X T e S k) : DTs X T [e] S k := pts_one h
theorem keep_take {α : Type} {xs : List α} {f : α → Bool} {g : α → PD} {i : Nat} {x : α} (h : xs[i]? = some x) : ((xs.take (i + 1)).filter f).map g = ((xs.take i).filter f).map g ++ if f x = true then [g x] else [] := by
  rw [List.take_add_one, h, List.filter_append, List.map_append]
  cases q : f x <;> simp [q]
section
variable {α : Type} {xs : List α} {emb : α → PD} {f : α → Bool} {g : α → PD} {S2 : α → AS} {js : List Nat} {elt iter : Expr} {ifs : List Expr} {scope : Scope} {own' : List (Str × Nat)}
/-- the reading of a comprehension -/
theorem lc_read {O0 : Addr → Prop} {H0 H' : Hp} {os : Nat → List Addr} {σ : St} {Q : Hp → Prop} {J : It} {D : Addr} {vs : List Nat} (r : RpO T O0 H0 os S σ H') (w : WalkD T (fz (Ow O0 os) H') H' (xs.map emb) J) (hD : H' D = none) (fs : FreeS S vs) (hj : ∀ j ∈ js, j ∈ vs) (hz : xs.length ≤ 1000000)
    (hd : ∀ H, LcAt T (Ow O0 os) H' D ((xs.filter f).map g) H → Q H) :
    ∃ W : Nat → Nat → Hp → Prop, (∃ m, W 0 m (upd H' D (.lst []))) ∧ ∀ i m H, W i m H →
      (J.stop i H ∧ Q H) ∨ (J.go i H ∧ ∃ Nx : Hp → Prop, (∀ H', Nx H' → ∃ m', m' < m ∧ W (i + 1) m' H') ∧ ∀ x H', J.yld i H x H' →
        (fun v σ H Q => ∃ z, z ∈ xs ∧ tG T js (wipeS S vs) (emb z) (S2 z) v σ H Q) x (wipe σ vs) H' fun σ2 H2 => wipe σ2 vs = wipe σ vs ∧ (fun σ H Q => ∃ z, z ∈ xs ∧ tQ T (S2 z) (f z) σ H Q) σ2 H2 fun b H3 =>
        if b = true then (fun σ H Q => ∃ z, (z ∈ xs ∧ f z = true) ∧ tD T (S2 z) (g z) σ H Q) σ2 H3 fun y H4 => ∃ acc, H4 D = some (.lst acc) ∧ acc.length < sizeLine ∧ Nx (upd H4 D (.lst (acc ++ [y]))) else Nx H3) := by
  obtain ⟨G, Y, wk, wg, wy⟩ := w
  have nD : ¬ Ow O0 os D := r.free (.of hD)
  have wv : ∀ v ∈ vs, os v = [] := fun v hv => (fs.mem hv).os r
  have hl : (xs.map emb).length = xs.length := List.length_map _
  refine lc_it (g := fun v σ H Q => ∃ z, z ∈ xs ∧ tG T js (wipeS S vs) (emb z) (S2 z) v σ H Q) (tt := fun σ H Q => ∃ z, z ∈ xs ∧ tQ T (S2 z) (f z) σ H Q) (te := fun σ H Q => ∃ z, (z ∈ xs ∧ f z = true) ∧ tD T (S2 z) (g z) σ H Q) (vs := vs) (σ := σ) (D := D) (Qd := Q) wk (fun i H => LcAt T (Ow O0 os) H' D (((xs.take i).filter f).map g) H) ⟨Xt.new hD, tabs_new r.tabs hD, [], upd_same, .nil⟩ (fun i H _ p => wg H p.ext) (fun i x H H2 hi p y => ?_) (fun H p => ?_)
  · rw [hl] at hi
    obtain ⟨acc, hacc, hda⟩ := p.acc
    have r1 := (r.wiped wv).hide (.of hD) p.ext p.tabs hacc
    obtain ⟨g1, it⟩ := wy i H x H2 (by rw [hl]; exact hi) p.ext p.tabs y
    obtain ⟨z, hz1⟩ : ∃ z, xs[i]? = some z := ⟨xs[i], by simp [hi]⟩
    obtain ⟨d, hd1, hd2⟩ := it _ r1.ec (by
      rw [fz_or]
      exact fun a u q m => by
        obtain ⟨q1, q2⟩ := fz_some q
        rw [fz_out (fun w => w.elim q1 (fun e => by rw [e, hD] at q2; cases q2))]
        exact p.ext a u q2 m)
    have hd3 : d = emb z := by
      rw [List.getElem?_map, hz1] at hd1
      exact (Option.some.inj hd1).symm
    subst hd3
    have hm := List.mem_of_getElem? hz1
    refine ⟨z, hm, _, _, os, r1.gr g1, hd2, fun σ2 l2 e2 r2 => ⟨wipe_same (by rw [l2, wipe_len]) e2 hj, z, hm, _, _, os, r2, fun H3 g3 => ?_⟩⟩
    have x3 : Xt H' H3 := p.ext.trans (g1.trans g3).ext
    have fe : ∀ {Ha Hb : Hp}, Xt Ha Hb → Dqs (fz (fun a => Ow O0 os a ∨ a = D) Ha) acc (((xs.take i).filter f).map g) → Dqs (fz (fun a => Ow O0 os a ∨ a = D) Hb) acc (((xs.take i).filter f).map g) := fun e h => h.mv (fz_ext e)
    have hacc3 : H3 D = some (.lst acc) := (g1.trans g3).ext _ _ hacc fun _ z => by cases z
    cases q : f z with
    | false =>
      dsimp only
      rw [if_neg Bool.false_ne_true]
      refine ⟨x3, g3.tabs, acc, hacc3, ?_⟩
      rw [keep_take hz1, q, if_neg Bool.false_ne_true, List.append_nil]
      exact fe (g1.trans g3).ext hda
    | true =>
      dsimp only
      rw [if_pos rfl]
      refine ⟨z, ⟨hm, q⟩, _, _, os, r2.gr g3, fun y H4 g4 h4 => ?_⟩
      have hacc4 : H4 D = some (.lst acc) := g4.ext _ _ hacc3 fun _ z => by cases z
      have hda4 := fe ((g1.trans g3).trans g4).ext hda
      refine ⟨acc, hacc4, ?_, fun b u q1 m => ?_, tabs_upd g4.tabs hacc4 Mu.lst, acc ++ [y], upd_same, ?_⟩
      · rw [hda.length, List.length_map]
        have l1 := List.length_filter_le f (xs.take i)
        rw [List.length_take] at l1
        exact Nat.lt_of_lt_of_le (show _ < 1000001 by omega) (by rw [sizeLine_eq]; decide)
      · rw [upd_ne (fun e => by rw [e, hD] at q1; cases q1)]
        exact (x3.trans g4.ext) b u q1 m
      · rw [keep_take hz1, q, if_pos rfl]
        rw [fz_or] at h4
        have fo : Xt (fz (fun a => Ow O0 os a ∨ a = D) H4) (fz (fun a => Ow O0 os a ∨ a = D) (upd H4 D (.lst (acc ++ [y])))) := fun b u q m => by
          obtain ⟨q1, q2⟩ := fz_some q
          rw [fz_out q1, upd_ne (fun e => q1 (.inr e))]
          exact q2
        exact (hda4.snoc h4).mv fo
  · rw [hl, List.take_length] at p
    exact hd H p
/-- [elt for tg in iter if ..] -/
theorem dn_lc (hc : X.calm = true) (nd : X.N.Nodup) (hi : DIc X T tg iter S (xs.map emb)) (hb : blkC X.N X.env.scope scope own' = true) (fs : FreeS S (own'.map (·.2))) (hj : ∀ j ∈ js, j ∈ own'.map (·.2)) (hz : xs.length ≤ 1000000)
    (hg : ∀ z ∈ xs, ∀ (s : Shared) (H : Hp) (C : Addr) (cl : List (Str × Addr)) (fp : List Addr), DG (X.blk s H scope (compEnvC scope cl C X.env) fp) T tg js (wipeS S (own'.map (·.2))) (emb z) (S2 z))
    (ht : ∀ z ∈ xs, ∀ (s : Shared) (H : Hp) (C : Addr) (cl : List (Str × Addr)) (fp : List Addr), DTs (X.blk s H scope (compEnvC scope cl C X.env) fp) T ifs (S2 z) (f z))
    (he : ∀ z ∈ xs, f z = true → ∀ (s : Shared) (H : Hp) (C : Addr) (cl : List (Str × Addr)) (fp : List Addr), DE (X.blk s H scope (compEnvC scope cl C X.env) fp) T elt (S2 z) (g z)) (hs : ∀ x, foldedSetIterable iter X.env x = pure x := by intro _; rfl) :
    DN X T (.ListComp elt [⟨tg, iter, ifs, 0⟩] scope pos) S ((xs.filter f).map g) := by
  refine pe_of (pe_lc hc nd hi (blkOk_by hb) (fun s H C cl fp => pg_any fun z hz => hg z hz s H C cl fp) (fun s H C cl fp => pts_any fun z hz => ht z hz s H C cl fp) (fun s H C cl fp => pe_any (P := fun z => z ∈ xs ∧ f z = true) fun z hz => he z hz.1 hz.2 s H C cl fp) hs) fun σ H Q ⟨O0, H0, os, r, k⟩ => ⟨O0, H0, os, r, fun J H' g1 w D hD => ?_⟩
  exact lc_read (r.gr g1) w hD fs hj hz fun H'' p => by
    obtain ⟨acc, h1, h2⟩ := p.acc
    exact k D acc H'' ((Nw.of hD).back g1.ext) ⟨g1.ext.trans p.ext, p.tabs⟩ h1 h2
end
end
end DL

namespace DL
open PySem PySem.Spec PyProof.Rows L2

/-- the state without its beginning -/
structure RpC (T : Tb) (O : Addr → Prop) (os : Nat → List Addr) (S : AS) (σ : St) (H : Hp) : Prop where
  len : σ.length = S.length
  apart : ∀ i j a, a ∈ os i → a ∈ os j → i = j
  own : ∀ i a, a ∈ os i → ¬ O a ∧ ∃ o, H a = some o ∧ Mu o
  allo : ∀ a, O a → ∃ o, H a = some o ∧ Mu o
  tabs : LamX.Tabs T H
  rep : ∀ (i : Nat) (s : SV), S[i]? = some s → ∃ v, σ[i]? = some v ∧ s.rep (fz (Ow O os) H) H (os i) v
  out : ∀ i, S.length ≤ i → os i = []
section
variable {T : Tb} {O O0 : Addr → Prop} {H0 Hb H H' : Hp} {os : Nat → List Addr} {S : AS} {σ : St}
theorem RpO.c (r : RpO T O0 H0 os S σ H) : RpC T O0 os S σ H := ⟨r.len, r.apart, fun i a h => ⟨(r.new i a h).1, (r.new i a h).2.2⟩, fun a h => r.allo (.inl h), r.tabs, r.rep, r.out⟩
theorem RpC.o (r : RpC T O0 os S σ H) (n : ∀ i a, a ∈ os i → ∀ o, H0 a = some o → ¬ NT o) (old : ∀ a, O0 a → ∃ o, H0 a = some o ∧ Mu o) (e : Xt H0 H) : RpO T O0 H0 os S σ H :=
  ⟨r.len, r.apart, fun i a h => ⟨(r.own i a h).1, n i a h, (r.own i a h).2⟩, old, e, r.tabs, r.rep, r.out⟩
/-- new things, out of sight -/
theorem RpO.hides (r : RpO T O0 H0 os S σ H) (g : Gr T H H') {ps : List Addr} (n : ∀ p ∈ ps, Nw H p) (m : ∀ p ∈ ps, ∃ u, H' p = some u ∧ Mu u) : RpC T (fun a => O0 a ∨ a ∈ ps) os S σ H' := by
  have nD : ∀ p ∈ ps, ¬ Ow O0 os p := fun p h => r.free (n p h)
  have r2 := r.gr g
  refine ⟨r2.len, r2.apart, fun i a h => ⟨?_, (r2.new i a h).2.2⟩, ?_, g.tabs, fun i s h => ?_, r2.out⟩
  · rintro (z | z)
    · exact (r2.new i a h).1 z
    · exact nD a z (.inr ⟨i, h⟩)
  · rintro a (z | z)
    · exact r2.allo (.inl z)
    · exact m a z
  · obtain ⟨v, h1, h2⟩ := r.rep i s h
    refine ⟨v, h1, s.mono (fun a u q k => ?_) (fun a ha => ?_) h2⟩
    · obtain ⟨q1, q2⟩ := fz_some q
      rw [fz_out]
      · exact g.ext a u q2 k
      · rintro ((z | z) | z)
        · exact q1 (.inl z)
        · exact n a z u q2 k
        · exact q1 (.inr z)
    · obtain ⟨_, _, o, h3, k⟩ := r.new i a ha
      rw [h3]; exact g.ext.at h3 k
/-- .. as a state of its own beginning -/
theorem RpC.based (r : RpC T O os S σ H) : RpO T O (fz (owned os) H) os S σ H := r.o (fun i a h o q => by rw [fz_in ⟨i, h⟩] at q; cases q)
  (fun a h => by
    obtain ⟨o, q, m⟩ := r.allo a h
    exact ⟨o, by rw [fz_out (fun ⟨i, z⟩ => (r.own i a z).1 h)]; exact q, m⟩) fz_sub
theorem RpC.give (r : RpC T O os S σ H) (i : Nat) (hi : i < S.length) {s : SV} {p : Addr} {v : Option V} (hp : O p) (hs : s.rep (fz (Ow O os) H) H [p] v) :
    RpC T (fun a => O a ∧ a ≠ p) (fun j => if j = i then [p] else os j) (S.set i s) (σ.set i v) H := by
  have np : ∀ j, p ∉ os j := fun j z => (r.own j p z).1 hp
  have ow : ∀ a, Ow (fun a => O a ∧ a ≠ p) (fun j => if j = i then [p] else os j) a → Ow O os a := fun a h => by
    rcases h with h | ⟨k, h⟩
    · exact .inl h.1
    · dsimp only at h
      split at h
      · rw [List.mem_singleton] at h; subst h; exact .inl hp
      · exact .inr ⟨k, h⟩
  refine ⟨by simpa using r.len, fun j k a h1 h2 => ?_, fun j a h => ?_, fun a h => r.allo a h.1, r.tabs, fun j s' h => ?_, fun j hj => ?_⟩
  · split at h1
    · rename_i q1
      rw [List.mem_singleton] at h1
      subst h1
      split at h2
      · rename_i q2; rw [q1, q2]
      · exact absurd h2 (np k)
    · split at h2
      · rw [List.mem_singleton] at h2
        subst h2
        exact absurd h1 (np j)
      · exact r.apart j k a h1 h2
  · split at h
    · rw [List.mem_singleton] at h
      subst h
      exact ⟨fun z => z.2 rfl, r.allo a hp⟩
    · obtain ⟨h1, h2⟩ := r.own j a h
      exact ⟨fun z => h1 z.1, h2⟩
  · by_cases hj : j = i
    · subst hj
      rw [List.getElem?_set_self hi] at h
      cases h
      refine ⟨_, List.getElem?_set_self (by rw [r.len]; exact hi), ?_⟩
      rw [if_pos rfl]
      exact s.mono (fz_mono ow) (fun _ _ => rfl) hs
    · rw [List.getElem?_set_ne (Ne.symm hj)] at h
      obtain ⟨v, h1, h2⟩ := r.rep j s' h
      refine ⟨v, (List.getElem?_set_ne (Ne.symm hj)).trans h1, ?_⟩
      rw [if_neg hj]
      exact s'.mono (fz_mono ow) (fun _ _ => rfl) h2
  · have hj' : S.length ≤ j := by simpa using hj
    rw [if_neg (by omega)]
    exact r.out j hj'
theorem RpC.lay (r : RpC T O os S σ H) (i : Nat) (hi : i < S.length) {s : SV} {v : Option V} (hs : s.rep (fz (Ow O os) H) H [] v) :
    RpC T O (fun j => if j = i then [] else os j) (S.set i s) (σ.set i v) H := by
  have ow : ∀ a, Ow O (fun j => if j = i then [] else os j) a → Ow O os a := fun a h => ow_drop h
  refine ⟨by simpa using r.len, fun j k a h1 h2 => ?_, fun j a h => ?_, r.allo, r.tabs, fun j s' h => ?_, fun j hj => ?_⟩
  · split at h1
    · cases h1
    · split at h2
      · cases h2
      · exact r.apart j k a h1 h2
  · split at h
    · cases h
    · exact r.own j a h
  · by_cases hj : j = i
    · subst hj
      rw [List.getElem?_set_self hi] at h
      cases h
      refine ⟨_, List.getElem?_set_self (by rw [r.len]; exact hi), ?_⟩
      rw [if_pos rfl]
      exact s.mono (fz_mono ow) (fun _ _ => rfl) hs
    · rw [List.getElem?_set_ne (Ne.symm hj)] at h
      obtain ⟨v, h1, h2⟩ := r.rep j s' h
      refine ⟨v, (List.getElem?_set_ne (Ne.symm hj)).trans h1, ?_⟩
      rw [if_neg hj]
      exact s'.mono (fz_mono ow) (fun _ _ => rfl) h2
  · have hj' : S.length ≤ j := by simpa using hj
    rw [if_neg (by omega)]
    exact r.out j hj'
/-- values of which some are new and owned -/
inductive VsR (F H : Hp) : List V → List (List Addr) → AS → Prop
  | nil : VsR F H [] [] []
  | dat {v : V} {s : SV} {vs oss ss} : s.rep F H [] (some v) → VsR F H vs oss ss → VsR F H (v :: vs) ([] :: oss) (s :: ss)
  | own {v : V} {p : Addr} {s : SV} {vs oss ss} : s.rep F H [p] (some v) → VsR F H vs oss ss → VsR F H (v :: vs) ([p] :: oss) (s :: ss)
theorem VsR.mono {F F' H H' : Hp} : ∀ {vs oss ss}, VsR F H vs oss ss → Xt F F' → (∀ a ∈ oss.flatten, H' a = H a) → VsR F' H' vs oss ss
  | _, _, _, .nil, _, _ => .nil
  | _, _, _, .dat h t, e, k => .dat (SV.mono _ e (fun _ z => by cases z) h) (t.mono e fun a ha => k a (by simpa using ha))
  | _, _, _, .own h t, e, k => .own (SV.mono _ e (fun a z => k a (by simp at z; simp [z])) h) (t.mono e fun a ha => k a (by simp at ha; simp [ha]))
def setL {α : Type} : List α → List Nat → List α → List α
  | l, i :: is, x :: xs => setL (l.set i x) is xs
  | l, _, _ => l
theorem give_all {F : Hp} {P : Addr → Prop} : ∀ {vs : List V} {oss : List (List Addr)} {ss : AS} {is : List Nat} {O : Addr → Prop} {os : Nat → List Addr} {S : AS} {σ : St}, VsR F H vs oss ss → is.length = ss.length → (∀ i ∈ is, i < S.length) → RpC T O os S σ H → (∀ a ∈ oss.flatten, O a) → oss.flatten.Nodup →
    Xt F (fz (Ow O os) H) → (∀ i a, a ∈ os i → P a) → (∀ a ∈ oss.flatten, P a) → ∃ os', RpC T (fun a => O a ∧ a ∉ oss.flatten) os' (setL S is ss) (setL σ is (vs.map some)) H ∧ ∀ i a, a ∈ os' i → P a
  | _, _, _, is, O, os, S, σ, .nil, hl, _, r, _, _, _, hp, _ => by
    cases is with
    | nil =>
      refine ⟨os, ?_, hp⟩
      have e : (fun a => O a ∧ a ∉ ([] : List (List Addr)).flatten) = O := funext fun a => by simp
      rw [e]; exact r
    | cons _ _ => simp at hl
  | _, _, _, is, O, os, S, σ, .dat (v := v) (s := s) h t, hl, hi, r, ho, hn, hF, hp, hp2 => by
    cases is with
    | nil => simp at hl
    | cons i is =>
      have r2 := r.lay i (hi i List.mem_cons_self) (s := s) (v := some v) (s.mono hF (fun _ z => by cases z) h)
      obtain ⟨os', h1, h2⟩ := give_all t (is := is) (by simpa using hl) (fun j hj => by simpa using hi j (List.mem_cons_of_mem _ hj)) r2 (by simpa using ho) (by simpa using hn) (hF.trans (fz_mono fun a => ow_drop)) (fun j a ha => by
        split at ha
        · cases ha
        · exact hp j a ha) (by simpa using hp2)
      exact ⟨os', by simpa [setL] using h1, h2⟩
  | _, _, _, is, O, os, S, σ, .own (v := v) (p := p) (s := s) (oss := oss) h t, hl, hi, r, ho, hn, hF, hp, hp2 => by
    cases is with
    | nil => simp at hl
    | cons i is =>
      have hO : O p := ho p (by simp)
      have r2 := r.give i (hi i List.mem_cons_self) (s := s) (v := some v) hO (s.mono hF (fun _ _ => rfl) h)
      have hn2 : p ∉ oss.flatten ∧ oss.flatten.Nodup := by simpa using hn
      obtain ⟨os', h1, h2⟩ := give_all t (is := is) (by simpa using hl) (fun j hj => by simpa using hi j (List.mem_cons_of_mem _ hj)) r2 (fun a ha => ⟨ho a (by simp at ha; simp [ha]), fun e => hn2.1 (e ▸ ha)⟩) hn2.2 (hF.trans (fz_mono fun a h => by
          rcases h with h | ⟨k, h⟩
          · exact .inl h.1
          · dsimp only at h
            split at h
            · rw [List.mem_singleton] at h; subst h; exact .inl hO
            · exact .inr ⟨k, h⟩)) (fun j a ha => by
        split at ha
        · rw [List.mem_singleton] at ha; subst ha; exact hp2 _ (by simp)
        · exact hp j a ha) (fun a ha => hp2 a (by simp at ha; simp [ha]))
      refine ⟨os', ?_, h2⟩
      have e : (fun a => (O a ∧ a ≠ p) ∧ a ∉ oss.flatten) = fun a => O a ∧ a ∉ ([p] :: oss).flatten := funext fun a => by simp [and_assoc]
      rw [e] at h1
      simpa [setL] using h1
/-- .. new since H -/
structure NewVs (O : Addr → Prop) (H H' : Hp) (vs : List V) (oss : List (List Addr)) (ss : AS) : Prop where
  rep : VsR (fz (fun a => O a ∨ a ∈ oss.flatten) H') H' vs oss ss
  nodup : oss.flatten.Nodup
  new : ∀ p ∈ oss.flatten, Nw H p
  mu : ∀ p ∈ oss.flatten, ∃ u, H' p = some u ∧ Mu u
theorem fz_or2 {D : Addr → Prop} : fz (Ow (fun a => O0 a ∨ D a) os) H = fz (fun a => Ow O0 os a ∨ D a) H := by
  have e : Ow (fun a => O0 a ∨ D a) os = fun a => Ow O0 os a ∨ D a := funext fun a => propext ⟨fun z => by
    rcases z with (z | z) | z
    · exact .inl (.inl z)
    · exact .inr z
    · exact .inl (.inr z), fun z => by
    rcases z with (z | z) | z
    · exact .inl (.inl z)
    · exact .inr z
    · exact .inl (.inr z)⟩
  rw [e]
theorem RpO.set_vs (r : RpO T O0 H0 os S σ H) (g : Gr T H H') {vs : List V} {oss : List (List Addr)} {ss : AS} (nv : NewVs (Ow O0 os) H H' vs oss ss) {is : List Nat} (hl : is.length = ss.length) (hi : ∀ i ∈ is, i < S.length) :
    Rp T O0 H0 (setL S is ss) (setL σ is (vs.map some)) H' := by
  have rc := r.hides g nv.new nv.mu
  obtain ⟨os', h1, h2⟩ := give_all (P := fun a => ∀ o, H0 a = some o → ¬ NT o) nv.rep hl hi rc (fun a h => .inr h) nv.nodup (by rw [fz_or2]; exact Xt.refl) (fun i a h => (r.new i a h).2.1) (fun a h o q n => nv.new a h o (r.ext a o q n) n)
  have e : (fun a => (O0 a ∨ a ∈ oss.flatten) ∧ a ∉ oss.flatten) = O0 := funext fun a => propext ⟨fun z => z.1.elim id fun h => absurd h z.2, fun z => ⟨.inl z, fun h => r.free (nv.new a h) (.inl z)⟩⟩
  rw [e] at h1
  exact ⟨os', h1.o h2 r.old (r.ext.trans g.ext)⟩
end
/-! ### a new value of one's own -/
def tV (T : Tb) (S : AS) (s : SV) : TE := fun σ H Q => ∃ O0 H0 os, RpO T O0 H0 os S σ H ∧ ∀ v o H', Gr T H H' → NewVs (Ow O0 os) H H' [v] [o] [s] → Q v H'
abbrev DV (X : Cx) (T : Tb) (e : Expr) (S : AS) (s : SV) : Prop := PE X e (tV T S s)
def tVs (T : Tb) (S : AS) (ss : AS) : TA := fun σ H Q => ∃ O0 H0 os, RpO T O0 H0 os S σ H ∧ ∀ vs oss H', Gr T H H' → NewVs (Ow O0 os) H H' vs oss ss → Q vs H'
abbrev DVA (X : Cx) (T : Tb) (es : List Expr) (S : AS) (ss : AS) : Prop := PA X es (tVs T S ss)
section
variable {X : Cx} {T : Tb} {S S' : AS} {d da db : PD} {ds es : List PD} {e a b c : Expr} {pos : Pos} {s s1 s2 s3 : SV} {ss : AS}
theorem dv_e (h : DE X T e S d) : DV X T e S (dat d) := pe_of h fun σ H Q ⟨O0, H0, os, r, k⟩ => ⟨O0, H0, os, r, fun v H' g q => k v [] H' g ⟨.dat ⟨rfl, v, rfl, q.mv (fz_mono fun a z => z.elim id fun z => by simp at z)⟩ .nil, by simp, by simp, by simp⟩⟩
theorem dv_n (h : DN X T e S ds) : DV X T e S (own ds) := pe_of h fun σ H Q ⟨O0, H0, os, r, k⟩ => ⟨O0, H0, os, r, fun p xs H' n g q hd => k (.ref p) [p] H' g ⟨.own ⟨p, xs, rfl, rfl, q, hd.mv (fz_mono fun a z => z.elim .inl fun z => .inr (by simpa using z))⟩ .nil, by simp, by simpa using n, by simpa using ⟨_, q, Mu.lst⟩⟩⟩
theorem dva_nil : DVA X T [] S [] := pa_of pa_nil fun σ H Q ⟨O0, H0, os, r, k⟩ => k [] [] H r.ec.refl ⟨.nil, by simp, by simp, by simp⟩
theorem dva_cons {l : List Expr} (ha : DV X T a S s) (hb : DVA X T l S ss) (hs : starEach (a :: l) X.env = (false, eval a X.env) :: starEach l X.env := by rfl) : DVA X T (a :: l) S (s :: ss) :=
  pa_of (pa_cons ha hb hs) fun σ H Q ⟨O0, H0, os, r, k⟩ => ⟨O0, H0, os, r, fun v o H1 g1 n1 => by
    have rc := r.hides g1 n1.new n1.mu
    refine ⟨_, _, _, rc.based, fun vs oss H2 g2 n2 => k (v :: vs) (o :: oss) H2 (g1.trans g2) ?_⟩
    have e1 : [o].flatten = o := by simp
    rw [e1] at n2
    have hm : ∀ p ∈ o, ∃ u, H1 p = some u ∧ Mu u := fun p hp => n1.mu p (by simpa using hp)
    have ap : ∀ p ∈ o, p ∉ oss.flatten := fun p hp hq => by
      obtain ⟨u, q1, q2⟩ := hm p hp
      exact n2.new p hq u q1 q2.1
    have xa : Xt (fz (fun a => Ow O0 os a ∨ a ∈ [o].flatten) H1) (fz (fun a => Ow O0 os a ∨ a ∈ (o :: oss).flatten) H2) := fun b u q m => by
      obtain ⟨q1, q2⟩ := fz_some q
      rw [fz_out]
      · exact g2.ext b u q2 m
      · rintro (z | z)
        · exact q1 (.inl z)
        · rw [List.flatten_cons, List.mem_append] at z
          rcases z with z | z
          · exact q1 (.inr (by simpa using z))
          · exact n2.new b z u q2 m
    have same : ∀ b ∈ o, H2 b = H1 b := fun b hb => by
      obtain ⟨u, q1, q2⟩ := hm b hb
      rw [q1]; exact g2.ext.at q1 q2
    have xb : Xt (fz (fun a => Ow (fun a => O0 a ∨ a ∈ o) os a ∨ a ∈ oss.flatten) H2) (fz (fun a => Ow O0 os a ∨ a ∈ (o :: oss).flatten) H2) := fz_mono fun b z => by
      rcases z with z | z
      · rcases z with z | z
        · exact .inl (.inl (.inl z))
        · exact .inl (.inr z)
      · rw [List.flatten_cons, List.mem_append] at z
        rcases z with z | z
        · exact .inl (.inl (.inr z))
        · exact .inr z
    have tl := n2.rep.mono xb (fun _ _ => rfl)
    refine ⟨?_, ?_, fun p hp => ?_, fun p hp => ?_⟩
    · cases n1.rep with
      | dat h _ => exact .dat (SV.mono _ xa (fun _ z => by cases z) h) tl
      | own h _ => exact .own (SV.mono _ xa same h) tl
    · rw [List.flatten_cons, List.nodup_append]
      exact ⟨by simpa using n1.nodup, n2.nodup, fun x hx y hy e => ap x hx (e ▸ hy)⟩
    · rw [List.flatten_cons, List.mem_append] at hp
      rcases hp with hp | hp
      · exact n1.new p (by simpa using hp)
      · exact (n2.new p hp).back g1.ext
    · rw [List.flatten_cons, List.mem_append] at hp
      rcases hp with hp | hp
      · obtain ⟨u, q1, q2⟩ := hm p hp
        exact ⟨u, g2.ext.at q1 q2, q2⟩
      · exact n2.mu p hp⟩
theorem vsR_len {F H : Hp} : ∀ {vs oss ss}, VsR F H vs oss ss → vs.length = ss.length
  | _, _, _, .nil => rfl
  | _, _, _, .dat _ t => by simp [vsR_len t]
  | _, _, _, .own _ t => by simp [vsR_len t]
end
end DL

namespace DL
open PySem PySem.Spec PyProof.Rows L2

/-- where a statement leads, told by states -/
structure En where
  nx : AS → Prop
  rt : PD → Prop
  bk : AS → Prop := fun _ => False
  ct : AS → Prop := fun _ => False
  ex : Value → Prop := fun _ => False
  rv : SV → Prop := fun _ => False
structure Leads (T : Tb) (EX : XK) (O0 : Addr → Prop) (H0 : Hp) (E : En) (D : Ends) : Prop where
  nx : ∀ S σ H, E.nx S → Rp T O0 H0 S σ H → D.nx σ H
  rt : ∀ d v H, E.rt d → Gr T H0 H → Dq (fz O0 H) v d → D.rt v H
  bk : ∀ S σ H, E.bk S → Rp T O0 H0 S σ H → D.bk σ H
  ct : ∀ S σ H, E.ct S → Rp T O0 H0 S σ H → D.ct σ H
  ex : ∀ c H, E.ex c → Gr T H0 H → EX c none H
  rv : ∀ s v o H, E.rv s → Gr T H0 H → NewVs O0 H0 H [v] [o] [s] → D.rt v H
def tS (T : Tb) (EX : XK) (S : AS) (E : En) : TS := fun D σ H => ∃ O0 H0 os, RpO T O0 H0 os S σ H ∧ Leads T EX O0 H0 E D
abbrev DS (X : Cx) (T : Tb) (EX : XK) (st : Stmt) (S : AS) (E : En) : Prop := PS X st (tS T EX S E)
abbrev DSs (X : Cx) (T : Tb) (EX : XK) (l : List Stmt) (S : AS) (E : En) : Prop := PSs X l (tS T EX S E)
section
variable {X : Cx} {T : Tb} {EX : XK} {S S' S1 : AS} {E : En} {d da db dr : PD} {ds es : List PD} {e a b tg c : Expr} {pos : Pos} {st : Stmt} {rest body orelse : List Stmt}
theorem ps_of {t u : TS} (h : PS X st t) (k : ∀ D σ H, u D σ H → t D σ H) : PS X st u := ⟨fun pins s σ H D I q => h.run pins s σ H D I (k D σ H q)⟩
theorem pss_of {t u : TS} (h : PSs X rest t) (k : ∀ D σ H, u D σ H → t D σ H) : PSs X rest u := ⟨fun pins s σ H D I q => h.run pins s σ H D I (k D σ H q)⟩
theorem pss_any {α : Type} {P : α → Prop} {t : α → TS} (h : ∀ x, P x → PSs X rest (t x)) : PSs X rest (fun D σ H => ∃ x, P x ∧ t x D σ H) := ⟨fun pins s σ H D I ⟨x, p, q⟩ => (h x p).run pins s σ H D I q⟩
theorem Leads.of_nx {O0 : Addr → Prop} {H0 : Hp} {D : Ends} {M : AS → Prop} {n : L2.St → Hp → Prop} (l : Leads T EX O0 H0 E D) (h : ∀ S σ H, M S → Rp T O0 H0 S σ H → n σ H) : Leads T EX O0 H0 { E with nx := M } { D with nx := n } := ⟨h, l.rt, l.bk, l.ct, l.ex, l.rv⟩
theorem Leads.base {O0 : Addr → Prop} {H0 H1 : Hp} {D : Ends} (l : Leads T EX O0 H0 E D) (e : Xt H0 H1) (old : ∀ a, O0 a → ∃ o, H0 a = some o ∧ Mu o) : Leads T EX O0 H1 E D :=
  ⟨fun S σ H h ⟨os, r⟩ => l.nx S σ H h ⟨os, r.unbase e old⟩, fun d v H h g q => l.rt d v H h ⟨e.trans g.ext, g.tabs⟩ q, fun S σ H h ⟨os, r⟩ => l.bk S σ H h ⟨os, r.unbase e old⟩, fun S σ H h ⟨os, r⟩ => l.ct S σ H h ⟨os, r.unbase e old⟩, fun c H h g => l.ex c H h ⟨e.trans g.ext, g.tabs⟩, fun s v o H h g n => l.rv s v o H h ⟨e.trans g.ext, g.tabs⟩ ⟨n.rep, n.nodup, fun p hp => (n.new p hp).back e, n.mu⟩⟩
theorem RpO.gr0 {O0 : Addr → Prop} {H0 H : Hp} {os : Nat → List Addr} {σ : L2.St} (r : RpO T O0 H0 os S σ H) : Gr T H0 H := ⟨r.ext, r.tabs⟩
/-! blocks -/
theorem dss_nil (k : E.nx S) : DSs X T EX [] S E := pss_of pss_nil fun D σ H ⟨O0, H0, os, r, l⟩ => l.nx S σ H k ⟨os, r⟩
theorem dss_cons (M : AS → Prop) (h1 : DS X T EX st S { E with nx := M }) (h2 : ∀ S', M S' → DSs X T EX rest S' E) : DSs X T EX (st :: rest) S E :=
  pss_of (pss_cons h1 (pss_any h2)) fun D σ H ⟨O0, H0, os, r, l⟩ => ⟨O0, H0, os, r, l.of_nx fun S' σ' H' m ⟨os', r'⟩ => ⟨S', m, O0, H0, os', r', l⟩⟩
theorem dss_then (h1 : DS X T EX st S { E with nx := fun S' => S' = S1 }) (h2 : DSs X T EX rest S1 E) : DSs X T EX (st :: rest) S E := dss_cons _ h1 fun S' e => e ▸ h2
theorem dss_one (h : DS X T EX st S E) : DSs X T EX [st] S E := pss_one h
theorem dss_le (l : Le S S') (h : DSs X T EX rest S' E) : DSs X T EX rest S E := pss_of h fun D σ H ⟨O0, H0, os, r, k⟩ => by
  obtain ⟨os', r'⟩ := l T O0 H0 σ H ⟨os, r⟩
  exact ⟨O0, H0, os', r', k⟩
theorem ds_le (l : Le S S') (h : DS X T EX st S' E) : DS X T EX st S E := ps_of h fun D σ H ⟨O0, H0, os, r, k⟩ => by
  obtain ⟨os', r'⟩ := l T O0 H0 σ H ⟨os, r⟩
  exact ⟨O0, H0, os', r', k⟩
theorem En.mono {E E' : En} {O0 : Addr → Prop} {H0 : Hp} {D : Ends} (l : Leads T EX O0 H0 E' D) (h1 : ∀ S, E.nx S → E'.nx S) (h2 : ∀ d, E.rt d → E'.rt d) (h3 : ∀ S, E.bk S → E'.bk S) (h4 : ∀ S, E.ct S → E'.ct S) (h5 : ∀ c, E.ex c → E'.ex c) (h6 : ∀ s, E.rv s → E'.rv s := by exact fun _ z => z) : Leads T EX O0 H0 E D :=
  ⟨fun S σ H q => l.nx S σ H (h1 S q), fun d v H q => l.rt d v H (h2 d q), fun S σ H q => l.bk S σ H (h3 S q), fun S σ H q => l.ct S σ H (h4 S q), fun c H q => l.ex c H (h5 c q), fun s v o H q => l.rv s v o H (h6 s q)⟩
/-! simple statements -/
theorem ds_asg {x : Str} {p : Pos} (i : Nat) (he : DE X T e S d) (k : E.nx (S.set i (dat d))) (nd : X.N.Nodup) (hN : X.N[i]? = some x := by rfl) (hx : Loc X.env.scope x := by first | exact Or.inl rfl | exact Or.inr rfl)
    (hs : swapsWith e (some (.Name x p)) pos.line X.env = pure false := by rfl) (hf : X.fn x = true ∨ X.env.scope.names.lookup x = some .local := by first | exact .inl rfl | exact .inr rfl) : DS X T EX (.Assign [.Name x p] e pos) S E :=
  ps_of (ps_set (i := i) nd hN hx he hs hf) fun D σ H ⟨O0, H0, os, r, l⟩ => ⟨O0, H0, os, r, fun v H' g h => l.nx _ _ _ k ((r.gr g).set_dat i h)⟩
theorem ds_asgN {x : Str} {p : Pos} (i : Nat) (he : DN X T e S ds) (k : E.nx (S.set i (own ds))) (hi : i < S.length) (nd : X.N.Nodup) (hN : X.N[i]? = some x := by rfl) (hx : Loc X.env.scope x := by first | exact Or.inl rfl | exact Or.inr rfl)
    (hs : swapsWith e (some (.Name x p)) pos.line X.env = pure false := by rfl) (hf : X.fn x = true ∨ X.env.scope.names.lookup x = some .local := by first | exact .inl rfl | exact .inr rfl) : DS X T EX (.Assign [.Name x p] e pos) S E :=
  ps_of (ps_set (i := i) nd hN hx he hs hf) fun D σ H ⟨O0, H0, os, r, l⟩ => ⟨O0, H0, os, r, fun p xs H' n g hl hd => l.nx _ _ _ k (r.set_new i hi n g.ext g.tabs hl Mu.lst ⟨p, xs, rfl, rfl, hl, hd⟩)⟩
theorem ds_expr (he : DE X T e S d) (k : E.nx S) (hs : swapsWith e none pos.line X.env = pure false := by rfl) : DS X T EX (.Expr e pos) S E :=
  ps_of (ps_expr he hs) fun D σ H ⟨O0, H0, os, r, l⟩ => ⟨O0, H0, os, r, fun v H' g h => l.nx S σ H' k ⟨os, r.gr g⟩⟩
theorem ds_ret (he : DE X T e S d) (k : E.rt d) : DS X T EX (.Return (some e) pos) S E :=
  ps_of (ps_ret he) fun D σ H ⟨O0, H0, os, r, l⟩ => ⟨O0, H0, os, r, fun v H' g h => l.rt d v H' k (r.gr g).gr0 (h.mv (fz_mono fun a => ow0))⟩
theorem ds_retN (k : E.rt .none) : DS X T EX (.Return none pos) S E := ps_of ps_retN fun D σ H ⟨O0, H0, os, r, l⟩ => l.rt .none .non H k r.gr0 .non
theorem ds_pass (k : E.nx S) : DS X T EX (.Pass pos) S E := ps_of ps_pass fun D σ H ⟨O0, H0, os, r, l⟩ => l.nx S σ H k ⟨os, r⟩
theorem ds_break (k : E.bk S) : DS X T EX (.Break pos) S E := ps_of ps_break fun D σ H ⟨O0, H0, os, r, l⟩ => l.bk S σ H k ⟨os, r⟩
theorem ds_cont (k : E.ct S) : DS X T EX (.Continue pos) S E := ps_of ps_continue fun D σ H ⟨O0, H0, os, r, l⟩ => l.ct S σ H k ⟨os, r⟩
theorem ds_if {k : Bool} (hc : DT X T c S k) (ha : k = true → DSs X T EX body S E) (hb : k = false → DSs X T EX orelse S E) : DS X T EX (.If c body orelse pos) S E := by
  refine ⟨fun pins s σ H D I ⟨O0, H0, os, r, l⟩ => ?_⟩
  refine wpAny_If (thn (hc.run pins s σ H (fun c H1 => c = k ∧ Gr T H H1) I ⟨O0, H0, os, r, fun H' g => ⟨rfl, g⟩⟩) fun c s1 ⟨H1, I1, e, g⟩ => ?_)
  subst e
  cases c with
  | true => exact (ha rfl).run pins s1 σ H1 D I1 ⟨O0, H0, os, r.gr g, l⟩
  | false => exact (hb rfl).run pins s1 σ H1 D I1 ⟨O0, H0, os, r.gr g, l⟩
/-- targets = data -/
theorem ds_asgG {js : List Nat} (he : DE X T e S d) (hg : DG X T tg js S d S') (k : E.nx S') (hs : swapsWithSole [tg] e pos.line X.env = pure false := by rfl) (hw : swappedStores [tg] e X.env = pure none := by rfl)
    (h1 : (assignEach [tg] X.env).map (·.2) = [assign tg X.env] := by rfl) : DS X T EX (.Assign [tg] e pos) S E :=
  ps_of (ps_asg he hg hs hw h1) fun D σ H ⟨O0, H0, os, r, l⟩ => ⟨O0, H0, os, r, fun v H' g h => ⟨O0, H0, os, r.gr g, h, fun σ' _ _ r' => l.nx S' σ' H' k ⟨os, r'⟩⟩⟩
/-- a, b = x, y of plain local names -/
theorem ds_par {x y : Str} {px py pt pt2 : Pos} {kt k2 : Nat} (i j : Nat) (ha : DA X T [a, b] S [da, db]) (k : E.nx ((S.set i (dat da)).set j (dat db))) (hc : X.calm = true) (nd : X.N.Nodup) (hij : i ≠ j) (hi : X.N[i]? = some x := by rfl) (hj : X.N[j]? = some y := by rfl)
    (hx : X.env.scope.names.lookup x = some .local := by rfl) (hy : X.env.scope.names.lookup y = some .local := by rfl)
    (hw : swappedStores [.Tuple [.Name x px, .Name y py] kt pt] (.Tuple [a, b] k2 pt2) X.env = pure (some [x, y]) := by rfl)
    (hs : swapsWithSole [.Tuple [.Name x px, .Name y py] kt pt] (.Tuple [a, b] k2 pt2) pos.line X.env = pure false := by rfl) : DS X T EX (.Assign [.Tuple [.Name x px, .Name y py] kt pt] (.Tuple [a, b] k2 pt2) pos) S E :=
  ps_of (ps_par hc nd hi hj hij hx hy ha hw hs) fun D σ H ⟨O0, H0, os, r, l⟩ => ⟨O0, H0, os, r, fun vs H' g h => by
    cases h with
    | cons h1 h2 =>
      cases h2 with
      | cons h2 h3 =>
        cases h3
        refine ⟨_, _, rfl, l.nx _ _ _ k ?_⟩
        obtain ⟨os1, r1⟩ := (r.gr g).set_dat i h1
        have z := RpO.drop (r.gr g) i (dat da) (σ' := σ.set i _) (by simp) (fun j hj => List.getElem?_set_ne (Ne.symm hj)) fun hlt => ⟨some _, List.getElem?_set_self (by rw [r.len]; exact hlt), rfl, _, rfl, h1.mv (fz_mono fun a => ow_drop)⟩
        exact z.set_dat j (h2.mv (fz_mono fun a => ow_drop))⟩
/-! ### loops -/
section
variable {α : Type} {xs : List α} {emb : α → PD} {js : List Nat} {iter : Expr} {S2 : Nat → α → AS → AS}
theorem ds_for (Inv : Nat → AS → Prop) (hi : DI X T tg iter S (xs.map emb)) (h0 : Inv 0 S)
    (hg : ∀ i z S', xs[i]? = some z → Inv i S' → DG X T tg js S' (emb z) (S2 i z S') ∧ DSs X T EX body (S2 i z S') { E with nx := Inv (i + 1), ct := Inv (i + 1), bk := E.nx }) (hd : ∀ S', Inv xs.length S' → E.nx S')
    (hp : PassesOwn (model X.prog X.w) X.A X.env X.xe) (hc : X.calm = true) (hs : ∀ x, foldedSetIterable iter X.env x = pure x := by intro _; rfl) : DS X T EX (.For tg iter body [] pos) S E := by
  refine ps_of (ps_for hp hc hi (pg_any (P := fun p : Nat × α × AS => xs[p.1]? = some p.2.1 ∧ Inv p.1 p.2.2) fun p hh => (hg p.1 p.2.1 p.2.2 hh.1 hh.2).1) (pss_any (P := fun p : Nat × α × AS => xs[p.1]? = some p.2.1 ∧ Inv p.1 p.2.2) fun p hh => (hg p.1 p.2.1 p.2.2 hh.1 hh.2).2) hs) fun D σ H ⟨O0, H0, os, r, l⟩ => ⟨O0, H0, os, r, fun J H1 g1 w => ?_⟩
  obtain ⟨G, Y, wk, wg, wy⟩ := w
  have r1 := r.gr g1
  have rb := r1.rebase
  have e0 := r1.rebased
  have lb := l.base e0 r.old
  have hl : (xs.map emb).length = xs.length := List.length_map _
  refine for_it (g := fun v σ H Q => ∃ p : Nat × α × AS, (xs[p.1]? = some p.2.1 ∧ Inv p.1 p.2.2) ∧ tG T js p.2.2 (emb p.2.1) (S2 p.1 p.2.1 p.2.2) v σ H Q) (tb := fun D σ H => ∃ p : Nat × α × AS, (xs[p.1]? = some p.2.1 ∧ Inv p.1 p.2.2) ∧ tS T EX (S2 p.1 p.2.1 p.2.2) { E with nx := Inv (p.1 + 1), ct := Inv (p.1 + 1), bk := E.nx } D σ H) (D := D) wk (fun i σ H => ∃ S', Inv i S' ∧ Rp T O0 (fz (owned os) H1) S' σ H) ⟨S, h0, os, rb⟩ (fun i σ' H' _ ⟨S', _, os', r'⟩ => wg H' r'.ext) (fun i x σ' H2 H3 hi ⟨S', iv, os', r'⟩ y => ?_) (fun σ' H' ⟨S', iv, rr⟩ => ?_)
  · obtain ⟨g3, it⟩ := wy i H2 x H3 hi r'.ext r'.tabs y
    rw [hl] at hi
    obtain ⟨z, hz⟩ : ∃ z, xs[i]? = some z := ⟨xs[i], by simp [hi]⟩
    obtain ⟨d, hd1, hd2⟩ := it _ r'.ec (by
      refine Xt.trans (fun a o q m => ?_) r'.base
      obtain ⟨q1, q2⟩ := fz_some q
      rw [fz_out (fun z => q1 (.inl z)), fz_out (fun z => q1 (.inr z))]
      exact q2)
    have hd3 : d = emb z := by
      rw [List.getElem?_map, hz] at hd1
      exact (Option.some.inj hd1).symm
    subst hd3
    refine ⟨(i, z, S'), ⟨hz, iv⟩, O0, _, os', r'.gr g3, hd2, fun σ2 _ _ r2 => ⟨(i, z, S'), ⟨hz, iv⟩, O0, _, os', r2, ?_⟩⟩
    exact ⟨fun S'' σ'' H'' m rr => ⟨S'', m, rr⟩, lb.rt, fun S'' σ'' H'' m rr => lb.nx S'' σ'' H'' m rr, fun S'' σ'' H'' m rr => ⟨S'', m, rr⟩, lb.ex, lb.rv⟩
  · rw [hl] at iv
    exact lb.nx S' σ' H' (hd S' iv) rr
end
/-- if c: (it leaves); the rest -/
theorem dss_guard {k : Bool} (hc : DT X T c S k) (ha : k = true → DSs X T EX body S { E with nx := fun _ => False }) (hb : k = false → DSs X T EX rest S E) : DSs X T EX (.If c body [] pos :: rest) S E := by
  refine dss_cons (fun S' => S' = S ∧ k = false) (ds_if hc (fun h => ?_) (fun h => dss_nil ⟨rfl, h⟩)) fun S' ⟨e, h⟩ => by subst e; exact hb h
  exact pss_of (ha h) fun D σ H ⟨O0, H0, os, r, l⟩ => ⟨O0, H0, os, r, En.mono l (fun _ z => z.elim) (fun _ z => z) (fun _ z => z) (fun _ z => z) (fun _ z => z)⟩
/-- a loop told by states -/
theorem ds_forS {α : Type} {xs : List α} {emb : α → PD} {js : List Nat} {iter : Expr} {S2 : Nat → α → AS} (Sf : Nat → AS) (C : Nat → Prop) (hi : DI X T tg iter S (xs.map emb)) (h0 : Le S (Sf 0)) (c0 : C 0)
    (hg : ∀ i z, xs[i]? = some z → C i → DG X T tg js (Sf i) (emb z) (S2 i z) ∧ DSs X T EX body (S2 i z) { E with nx := fun S' => Le S' (Sf (i + 1)) ∧ C (i + 1), ct := fun S' => Le S' (Sf (i + 1)) ∧ C (i + 1), bk := E.nx }) (hd : C xs.length → E.nx (Sf xs.length))
    (hp : PassesOwn (model X.prog X.w) X.A X.env X.xe) (hc : X.calm = true) (hs : ∀ x, foldedSetIterable iter X.env x = pure x := by intro _; rfl) : DS X T EX (.For tg iter body [] pos) S E := by
  refine ps_of (ps_for hp hc hi (pg_any (P := fun p : Nat × α => xs[p.1]? = some p.2 ∧ C p.1) fun p hh => (hg p.1 p.2 hh.1 hh.2).1) (pss_any (P := fun p : Nat × α => xs[p.1]? = some p.2 ∧ C p.1) fun p hh => (hg p.1 p.2 hh.1 hh.2).2) hs) fun D σ H ⟨O0, H0, os, r, l⟩ => ⟨O0, H0, os, r, fun J H1 g1 w => ?_⟩
  obtain ⟨G, Y, wk, wg, wy⟩ := w
  have r1 := r.gr g1
  have rb := r1.rebase
  have e0 := r1.rebased
  have lb := l.base e0 r.old
  have hl : (xs.map emb).length = xs.length := List.length_map _
  refine for_it (g := fun v σ H Q => ∃ p : Nat × α, (xs[p.1]? = some p.2 ∧ C p.1) ∧ tG T js (Sf p.1) (emb p.2) (S2 p.1 p.2) v σ H Q) (tb := fun D σ H => ∃ p : Nat × α, (xs[p.1]? = some p.2 ∧ C p.1) ∧ tS T EX (S2 p.1 p.2) { E with nx := fun S' => Le S' (Sf (p.1 + 1)) ∧ C (p.1 + 1), ct := fun S' => Le S' (Sf (p.1 + 1)) ∧ C (p.1 + 1), bk := E.nx } D σ H) (D := D) wk
    (fun i σ H => C i ∧ Rp T O0 (fz (owned os) H1) (Sf i) σ H) ⟨c0, h0 T O0 _ σ H1 ⟨os, rb⟩⟩ (fun i σ' H' _ ⟨_, os', r'⟩ => wg H' r'.ext) (fun i x σ' H2 H3 hi ⟨iv, os', r'⟩ y => ?_) (fun σ' H' ⟨iv, rr⟩ => ?_)
  · obtain ⟨g3, it⟩ := wy i H2 x H3 hi r'.ext r'.tabs y
    rw [hl] at hi
    obtain ⟨z, hz⟩ : ∃ z, xs[i]? = some z := ⟨xs[i], by simp [hi]⟩
    obtain ⟨d, hd1, hd2⟩ := it _ r'.ec (by
      refine Xt.trans (fun a o q m => ?_) r'.base
      obtain ⟨q1, q2⟩ := fz_some q
      rw [fz_out (fun z => q1 (.inl z)), fz_out (fun z => q1 (.inr z))]
      exact q2)
    have hd3 : d = emb z := by
      rw [List.getElem?_map, hz] at hd1
      exact (Option.some.inj hd1).symm
    subst hd3
    refine ⟨(i, z), ⟨hz, iv⟩, O0, _, os', r'.gr g3, hd2, fun σ2 _ _ r2 => ⟨(i, z), ⟨hz, iv⟩, O0, _, os', r2, ?_⟩⟩
    exact ⟨fun S'' σ'' H'' ⟨m, c⟩ rr => ⟨c, m _ _ _ _ _ rr⟩, lb.rt, fun S'' σ'' H'' m rr => lb.nx S'' σ'' H'' m rr, fun S'' σ'' H'' ⟨m, c⟩ rr => ⟨c, m _ _ _ _ _ rr⟩, lb.ex, lb.rv⟩
  · rw [hl] at iv rr
    exact lb.nx _ σ' H' (hd iv) rr
theorem ds_while (Inv : Nat → AS → Prop) (m0 : Nat) (h0 : Inv m0 S) (tb : Nat → AS → Bool)
    (hg : ∀ m S', Inv m S' → DT X T c S' (tb m S') ∧ (tb m S' = true → DSs X T EX body S' { E with nx := fun S'' => ∃ m', m' < m ∧ Inv m' S'', ct := fun S'' => ∃ m', m' < m ∧ Inv m' S'', bk := E.nx }) ∧ (tb m S' = false → E.nx S'))
    (hp : PassesOwn (model X.prog X.w) X.A X.env X.xe) : DS X T EX (.While c body [] pos) S E := by
  have hT : PT X c (fun σ H Q => ∃ p : Nat × AS, Inv p.1 p.2 ∧ tQ T p.2 (tb p.1 p.2) σ H Q) := ⟨fun pins s σ H Q I ⟨p, iv, q⟩ => (hg p.1 p.2 iv).1.run pins s σ H Q I q⟩
  refine ps_of (ps_while hp hT (pss_any (P := fun p : Nat × AS => Inv p.1 p.2 ∧ tb p.1 p.2 = true) fun p hh => (hg p.1 p.2 hh.1).2.1 hh.2)) fun D σ H ⟨O0, H0, os, r, l⟩ => ?_
  refine ⟨fun m σ H => ∃ S', Inv m S' ∧ Rp T O0 H0 S' σ H, ⟨m0, S, h0, os, r⟩, fun m σ' H' ⟨S', iv, os', r'⟩ => ⟨(m, S'), iv, O0, H0, os', r', fun H2 g => ?_⟩⟩
  cases q : tb m S' with
  | true =>
    rw [if_pos rfl]
    exact ⟨fun σ'' H'' => ∃ m', m' < m ∧ ∃ S'', Inv m' S'' ∧ Rp T O0 H0 S'' σ'' H'', fun _ _ z => z, (m, S'), ⟨iv, q⟩, O0, H0, os', r'.gr g,
      ⟨fun S'' σ'' H'' ⟨m', h1, h2⟩ rr => ⟨m', h1, S'', h2, rr⟩, l.rt, l.nx, fun S'' σ'' H'' ⟨m', h1, h2⟩ rr => ⟨m', h1, S'', h2, rr⟩, l.ex, l.rv⟩⟩
  | false =>
    rw [if_neg Bool.false_ne_true]
    exact l.nx S' σ' H2 ((hg m S' iv).2.2 q) ⟨os', r'.gr g⟩
/-! ### own lists changed -/
theorem RpO.own_at {O0 : Addr → Prop} {H0 H : Hp} {os : Nat → List Addr} {σ : L2.St} (r : RpO T O0 H0 os S σ H) {i : Nat} (h : S[i]? = some (own ds)) : ∃ a xs, os i = [a] ∧ σ[i]? = some (some (.ref a)) ∧ H a = some (.lst xs) ∧ Dqs (fz (Ow O0 os) H) xs ds := by
  obtain ⟨v, h1, a, xs, h2, rfl, h3, h4⟩ := r.rep i _ h
  exact ⟨a, xs, h2, h1, h3, h4⟩
theorem RpO.own_set {O0 : Addr → Prop} {H0 H : Hp} {os : Nat → List Addr} {σ : L2.St} (r : RpO T O0 H0 os S σ H) {i : Nat} {a : Addr} {xs : List V} (hi : i < S.length) (h : os i = [a]) (hv : σ[i]? = some (some (.ref a))) (hd : Dqs (fz (Ow O0 os) H) xs ds) : RpO T O0 H0 os (S.set i (own ds)) σ (upd H a (.lst xs)) :=
  r.change i hi (by rw [h]; exact List.mem_cons_self) Mu.lst ⟨_, hv, a, xs, h, rfl, upd_same, hd⟩
theorem lt_of_get {α : Type} {l : List α} {i : Nat} {x : α} (h : l[i]? = some x) : i < l.length := (List.getElem?_eq_some_iff.mp h).1
/-- x.append(e) -/
theorem ds_append {x : Str} {p apos cpos : Pos} (i : Nat) (he : DE X T e S d) (hi : S[i]? = some (own ds)) (k : E.nx (S.set i (own (ds ++ [d])))) (hz : ds.length < sizeLine) (hN : X.N[i]? = some x := by rfl) (hv : Vis X.env.scope x := by first | exact Or.inl rfl | exact Or.inr (Or.inl rfl) | exact Or.inr (Or.inr rfl)) (hdb : (x == ("__debug__" : Str)) = false := by decide)
    (hcd : (x == ("__classdict__" : Str)) = false := by decide) (hbase : attributeBase (.Name x p) "append" X.env (eval (.Name x p) X.env) = eval (.Name x p) X.env := by rfl)
    (hfew : ((backTo cpos (starEach [e] X.env)).all (fun x => !x.1) && (backToKw cpos (keywordEach [] X.env)).all (fun x => x.1.isSome) && decide ([e].length + ([] : List Keyword).length + (if ([] : List Keyword).isEmpty then 0 else 1) < 30)) = true := by rfl)
    (hline : (apos.endLine == cpos.line) = true := by rfl) (hs : starEach [e] X.env = (false, eval e X.env) :: starEach [] X.env := by rfl) (hplain : (backTo cpos (starEach [] X.env)).any (·.1) = false := by rfl)
    (hsw : swapsWith (.Call (.Attribute (.Name x p) "append" apos) [e] [] cpos) none pos.line X.env = pure false := by rfl) : DS X T EX (.Expr (.Call (.Attribute (.Name x p) "append" apos) [e] [] cpos) pos) S E := by
  refine ps_of (ps_expr (pe_bm PySem.F.plainAttrs_list PySem.F.slot_list_append PySem.F.type_list_append mt_append (pe_var hN hv hdb hcd) (pa_cons he pa_nil hs) hbase hfew hline hs hplain) hsw) fun D σ H ⟨O0, H0, os, r, l⟩ => ?_
  obtain ⟨a, xs, h1, h2, h3, h4⟩ := r.own_at hi
  refine ⟨.ref a, h2, .inl ⟨rfl, xs, SqL.of h3⟩, O0, H0, os, r, fun v H' g h => ?_⟩
  have h3' : H' a = some (.lst xs) := g.ext _ _ h3 fun _ z => by cases z
  exact ⟨a, xs, v, rfl, rfl, h3', by rw [h4.length]; exact hz, l.nx _ _ _ k ⟨os, (r.gr g).own_set (lt_of_get hi) h1 h2 ((h4.mv (fz_ext g.ext)).snoc h)⟩⟩
/-- x.extend(e), e a list -/
theorem ds_extend {x : Str} {p apos cpos : Pos} (i : Nat) (he : DE X T e S (.list es)) (hi : S[i]? = some (own ds)) (k : E.nx (S.set i (own (ds ++ es)))) (hz : ds.length + es.length ≤ sizeLine) (hN : X.N[i]? = some x := by rfl) (hv : Vis X.env.scope x := by first | exact Or.inl rfl | exact Or.inr (Or.inl rfl) | exact Or.inr (Or.inr rfl)) (hdb : (x == ("__debug__" : Str)) = false := by decide)
    (hcd : (x == ("__classdict__" : Str)) = false := by decide) (hbase : attributeBase (.Name x p) "extend" X.env (eval (.Name x p) X.env) = eval (.Name x p) X.env := by rfl)
    (hfew : ((backTo cpos (starEach [e] X.env)).all (fun x => !x.1) && (backToKw cpos (keywordEach [] X.env)).all (fun x => x.1.isSome) && decide ([e].length + ([] : List Keyword).length + (if ([] : List Keyword).isEmpty then 0 else 1) < 30)) = true := by rfl)
    (hline : (apos.endLine == cpos.line) = true := by rfl) (hs : starEach [e] X.env = (false, eval e X.env) :: starEach [] X.env := by rfl) (hplain : (backTo cpos (starEach [] X.env)).any (·.1) = false := by rfl)
    (hsw : swapsWith (.Call (.Attribute (.Name x p) "extend" apos) [e] [] cpos) none pos.line X.env = pure false := by rfl) : DS X T EX (.Expr (.Call (.Attribute (.Name x p) "extend" apos) [e] [] cpos) pos) S E := by
  refine ps_of (ps_expr (pe_bm PySem.F.plainAttrs_list PySem.F.slot_list_extend PySem.F.type_list_extend mt_extend (pe_var hN hv hdb hcd) (pa_cons he pa_nil hs) hbase hfew hline hs hplain) hsw) fun D σ H ⟨O0, H0, os, r, l⟩ => ?_
  obtain ⟨a, xs, h1, h2, h3, h4⟩ := r.own_at hi
  refine ⟨.ref a, h2, .inl ⟨rfl, xs, SqL.of h3⟩, O0, H0, os, r, fun v H' g h => ?_⟩
  have h3' : H' a = some (.lst xs) := g.ext _ _ h3 fun _ z => by cases z
  cases h with
  | lst q1 q2 => exact ⟨a, _, xs, _, rfl, rfl, h3', fzl q1, by rw [h4.length, q2.length]; exact hz, l.nx _ _ _ k ⟨os, (r.gr g).own_set (lt_of_get hi) h1 h2 ((h4.mv (fz_ext g.ext)).app q2)⟩⟩
/-! ### calls of own defs -/
/-- called with ds it hands back d, where R ds d -/
def spF (T : Tb) (R : List PD → PD → Prop) : Sp := fun vs H Q _ => ∃ O ds d, EC T O H ∧ Dqs (fz O H) vs ds ∧ R ds d ∧ ∀ v H', Gr T H H' → Dq (fz O H') v d → Q v H'
inductive Rs where
  | ok (d : PD)
  | no (c : Value)
/-- .. or raises an exception of the class c -/
def spX (T : Tb) (R : List PD → Rs → Prop) : Sp := fun vs H Q E => ∃ O ds r, EC T O H ∧ Dqs (fz O H) vs ds ∧ R ds r ∧ (∀ d, r = .ok d → ∀ v H', Gr T H H' → Dq (fz O H') v d → Q v H') ∧ ∀ c, r = .no c → ∀ H', Gr T H H' → E c none H'
section
variable {CX : CXT} {k : Nat} {f : Addr} {fd : FuncData} {ps : List Str} {R : List PD → PD → Prop} {RX : List PD → Rs → Prop} {x : Str} {l : List Expr} {p : Pos}
theorem de_call (F : FnOk X.prog X.w X.K X.mg X.base CX0 k f fd ps (spF T R)) (hr : Room k X.A) (hm : X.mg x = some (.ref f)) (hk : PySem.W.keepIn X.K (.ref f) = true) (hb : Binds X.K fd ps []) (ha : DA X T (e :: l) S ds) (hR : R ds d) (hg : Gl X x := by rfl) (hdb : (x == ("__debug__" : Str)) = false := by decide)
    (he : starEach (e :: l) X.env = (false, eval e X.env) :: starEach l X.env := by rfl) (hpl : (backTo pos (starEach l X.env)).any (·.1) = false := by rfl) : DE X T (.Call (.Name x p) (e :: l) [] pos) S d :=
  pe_of (pe_call F hr hg hm hk hb .nil pass0 ha hdb he hpl) fun σ H Q ⟨O0, H0, os, r, kk⟩ => ⟨O0, H0, os, r, fun vs H1 g1 h1 => ⟨Ow O0 os, ds, d, (r.gr g1).ec, by rw [List.append_nil]; exact h1, hR, fun v H' g h => kk v H' (g1.trans g) h⟩⟩
theorem passN {X : Cx} : Passes (L2N.CX X.prog X.w) X E0 := fun _ _ _ _ _ _ _ h => by
  obtain ⟨_, _, _, _, _, _, _, _, _, _, _, _, z⟩ := h
  exact z.elim
/-- a def that may raise, called where it doesn't -/
theorem de_callX (F : FnOk X.prog X.w X.K X.mg X.base (L2N.CX X.prog X.w) k f fd ps (spX T RX)) (hr : Room k X.A) (hm : X.mg x = some (.ref f)) (hk : PySem.W.keepIn X.K (.ref f) = true) (hb : Binds X.K fd ps []) (ha : DA X T (e :: l) S ds) (hR : RX ds (.ok d)) (hg : Gl X x := by rfl) (hdb : (x == ("__debug__" : Str)) = false := by decide)
    (he : starEach (e :: l) X.env = (false, eval e X.env) :: starEach l X.env := by rfl) (hpl : (backTo pos (starEach l X.env)).any (·.1) = false := by rfl) : DE X T (.Call (.Name x p) (e :: l) [] pos) S d :=
  pe_of (pe_call F hr hg hm hk hb .nil passN ha hdb he hpl) fun σ H Q ⟨O0, H0, os, r, kk⟩ => ⟨O0, H0, os, r, fun vs H1 g1 h1 => ⟨Ow O0 os, ds, .ok d, (r.gr g1).ec, by rw [List.append_nil]; exact h1, hR, fun d' e v H' g h => by cases e; exact kk v H' (g1.trans g) h, fun c e => nomatch e⟩⟩
/-- .. or does -/
def tX (T : Tb) (EX : XK) (S : AS) (r : Rs) : TE := fun σ H Q => ∃ O0 H0 os, RpO T O0 H0 os S σ H ∧ (∀ d, r = .ok d → ∀ v H', Gr T H H' → Dq (fz (Ow O0 os) H') v d → Q v H') ∧ ∀ c, r = .no c → ∀ H', Gr T H H' → EX c none H'
abbrev DX (X : Cx) (T : Tb) (EX : XK) (e : Expr) (S : AS) (r : Rs) : Prop := PE X e (tX T EX S r)
theorem dx_call {r : Rs} (F : FnOk X.prog X.w X.K X.mg X.base (L2N.CX X.prog X.w) k f fd ps (spX T RX)) (hr : Room k X.A) (hm : X.mg x = some (.ref f)) (hk : PySem.W.keepIn X.K (.ref f) = true) (hb : Binds X.K fd ps []) (hx : Passes (L2N.CX X.prog X.w) X EX) (ha : DA X T (e :: l) S ds) (hR : RX ds r) (hg : Gl X x := by rfl) (hdb : (x == ("__debug__" : Str)) = false := by decide)
    (he : starEach (e :: l) X.env = (false, eval e X.env) :: starEach l X.env := by rfl) (hpl : (backTo pos (starEach l X.env)).any (·.1) = false := by rfl) : DX X T EX (.Call (.Name x p) (e :: l) [] pos) S r :=
  pe_of (pe_call F hr hg hm hk hb .nil hx ha hdb he hpl) fun σ H Q ⟨O0, H0, os, q, k1, k2⟩ => ⟨O0, H0, os, q, fun vs H1 g1 h1 => ⟨Ow O0 os, ds, r, (q.gr g1).ec, by rw [List.append_nil]; exact h1, hR, fun d e v H' g h => k1 d e v H' (g1.trans g) h, fun c e H' g => k2 c e H' (g1.trans g)⟩⟩
theorem de_dx {d : PD} (h : DX X T EX e S (.ok d)) : DE X T e S d := pe_of h fun σ H Q ⟨O0, H0, os, q, k⟩ => ⟨O0, H0, os, q, fun d' e => by cases e; exact k, fun c e => nomatch e⟩
theorem ds_exprX {r : Rs} (he : DX X T EX e S r) (k1 : ∀ d, r = .ok d → E.nx S) (k2 : ∀ c, r = .no c → E.ex c) (hs : swapsWith e none pos.line X.env = pure false := by rfl) : DS X T EX (.Expr e pos) S E :=
  ps_of (ps_expr he hs) fun D σ H ⟨O0, H0, os, q, l⟩ => ⟨O0, H0, os, q, fun d e v H' g h => l.nx S σ H' (k1 d e) ⟨os, q.gr g⟩, fun c e H' g => l.ex c H' (k2 c e) (q.gr g).gr0⟩
theorem ds_retX {r : Rs} (he : DX X T EX e S r) (k1 : ∀ d, r = .ok d → E.rt d) (k2 : ∀ c, r = .no c → E.ex c) : DS X T EX (.Return (some e) pos) S E :=
  ps_of (ps_ret he) fun D σ H ⟨O0, H0, os, q, l⟩ => ⟨O0, H0, os, q, fun d e v H' g h => l.rt d v H' (k1 d e) (q.gr g).gr0 (h.mv (fz_mono fun a => ow0)), fun c e H' g => l.ex c H' (k2 c e) (q.gr g).gr0⟩
theorem ds_asgX {r : Rs} {y : Str} {py : Pos} (i : Nat) (he : DX X T EX e S r) (k1 : ∀ d, r = .ok d → E.nx (S.set i (dat d))) (k2 : ∀ c, r = .no c → E.ex c) (nd : X.N.Nodup) (hN : X.N[i]? = some y := by rfl) (hx : Loc X.env.scope y := by first | exact Or.inl rfl | exact Or.inr rfl)
    (hs : swapsWith e (some (.Name y py)) pos.line X.env = pure false := by rfl) (hf : X.fn y = true ∨ X.env.scope.names.lookup y = some .local := by first | exact .inl rfl | exact .inr rfl) : DS X T EX (.Assign [.Name y py] e pos) S E :=
  ps_of (ps_set (i := i) nd hN hx he hs hf) fun D σ H ⟨O0, H0, os, r, l⟩ => ⟨O0, H0, os, r, fun d e v H' g h => l.nx _ _ _ (k1 d e) ((r.gr g).set_dat i h), fun c e H' g => l.ex c H' (k2 c e) (r.gr g).gr0⟩
theorem ds_asgGX {r : Rs} {js : List Nat} {S2 : AS} (he : DX X T EX e S r) (hg : ∀ d, r = .ok d → DG X T tg js S d S2) (k1 : ∀ d, r = .ok d → E.nx S2) (k2 : ∀ c, r = .no c → E.ex c) (hs : swapsWithSole [tg] e pos.line X.env = pure false := by rfl) (hw : swappedStores [tg] e X.env = pure none := by rfl)
    (h1 : (assignEach [tg] X.env).map (·.2) = [assign tg X.env] := by rfl) : DS X T EX (.Assign [tg] e pos) S E := by
  cases r with
  | ok d => exact ds_asgG (de_dx he) (hg d rfl) (k1 d rfl) hs hw h1
  | no c =>
    exact ps_of (ps_asg he (g := fun _ _ _ _ => False) ⟨fun _ _ _ _ _ _ _ _ _ h => h.elim⟩ hs hw h1) fun D σ H ⟨O0, H0, os, r, l⟩ => ⟨O0, H0, os, r, fun d e => (nomatch e), fun c e H' g => l.ex c H' (k2 c e) (r.gr g).gr0⟩
end
/-! ### defs -/
def enter : List Str → List PD → AS
  | [], _ => []
  | _ :: N, [] => un :: enter N []
  | _ :: N, d :: ds => dat d :: enter N ds
theorem enter_eq : ∀ {N : List Str} {ds : List PD}, ds.length ≤ N.length → enter N ds = ds.map dat ++ List.replicate (N.length - ds.length) un
  | [], [], _ => rfl
  | [], _ :: _, h => by simp at h
  | _ :: N, [], _ => by
    have e := enter_eq (N := N) (ds := []) (by simp)
    simp only [enter, e, List.map_nil, List.nil_append, List.length_nil, List.length_cons, Nat.sub_zero]
    rfl
  | _ :: N, d :: ds, h => by
    have e := enter_eq (N := N) (ds := ds) (by simpa using h)
    simp only [enter, e, List.map_cons, List.length_cons, List.cons_append]
    congr 3
    omega
def rets (d : PD) : En := { nx := fun _ => d = .none, rt := fun d' => d' = d }
def retsX (r : Rs) : En := { nx := fun _ => r = .ok .none, rt := fun d' => r = .ok d', ex := fun c => r = .no c }
theorem enter_ok {O : Addr → Prop} {H : Hp} {N : List Str} {vs : List V} (c : EC T O H) (h : Dqs (fz O H) vs ds) (hl : ds.length ≤ N.length) : RpO T O H (fun _ => []) (enter N ds) (L2.start N vs) H where
  len := by rw [enter_eq hl]; unfold L2.start; simp [h.length]
  apart := fun i j a h => by cases h
  new := fun i a h => by cases h
  old := c.allo
  ext := Xt.refl
  tabs := c.tabs
  rep := fun i s e => by
    have ef : Ow O (fun _ => []) = O := funext fun a => propext ⟨fun z => z.elim id fun ⟨i, w⟩ => (by cases w), fun z => .inl z⟩
    rw [ef]
    rw [enter_eq hl] at e
    unfold L2.start
    by_cases hi : i < ds.length
    · rw [List.getElem?_append_left (by simpa using hi), List.getElem?_map] at e
      rw [List.getElem?_append_left (by simpa [h.length] using hi), List.getElem?_map]
      cases q : ds[i]? with
      | none => rw [q] at e; cases e
      | some d =>
        rw [q] at e
        cases e
        obtain ⟨v, h1, h2⟩ := h.get q
        exact ⟨some v, by rw [h1]; rfl, rfl, v, rfl, h2⟩
    · rw [List.getElem?_append_right (by simpa using hi), List.getElem?_replicate] at e
      split at e
      · cases e
        rename_i hlt
        rw [List.getElem?_append_right (by simpa [h.length] using hi), List.getElem?_replicate, List.length_map, h.length, if_pos (by simpa using hlt)]
        exact ⟨none, rfl, rfl⟩
      · cases e
  out := fun _ _ => rfl
section
variable {P : Program} {w : World} {K : Fr} {mg : Str → Option Value} {base : Heap} {qual x : Str} {params : Arguments} {scope : Scope} {f : Addr} {fd : FuncData} {N ps : List Str} {k : Nat}
abbrev bodyX (P : Program) (w : World) (K : Fr) (mg : Str → Option Value) (base : Heap) (N : List Str) (qual : Str) (scope : Scope) (f : Addr) (cd : Value) (A : Around) (outer : List Env) (s : Shared) (H : Hp) (E : XK) : Cx := (cxOf CX0 P w K mg base N qual scope f cd A outer s H E).nox
abbrev bodyXX (P : Program) (w : World) (K : Fr) (mg : Str → Option Value) (base : Heap) (N : List Str) (qual : Str) (scope : Scope) (f : Addr) (cd : Value) (A : Around) (outer : List Env) (s : Shared) (H : Hp) (E : XK) : Cx := cxOf (L2N.CX P w) P w K mg base N qual scope f cd A outer s H E
/-- a def that raises nothing -/
theorem fn_ok {R : List PD → PD → Prop} (F : FunD K x qual params body scope [] [] f fd) (S : FnScope N ps scope) (len : ∀ ds d, R ds d → ds.length = ps.length ∧ ds.length ≤ N.length)
    (hbody : ∀ (ds : List PD) (d : PD), R ds d → ∀ (cd : Value) (A : Around) (outer : List Env) (s : Shared) (H : Hp) (E : XK), Room k (A.deeper (envOfC qual scope s.heap.objs.size f cd)) → DSs (bodyX P w K mg base N qual scope f cd A outer s H E) T E body (enter N ds) (rets d)) :
    FnOk P w K mg base CX0 (k + 1) f fd ps (spF T R) := by
  refine F.ok S (fun vs H Q E ⟨O, ds, d, c, h, r, _⟩ => by rw [h.length]; exact (len ds d r).1) fun cdv A outer s H vs Q E hr ⟨O, ds, d, c, h, r, q⟩ => ⟨_, (hbody ds d r cdv A outer s H E hr).nox, O, H, _, enter_ok c h (len ds d r).2, ?_⟩
  exact ⟨fun S' σ' H' e ⟨os, rr⟩ => q _ H' ⟨rr.ext, rr.tabs⟩ (by rw [show d = .none from e]; exact .non), fun d' v H' e g hd => q v H' g (by rw [show d' = d from e] at hd; exact hd), fun _ _ _ z => z.elim, fun _ _ _ z => z.elim, fun _ _ z => z.elim, fun _ _ _ _ z => z.elim⟩
/-- one that may raise -/
theorem fn_okX {R : List PD → Rs → Prop} (F : FunD K x qual params body scope [] [] f fd) (S : FnScope N ps scope) (len : ∀ ds d, R ds d → ds.length = ps.length ∧ ds.length ≤ N.length)
    (hbody : ∀ (ds : List PD) (d : Rs), R ds d → ∀ (cd : Value) (A : Around) (outer : List Env) (s : Shared) (H : Hp) (E : XK), Room k (A.deeper (envOfC qual scope s.heap.objs.size f cd)) → DSs (bodyXX P w K mg base N qual scope f cd A outer s H E) T E body (enter N ds) (retsX d)) :
    FnOk P w K mg base (L2N.CX P w) (k + 1) f fd ps (spX T R) := by
  refine F.ok S (fun vs H Q E ⟨O, ds, d, c, h, r, _⟩ => by rw [h.length]; exact (len ds d r).1) fun cdv A outer s H vs Q E hr ⟨O, ds, r, c, h, rr, q1, q2⟩ => ⟨_, hbody ds r rr cdv A outer s H E hr, O, H, _, enter_ok c h (len ds r rr).2, ?_⟩
  exact ⟨fun S' σ' H' e ⟨os, rr⟩ => q1 _ e _ H' ⟨rr.ext, rr.tabs⟩ .non, fun d' v H' e g hd => q1 d' e v H' g hd, fun _ _ _ z => z.elim, fun _ _ _ z => z.elim, fun c' H' e g => q2 c' e H' g, fun _ _ _ _ z => z.elim⟩
end
end
end DL

namespace DL
open PySem PySem.Spec PyProof.Rows L2

/-- n turns; at turn i a new tuple of the values vs i; G stays -/
def Jt (n : Nat) (vs : Nat → List V) (G : Hp → Prop) : It := ⟨fun i H => G H ∧ i < n, fun i H v H' => ∃ T, v = .ref T ∧ H T = none ∧ H' = upd H T (.tup (vs i)), fun i H => G H ∧ i = n⟩
theorem turn_goesN {P : Program} {w : World} {K : Fr} {tg : Expr} {n : Nat} {vs : Nat → List V} {G : Hp → Prop} {fp : List Addr} {it : Addr} {tn : Nat → Heap → Prop} (mem : it ∈ fp) (hlen : ∀ i, (vs i).length ≤ 1000)
    (obj : ∀ i h, tn i h → ∀ b ∈ fp, ∃ o, h.get? b = some o ∧ ∀ v, o.data ≠ .cell v) (keep : ∀ i h h', tn i h → (∀ b ∈ fp, ∀ o, h.get? b = some o → h'.get? b = some o) → tn i h') (self : ∀ (A : Around) (i : Nat) (s : Shared) (Q : Value → Shared → Prop) (E : Value → Shared → Prop), tn i s.heap → Q (.ref it) s → wpAny (model P w) A (pyIter (.ref it)) Q E s)
    (GN : ∀ (X : Cx), X.prog = P → X.w = w → X.K = K → X.calm = true → ∀ (pins : List (Addr × Obj)) (s : Shared) (σ : L2.St) (H : Hp), Inv X pins σ H s → G H →
      ∃ (fpx wr : List Addr) (Y : Nat → Heap → Value → Heap → Prop) (St : Nat → Heap → Prop), GoesN P w X.A tg it fpx wr n Y St ∧ (∀ b ∈ wr, b ∈ fp) ∧ (∀ i, tn i s.heap → St i s.heap) ∧ (∀ i h, St i h → tn i h) ∧
        ∀ i v h', i < n → Y i s.heap v h' → ∃ T us, v = .ref T ∧ s.heap.objs.size ≤ T ∧ Vals (vs i) us ∧ h'.IsTuple T us.toArray) :
    Turn P w K tg (Jt n vs G) fp it tn where
  mem := mem
  obj := obj
  keep := keep
  item := by
    intro X hP hw hK hc i pins s σ H E I hf st ⟨hG, hi⟩
    obtain ⟨fpx, wr, Y, St, g, hwr, h1, h2, h3⟩ := GN X hP hw hK hc pins s σ H I hG
    subst hP hw hK
    refine wpAny_mono (g.goes i s (fun v s2 => ∃ x H', Inv X pins σ H' s2 ∧ L2.RelV x v ∧ (Jt n vs G).yld i H x H' ∧ tn (i + 1) s2.heap ∧ ∀ b ∈ fp, H' b = none) E hi (h1 i st) fun v h' tk hy st' hk htk => ?_) (fun r s1 ⟨v, e, q⟩ => ⟨v, e, q⟩) fun _ _ z => z
    obtain ⟨T, us, rfl, hT, rv, ht⟩ := h3 i v h' hi hy
    have new : ObjOk X.prog X.w (upd H T (.tup (vs i))) h' T (.tup (vs i)) := ⟨Nat.le_trans (hlen i) (by rw [sizeLine_eq]; decide), us, rv, ht⟩
    have I1 : Inv X pins σ (upd H T (.tup (vs i))) { s with heap := h', toks := tk } := I.turnedNew (t' := tk) (ch := fp) (fun b o hb e => hk b o (fun z => hb (hwr b z)) e) hf hT new
    refine ⟨.ref T, _, I1, rfl, ⟨T, rfl, I.hok.fresh hT, rfl⟩, h2 _ _ st', fun b hb => ?_⟩
    obtain ⟨o, e, _⟩ := obj i s.heap st b hb
    rw [upd_ne (Nat.ne_of_lt (Nat.lt_of_lt_of_le (Heap.lt_size e) hT))]
    exact (hf b hb).1
  done := by
    intro X hP hw hK hc i pins s σ H E I hf st ⟨hG, hi⟩
    obtain ⟨fpx, wr, Y, St, g, hwr, h1, h2, h3⟩ := GN X hP hw hK hc pins s σ H I hG
    subst hP hw hK hi
    exact g.stops s (fun s1 => Inv X pins σ H s1) E (h1 _ st) fun h' tk hk htk => I.turnedL (t' := tk) (ch := fp) (fun b o hb e => hk b o (fun z => hb (hwr b z)) e) hf
  self := self
/-! ### a list or a tuple that is walked -/
def Sq (K : Fr) (k : Bool) (H : Hp) (a : Addr) (xs : List V) : Prop := if k then SqT K H a xs else SqL K H a xs
def ItK (k : Bool) (h : Heap) (it a : Addr) (i : Nat) : Prop := if k then h.IsTupleIter it a i else h.IsListIter it a i
def OfK (k : Bool) (h : Heap) (a : Addr) (its : Array Value) : Prop := if k then h.IsTuple a its else h.IsList a its
def itO (k : Bool) (a : Addr) : Obj := { cls := .type (if k then "tuple_iterator" else "list_iterator"), data := .fields #[.ref a, .int 0 0] }
theorem sq_its {X : Cx} {pins : List (Addr × Obj)} {σ : L2.St} {H : Hp} {s : Shared} {k : Bool} {a : Addr} {xs : List V} (I : Inv X pins σ H s) (h : Sq X.K k H a xs) : ∃ its : List Value, Vals xs its ∧ OfK k s.heap a its.toArray := by
  cases k with
  | true =>
    obtain ⟨its, rv, p, _⟩ := I.tuple h
    exact ⟨its, rv, p⟩
  | false =>
    obtain ⟨its, rv, p, _⟩ := I.list h
    exact ⟨its, rv, p.isList⟩
theorem OfK.lt {k : Bool} {h : Heap} {a : Addr} {its : Array Value} (p : OfK k h a its) : a < h.objs.size := by
  cases k with
  | true => obtain ⟨o, e, _⟩ := p; exact Heap.lt_size e
  | false => obtain ⟨o, e, _⟩ := p; exact Heap.lt_size e
theorem ItK.at {k : Bool} {h h' : Heap} {it a : Addr} {i : Nat} (p : ItK k h it a i) (e : ∀ o, h.get? it = some o → h'.get? it = some o) : ItK k h' it a i := by
  cases k with
  | true => exact Heap.IsTupleIter.at p e
  | false => exact Heap.IsListIter.at p e
theorem ItK.obj {k : Bool} {h : Heap} {it a : Addr} {i : Nat} (p : ItK k h it a i) : ∃ o, h.get? it = some o ∧ ∀ v, o.data ≠ .cell v := by
  cases k with
  | true => obtain ⟨o, e, _, d⟩ := p; exact ⟨o, e, fun v z => by rw [d] at z; cases z⟩
  | false => obtain ⟨o, e, _, d⟩ := p; exact ⟨o, e, fun v z => by rw [d] at z; cases z⟩
theorem ItK.of {k : Bool} {h : Heap} {it a : Addr} (e : h.get? it = some (itO k a)) : ItK k h it a 0 := by
  cases k with
  | true => exact ⟨_, e, rfl, rfl⟩
  | false => exact ⟨_, e, rfl, rfl⟩
theorem begK (k : Bool) (a : Addr) (its : Array Value) : Begins (.ref a) (itO k a) (fun h => OfK k h a its) := by
  cases k with
  | true => exact begins_tuple a its
  | false => exact begins_list a its
theorem drawK {P : Program} {w : World} {A : Around} (k : Bool) (hh : A.handled = none) (it a : Addr) (hne : a ≠ it) (its : Array Value) : Draws P w A it [it, a] its.size (fun i v => its[i]? = some v) (fun i h => ItK k h it a i ∧ OfK k h a its) := by
  cases k with
  | true => exact Draws.tuple hh it a hne its
  | false => exact Draws.list hh it a hne its
theorem meets_enumerate_new1 {v : Value} {o : Obj} {H : Heap → Prop} (B : Begins v o H) :
    Meets (Builtin.«enumerate.__new__» ⟨[.type "enumerate", v], []⟩) (fun _ R s => H s.heap ∧
      R (.ok (.ret (.ref (s.heap.push o).objs.size))) { s with heap := (s.heap.push o).push { cls := .type "enumerate", data := .fields #[.none, .bool false, .ref s.heap.objs.size, rawInt 0, .none, .none] } }) :=
  .of_wp fun prog w A R s h => by
    obtain ⟨hp, g, d, tk, os⟩ := s; obtain ⟨h1, h⟩ := h
    have hsub := sub_enumerate
    have q1 : ∀ {A' : Around} {E : Value → Shared → Prop} {Q : Value → Shared → Prop}, Q (.ref hp.objs.size) ⟨hp.push o, g, d, tk, os⟩ → wpAny (model prog w) A' (pyIter v) Q E ⟨hp, g, d, tk, os⟩ :=
      fun q => B.iter prog w _ _ ⟨hp, g, d, tk, os⟩ _ h1 q
    wp_walk using q1
    refine wpAny_stack_any fun st => wpAny_pure ?_
    split
    · rename_i c _ _ _ _ _
      cases (c == Value.type "enumerate")
      · wp_walk using q1
        exact ⟨_, rfl, h⟩
      · wp_walk using q1
        exact ⟨_, rfl, h⟩
    · wp_walk using q1
      exact ⟨_, rfl, h⟩
theorem enum_begins1 {prog : Program} {w : World} {A : Around} {E : Value → Shared → Prop} {s : Shared} {v : Value} {o : Obj} {H : Heap → Prop} {Q : Value → Shared → Prop} (B : Begins v o H) (h1 : H s.heap)
    (h : ∀ h', IsEnum h' (s.heap.objs.size + 1) s.heap.objs.size 0 .none → h'.get? s.heap.objs.size = some o → h'.objs.size = s.heap.objs.size + 2 → (∀ b o, s.heap.get? b = some o → h'.get? b = some o) → Q (.ref (s.heap.objs.size + 1)) { s with heap := h' }) :
    wpAny (model prog w) A (call (.type "enumerate") [v]) Q E s := by
  refine callType_new F.called_enumerate (by decide) (F.typeCall_enumerate_1 _) (F.newCall_enumerate_1 _) (fun obj => F.args_object_init_2 obj _) F.entry_enumerate_new
    (meets_enumerate_new1 B) ⟨h1, ?_⟩
  have hz : (s.heap.push o).objs.size = s.heap.objs.size + 1 := Heap.size_push ..
  show _ ∧ _
  rw [hz]
  have he : IsEnum ((s.heap.push o).push { cls := .type "enumerate", data := .fields #[.none, .bool false, .ref s.heap.objs.size, rawInt 0, .none, .none] }) (s.heap.objs.size + 1) s.heap.objs.size 0 .none := by
    have := Heap.get?_push_size (s.heap.push o) (o := { cls := .type "enumerate", data := .fields #[.none, .bool false, .ref s.heap.objs.size, rawInt 0, .none, .none] }) rfl
    rw [hz] at this; exact this
  refine ⟨⟨_, he, rfl⟩, h _ he (Heap.get?_push_of_some _ (Heap.get?_push_size _ B.free)) (by rw [Heap.size_push, hz]) fun b o x => Heap.get?_push_of_some _ (Heap.get?_push_of_some _ x)⟩
/-! ### enumerate -/
def vsEnum (xs : List V) (i : Nat) : List V := [.int (i : Nat), xs.getD i .non]
theorem turn_enumK {P : Program} {w : World} {K : Fr} {elts : List Expr} {kk : Nat} {tpos : Pos} (k : Bool) (a e it : Addr) (xs : List V) (h1 : e ≠ it) (h2 : e ≠ a) (h3 : a ≠ it) :
    Turn P w K (.Tuple elts kk tpos) (Jt xs.length (vsEnum xs) fun H => Sq K k H a xs) [e, it] e (fun i h => (∃ old, IsEnum h e it (i : Int) old) ∧ ItK k h it a i) := by
  refine turn_goesN (by simp) (fun i => by show 2 ≤ 1000; decide) (fun i h st b hb => ?_) (fun i h h' st kp => ⟨st.1.imp fun old z => kp e (by simp) _ z, st.2.at fun o q => kp it (by simp) o q⟩) (fun A i s Q E st q => ?_) fun X hP hw hK hc pins s σ H I hG => ?_
  · have e' : b = e ∨ b = it := by simpa using hb
    rcases e' with q | q
    · rw [q]
      obtain ⟨old, z⟩ := st.1
      exact ⟨_, z, fun v q => nomatch q⟩
    · rw [q]; exact st.2.obj
  · obtain ⟨old, z⟩ := st.1
    exact wpAny_pyIter_enum z q
  · subst hK
    obtain ⟨its, rv, po⟩ := sq_its I hG
    have hd : X.A.in1.handled = none := I.ok.hd hc
    have D := drawK (P := P) (w := w) (A := X.A.in1) k hd it a h3 its.toArray
    have g := GoesN.enumFrom (elts := elts) (x1 := kk) (pos := tpos) 0 D e h1 (by simp [h1, h2]) (by simp)
    have hn : its.toArray.size = xs.length := by rw [List.size_toArray, rv.length]
    rw [hn] at g
    refine ⟨_, _, _, _, g, fun b hb => hb, fun i st => ⟨by simpa using st.1, st.2, po⟩, fun i h st => ⟨by simpa using st.1, st.2.1⟩, fun i v h' hi ⟨T, t, x, hv, hT, hx, ht⟩ => ⟨T, [.int (i : Nat) t, x], hv, hT, ?_, by simpa using ht⟩⟩
    have hx' : its[i]? = some x := by simpa using hx
    obtain ⟨y, hy⟩ : ∃ y, xs[i]? = some y := ⟨xs[i], by simp [hi]⟩
    obtain ⟨u, hu, ru⟩ := rv.get hy
    rw [hx'] at hu
    cases hu
    refine .cons ⟨t, rfl⟩ (.cons ?_ .nil)
    rw [List.getD_eq_getElem?_getD, hy]
    exact ru
def iEnumK (K : Fr) (ta : TA) : TI := fun σ H R => ta σ H fun vs H1 => ∃ k a xs, vs = [.ref a] ∧ Sq K k H1 a xs ∧ R (Jt xs.length (vsEnum xs) fun H => Sq K k H a xs) H1
theorem pi_enumK {X : Cx} {e : Expr} {ta : TA} {p pos tpos : Pos} {elts : List Expr} {kk : Nat} (hg : Gl X "enumerate") (hm : X.mg "enumerate" = none) (ha : PA X [e] ta) (hs : starEach [e] X.env = [(false, eval e X.env)] := by rfl) :
    PI X (.Tuple elts kk tpos) (.Call (.Name "enumerate" p) [e] [] pos) (iEnumK X.K ta) := by
  refine ⟨fun pins s σ H R I h => ?_⟩
  refine Call_ (ld_blt I hg hm boot_enumerate (PyProof.Rows.callWith_type1 (thn (ha.run pos pins s σ H _ I h) fun us s1 ⟨vs, H1, I1, r1, q1⟩ => ?_) hs rfl))
  obtain ⟨k, a, xs, ex, hq, q⟩ := q1
  subst ex
  cases r1 with
  | cons r rr =>
    cases rr
    cases r
    obtain ⟨its, rv, po⟩ := sq_its I1 hq
    refine enum_begins1 (begK k a its.toArray) po fun h' he hit hsz hk => wpAny_pyIter_enum he ?_
    have I2 : Inv X pins σ H1 { s1 with heap := h' } := I1.kept (t' := s1.toks) hk
    refine ⟨s1.heap.objs.size + 1, [s1.heap.objs.size + 1, s1.heap.objs.size], _, _, H1, rfl, I2, turn_enumK k a (s1.heap.objs.size + 1) s1.heap.objs.size xs (Nat.succ_ne_self _) (Nat.ne_of_gt (Nat.lt_succ_of_lt po.lt)) (Nat.ne_of_lt po.lt), ⟨⟨.none, he⟩, .of hit⟩, fun b hb => ?_, q⟩
    have e' : b = s1.heap.objs.size + 1 ∨ b = s1.heap.objs.size := by simpa using hb
    have hle : s1.heap.objs.size ≤ b := by
      rcases e' with z | z
      · rw [z]; exact Nat.le_add_right _ _
      · rw [z]; exact Nat.le_refl _
    exact I1.fpOk hle (I1.hok.fresh hle)
/-! ### zip -/
def vsZip (xs ys : List V) (i : Nat) : List V := [xs.getD i .non, ys.getD i .non]
theorem turn_zipK {P : Program} {w : World} {K : Fr} {elts : List Expr} {kk : Nat} {tpos : Pos} (k1 k2 : Bool) (a b z TI TO i1 i2 : Addr) (xs ys : List V) (S : ZipSep2 z TI TO i1 i2 [i1, a] [i2, b]) (ha : a ≠ i1) (hb : b ≠ i2) :
    Turn P w K (.Tuple elts kk tpos) (Jt (min xs.length ys.length) (vsZip xs ys) fun H => Sq K k1 H a xs ∧ Sq K k2 H b ys) [z, TI, TO, i1, i2] z (fun i h => IsZip h z TI TO .none ∧ IsTupOf2 h TI (.ref i1) (.ref i2) ∧ (∃ x y, IsTupOf2 h TO x y) ∧ ItK k1 h i1 a i ∧ ItK k2 h i2 b i) := by
  refine turn_goesN (by simp) (fun i => by show 2 ≤ 1000; decide) (fun i h st c hc => ?_) (fun i h h' st k => ?_) (fun A i s Q E st q => wpAny_pyIter_zip st.1 q) fun X hP hw hK hc pins s σ H I hG => ?_
  · obtain ⟨hz, hTI, ⟨x, y, hTO⟩, h1, h2⟩ := st
    have e' : c = z ∨ c = TI ∨ c = TO ∨ c = i1 ∨ c = i2 := by simpa using hc
    rcases e' with q | q | q | q | q
    · rw [q]; exact ⟨_, hz, fun v q => nomatch q⟩
    · rw [q]; exact ⟨_, hTI, fun v q => nomatch q⟩
    · rw [q]; exact ⟨_, hTO, fun v q => nomatch q⟩
    · rw [q]; exact h1.obj
    · rw [q]; exact h2.obj
  · obtain ⟨hz, hTI, ⟨x, y, hTO⟩, h1, h2⟩ := st
    exact ⟨k z (by simp) _ hz, k TI (by simp) _ hTI, ⟨x, y, k TO (by simp) _ hTO⟩, h1.at fun o q => k i1 (by simp) o q, h2.at fun o q => k i2 (by simp) o q⟩
  · subst hK
    obtain ⟨its, rv, po⟩ := sq_its I hG.1
    obtain ⟨its2, rv2, po2⟩ := sq_its I hG.2
    have hd : X.A.in1.handled = none := I.ok.hd hc
    have g := GoesN.zip2 (elts := elts) (x1 := kk) (pos := tpos) S (drawK (P := P) (w := w) (A := X.A.in1) k1 hd i1 a ha its.toArray) (drawK (P := P) (w := w) (A := X.A.in1) k2 hd i2 b hb its2.toArray)
    have hn : min its.toArray.size its2.toArray.size = min xs.length ys.length := by rw [List.size_toArray, List.size_toArray, rv.length, rv2.length]
    rw [hn] at g
    refine ⟨_, _, _, _, g, fun c hc => by simp only [List.mem_cons, List.not_mem_nil, or_false] at hc ⊢; rcases hc with h | h | h | h <;> simp [h], fun i ⟨st1, st2, st3, st4, st5⟩ => ⟨st1, st2, st3, ⟨st4, po⟩, st5, po2⟩, fun i h ⟨st1, st2, st3, st4, st5⟩ => ⟨st1, st2, st3, st4.1, st5.1⟩, fun i v h' hi ⟨T, x, y, hv, hT, hx, hy, ht⟩ => ⟨T, [x, y], hv, hT, ?_, by simpa using ht⟩⟩
    have hx' : its[i]? = some x := by simpa using hx
    have hy' : its2[i]? = some y := by simpa using hy
    obtain ⟨x1, hx1⟩ : ∃ y, xs[i]? = some y := ⟨xs[i]'(by omega), by simp [show i < xs.length by omega]⟩
    obtain ⟨y1, hy1⟩ : ∃ y, ys[i]? = some y := ⟨ys[i]'(by omega), by simp [show i < ys.length by omega]⟩
    obtain ⟨u, hu, ru⟩ := rv.get hx1
    obtain ⟨u2, hu2, ru2⟩ := rv2.get hy1
    rw [hx'] at hu
    cases hu
    rw [hy'] at hu2
    cases hu2
    refine .cons ?_ (.cons ?_ .nil)
    · rw [List.getD_eq_getElem?_getD, hx1]; exact ru
    · rw [List.getD_eq_getElem?_getD, hy1]; exact ru2
def iZipK (K : Fr) (ta : TA) : TI := fun σ H R => ta σ H fun vs H1 => ∃ k1 k2 a b xs ys, vs = [.ref a, .ref b] ∧ Sq K k1 H1 a xs ∧ Sq K k2 H1 b ys ∧ R (Jt (min xs.length ys.length) (vsZip xs ys) fun H => Sq K k1 H a xs ∧ Sq K k2 H b ys) H1
theorem pi_zipK {X : Cx} {e e2 : Expr} {ta : TA} {p pos tpos : Pos} {elts : List Expr} {kk : Nat} (hg : Gl X "zip") (hm : X.mg "zip" = none) (ha : PA X [e, e2] ta)
    (hs : starEach [e, e2] X.env = (false, eval e X.env) :: starEach [e2] X.env := by rfl) (hpl : (backTo pos (starEach [e2] X.env)).any (·.1) = false := by rfl) :
    PI X (.Tuple elts kk tpos) (.Call (.Name "zip" p) [e, e2] [] pos) (iZipK X.K ta) := by
  refine ⟨fun pins s σ H R I h => ?_⟩
  refine Call_ (ld_blt I hg hm PyProof.Rows.boot_zip (PyProof.Rows.callWith_type1 (thn (ha.run pos pins s σ H _ I h) fun us s1 ⟨vs, H1, I1, r1, q1⟩ => ?_) hs hpl))
  obtain ⟨k1, k2, a, b, xs, ys, ex, hqx, hqy, q⟩ := q1
  subst ex
  cases r1 with
  | cons r rr =>
    cases rr with
    | cons r' rr =>
      cases rr
      cases r
      cases r'
      obtain ⟨its, rv, po⟩ := sq_its I1 hqx
      obtain ⟨its2, rv2, po2⟩ := sq_its I1 hqy
      refine zip_begins2 (begK k1 a its.toArray) (begK k2 b its2.toArray) po po2 fun h' hz hTI hTO h1 h2 hsz hk => wpAny_pyIter_zip hz ?_
      have I2 : Inv X pins σ H1 { s1 with heap := h' } := I1.kept (t' := s1.toks) hk
      have la := po.lt
      have lb := po2.lt
      refine ⟨s1.heap.objs.size + 4, [s1.heap.objs.size + 4, s1.heap.objs.size + 2, s1.heap.objs.size + 3, s1.heap.objs.size, s1.heap.objs.size + 1], _, _, H1, rfl, I2,
        turn_zipK k1 k2 a b _ _ _ _ _ xs ys (zip_sep2 (N := s1.heap.objs.size) (fp1 := [a]) (fp2 := [b]) (by simpa using la) (by simpa using lb)) (Nat.ne_of_lt la) (Nat.ne_of_lt (Nat.lt_succ_of_lt lb)), ⟨hz, hTI, ⟨_, _, hTO⟩, .of h1, .of h2⟩, fun c hcm => ?_, q⟩
      have e' : c = s1.heap.objs.size + 4 ∨ c = s1.heap.objs.size + 2 ∨ c = s1.heap.objs.size + 3 ∨ c = s1.heap.objs.size ∨ c = s1.heap.objs.size + 1 := by simpa using hcm
      have hle : s1.heap.objs.size ≤ c := by
        rcases e' with z | z | z | z | z
        · rw [z]; exact Nat.le_add_right _ _
        · rw [z]; exact Nat.le_add_right _ _
        · rw [z]; exact Nat.le_add_right _ _
        · rw [z]; exact Nat.le_refl _
        · rw [z]; exact Nat.le_add_right _ _
      exact I1.fpOk hle (I1.hok.fresh hle)
/-! ### by data -/
def seqD (k : Bool) (ds : List PD) : PD := if k then .tuple ds else .list ds
theorem dq_seq {H : Hp} {k : Bool} {v : V} {ds : List PD} (h : Dq H v (seqD k ds)) : ∃ a xs, v = .ref a ∧ (∀ K, Sq K k H a xs) ∧ Dqs H xs ds ∧ ∃ o, NT o ∧ H a = some o ∧ ∀ H' K, H' a = some o → Sq K k H' a xs := by
  cases k with
  | true =>
    cases h with
    | tup h1 h2 => exact ⟨_, _, rfl, fun K => SqT.of h1, h2, _, (fun _ z => by cases z), h1, fun H' K q => SqT.of q⟩
  | false =>
    cases h with
    | lst h1 h2 => exact ⟨_, _, rfl, fun K => SqL.of h1, h2, _, (fun _ z => by cases z), h1, fun H' K q => SqL.of q⟩
def enumD (ds : List PD) : List PD := (List.range ds.length).map fun i => .tuple [.int (i : Nat), ds.getD i .none]
def zipD (ds es : List PD) : List PD := (List.range (min ds.length es.length)).map fun i => .tuple [ds.getD i .none, es.getD i .none]
section
variable {X : Cx} {T : Tb} {S : AS} {ds es : List PD} {e e2 : Expr} {p pos tpos : Pos} {elts : List Expr} {kk : Nat} {k k2 : Bool}
theorem walkJ {F B : Hp} {n : Nat} {vs : Nat → List V} {G : Hp → Prop} {ds : List PD} {f : Nat → List PD} (hl : ds.length = n) (hd : ∀ i, i < n → ds[i]? = some (.tuple (f i))) (hv : ∀ i, i < n → Dqs F (vs i) (f i)) (hG : ∀ H, Xt B H → G H) : WalkD T F B ds (Jt n vs G) :=
  ⟨G, fun i H v H' => ∃ T, v = .ref T ∧ H T = none ∧ H' = upd H T (.tup (vs i)), ⟨fun i H hi g => ⟨g, by omega⟩, fun H g => ⟨g, by omega⟩, fun i H x H' hi g y => y⟩, hG, fun i H x H' hi e t ⟨T', hx, hT, hH⟩ => by
    subst hx hH
    refine ⟨⟨Xt.new hT, tabs_new t hT⟩, fun O c f' => ⟨_, hd i (by omega), dq_newT c hT ((hv i (by omega)).mv f')⟩⟩⟩
theorem getD_some {α : Type} {l : List α} {i : Nat} {d x : α} (h : l[i]? = some x) : l.getD i d = x := by rw [List.getD_eq_getElem?_getD, h]; rfl
theorem dqs_getD {H : Hp} {xs : List V} {ds : List PD} {i : Nat} (h : Dqs H xs ds) (hi : i < ds.length) : Dq H (xs.getD i .non) (ds.getD i .none) := by
  obtain ⟨v, h1, h2⟩ := h.get (i := i) (d := ds[i]) (by simp [hi])
  rw [getD_some h1, getD_some (show ds[i]? = some ds[i] by simp [hi])]
  exact h2
theorem di_enum (ha : DA X T [e] S [seqD k ds]) (hm : X.mg "enumerate" = none) (hg : Gl X "enumerate" := by rfl) (hs : starEach [e] X.env = [(false, eval e X.env)] := by rfl) : DI X T (.Tuple elts kk tpos) (.Call (.Name "enumerate" p) [e] [] pos) S (enumD ds) :=
  pi_of (pi_enumK hg hm ha hs) fun σ H R ⟨O0, H0, os, r, kk⟩ => ⟨O0, H0, os, r, fun vs H' g h => by
    cases h with
    | cons h1 h2 =>
      cases h2
      obtain ⟨a, xs, rfl, q1, q2, o, q3, q4, q5⟩ := dq_seq h1
      refine ⟨k, a, xs, rfl, q5 H' _ (fzl q4), kk _ H' g (walkJ (f := fun i => [.int (i : Nat), ds.getD i .none]) (by unfold enumD; simp [q2.length]) (fun i hi => ?_) (fun i hi => .cons (.int _) (.cons (dqs_getD q2 (by rw [← q2.length]; exact hi)) .nil)) fun H2 e2 => q5 H2 _ (e2 a o (fz_own q4) q3))⟩
      unfold enumD
      rw [List.getElem?_map, List.getElem?_range (by rw [← q2.length]; exact hi)]
      rfl⟩
theorem di_zip (ha : DA X T [e, e2] S [seqD k ds, seqD k2 es]) (hm : X.mg "zip" = none) (hg : Gl X "zip" := by rfl) (hs : starEach [e, e2] X.env = (false, eval e X.env) :: starEach [e2] X.env := by rfl) (hpl : (backTo pos (starEach [e2] X.env)).any (·.1) = false := by rfl) :
    DI X T (.Tuple elts kk tpos) (.Call (.Name "zip" p) [e, e2] [] pos) S (zipD ds es) :=
  pi_of (pi_zipK hg hm ha hs hpl) fun σ H R ⟨O0, H0, os, r, kk⟩ => ⟨O0, H0, os, r, fun vs H' g h => by
    cases h with
    | cons h1 h2 =>
      cases h2 with
      | cons h2 h3 =>
      cases h3
      obtain ⟨a, xs, rfl, q1, q2, o, q3, q4, q5⟩ := dq_seq h1
      obtain ⟨b, ys, rfl, p1, p2, o2, p3, p4, p5⟩ := dq_seq h2
      refine ⟨k, k2, a, b, xs, ys, rfl, q5 H' _ (fzl q4), p5 H' _ (fzl p4), kk _ H' g (walkJ (f := fun i => [ds.getD i .none, es.getD i .none]) (by unfold zipD; simp [q2.length, p2.length]) (fun i hi => ?_)
        (fun i hi => .cons (dqs_getD q2 (by rw [q2.length, p2.length] at hi; omega)) (.cons (dqs_getD p2 (by rw [q2.length, p2.length] at hi; omega)) .nil)) fun H2 e2 => ⟨q5 H2 _ (e2 a o (fz_own q4) q3), p5 H2 _ (e2 b o2 (fz_own p4) p3)⟩)⟩
      unfold zipD
      rw [List.getElem?_map, List.getElem?_range (by rw [q2.length, p2.length] at hi; exact hi)]
      rfl⟩
end
end DL

namespace DL
open PySem PySem.Spec PyProof.Rows L2

theorem hu100 {k : Nat} {A : Around} (hr : Room k A) : A.units + 100 < cLine := by have := hr.un; omega
/-! ### a state that says less, slot by slot -/
inductive LeL : AS → AS → Prop
  | nil : LeL [] []
  | keep {s : SV} {S S' : AS} : LeL S S' → LeL (s :: S) (s :: S')
  | drop {s : SV} {S S' : AS} : LeL S S' → LeL (s :: S) (un :: S')
  | frz {ds : List PD} {S S' : AS} : LeL S S' → LeL (own ds :: S) (dat (.list ds) :: S')
theorem LeL.len : ∀ {S S' : AS}, LeL S S' → S.length = S'.length
  | _, _, .nil => rfl
  | _, _, .keep h => by simp [h.len]
  | _, _, .drop h => by simp [h.len]
  | _, _, .frz h => by simp [h.len]
theorem LeL.keepE {s s' : SV} {S S' : AS} (e : s = s') (h : LeL S S') : LeL (s :: S) (s' :: S') := e ▸ .keep h
theorem LeL.le0 : ∀ {S S' : AS}, LeL S S' → ∀ P : AS, Le (P ++ S) (P ++ S')
  | _, _, .nil, P => Le.refl
  | _, _, .keep (s := s) (S := S) (S' := S') h, P => by
    have z := h.le0 (P ++ [s])
    simpa using z
  | _, _, .drop (s := s) (S := S) (S' := S') h, P => by
    have z := h.le0 (P ++ [un])
    refine Le.trans ?_ (by simpa using z)
    have q := le_un (S := P ++ s :: S) P.length
    simpa using q
  | _, _, .frz (ds := ds) (S := S) (S' := S') h, P => by
    have z := h.le0 (P ++ [dat (.list ds)])
    refine Le.trans ?_ (by simpa using z)
    have q := le_fr (S := P ++ own ds :: S) (ds := ds) P.length (by simp)
    simpa using q
theorem LeL.le {S S' : AS} (h : LeL S S') : Le S S' := h.le0 []

section
variable {X : Cx} {T : Tb} {S S' : AS} {d da db dr : PD} {ds es : List PD} {e a b : Expr} {pos p : Pos}
/-! ### conditional values -/
theorem de_ite {c : Expr} {k : Bool} (hc : DT X T c S k) (ha : k = true → DE X T a S da) (hb : k = false → DE X T b S db) : DE X T (.IfExp c a b pos) S (if k then da else db) := by
  refine de_if hc (fun h => ?_) (fun h => ?_)
  · rw [h]; exact ha h
  · rw [h]; exact hb h
/-! ### len, list, tuple -/
inductive LenD : PD → Int → Prop
  | list (ds : List PD) : LenD (.list ds) (ds.length : Nat)
  | tup (ds : List PD) : LenD (.tuple ds) (ds.length : Nat)
  | str (s : Str) (h : s.length ≤ sizeLine) : LenD (.str s) (s.length : Nat)
theorem de_len {n : Int} (hm : X.mg "len" = none) (he : DE X T e S d) (h : LenD d n) (hs : starEach [e] X.env = (false, eval e X.env) :: starEach [] X.env := by rfl) (hg : Gl X "len" := by rfl) : DE X T (.Call (.Name "len" p) [e] [] pos) S (.int n) := by
  have ha : DA X T [e] S [d] := da_cons he da_nil hs
  cases h with
  | list ds =>
    refine de_callB call_len_seq (fun O H vs Q c hv k => ?_) hm ha (by decide +kernel) hg (by decide) (by decide) hs (by rfl)
    cases hv with
    | cons h1 h2 =>
      cases h2
      cases h1 with
      | lst q1 q2 => exact ⟨_, _, rfl, .inl (SqL.of (fzl q1)), by rw [q2.length]; exact k _ _ c.refl (.int _)⟩
  | tup ds =>
    refine de_callB call_len_seq (fun O H vs Q c hv k => ?_) hm ha (by decide +kernel) hg (by decide) (by decide) hs (by rfl)
    cases hv with
    | cons h1 h2 =>
      cases h2
      cases h1 with
      | tup q1 q2 => exact ⟨_, _, rfl, .inr (SqT.of (fzl q1)), by rw [q2.length]; exact k _ _ c.refl (.int _)⟩
  | str s h =>
    refine de_callB call_len_str (fun O H vs Q c hv k => ?_) hm ha (by decide +kernel) hg (by decide) (by decide) hs (by rfl)
    cases hv with
    | cons h1 h2 =>
      cases h2
      cases h1
      exact ⟨s, rfl, h, k _ _ c.refl (.int _)⟩
theorem dn_list {k : Bool} (hm : X.mg "list" = none) (he : DE X T e S (seqD k ds)) (hs : starEach [e] X.env = (false, eval e X.env) :: starEach [] X.env := by rfl) (hg : Gl X "list" := by rfl) : DN X T (.Call (.Name "list" p) [e] [] pos) S ds := by
  refine dn_callTy call_list_of (fun O H vs Q c hv kk => ?_) hm (da_cons he da_nil hs) (by decide +kernel) hg (by decide) (by decide) hs (by rfl)
  cases hv with
  | cons h1 h2 =>
    cases h2
    obtain ⟨a, xs, rfl, q1, q2, o, q3, q4, q5⟩ := dq_seq h1
    refine ⟨a, xs, rfl, ?_, fun l hl => kk l _ _ (.of hl) (c.new hl) upd_same (q2.mv (fz_add hl))⟩
    cases k with
    | true => exact .inr (q5 H X.K (fzl q4))
    | false => exact .inl (q5 H X.K (fzl q4))
theorem dn_listL (hm : X.mg "list" = none) (he : DE X T e S (.list ds)) (hs : starEach [e] X.env = (false, eval e X.env) :: starEach [] X.env := by rfl) (hg : Gl X "list" := by rfl) : DN X T (.Call (.Name "list" p) [e] [] pos) S ds := dn_list (k := false) hm he hs hg
theorem dn_listT (hm : X.mg "list" = none) (he : DE X T e S (.tuple ds)) (hs : starEach [e] X.env = (false, eval e X.env) :: starEach [] X.env := by rfl) (hg : Gl X "list" := by rfl) : DN X T (.Call (.Name "list" p) [e] [] pos) S ds := dn_list (k := true) hm he hs hg
theorem dn_listR {n : Int} {p2 p3 : Pos} (hm : X.mg "list" = none) (hm2 : X.mg "range" = none) (hc : X.calm = true) (he : DE X T e S (.int n)) (h : 0 ≤ n ∧ n ≤ 16777216) (hs : starEach [e] X.env = (false, eval e X.env) :: starEach [] X.env := by rfl)
    (hs2 : starEach [.Call (.Name "range" p2) [e] [] p3] X.env = (false, eval (.Call (.Name "range" p2) [e] [] p3) X.env) :: starEach [] X.env := by rfl) (hg : Gl X "list" := by rfl) (hg2 : Gl X "range" := by rfl) :
    DN X T (.Call (.Name "list" p) [.Call (.Name "range" p2) [e] [] p3] [] pos) S (upTo n.toNat) := pe_of (pe_listRg hc hg hm (prg_1 hg2 hm2 he hs) hs2) fun σ H Q ⟨O0, H0, os, r, kk⟩ => ⟨O0, H0, os, r, fun v H' g h => by
  cases h
  refine ⟨n, rfl, .of_le (by omega) h.2 (by omega) (by omega), fun q hq => kk q _ _ ((Nw.of hq).back g.ext) (g.trans ((r.gr g).ec.new hq)) upd_same ?_⟩
  unfold rgV upTo
  rw [Int.sub_zero]
  generalize n.toNat = m
  have z : ∀ (f : Nat → Nat) (m : Nat), Dqs (fz (fun a => Ow O0 os a ∨ a = q) (upd H' q (.lst ((List.range n.toNat).map fun i => V.int (0 + (i : Nat)))))) ((List.range m).map fun i => V.int (0 + (f i : Nat))) ((List.range m).map fun i => PyData.int (f i : Nat)) := by
    intro f m
    induction m generalizing f with
    | zero => exact .nil
    | succ m ih =>
      rw [List.range_succ_eq_map, List.map_cons, List.map_cons, List.map_map, List.map_map]
      exact .cons (by rw [Int.zero_add]; exact .int _) (ih (fun i => f (i + 1)))
  have q2 := z id m
  exact q2.mv (fun a o q n => by
    obtain ⟨q1, q2⟩ := fz_some q
    rw [fz_out q1]
    rw [upd_ne (fun e => q1 (.inr e))] at q2 ⊢
    exact q2)⟩
theorem de_tupleL (hm : X.mg "tuple" = none) (he : DE X T e S (.list ds)) (hs : starEach [e] X.env = (false, eval e X.env) :: starEach [] X.env := by rfl) (hg : Gl X "tuple" := by rfl) : DE X T (.Call (.Name "tuple" p) [e] [] pos) S (.tuple ds) := by
  refine de_callTy call_tuple_of (fun O H vs Q c hv k => ?_) hm (da_cons he da_nil hs) (by decide +kernel) hg (by decide) (by decide) hs (by rfl)
  cases hv with
  | cons h1 h2 =>
    cases h2
    cases h1 with
    | lst q1 q2 => exact ⟨_, _, rfl, .inl ⟨SqL.of (fzl q1), fun l hl => k _ _ (c.new hl) (dq_newT c hl q2)⟩⟩
theorem de_tupleT (hm : X.mg "tuple" = none) (he : DE X T e S (.tuple ds)) (hs : starEach [e] X.env = (false, eval e X.env) :: starEach [] X.env := by rfl) (hg : Gl X "tuple" := by rfl) : DE X T (.Call (.Name "tuple" p) [e] [] pos) S (.tuple ds) := by
  refine de_callTy call_tuple_of (fun O H vs Q c hv k => ?_) hm (da_cons he da_nil hs) (by decide +kernel) hg (by decide) (by decide) hs (by rfl)
  cases hv with
  | cons h1 h2 =>
    cases h2
    cases h1 with
    | tup q1 q2 => exact ⟨_, _, rfl, .inr ⟨SqT.of (fzl q1), k _ _ c.refl (.tup q1 q2)⟩⟩
/-- tuple(x), x an own list -/
theorem de_tupleO {x : Str} {p2 : Pos} (i : Nat) (hm : X.mg "tuple" = none) (hi : S[i]? = some (own ds) := by rfl) (hN : X.N[i]? = some x := by rfl) (hv : Vis X.env.scope x := by first | exact Or.inl rfl | exact Or.inr (Or.inl rfl) | exact Or.inr (Or.inr rfl)) (hd : (x == ("__debug__" : Str)) = false := by decide)
    (hcd : (x == ("__classdict__" : Str)) = false := by decide) (hs : starEach [.Name x p2] X.env = (false, eval (.Name x p2) X.env) :: starEach [] X.env := by rfl) (hg : Gl X "tuple" := by rfl) : DE X T (.Call (.Name "tuple" p) [.Name x p2] [] pos) S (.tuple ds) :=
  pe_of (pe_callTy call_tuple_of hg hm (by decide +kernel) (pa_cons (pe_var hN hv hd hcd) pa_nil hs) (by decide) (by decide) hs (by rfl)) fun σ H Q ⟨O0, H0, os, r, k⟩ => by
    obtain ⟨v, h1, a, xs, h2, rfl, h3, h4⟩ := r.rep i _ hi
    exact ⟨_, h1, a, xs, rfl, .inl ⟨SqL.of h3, fun l hl => k _ _ (r.ec.new hl) (dq_newT r.ec hl h4)⟩⟩
/-- list(x), x an own list -/
theorem dn_listO {x : Str} {p2 : Pos} (i : Nat) (hm : X.mg "list" = none) (hi : S[i]? = some (own ds) := by rfl) (hN : X.N[i]? = some x := by rfl) (hv : Vis X.env.scope x := by first | exact Or.inl rfl | exact Or.inr (Or.inl rfl) | exact Or.inr (Or.inr rfl)) (hd : (x == ("__debug__" : Str)) = false := by decide)
    (hcd : (x == ("__classdict__" : Str)) = false := by decide) (hs : starEach [.Name x p2] X.env = (false, eval (.Name x p2) X.env) :: starEach [] X.env := by rfl) (hg : Gl X "list" := by rfl) : DN X T (.Call (.Name "list" p) [.Name x p2] [] pos) S ds :=
  pe_of (pe_callTy call_list_of hg hm (by decide +kernel) (pa_cons (pe_var hN hv hd hcd) pa_nil hs) (by decide) (by decide) hs (by rfl)) fun σ H Q ⟨O0, H0, os, r, k⟩ => by
    obtain ⟨v, h1, a, xs, h2, rfl, h3, h4⟩ := r.rep i _ hi
    exact ⟨_, h1, a, xs, rfl, .inl (SqL.of h3), fun l hl => k l _ _ (.of hl) (r.ec.new hl) upd_same (h4.mv (fz_add hl))⟩
/-! ### numbers -/
theorem de_callB1 {id : String} {x : Str} {r : List V → Hp → VK → Prop} (hc : CallR X (.builtin id) r) (hm : X.mg x = none) (he : DE X T e S da) (hs' : CS T r [da] d) (hv : bootBuiltins x = some (.builtin id) := by decide +kernel) (hs : starEach [e] X.env = (false, eval e X.env) :: starEach [] X.env := by rfl) (hg : Gl X x := by rfl) (hn : x ≠ "__name__" := by decide) (hdb : (x == ("__debug__" : Str)) = false := by decide) :
    DE X T (.Call (.Name x p) [e] [] pos) S d := de_callB hc hs' hm (da_cons he da_nil hs) hv hg hn hdb hs (by rfl)
theorem de_callTy1 {id : String} {x : Str} {r : List V → Hp → VK → Prop} (hc : CallR X (.type id) r) (hm : X.mg x = none) (he : DE X T e S da) (hs' : CS T r [da] d) (hv : bootBuiltins x = some (.type id) := by decide +kernel) (hs : starEach [e] X.env = (false, eval e X.env) :: starEach [] X.env := by rfl) (hg : Gl X x := by rfl) (hn : x ≠ "__name__" := by decide) (hdb : (x == ("__debug__" : Str)) = false := by decide) :
    DE X T (.Call (.Name x p) [e] [] pos) S d := de_callTy hc hs' hm (da_cons he da_nil hs) hv hg hn hdb hs (by rfl)
theorem de_abs {i : Int} (hm : X.mg "abs" = none) (he : DE X T e S (.int i)) (hs : starEach [e] X.env = (false, eval e X.env) :: starEach [] X.env := by rfl) (hg : Gl X "abs" := by rfl) : DE X T (.Call (.Name "abs" p) [e] [] pos) S (.int (if i < 0 then -i else i)) :=
  de_callB1 call_abs hm he (fun O H vs Q c hv k => by
    cases hv with
    | cons h1 h2 => cases h2; cases h1; exact ⟨i, rfl, k _ _ c.refl (.int _)⟩) (by decide +kernel) hs hg (by decide) (by decide)
theorem de_intb {k : Bool} (hm : X.mg "int" = none) (he : DE X T e S (.bool k)) (hs : starEach [e] X.env = (false, eval e X.env) :: starEach [] X.env := by rfl) (hg : Gl X "int" := by rfl) : DE X T (.Call (.Name "int" p) [e] [] pos) S (.int (if k then 1 else 0)) :=
  de_callTy1 call_int1 hm he (fun O H vs Q c hv kk => by
    cases hv with
    | cons h1 h2 => cases h2; cases h1; exact .inr ⟨k, rfl, kk _ _ c.refl (.int _)⟩) (by decide +kernel) hs hg (by decide) (by decide)
theorem de_max2 {i j : Int} (hm : X.mg "max" = none) (hc : X.calm = true) (ha : DE X T a S (.int i)) (hb : DE X T b S (.int j)) (hs : starEach [a, b] X.env = (false, eval a X.env) :: starEach [b] X.env := by rfl) (hs2 : starEach [b] X.env = (false, eval b X.env) :: starEach [] X.env := by rfl) (hpl : (backTo pos (starEach [b] X.env)).any (·.1) = false := by rfl) (hg : Gl X "max" := by rfl) :
    DE X T (.Call (.Name "max" p) [a, b] [] pos) S (.int (if j > i then j else i)) :=
  de_callB (call_max2 hc) (fun O H vs Q c hv k => by
    cases hv with
    | cons h1 h2 => cases h2 with
      | cons h2 h3 => cases h3; cases h1; cases h2; exact ⟨i, j, rfl, k _ _ c.refl (.int _)⟩) hm (da_cons ha (da_cons hb da_nil hs2) hs) (by decide +kernel) hg (by decide) (by decide) hs hpl
theorem de_min2 {i j : Int} (hm : X.mg "min" = none) (hc : X.calm = true) (ha : DE X T a S (.int i)) (hb : DE X T b S (.int j)) (hs : starEach [a, b] X.env = (false, eval a X.env) :: starEach [b] X.env := by rfl) (hs2 : starEach [b] X.env = (false, eval b X.env) :: starEach [] X.env := by rfl) (hpl : (backTo pos (starEach [b] X.env)).any (·.1) = false := by rfl) (hg : Gl X "min" := by rfl) :
    DE X T (.Call (.Name "min" p) [a, b] [] pos) S (.int (if j < i then j else i)) :=
  de_callB (call_min2 hc) (fun O H vs Q c hv k => by
    cases hv with
    | cons h1 h2 => cases h2 with
      | cons h2 h3 => cases h3; cases h1; cases h2; exact ⟨i, j, rfl, k _ _ c.refl (.int _)⟩) hm (da_cons ha (da_cons hb da_nil hs2) hs) (by decide +kernel) hg (by decide) (by decide) hs hpl
theorem dqs_ints {H : Hp} : ∀ {ns : List Int} {xs : List V}, Dqs H xs (ns.map PyData.int) → xs = ns.map V.int
  | [], _, h => by cases h; rfl
  | n :: ns, _, h => by
    cases h with
    | cons h1 h2 => cases h1; rw [dqs_ints h2]; rfl
theorem ints_dqs {H : Hp} : ∀ ns : List Int, Dqs H (ns.map V.int) (ns.map PyData.int)
  | [] => .nil
  | n :: ns => .cons (.int n) (ints_dqs ns)
theorem dqs_bools {H : Hp} : ∀ {ns : List Bool} {xs : List V}, Dqs H xs (ns.map PyData.bool) → xs = ns.map V.bl
  | [], _, h => by cases h; rfl
  | n :: ns, _, h => by
    cases h with
    | cons h1 h2 => cases h1; rw [dqs_bools h2]; rfl
theorem dqs_strs {H : Hp} : ∀ {ns : List Str} {xs : List V}, Dqs H xs (ns.map PyData.str) → xs = ns.map V.str
  | [], _, h => by cases h; rfl
  | n :: ns, _, h => by
    cases h with
    | cons h1 h2 => cases h1; rw [dqs_strs h2]; rfl
theorem strs_dqs {H : Hp} : ∀ ns : List Str, Dqs H (ns.map V.str) (ns.map PyData.str)
  | [] => .nil
  | n :: ns => .cons (.str n) (strs_dqs ns)
theorem de_all {bs : List Bool} (hm : X.mg "all" = none) (hc : X.calm = true) (he : DE X T e S (.list (bs.map .bool))) (hs : starEach [e] X.env = (false, eval e X.env) :: starEach [] X.env := by rfl) (hg : Gl X "all" := by rfl) : DE X T (.Call (.Name "all" p) [e] [] pos) S (.bool (bs.all id)) :=
  de_callB1 (cr_all hc) hm he (fun O H vs Q c hv k => by
    cases hv with
    | cons h1 h2 =>
      cases h2
      cases h1 with
      | lst q1 q2 =>
        have e := dqs_bools q2
        subst e
        exact ⟨_, bs, rfl, SqL.of (fzl q1), k _ _ c.refl (.bl _)⟩) (by decide +kernel) hs hg (by decide) (by decide)
theorem de_sum {ns : List Int} (hm : X.mg "sum" = none) (hc : X.calm = true) (he : DE X T e S (.list (ns.map .int))) (hs : starEach [e] X.env = (false, eval e X.env) :: starEach [] X.env := by rfl) (hg : Gl X "sum" := by rfl) : DE X T (.Call (.Name "sum" p) [e] [] pos) S (.int ns.sum) :=
  de_callB1 (cr_sum hc) hm he (fun O H vs Q c hv k => by
    cases hv with
    | cons h1 h2 =>
      cases h2
      cases h1 with
      | lst q1 q2 =>
        have e := dqs_ints q2
        subst e
        exact ⟨_, ns, rfl, SqL.of (fzl q1), k _ _ c.refl (.int _)⟩) (by decide +kernel) hs hg (by decide) (by decide)
def sortI (ns : List Int) : List Int := ns.mergeSort (fun a b => decide (a ≤ b))
theorem sortI_eq {ns ms : List Int} (h : ms.Perm ns) (p : ms.Pairwise (· ≤ ·)) : ms = sortI ns := by
  have q : (sortI ns).Pairwise (· ≤ ·) := by
    have z := List.pairwise_mergeSort (le := fun a b : Int => decide (a ≤ b)) (fun a b c h1 h2 => by simp only [decide_eq_true_eq] at *; omega) (fun a b => by simp only [Bool.or_eq_true, decide_eq_true_eq]; omega) ns
    exact z.imp (fun h => by simpa using h)
  exact List.Perm.eq_of_pairwise (fun a b _ _ h1 h2 => by omega) p q (h.trans (List.mergeSort_perm ns _).symm)
theorem dn_sortI {ns : List Int} (hm : X.mg "sorted" = none) (he : DE X T e S (.list (ns.map .int))) (hs : starEach [e] X.env = (false, eval e X.env) :: starEach [] X.env := by rfl) (hg : Gl X "sorted" := by rfl) : DN X T (.Call (.Name "sorted" p) [e] [] pos) S ((sortI ns).map .int) :=
  dn_callB cr_sortedI (fun O H vs Q c hv k => by
    cases hv with
    | cons h1 h2 =>
      cases h2
      cases h1 with
      | lst q1 q2 =>
        have e := dqs_ints q2
        subst e
        exact ⟨_, ns, rfl, SqL.of (fzl q1), fun ms l h1 h2 hl => k l _ _ (.of hl) (c.new hl) upd_same (by rw [← sortI_eq h1 h2]; exact ints_dqs ms)⟩) hm (da_cons he da_nil hs) (by decide +kernel) hg (by decide) (by decide) hs (by rfl)
/-! ### isinstance -/
def tyD : PD → String
  | .none => "NoneType"
  | .bool _ => "bool"
  | .int _ => "int"
  | .str _ => "str"
  | .list _ => "list"
  | .tuple _ => "tuple"
  | .dict _ => "dict"
def isiD (d : PD) (n : String) : Bool := tyD d == n || (n == "int" && tyD d == "bool")
theorem dq_ty {K : Fr} {H : Hp} {x : V} {d : PD} (h : Dq H x d) : TyX K H x (.type (tyD d)) := by
  cases h with
  | non => exact .base .non
  | bl b => exact .base (.bl b)
  | int i => exact .base (.int i)
  | str s => exact .base (.str s)
  | lst h _ => exact .base (.lst h)
  | tup h _ => exact .base (.tup h)
theorem kit_all : ∀ t ∈ ["NoneType", "bool", "int", "str", "list", "tuple"], ∀ n ∈ ["int", "bool", "str", "tuple", "list"], kitB t n = some (t == n || (n == "int" && t == "bool")) := by decide +kernel
theorem kit_isi {K : Fr} {n : String} (d : PD) (hn : n = "int" ∨ n = "bool" ∨ n = "str" ∨ n = "tuple" ∨ n = "list") (hd : ∀ kvs, d ≠ .dict kvs) : PySem.W.kitOne K (.type (tyD d)) (.type n) = some (isiD d n) := by
  refine kit_ty ?_
  have ht : tyD d ∈ ["NoneType", "bool", "int", "str", "list", "tuple"] := by
    cases d <;> first | (exact absurd rfl (hd _)) | (simp [tyD])
  have h2 : n ∈ ["int", "bool", "str", "tuple", "list"] := by simpa using hn
  exact kit_all _ ht _ h2
theorem de_isi {x : Str} {n : String} {p2 : Pos} (hm : X.mg "isinstance" = none) (hm2 : X.mg x = none) (he : DE X T e S d) (hv : bootBuiltins x = some (.type n)) (hn : n = "int" ∨ n = "bool" ∨ n = "str" ∨ n = "tuple" ∨ n = "list") (hs : starEach [e, .Name x p2] X.env = (false, eval e X.env) :: starEach [.Name x p2] X.env := by rfl)
    (hs2 : starEach [.Name x p2] X.env = (false, eval (.Name x p2) X.env) :: starEach [] X.env := by rfl) (hpl : (backTo pos (starEach [.Name x p2] X.env)).any (·.1) = false := by rfl) (hg : Gl X "isinstance" := by rfl) (hg2 : Gl X x := by rfl) (hnn : x ≠ "__name__" := by decide) (hdb : (x == ("__debug__" : Str)) = false := by decide) :
    DE X T (.Call (.Name "isinstance" p) [e, .Name x p2] [] pos) S (.bool (isiD d n)) :=
  pe_of (pe_callB call_isi hg hm (by decide +kernel) (pa_cons he (pa_cons (pe_bltn (v := .ty n) hg2 hm2 hv rfl hnn hdb) pa_nil hs2) hs) (by decide) (by decide) hs hpl) fun σ H Q ⟨O0, H0, os, r, k⟩ => ⟨O0, H0, os, r, fun v H' g h =>
    ⟨v, .ty n, .type (tyD d), .type n, isiD d n, rfl, .ty n, dq_ty (h.mv fz_sub), kit_isi d hn (fun kvs e => by subst e; cases h), k _ _ g (.bl _)⟩⟩
/-! ### items, slices -/
def IX (X : Cx) (T : Tb) (a b d : PD) : Prop := ∃ r, IxR X r ∧ OS T r a b d
theorem de_ix (ha : DE X T a S da) (hb : DE X T b S db) (ho : IX X T da db d) (hs : PlainIx b := by exact fun _ _ => rfl) : DE X T (.Subscript a b pos) S d := by
  obtain ⟨r, hr, hs'⟩ := ho
  exact pe_of (pe_ix hr ha hb hs) fun σ H Q ⟨O0, H0, os, q, k⟩ => ⟨O0, H0, os, q, fun x H1 g1 h1 => ⟨O0, H0, os, q.gr g1, fun y H2 g2 h2 => hs' _ H2 x y Q ((q.gr g1).gr g2).ec (h1.mv (fz_ext g2.ext)) h2 fun v H' g h => k v H' ((g1.trans g2).trans g) h⟩⟩
theorem dqs_atI {H : Hp} {xs : List V} {i : Int} (h : Dqs H xs ds) (hi : atI ds i = some d) : ∃ v, atI xs i = some v ∧ Dq H v d := by
  unfold atI at hi ⊢
  rw [h.length]
  cases e : ixN ds.length i with
  | none => rw [e] at hi; cases hi
  | some j => rw [e] at hi; exact h.get hi
theorem ix_t {i : Int} (h : atI ds i = some d) : IX X T (.tuple ds) (.int i) d := ⟨_, ix_tup, fun O H x y Q c hx hy k => by
  cases hx with
  | tup h1 h2 =>
    cases hy
    obtain ⟨v, e1, e2⟩ := dqs_atI h2 h
    exact ⟨_, _, i, v, rfl, rfl, SqT.of (fzl h1), e1, k _ _ c.refl e2⟩⟩
theorem ix_l {i : Int} (h : atI ds i = some d) : IX X T (.list ds) (.int i) d := ⟨_, ix_list, fun O H x y Q c hx hy k => by
  cases hx with
  | lst h1 h2 =>
    cases hy
    obtain ⟨v, e1, e2⟩ := dqs_atI h2 h
    exact ⟨_, _, i, v, rfl, rfl, SqL.of (fzl h1), e1, k _ _ c.refl e2⟩⟩
theorem ix_s {i : Int} {s : Str} {c : Nat} (hl : s.length ≤ sizeLine) (h : atI s.cps.toList i = some c) : IX X T (.str s) (.int i) (.str ⟨#[c]⟩) := ⟨_, ix_str, fun O H x y Q cc hx hy k => by
  cases hx
  cases hy
  exact ⟨s, i, c, rfl, rfl, hl, h, k _ _ cc.refl (.str _)⟩⟩
/-- an item of an own list -/
theorem de_ixO {x : Str} {p2 : Pos} {i : Int} (j : Nat) (hb : DE X T b S (.int i)) (h : atI ds i = some d) (hi : S[j]? = some (own ds) := by rfl) (hN : X.N[j]? = some x := by rfl) (hv : Vis X.env.scope x := by first | exact Or.inl rfl | exact Or.inr (Or.inl rfl) | exact Or.inr (Or.inr rfl)) (hd : (x == ("__debug__" : Str)) = false := by decide)
    (hcd : (x == ("__classdict__" : Str)) = false := by decide) (hs : PlainIx b := by exact fun _ _ => rfl) : DE X T (.Subscript (.Name x p2) b pos) S d :=
  pe_of (pe_ix ix_list (pe_var hN hv hd hcd) hb hs) fun σ H Q ⟨O0, H0, os, r, k⟩ => by
    obtain ⟨v, h1, a, xs, h2, rfl, h3, h4⟩ := r.rep j _ hi
    refine ⟨_, h1, O0, H0, os, r, fun y H2 g2 hy => ?_⟩
    cases hy
    obtain ⟨v, e1, e2⟩ := dqs_atI h4 h
    exact ⟨a, xs, i, v, rfl, rfl, SqL.of (g2.ext _ _ h3 fun _ z => by cases z), e1, k _ _ g2 (e2.mv (fz_ext g2.ext))⟩
def tO (T : Tb) (S : AS) (o : Option Int) : TO := fun σ H Q => ∃ O0 H0 os, RpO T O0 H0 os S σ H ∧ ∀ H', Gr T H H' → Q o H'
abbrev DO (X : Cx) (T : Tb) (o : Option Expr) (S : AS) (v : Option Int) : Prop := PO X o (tO T S v)
theorem do_none : DO X T none S none := ⟨fun pins s σ H Q I ⟨O0, H0, os, r, k⟩ => po_none.run pins s σ H Q I (k H r.ec.refl)⟩
theorem do_some {i : Int} (h : DE X T e S (.int i)) : DO X T (some e) S (some i) := ⟨fun pins s σ H Q I ⟨O0, H0, os, r, k⟩ => (po_some h).run pins s σ H Q I ⟨O0, H0, os, r, fun v H' g q => by cases q; exact ⟨i, rfl, k H' g⟩⟩⟩
def cutD (ds : List PD) (lo hi : Option Int) : List PD := (ds.drop (HT.sIx ds.length 0 lo)).take (HT.sIx ds.length ds.length hi - HT.sIx ds.length 0 lo)
theorem dqs_cut {H : Hp} {xs : List V} (h : Dqs H xs ds) (lo hi : Option Int) : Dqs H (cutV xs lo hi) (cutD ds lo hi) := by
  unfold cutV cutD
  rw [h.length]
  exact (h.drop _).take _
theorem dn_slL {lo hi : Option Expr} {l u : Option Int} {p2 : Pos} (ha : DE X T a S (.list ds)) (hl : DO X T lo S l) (hu : DO X T hi S u) : DN X T (.Subscript a (.Slice lo hi none p2) pos) S (cutD ds l u) :=
  pe_of (pe_slice sl_list ha hl hu) fun σ H Q ⟨O0, H0, os, r, k⟩ => ⟨O0, H0, os, r, fun x H1 g1 h1 => ⟨O0, H0, os, r.gr g1, fun H2 g2 => ⟨O0, H0, os, (r.gr g1).gr g2, fun H3 g3 => by
    cases h1 with
    | lst q1 q2 =>
      have g := (g2.trans g3).ext
      exact ⟨_, _, rfl, SqL.of (g _ _ (fzl q1) fun _ z => by cases z), fun p hp => k p _ _ ((Nw.of hp).back ((g1.trans g2).trans g3).ext) (((g1.trans g2).trans g3).trans ((((r.gr g1).gr g2).gr g3).ec.new hp)) upd_same (((dqs_cut q2 l u).mv (fz_ext g)).mv (fz_add hp))⟩⟩⟩⟩
theorem de_slT {lo hi : Option Expr} {l u : Option Int} {p2 : Pos} (ha : DE X T a S (.tuple ds)) (hl : DO X T lo S l) (hu : DO X T hi S u) : DE X T (.Subscript a (.Slice lo hi none p2) pos) S (.tuple (cutD ds l u)) :=
  pe_of (pe_slice sl_tupA ha hl hu) fun σ H Q ⟨O0, H0, os, r, k⟩ => ⟨O0, H0, os, r, fun x H1 g1 h1 => ⟨O0, H0, os, r.gr g1, fun H2 g2 => ⟨O0, H0, os, (r.gr g1).gr g2, fun H3 g3 => by
    cases h1 with
    | tup q1 q2 =>
      rename_i b xs
      have g := (g2.trans g3).ext
      refine ⟨_, _, rfl, SqT.of (g _ _ (fzl q1) fun _ z => by cases z), fun ⟨e1, e2⟩ => ?_, fun _ p hp => k _ _ (((g1.trans g2).trans g3).trans ((((r.gr g1).gr g2).gr g3).ec.new hp)) (dq_newT (((r.gr g1).gr g2).gr g3).ec hp ((dqs_cut q2 l u).mv (fz_ext g)))⟩
      refine k _ _ ((g1.trans g2).trans g3) ?_
      have e : cutD ds l u = ds := by
        unfold cutD
        rw [q2.length] at e1 e2
        rw [e1, e2]
        simp
      rw [e]
      exact (Dq.tup q1 q2).mv (fz_ext g)⟩⟩⟩
theorem de_slS {lo hi : Option Expr} {l u : Option Int} {p2 : Pos} {s : Str} (ha : DE X T a S (.str s)) (hl : DO X T lo S l) (hu : DO X T hi S u) (hz : s.length ≤ sizeLine) : DE X T (.Subscript a (.Slice lo hi none p2) pos) S (.str (cutS s l u)) :=
  pe_of (pe_slice sl_str ha hl hu) fun σ H Q ⟨O0, H0, os, r, k⟩ => ⟨O0, H0, os, r, fun x H1 g1 h1 => ⟨O0, H0, os, r.gr g1, fun H2 g2 => ⟨O0, H0, os, (r.gr g1).gr g2, fun H3 g3 => by
    cases h1
    exact ⟨s, rfl, hz, k _ _ ((g1.trans g2).trans g3) (.str _)⟩⟩⟩⟩
end
end DL

namespace DL
open PySem PySem.Spec PyProof.Rows L2

section
variable {X : Cx} {T : Tb} {EX : XK} {S S' : AS} {E : En} {d da db : PD} {ds es : List PD} {e a b c : Expr} {pos : Pos} {s s1 s2 s3 : SV} {ss : AS}
/-- x = a new thing -/
theorem ds_asgV {x : Str} {p : Pos} (i : Nat) (he : DV X T e S s) (k : E.nx (S.set i s)) (hi : i < S.length) (nd : X.N.Nodup) (hN : X.N[i]? = some x := by rfl) (hx : Loc X.env.scope x := by first | exact Or.inl rfl | exact Or.inr rfl)
    (hs : swapsWith e (some (.Name x p)) pos.line X.env = pure false := by rfl) (hf : X.fn x = true ∨ X.env.scope.names.lookup x = some .local := by first | exact .inl rfl | exact .inr rfl) : DS X T EX (.Assign [.Name x p] e pos) S E :=
  ps_of (ps_set (i := i) nd hN hx he hs hf) fun D σ H ⟨O0, H0, os, r, l⟩ => ⟨O0, H0, os, r, fun v o H' g n => l.nx _ _ _ k (r.set_vs g n (is := [i]) rfl (by simpa using hi))⟩
theorem ds_parV {x y : Str} {px py pt pt2 : Pos} {kt k2 : Nat} (i j : Nat) (ha : DVA X T [a, b] S [s1, s2]) (k : E.nx ((S.set i s1).set j s2)) (hc : X.calm = true) (nd : X.N.Nodup) (hij : i ≠ j) (hiS : i < S.length) (hjS : j < S.length) (hi : X.N[i]? = some x := by rfl) (hj : X.N[j]? = some y := by rfl)
    (hx : X.env.scope.names.lookup x = some .local := by rfl) (hy : X.env.scope.names.lookup y = some .local := by rfl)
    (hw : swappedStores [.Tuple [.Name x px, .Name y py] kt pt] (.Tuple [a, b] k2 pt2) X.env = pure (some [x, y]) := by rfl)
    (hs : swapsWithSole [.Tuple [.Name x px, .Name y py] kt pt] (.Tuple [a, b] k2 pt2) pos.line X.env = pure false := by rfl) : DS X T EX (.Assign [.Tuple [.Name x px, .Name y py] kt pt] (.Tuple [a, b] k2 pt2) pos) S E :=
  ps_of (ps_par hc nd hi hj hij hx hy ha hw hs) fun D σ H ⟨O0, H0, os, r, l⟩ => ⟨O0, H0, os, r, fun vs oss H' g n => by
    have hl := vsR_len n.rep
    match vs, hl with
    | [v, w], _ => exact ⟨v, w, rfl, l.nx _ _ _ k (r.set_vs g n (is := [i, j]) rfl (by simp [hiS, hjS]))⟩⟩
theorem ds_parV3 {x y z : Str} {px py pz pt pt2 : Pos} {kt k2 : Nat} (i j l : Nat) (ha : DVA X T [a, b, c] S [s1, s2, s3]) (k : E.nx (((S.set i s1).set j s2).set l s3)) (hc : X.calm = true) (nd : X.N.Nodup) (hij : i ≠ j) (hil : i ≠ l) (hjl : j ≠ l) (hiS : i < S.length) (hjS : j < S.length) (hlS : l < S.length) (hi : X.N[i]? = some x := by rfl) (hj : X.N[j]? = some y := by rfl) (hl : X.N[l]? = some z := by rfl)
    (hx : X.env.scope.names.lookup x = some .local := by rfl) (hy : X.env.scope.names.lookup y = some .local := by rfl) (hz : X.env.scope.names.lookup z = some .local := by rfl)
    (hw : swappedStores [.Tuple [.Name x px, .Name y py, .Name z pz] kt pt] (.Tuple [a, b, c] k2 pt2) X.env = pure (some [x, y, z]) := by rfl)
    (hs : swapsWithSole [.Tuple [.Name x px, .Name y py, .Name z pz] kt pt] (.Tuple [a, b, c] k2 pt2) pos.line X.env = pure false := by rfl) : DS X T EX (.Assign [.Tuple [.Name x px, .Name y py, .Name z pz] kt pt] (.Tuple [a, b, c] k2 pt2) pos) S E :=
  ps_of (ps_par3 hc nd hi hj hl hij hil hjl hx hy hz ha hw hs) fun D σ H ⟨O0, H0, os, r, ll⟩ => ⟨O0, H0, os, r, fun vs oss H' g n => by
    have hl := vsR_len n.rep
    match vs, hl with
    | [u, v, w], _ => exact ⟨u, v, w, rfl, ll.nx _ _ _ k (r.set_vs g n (is := [i, j, l]) rfl (by simp [hiS, hjS, hlS]))⟩⟩
/-- return x, x one's own -/
theorem ds_retV {x : Str} {p : Pos} (i : Nat) (k : E.rv s) (hv : ∀ F H o v, s.rep F H o v → ∃ a, o = [a] ∧ v = some (.ref a)) (hi : S[i]? = some s := by rfl) (hN : X.N[i]? = some x := by rfl) (hvis : Vis X.env.scope x := by first | exact Or.inl rfl | exact Or.inr (Or.inl rfl) | exact Or.inr (Or.inr rfl)) (hd : (x == ("__debug__" : Str)) = false := by decide)
    (hcd : (x == ("__classdict__" : Str)) = false := by decide) : DS X T EX (.Return (some (.Name x p)) pos) S E :=
  ps_of (ps_ret (pe_var hN hvis hd hcd)) fun D σ H ⟨O0, H0, os, r, l⟩ => by
    obtain ⟨v, h1, h2⟩ := r.rep i _ hi
    obtain ⟨a, h3, rfl⟩ := hv _ _ _ _ h2
    rw [h3] at h2
    have hm : a ∈ os i := by rw [h3]; exact List.mem_cons_self
    refine ⟨_, h1, l.rv s _ [a] H k r.gr0 ⟨.own (s.mono (fz_mono fun b z => ?_) (fun _ _ => rfl) h2) .nil, by simp, fun p hp => ?_, fun p hp => ?_⟩⟩
    · rcases z with z | z
      · exact .inl z
      · rw [List.flatten_cons, List.flatten_nil, List.append_nil, List.mem_singleton] at z
        rw [z]; exact .inr ⟨i, hm⟩
    · rw [List.flatten_cons, List.flatten_nil, List.append_nil, List.mem_singleton] at hp
      rw [hp]; exact fun o q n => (r.new i a hm).2.1 o q n
    · rw [List.flatten_cons, List.flatten_nil, List.append_nil, List.mem_singleton] at hp
      rw [hp]; exact (r.new i a hm).2.2
end
/-! ### calls that hand back something of one's own, or something not told wholly -/
def spV (T : Tb) (R : List PD → SV → Prop) : Sp := fun vs H Q _ => ∃ O ds s, EC T O H ∧ Dqs (fz O H) vs ds ∧ R ds s ∧ ∀ v o H', Gr T H H' → NewVs O H H' [v] [o] [s] → Q v H'
def spE (T : Tb) (Pre : List PD → Prop) (Post : List PD → PD → Prop) : Sp := fun vs H Q _ => ∃ O ds, EC T O H ∧ Dqs (fz O H) vs ds ∧ Pre ds ∧ ∀ d v H', Post ds d → Gr T H H' → Dq (fz O H') v d → Q v H'
def tE (T : Tb) (S : AS) (P : PD → Prop) : TE := fun σ H Q => ∃ O0 H0 os, RpO T O0 H0 os S σ H ∧ ∀ d v H', P d → Gr T H H' → Dq (fz (Ow O0 os) H') v d → Q v H'
abbrev DEx (X : Cx) (T : Tb) (e : Expr) (S : AS) (P : PD → Prop) : Prop := PE X e (tE T S P)
section
variable {X : Cx} {T : Tb} {EX : XK} {S S' : AS} {E : En} {d da db : PD} {ds es : List PD} {e a b c : Expr} {pos : Pos} {s : SV} {P : PD → Prop}
section
variable {k : Nat} {f : Addr} {fd : FuncData} {ps : List Str} {R : List PD → SV → Prop} {Pre : List PD → Prop} {Post : List PD → PD → Prop} {x : Str} {l : List Expr} {p : Pos}
theorem dv_call (F : FnOk X.prog X.w X.K X.mg X.base CX0 k f fd ps (spV T R)) (hr : Room k X.A) (hm : X.mg x = some (.ref f)) (hk : PySem.W.keepIn X.K (.ref f) = true) (hb : Binds X.K fd ps []) (ha : DA X T (e :: l) S ds) (hR : R ds s) (hg : Gl X x := by rfl) (hdb : (x == ("__debug__" : Str)) = false := by decide)
    (he : starEach (e :: l) X.env = (false, eval e X.env) :: starEach l X.env := by rfl) (hpl : (backTo pos (starEach l X.env)).any (·.1) = false := by rfl) : DV X T (.Call (.Name x p) (e :: l) [] pos) S s :=
  pe_of (pe_call F hr hg hm hk hb .nil pass0 ha hdb he hpl) fun σ H Q ⟨O0, H0, os, r, kk⟩ => ⟨O0, H0, os, r, fun vs H1 g1 h1 => ⟨Ow O0 os, ds, s, (r.gr g1).ec, by rw [List.append_nil]; exact h1, hR, fun v o H' g n => kk v o H' (g1.trans g) ⟨n.rep, n.nodup, fun p hp => (n.new p hp).back g1.ext, n.mu⟩⟩⟩
theorem dx_callE (F : FnOk X.prog X.w X.K X.mg X.base CX0 k f fd ps (spE T Pre Post)) (hr : Room k X.A) (hm : X.mg x = some (.ref f)) (hk : PySem.W.keepIn X.K (.ref f) = true) (hb : Binds X.K fd ps []) (ha : DA X T (e :: l) S ds) (hR : Pre ds) (hg : Gl X x := by rfl) (hdb : (x == ("__debug__" : Str)) = false := by decide)
    (he : starEach (e :: l) X.env = (false, eval e X.env) :: starEach l X.env := by rfl) (hpl : (backTo pos (starEach l X.env)).any (·.1) = false := by rfl) : DEx X T (.Call (.Name x p) (e :: l) [] pos) S (Post ds) :=
  pe_of (pe_call F hr hg hm hk hb .nil pass0 ha hdb he hpl) fun σ H Q ⟨O0, H0, os, r, kk⟩ => ⟨O0, H0, os, r, fun vs H1 g1 h1 => ⟨Ow O0 os, ds, (r.gr g1).ec, by rw [List.append_nil]; exact h1, hR, fun d v H' q g n => kk d v H' q (g1.trans g) n⟩⟩
end
theorem dx_of (h : DE X T e S d) (q : P d) : DEx X T e S P := pe_of h fun σ H Q ⟨O0, H0, os, r, k⟩ => ⟨O0, H0, os, r, fun v H' g h => k d v H' q g h⟩
theorem ds_asgE {x : Str} {p : Pos} (i : Nat) (he : DEx X T e S P) (k : ∀ d, P d → E.nx (S.set i (dat d))) (nd : X.N.Nodup) (hN : X.N[i]? = some x := by rfl) (hx : Loc X.env.scope x := by first | exact Or.inl rfl | exact Or.inr rfl)
    (hs : swapsWith e (some (.Name x p)) pos.line X.env = pure false := by rfl) (hf : X.fn x = true ∨ X.env.scope.names.lookup x = some .local := by first | exact .inl rfl | exact .inr rfl) : DS X T EX (.Assign [.Name x p] e pos) S E :=
  ps_of (ps_set (i := i) nd hN hx he hs hf) fun D σ H ⟨O0, H0, os, r, l⟩ => ⟨O0, H0, os, r, fun d v H' q g h => l.nx _ _ _ (k d q) ((r.gr g).set_dat i h)⟩
theorem ds_retE (he : DEx X T e S P) (k : ∀ d, P d → E.rt d) : DS X T EX (.Return (some e) pos) S E :=
  ps_of (ps_ret he) fun D σ H ⟨O0, H0, os, r, l⟩ => ⟨O0, H0, os, r, fun d v H' q g h => l.rt d v H' (k d q) (r.gr g).gr0 (h.mv (fz_mono fun a => ow0))⟩
end
section
variable {P : Program} {w : World} {K : Fr} {mg : Str → Option Value} {base : Heap} {qual x : Str} {params : Arguments} {scope : Scope} {f : Addr} {fd : FuncData} {N ps : List Str} {k : Nat} {T : Tb} {body : List Stmt}
/-- a def that hands back something of its own -/
theorem fn_okV {R : List PD → SV → Prop} (F : FunD K x qual params body scope [] [] f fd) (S : FnScope N ps scope) (len : ∀ ds d, R ds d → ds.length = ps.length ∧ ds.length ≤ N.length)
    (hbody : ∀ (ds : List PD) (d : SV), R ds d → ∀ (cd : Value) (A : Around) (outer : List Env) (s : Shared) (H : Hp) (E : XK), Room k (A.deeper (envOfC qual scope s.heap.objs.size f cd)) → DSs (bodyX P w K mg base N qual scope f cd A outer s H E) T E body (enter N ds) { nx := fun _ => False, rt := fun _ => False, rv := fun s' => s' = d }) :
    FnOk P w K mg base CX0 (k + 1) f fd ps (spV T R) := by
  refine F.ok S (fun vs H Q E ⟨O, ds, d, c, h, r, _⟩ => by rw [h.length]; exact (len ds d r).1) fun cdv A outer s H vs Q E hr ⟨O, ds, d, c, h, r, q⟩ => ⟨_, (hbody ds d r cdv A outer s H E hr).nox, O, H, _, enter_ok c h (len ds d r).2, ?_⟩
  exact ⟨fun _ _ _ z => z.elim, fun _ _ _ z => z.elim, fun _ _ _ z => z.elim, fun _ _ _ z => z.elim, fun _ _ z => z.elim, fun s' v o H' e g n => q v o H' g (by rw [show s' = d from e] at n; exact n)⟩
/-- .. something that is not told wholly -/
theorem fn_okE {Pre : List PD → Prop} {Post : List PD → PD → Prop} (F : FunD K x qual params body scope [] [] f fd) (S : FnScope N ps scope) (len : ∀ ds, Pre ds → ds.length = ps.length ∧ ds.length ≤ N.length)
    (hbody : ∀ (ds : List PD), Pre ds → ∀ (cd : Value) (A : Around) (outer : List Env) (s : Shared) (H : Hp) (E : XK), Room k (A.deeper (envOfC qual scope s.heap.objs.size f cd)) → DSs (bodyX P w K mg base N qual scope f cd A outer s H E) T E body (enter N ds) { nx := fun _ => Post ds .none, rt := fun d => Post ds d }) :
    FnOk P w K mg base CX0 (k + 1) f fd ps (spE T Pre Post) := by
  refine F.ok S (fun vs H Q E ⟨O, ds, c, h, r, _⟩ => by rw [h.length]; exact (len ds r).1) fun cdv A outer s H vs Q E hr ⟨O, ds, c, h, r, q⟩ => ⟨_, (hbody ds r cdv A outer s H E hr).nox, O, H, _, enter_ok c h (len ds r).2, ?_⟩
  exact ⟨fun S' σ' H' e ⟨os, rr⟩ => q _ _ H' e ⟨rr.ext, rr.tabs⟩ .non, fun d' v H' e g hd => q d' v H' e g hd, fun _ _ _ z => z.elim, fun _ _ _ z => z.elim, fun _ _ z => z.elim, fun _ _ _ _ z => z.elim⟩
end
/-! ### dicts whose keys are ints and texts -/
def lk {κ α : Type} [DecidableEq κ] (kvs : List (κ × α)) (k : κ) : Option α := (kvs.find? fun kv => decide (kv.1 = k)).map (·.2)
def pt {κ α : Type} [DecidableEq κ] (kvs : List (κ × α)) (k : κ) (v : α) : List (κ × α) :=
  if (kvs.any fun kv => decide (kv.1 = k)) = true then kvs.map (fun kv => if kv.1 = k then (kv.1, v) else kv) else kvs ++ [(k, v)]
inductive KD (F : Hp) : List (Key × V) → List (Key × PD) → Prop
  | nil : KD F [] []
  | cons {k : Key} {v : V} {d : PD} {xs kvs} : Dq F v d → KD F xs kvs → KD F ((k, v) :: xs) ((k, d) :: kvs)
def kD : Key → PD
  | .inl i => .int i
  | .inr x => .str x
section
variable {F F' H H' : Hp}
theorem KD.mv : ∀ {xs kvs}, KD F xs kvs → Xt F F' → KD F' xs kvs
  | _, _, .nil, _ => .nil
  | _, _, .cons h t, e => .cons (h.mv e) (t.mv e)
theorem KD.length : ∀ {xs kvs}, KD F xs kvs → xs.length = kvs.length
  | _, _, .nil => rfl
  | _, _, .cons h t => by simp [t.length]
theorem KD.get {k : Key} : ∀ {xs kvs}, KD F xs kvs → (valV xs k = none ∧ lk kvs k = none) ∨ ∃ v d, valV xs k = some v ∧ lk kvs k = some d ∧ Dq F v d
  | _, _, .nil => .inl ⟨rfl, rfl⟩
  | _, _, .cons (k := j) (xs := xs) (kvs := kvs) h t => by
    by_cases e : j = k
    · exact .inr ⟨_, _, valV_pos e, by simp [lk, List.find?_cons, e], h⟩
    · rw [valV_neg e, show lk ((j, _) :: kvs) k = lk kvs k by simp [lk, List.find?_cons, e]]
      exact t.get
theorem KD.any {k : Key} : ∀ {xs kvs}, KD F xs kvs → (xs.any fun kv => decide (kv.1 = k)) = kvs.any fun kv => decide (kv.1 = k)
  | _, _, .nil => rfl
  | _, _, .cons h t => by simp [List.any_cons, t.any]
theorem KD.repl {k : Key} {v : V} {d : PD} (q : Dq F v d) : ∀ {xs kvs}, KD F xs kvs → KD F (xs.map fun kv => if kv.1 = k then (kv.1, v) else kv) (kvs.map fun kv => if kv.1 = k then (kv.1, d) else kv)
  | _, _, .nil => .nil
  | _, _, .cons (k := j) h t => by
    rw [List.map_cons, List.map_cons]
    by_cases e : j = k
    · simp only [e, if_true]
      exact .cons q (t.repl q)
    · simp only [e, if_false]
      exact .cons h (t.repl q)
theorem KD.snoc {k : Key} {v : V} {d : PD} (q : Dq F v d) : ∀ {xs kvs}, KD F xs kvs → KD F (xs ++ [(k, v)]) (kvs ++ [(k, d)])
  | _, _, .nil => .cons q .nil
  | _, _, .cons h t => .cons h (t.snoc q)
theorem KD.put {k : Key} {v : V} {d : PD} {xs kvs} (h : KD F xs kvs) (q : Dq F v d) : KD F (putK xs k v) (pt kvs k d) := by
  unfold putK pt
  rw [h.any]
  split
  · exact h.repl q
  · exact h.snoc q
theorem dq_key {k : Key} {v : V} (h : Dq H v (kD k)) : v = kV k := by
  cases k with
  | inl i => cases h; rfl
  | inr x => cases h; rfl
end
def odK (kvs : List (Key × PD)) : SV := ⟨fun F H o v => ∃ a xs, o = [a] ∧ v = some (.ref a) ∧ H a = some (.dK xs) ∧ KD F xs kvs, fun e k ⟨a, xs, h1, h2, h3, h4⟩ => ⟨a, xs, h1, h2, by rw [k a (by simp [h1])]; exact h3, h4.mv e⟩⟩
theorem odK_ref {kvs : List (Key × PD)} : ∀ F H o v, (odK kvs).rep F H o v → ∃ a, o = [a] ∧ v = some (.ref a) := fun _ _ _ _ ⟨a, _, h1, h2, _⟩ => ⟨a, h1, h2⟩
theorem own_ref {ds : List PD} : ∀ F H o v, (own ds).rep F H o v → ∃ a, o = [a] ∧ v = some (.ref a) := fun _ _ _ _ ⟨a, _, h1, h2, _⟩ => ⟨a, h1, h2⟩
theorem length_pt {κ α : Type} [DecidableEq κ] (kvs : List (κ × α)) (k : κ) (v : α) : (pt kvs k v).length ≤ kvs.length + 1 := by
  unfold pt
  split
  · simp
  · simp
theorem lk_pt {κ α : Type} [DecidableEq κ] (kvs : List (κ × α)) (k j : κ) (y : α) : lk (pt kvs k y) j = if j = k then some y else lk kvs j := by
  have m : ∀ l : List (κ × α), lk (l.map fun kv => if kv.1 = k then (kv.1, y) else kv) j = if j = k then (if (l.any fun kv => decide (kv.1 = k)) = true then some y else none) else lk l j := by
    intro l
    induction l with
    | nil => simp [lk]
    | cons p l ih =>
      by_cases e1 : p.1 = k
      · by_cases e2 : j = k
        · subst e2; simp [lk, e1]
        · have e3 : ¬ k = j := fun z => e2 z.symm
          have e4 : ¬ p.1 = j := by rw [e1]; exact e3
          simp only [e2, if_false] at ih ⊢
          simp only [List.map_cons, e1, if_true, lk, List.find?_cons, e3, decide_false] at ih ⊢
          exact ih
      · by_cases e2 : p.1 = j
        · have e3 : ¬ j = k := fun z => e1 (e2.trans z)
          simp [lk, List.find?_cons, e1, e2, e3]
        · by_cases e3 : j = k
          · subst e3
            simp only [if_true] at ih ⊢
            simp only [List.map_cons, e1, if_false, lk, List.find?_cons, decide_false, List.any_cons, Bool.false_or] at ih ⊢
            exact ih
          · simp only [e3, if_false] at ih ⊢
            simp only [List.map_cons, e1, if_false, lk, List.find?_cons, e2, decide_false] at ih ⊢
            exact ih
  have n : ∀ l : List (κ × α), (l.any fun kv => decide (kv.1 = k)) = false → lk (l ++ [(k, y)]) j = if j = k then some y else lk l j := by
    intro l
    induction l with
    | nil => intro _; by_cases e : k = j
             · simp [lk, List.find?_cons, e]
             · have e' : ¬ j = k := fun z => e z.symm
               simp [lk, List.find?_cons, e, e']
    | cons p l ih =>
      intro h
      simp only [List.any_cons, Bool.or_eq_false_iff, decide_eq_false_iff_not] at h
      have ih := ih h.2
      by_cases e : p.1 = j
      · have e' : ¬ j = k := fun z => h.1 (e.trans z)
        simp [lk, List.find?_cons, e, e']
      · simp only [lk, List.cons_append, List.find?_cons, e, decide_false] at ih ⊢
        exact ih
  unfold pt
  split
  · rename_i h
    rw [m, h]; simp
  · rename_i h
    exact n kvs (Bool.eq_false_iff.mpr h)
section
variable {X : Cx} {T : Tb} {EX : XK} {S S' : AS} {E : En} {d da db : PD} {ds es : List PD} {e a b c : Expr} {pos p p2 : Pos} {kvs : List (Key × PD)} {k : Key} {x : Str}
theorem dv_dictK : DV X T (.Dict [] [] pos) S (odK []) := pe_of pe_dnewK fun σ H Q ⟨O0, H0, os, r, k⟩ p hp => k (.ref p) [p] _ (r.ec.new hp) ⟨.own ⟨p, [], rfl, rfl, upd_same, .nil⟩ .nil, by simp, by simpa using Nw.of hp, by simpa using ⟨_, upd_same, Mu.dK⟩⟩
theorem RpO.dk_at {O0 : Addr → Prop} {H0 H : Hp} {os : Nat → List Addr} {σ : L2.St} (r : RpO T O0 H0 os S σ H) {i : Nat} (h : S[i]? = some (odK kvs)) : ∃ a xs, os i = [a] ∧ σ[i]? = some (some (.ref a)) ∧ H a = some (.dK xs) ∧ KD (fz (Ow O0 os) H) xs kvs := by
  obtain ⟨v, h1, a, xs, h2, rfl, h3, h4⟩ := r.rep i _ h
  exact ⟨a, xs, h2, h1, h3, h4⟩
theorem de_getK (i : Nat) (hu : X.A.units + 1 < cLine) (he : DE X T e S (kD k)) (hl : lk kvs k = some d) (hi : S[i]? = some (odK kvs) := by rfl) (hN : X.N[i]? = some x := by rfl) (hv : Vis X.env.scope x := by first | exact Or.inl rfl | exact Or.inr (Or.inl rfl) | exact Or.inr (Or.inr rfl)) (hd : (x == ("__debug__" : Str)) = false := by decide)
    (hcd : (x == ("__classdict__" : Str)) = false := by decide) (hs : NoSl e := by exact fun _ _ => rfl) : DE X T (.Subscript (.Name x p) e pos) S d :=
  pe_of (pe_dget hu (pe_var hN hv hd hcd) he hs) fun σ H Q ⟨O0, H0, os, r, k2⟩ => by
    obtain ⟨a, xs, h1, h2, h3, h4⟩ := r.dk_at hi
    refine ⟨_, h2, O0, H0, os, r, fun v H' g q => ?_⟩
    rw [dq_key q]
    have h5 := h4.mv (fz_ext (O := Ow O0 os) g.ext)
    rcases h5.get (k := k) with ⟨_, z⟩ | ⟨v, d', z1, z2, z3⟩
    · rw [hl] at z; cases z
    · rw [hl] at z2; cases z2
      exact ⟨a, v, rfl, by rw [← z1]; exact .k (g.ext _ _ h3 fun _ z => by cases z), k2 v H' g z3⟩
theorem KD.some_eq {F : Hp} {xs} (h : KD F xs kvs) : (valV xs k).isSome = (lk kvs k).isSome := by
  rcases h.get (k := k) with ⟨z1, z2⟩ | ⟨v, d', z1, z2, z3⟩
  · rw [z1, z2]; rfl
  · rw [z1, z2]; rfl
theorem de_inK (i : Nat) (hu : X.A.units + 1 < cLine) (he : DE X T e S (kD k)) (hi : S[i]? = some (odK kvs) := by rfl) (hN : X.N[i]? = some x := by rfl) (hv : Vis X.env.scope x := by first | exact Or.inl rfl | exact Or.inr (Or.inl rfl) | exact Or.inr (Or.inr rfl)) (hd : (x == ("__debug__" : Str)) = false := by decide)
    (hcd : (x == ("__classdict__" : Str)) = false := by decide) (hm : behindInMarks .In (.Name x p) = false := by rfl) : DE X T (.Compare e [.In] [.Name x p] pos) S (.bool (lk kvs k).isSome) :=
  pe_of (pe_cmp (pc_din hu he (pe_var hN hv hd hcd)) hm) fun σ H Q ⟨O0, H0, os, r, k2⟩ => by
    obtain ⟨a, xs, h1, h2, h3, h4⟩ := r.dk_at hi
    refine ⟨O0, H0, os, r, fun v H' g q => ⟨_, h2, ?_⟩⟩
    rw [dq_key q]
    exact ⟨a, _, rfl, .k (g.ext _ _ h3 fun _ z => by cases z), k2 _ H' g (by rw [h4.some_eq]; exact .bl _)⟩
theorem dt_inK (i : Nat) (hu : X.A.units + 1 < cLine) (he : DE X T e S (kD k)) (hi : S[i]? = some (odK kvs) := by rfl) (hN : X.N[i]? = some x := by rfl) (hv : Vis X.env.scope x := by first | exact Or.inl rfl | exact Or.inr (Or.inl rfl) | exact Or.inr (Or.inr rfl)) (hd : (x == ("__debug__" : Str)) = false := by decide)
    (hcd : (x == ("__classdict__" : Str)) = false := by decide) (hm : behindInMarks .In (.Name x p) = false := by rfl) : DT X T (.Compare e [.In] [.Name x p] pos) S (lk kvs k).isSome :=
  pt_of (pt_cmp (pc_din hu he (pe_var hN hv hd hcd)) hm) fun σ H Q ⟨O0, H0, os, r, k2⟩ => by
    obtain ⟨a, xs, h1, h2, h3, h4⟩ := r.dk_at hi
    refine ⟨O0, H0, os, r, fun v H' g q => ⟨_, h2, ?_⟩⟩
    rw [dq_key q]
    exact ⟨a, _, rfl, .k (g.ext _ _ h3 fun _ z => by cases z), _, rfl, by rw [h4.some_eq]; exact k2 H' g⟩
theorem ds_putK (i : Nat) (hu : X.A.units + 1 < cLine) (he : DE X T e S (kD k)) (hv' : DE X T b S d) (kk : E.nx (S.set i (odK (pt kvs k d)))) (hz : kvs.length < sizeLine) (hi : S[i]? = some (odK kvs) := by rfl) (hN : X.N[i]? = some x := by rfl) (hv : Vis X.env.scope x := by first | exact Or.inl rfl | exact Or.inr (Or.inl rfl) | exact Or.inr (Or.inr rfl)) (hd : (x == ("__debug__" : Str)) = false := by decide)
    (hcd : (x == ("__classdict__" : Str)) = false := by decide) (hs : swapsWith b (some (.Subscript (.Name x p) e p2)) pos.line X.env = pure false := by rfl) : DS X T EX (.Assign [.Subscript (.Name x p) e p2] b pos) S E :=
  ps_of (ps_dput hu (pe_var hN hv hd hcd) he hv' hs) fun D σ H ⟨O0, H0, os, r, l⟩ => ⟨O0, H0, os, r, fun v H1 g1 q1 => by
    obtain ⟨a, xs, h1, h2, h3, h4⟩ := r.dk_at hi
    refine ⟨_, h2, O0, H0, os, r.gr g1, fun y H2 g2 q2 => ?_⟩
    rw [dq_key q2]
    have g := g1.trans g2
    have h3' : H2 a = some (.dK xs) := g.ext _ _ h3 fun _ z => by cases z
    refine ⟨a, _, rfl, .k h3' (by rw [h4.length]; exact hz), l.nx _ _ _ kk ⟨os, ?_⟩⟩
    exact (r.gr g).change i (lt_of_get hi) (by rw [h1]; exact List.mem_cons_self) Mu.dK ⟨_, h2, a, _, h1, rfl, upd_same, (h4.mv (fz_ext g.ext)).put (q1.mv (fz_ext g2.ext))⟩⟩
theorem de_lenK (i : Nat) {p2 : Pos} (hm : X.mg "len" = none) (hi : S[i]? = some (odK kvs) := by rfl) (hN : X.N[i]? = some x := by rfl) (hv : Vis X.env.scope x := by first | exact Or.inl rfl | exact Or.inr (Or.inl rfl) | exact Or.inr (Or.inr rfl)) (hd : (x == ("__debug__" : Str)) = false := by decide)
    (hcd : (x == ("__classdict__" : Str)) = false := by decide) (hs : starEach [.Name x p2] X.env = (false, eval (.Name x p2) X.env) :: starEach [] X.env := by rfl) (hg : Gl X "len" := by rfl) : DE X T (.Call (.Name "len" p) [.Name x p2] [] pos) S (.int (kvs.length : Nat)) :=
  pe_of (pe_callB call_lenD hg hm (by decide +kernel) (pa_cons (pe_var hN hv hd hcd) pa_nil hs) (by decide) (by decide) hs (by rfl)) fun σ H Q ⟨O0, H0, os, r, k⟩ => by
    obtain ⟨a, xs, h1, h2, h3, h4⟩ := r.dk_at hi
    exact ⟨_, h2, a, xs, rfl, h3, k _ H r.ec.refl (by rw [h4.length]; exact .int _)⟩
/-- len of a dict that a call hands back -/
theorem de_lenKV (hm : X.mg "len" = none) (he : DV X T e S (odK kvs)) (hs : starEach [e] X.env = (false, eval e X.env) :: starEach [] X.env := by rfl) (hg : Gl X "len" := by rfl) : DE X T (.Call (.Name "len" p) [e] [] pos) S (.int (kvs.length : Nat)) :=
  pe_of (pe_callB call_lenD hg hm (by decide +kernel) (pa_cons he pa_nil hs) (by decide) (by decide) hs (by rfl)) fun σ H Q ⟨O0, H0, os, r, k⟩ => ⟨O0, H0, os, r, fun v o H' g n => by
    have z := n.rep
    cases z with
    | dat h _ => obtain ⟨a, xs, h1, _⟩ := h; cases h1
    | own h _ =>
      obtain ⟨a, xs, h1, h2, h3, h4⟩ := h
      cases h1
      cases h2
      exact ⟨_, xs, rfl, h3, k _ H' g (by rw [h4.length]; exact .int _)⟩⟩
end
section
variable {X : Cx} {T : Tb} {S : AS} {ds es : List PD} {e tg iter elt : Expr} {pos p : Pos}
theorem di_to (h : DI X T tg e S ds) (q : ds = es) : DI X T tg e S es := q ▸ h
theorem dic_to (h : DIc X T tg e S ds) (q : ds = es) : DIc X T tg e S es := q ▸ h
theorem dn_lc0 {α : Type} {xs : List α} {emb : α → PD} {g : α → PD} {S2 : α → AS} {js : List Nat} {scope : Scope} {own' : List (Str × Nat)} (hc : X.calm = true) (nd : X.N.Nodup) (hi : DIc X T tg iter S (xs.map emb)) (hb : blkC X.N X.env.scope scope own' = true) (fs : FreeS S (own'.map (·.2))) (hj : ∀ j ∈ js, j ∈ own'.map (·.2)) (hz : xs.length ≤ 1000000)
    (hg : ∀ z ∈ xs, ∀ (s : Shared) (H : Hp) (C : Addr) (cl : List (Str × Addr)) (fp : List Addr), DG (X.blk s H scope (compEnvC scope cl C X.env) fp) T tg js (wipeS S (own'.map (·.2))) (emb z) (S2 z))
    (he : ∀ z ∈ xs, ∀ (s : Shared) (H : Hp) (C : Addr) (cl : List (Str × Addr)) (fp : List Addr), DE (X.blk s H scope (compEnvC scope cl C X.env) fp) T elt (S2 z) (g z)) (hs : ∀ x, foldedSetIterable iter X.env x = pure x := by intro _; rfl) :
    DN X T (.ListComp elt [⟨tg, iter, [], 0⟩] scope pos) S (xs.map g) :=
  dn_to (dn_lc (f := fun _ => true) hc nd hi hb fs hj hz hg (fun z hz _ _ _ _ _ => dts_nil) (fun z hz _ => he z hz) hs) (by rw [List.filter_eq_self.mpr (fun _ _ => rfl)])
theorem de_allC {α : Type} {l : List α} {h : α → Bool} (hm : X.mg "all" = none) (hc : X.calm = true) (he : DE X T e S (.list (l.map fun z => .bool (h z)))) (hs : starEach [e] X.env = (false, eval e X.env) :: starEach [] X.env := by rfl) (hg : Gl X "all" := by rfl) : DE X T (.Call (.Name "all" p) [e] [] pos) S (.bool (l.all h)) :=
  de_to (de_all (bs := l.map h) hm hc (by rw [List.map_map]; exact he) hs hg) (by rw [List.all_map]; rfl)
end
section
variable {X : Cx} {T : Tb} {S : AS} {da db : PD} {a b : Expr} {pos : Pos}
theorem dt_chain {op op' : CmpOp} {c : Expr} {dc : PD} {k k' : Bool} (ha : DE X T a S da) (hb : DE X T b S db) (hc : DE X T c S dc) (ho : CB X T op da db k) (ho' : CB X T op' db dc k')
    (hm : lastMarks [op, op'] [b, c] = false := by with_unfolding_all rfl) : DT X T (.Compare a [op, op'] [b, c] pos) S (k && k') := by
  obtain ⟨r, hr, hs⟩ := ho
  obtain ⟨r', hr', hs'⟩ := ho'
  refine pt_of (pt_chain hr hr' ha hb hc hm) fun σ H Q ⟨O0, H0, os, q, kk⟩ => ⟨O0, H0, os, q, fun x H1 g1 h1 => ⟨O0, H0, os, q.gr g1, fun y H2 g2 h2 => hs _ H2 x y _ ((q.gr g1).gr g2).ec (h1.mv (fz_ext g2.ext)) h2 fun z H3 g3 h3 => ?_⟩⟩
  cases h3
  refine ⟨k, rfl, ?_⟩
  have g := (g1.trans g2).trans g3
  cases k with
  | true =>
    rw [if_pos rfl]
    exact ⟨O0, H0, os, q.gr g, fun w H4 g4 h4 => hs' _ H4 y w _ ((q.gr g).gr g4).ec (h2.mv (fz_ext (g3.trans g4).ext)) h4 fun v H' g' h => by
      cases h
      exact ⟨k', rfl, by simpa using kk H' ((g.trans g4).trans g')⟩⟩
  | false =>
    rw [if_neg Bool.false_ne_true]
    exact ⟨false, rfl, by simpa using kk _ g⟩
end
end DL

namespace DL
open PySem PySem.Spec PyProof.Rows L2

theorem hu1 {k : Nat} {A : Around} (hr : Room k A) : A.units + 1 < cLine := by have := hr.un; omega
theorem hu8 {k : Nat} {A : Around} (hr : Room k A) : A.units + 20 < cLine := by have := hr.un; omega
/-- a class of one's own, below ValueError -/
structure ExcX (K : Fr) (mg : Str → Option Value) (x : Str) : Prop where
  g : mg x = some (.ref (He.ga K x))
  q : PySem.W.excIn K (He.ga K x) He.veBase "ValueError.__new__" = true
  k : PySem.W.keepIn K (.ref (He.ga K x)) = true
  s : PySem.W.subIn K (.ref (He.ga K x)) (.type "BaseException") = some true
  t : PySem.W.typeIn K (.ref (He.ga K x)) = some (.type "type")
section
variable {X : Cx} {T : Tb} {EX : XK} {S : AS} {E : En}
/-- raise x('text') -/
theorem ds_raise {x m : Str} {j : Nat} {p p2 p3 pos : Pos} (hc : X.calm = true) (tk : L2N.Takes X (fun cls d _ H => EX cls d H)) (F : ExcX X.K X.mg x) (k : E.ex (.ref (He.ga X.K x))) (hg : Gl X x := by rfl) (hdb : (x == ("__debug__" : Str)) = false := by decide) :
    DS X T EX (.Raise (some (.Call (.Name x p) [.Constant (.str m) j p2] [] p3)) none pos) S E :=
  ps_of (L2N.ps_raise (W := fun cls d _ H => EX cls d H) hc tk (L2N.pmk_own PySem.F.excBase_ValueError F.q F.g F.k (raises_own F.s F.t) hg hdb)) fun D σ H ⟨O0, H0, os, r, l⟩ => l.ex _ H k r.gr0
end
/-! ### comparisons of plain data -/
section
theorem depthAll_le {n : Nat} : ∀ {ds : List PD}, (∀ d ∈ ds, d.depth ≤ n) → PyData.depthAll ds ≤ n
  | [], _ => by simp [PyData.depthAll]
  | d :: ds, h => by
    have h1 := h d List.mem_cons_self
    have h2 := depthAll_le (ds := ds) fun d hd => h d (List.mem_cons_of_mem _ hd)
    simp only [PyData.depthAll]
    omega
theorem depth_map {α : Type} {f : α → PD} {n : Nat} {l : List α} (h : ∀ x, (f x).depth ≤ n) : PyData.depthAll (l.map f) ≤ n := depthAll_le fun d hd => by
  obtain ⟨x, _, rfl⟩ := List.mem_map.mp hd
  exact h x
/-! data without truth values: compared as they stand -/
mutual
def noB : PD → Bool
  | .bool _ => false
  | .list ds => noBs ds
  | .tuple ds => noBs ds
  | .dict _ => false
  | .none => true
  | .int _ => true
  | .str _ => true
def noBs : List PD → Bool
  | [] => true
  | d :: ds => noB d && noBs ds
end
mutual
theorem eqv_noB : ∀ (d e : PD), noB d = true → noB e = true → (PyData.eqv d e = true ↔ d = e)
  | .none, e, _, he => by cases e <;> simp [PyData.eqv] <;> simp [noB] at he
  | .int i, e, _, he => by cases e <;> simp [PyData.eqv] <;> simp [noB] at he
  | .str x, e, _, he => by cases e <;> simp [PyData.eqv] <;> simp [noB] at he
  | .bool b, e, h, _ => by simp [noB] at h
  | .dict b, e, h, _ => by simp [noB] at h
  | .list ds, e, h, he => by
    cases e with
    | list es => simp only [PyData.eqv, PyData.list.injEq]; exact eqv_noBs ds es (by simpa [noB] using h) (by simpa [noB] using he)
    | _ => simp [PyData.eqv]
  | .tuple ds, e, h, he => by
    cases e with
    | tuple es => simp only [PyData.eqv, PyData.tuple.injEq]; exact eqv_noBs ds es (by simpa [noB] using h) (by simpa [noB] using he)
    | _ => simp [PyData.eqv]
theorem eqv_noBs : ∀ (ds es : List PD), noBs ds = true → noBs es = true → (PyData.eqvAll ds es = true ↔ ds = es)
  | [], [], _, _ => by simp [PyData.eqvAll]
  | [], _ :: _, _, _ => by simp [PyData.eqvAll]
  | _ :: _, [], _, _ => by simp [PyData.eqvAll]
  | d :: ds, e :: es, h, he => by
    simp only [noBs, Bool.and_eq_true] at h he
    simp only [PyData.eqvAll, Bool.and_eq_true, List.cons.injEq]
    rw [eqv_noB d e h.1 he.1, eqv_noBs ds es h.2 he.2]
end
theorem eqv_dec {d e : PD} [Decidable (d = e)] (h : noB d = true) (he : noB e = true) : PyData.eqv d e = decide (d = e) := by
  have := eqv_noB d e h he
  cases q : PyData.eqv d e with
  | true => exact (decide_eq_true (this.mp q)).symm
  | false => exact (decide_eq_false fun z => by rw [this.mpr z] at q; cases q).symm
theorem noBs_map {α : Type} {f : α → PD} {l : List α} (h : ∀ x ∈ l, noB (f x) = true) : noBs (l.map f) = true := by
  induction l with
  | nil => rfl
  | cons x l ih =>
    simp only [List.map_cons, noBs, Bool.and_eq_true]
    exact ⟨h x List.mem_cons_self, ih fun y hy => h y (List.mem_cons_of_mem _ hy)⟩
theorem map_inj0 {α : Type} {f : α → PD} (hf : ∀ a b, f a = f b → a = b) : ∀ {l m : List α}, l.map f = m.map f ↔ l = m
  | [], [] => by simp
  | [], _ :: _ => by simp
  | _ :: _, [] => by simp
  | a :: l, b :: m => by
    simp only [List.map_cons, List.cons.injEq, map_inj0 hf]
    exact ⟨fun ⟨h, t⟩ => ⟨hf a b h, t⟩, fun ⟨h, t⟩ => ⟨h ▸ rfl, t⟩⟩
theorem eqv_emb {α : Type} [DecidableEq α] {f : α → PD} (hn : ∀ x, noB (f x) = true) (hf : ∀ a b, f a = f b → a = b) (x y : α) : PyData.eqv (f x) (f y) = decide (x = y) := by
  have := eqv_noB (f x) (f y) (hn x) (hn y)
  cases q : PyData.eqv (f x) (f y) with
  | true => exact (decide_eq_true (hf _ _ (this.mp q))).symm
  | false => exact (decide_eq_false fun z => by rw [this.mpr (z ▸ rfl)] at q; cases q).symm
theorem eqv_embL {α : Type} [DecidableEq α] {f : α → PD} (hn : ∀ x, noB (f x) = true) (hf : ∀ a b, f a = f b → a = b) (l m : List α) : PyData.eqv (.list (l.map f)) (.list (m.map f)) = decide (l = m) :=
  eqv_emb (f := fun l : List α => PyData.list (l.map f)) (fun l => by simp only [noB]; exact noBs_map fun x _ => hn x) (fun a b h => by
    simp only [PyData.list.injEq] at h
    exact (map_inj0 hf).mp h) l m
theorem eqv_embT {α : Type} [DecidableEq α] {f : α → PD} (hn : ∀ x, noB (f x) = true) (hf : ∀ a b, f a = f b → a = b) (l m : List α) : PyData.eqv (.tuple (l.map f)) (.tuple (m.map f)) = decide (l = m) :=
  eqv_emb (f := fun l : List α => PyData.tuple (l.map f)) (fun l => by simp only [noB]; exact noBs_map fun x _ => hn x) (fun a b h => by
    simp only [PyData.tuple.injEq] at h
    exact (map_inj0 hf).mp h) l m
theorem int_inj (a b : Int) (h : PyData.int a = PyData.int b) : a = b := by injection h
theorem noB_int (a : Int) : noB (PyData.int a) = true := rfl
theorem inD_emb {α : Type} [DecidableEq α] {f : α → PD} (hn : ∀ x, noB (f x) = true) (hf : ∀ a b, f a = f b → a = b) (x : α) (l : List α) : inD (f x) (l.map f) = decide (x ∈ l) := by
  unfold inD
  rw [List.any_map]
  induction l with
  | nil => simp
  | cons y l ih =>
    simp only [List.any_cons, Function.comp_def] at ih ⊢
    rw [ih, eqv_emb hn hf]
    by_cases e : x = y
    · subst e; simp
    · have e' : ¬ y = x := fun z => e z.symm
      simp [e, e']
end
section
theorem dp_ints (l : List Int) : (PyData.list (l.map .int)).depth ≤ 64 := by
  have := depth_map (f := PyData.int) (n := 0) (l := l) (fun x => by simp [PyData.depth])
  simp only [PyData.depth]; omega
theorem dp_intsT (l : List Int) : (PyData.tuple (l.map .int)).depth ≤ 64 := by
  have := depth_map (f := PyData.int) (n := 0) (l := l) (fun x => by simp [PyData.depth])
  simp only [PyData.depth]; omega
theorem dp_upTo (n : Nat) : (PyData.list (DL.upTo n)).depth ≤ 64 := by
  have := depth_map (f := fun i : Nat => PyData.int (i : Nat)) (n := 0) (l := List.range n) (fun x => by simp [PyData.depth])
  simp only [PyData.depth, DL.upTo]; omega
def upI (n : Nat) : List Int := (List.range n).map fun i : Nat => (i : Int)
theorem upTo_eq (n : Nat) : DL.upTo n = (upI n).map .int := by simp [DL.upTo, upI, List.map_map, Function.comp_def]
end
/-! ### name = [..] -/
section
variable {X : Cx} {T : Tb} {EX : XK} {S : AS} {E : En} {α : Type} {xs : List α} {emb : α → PD} {f : α → Bool} {g : α → PD} {S2 : α → AS} {js : List Nat} {tg elt iter : Expr} {ifs : List Expr} {scope : Scope} {own' : List (Str × Nat)} {pos spos py : Pos} {y : Str} {es : List PD}
theorem ds_asgLcQ (i : Nat) (s : SV) (hc : X.calm = true) (nd : X.N.Nodup) (hi : DIc X T tg iter S (xs.map emb)) (hb : blkC X.N X.env.scope scope own' = true) (fs : FreeS S (own'.map (·.2))) (hj : ∀ j ∈ js, j ∈ own'.map (·.2)) (hz : xs.length ≤ 1000000)
    (hg : ∀ z ∈ xs, ∀ (s : Shared) (H : Hp) (C : Addr) (cl : List (Str × Addr)) (fp : List Addr), DG (X.blk s H scope (compEnvC scope cl C X.env) fp) T tg js (wipeS S (own'.map (·.2))) (emb z) (S2 z))
    (ht : ∀ z ∈ xs, ∀ (s : Shared) (H : Hp) (C : Addr) (cl : List (Str × Addr)) (fp : List Addr), DTs (X.blk s H scope (compEnvC scope cl C X.env) fp) T ifs (S2 z) (f z))
    (he : ∀ z ∈ xs, f z = true → ∀ (s : Shared) (H : Hp) (C : Addr) (cl : List (Str × Addr)) (fp : List Addr), DE (X.blk s H scope (compEnvC scope cl C X.env) fp) T elt (S2 z) (g z)) (hq : (xs.filter f).map g = es) (hs' : s = own es ∨ s = dat (.list es)) (k : E.nx (S.set i s)) (hi' : i < S.length) (hN : X.N[i]? = some y) (hyl : X.env.scope.names.lookup y = some .local)
    (hsw : swapsWith (.ListComp elt [⟨tg, iter, ifs, 0⟩] scope pos) (some (.Name y py)) spos.line X.env = pure true) (hs : ∀ x, foldedSetIterable iter X.env x = pure x) :
    DS X T EX (.Assign [.Name y py] (.ListComp elt [⟨tg, iter, ifs, 0⟩] scope pos) spos) S E := by
  refine ps_of (ps_setLc (i := i) hc nd hN hyl hsw hi (blkOk_by hb) (fun s H C cl fp => pg_any fun z hz => hg z hz s H C cl fp) (fun s H C cl fp => pts_any fun z hz => ht z hz s H C cl fp) (fun s H C cl fp => pe_any (P := fun z => z ∈ xs ∧ f z = true) fun z hz => he z hz.1 hz.2 s H C cl fp) hs) fun D σ H ⟨O0, H0, os, r, l⟩ => ⟨O0, H0, os, r, fun J H' g1 w D' hD => ?_⟩
  refine lc_read (r.gr g1) w hD fs hj hz fun H'' p => ?_
  obtain ⟨acc, h1, h2⟩ := p.acc
  rw [hq] at h2
  have n : Nw H D' := (Nw.of hD).back g1.ext
  rcases hs' with rfl | rfl
  · exact l.nx _ _ _ k (r.set_new i hi' n (g1.ext.trans p.ext) p.tabs h1 Mu.lst ⟨D', acc, rfl, rfl, h1, h2⟩)
  · exact l.nx _ _ _ k ((r.gr ⟨g1.ext.trans p.ext, p.tabs⟩).set_dat i (.lst (by rw [fz_out (r.free n)]; exact h1) (h2.mv (fz_mono fun a ha => .inl ha))))
theorem ds_asgLc (i : Nat) (hc : X.calm = true) (nd : X.N.Nodup) (hi : DIc X T tg iter S (xs.map emb)) (hb : blkC X.N X.env.scope scope own' = true) (fs : FreeS S (own'.map (·.2))) (hj : ∀ j ∈ js, j ∈ own'.map (·.2)) (hz : xs.length ≤ 1000000)
    (hg : ∀ z ∈ xs, ∀ (s : Shared) (H : Hp) (C : Addr) (cl : List (Str × Addr)) (fp : List Addr), DG (X.blk s H scope (compEnvC scope cl C X.env) fp) T tg js (wipeS S (own'.map (·.2))) (emb z) (S2 z))
    (ht : ∀ z ∈ xs, ∀ (s : Shared) (H : Hp) (C : Addr) (cl : List (Str × Addr)) (fp : List Addr), DTs (X.blk s H scope (compEnvC scope cl C X.env) fp) T ifs (S2 z) (f z))
    (he : ∀ z ∈ xs, f z = true → ∀ (s : Shared) (H : Hp) (C : Addr) (cl : List (Str × Addr)) (fp : List Addr), DE (X.blk s H scope (compEnvC scope cl C X.env) fp) T elt (S2 z) (g z)) (k : E.nx (S.set i (dat (.list ((xs.filter f).map g))))) (hi' : i < S.length) (hN : X.N[i]? = some y := by rfl) (hyl : X.env.scope.names.lookup y = some .local := by rfl)
    (hsw : swapsWith (.ListComp elt [⟨tg, iter, ifs, 0⟩] scope pos) (some (.Name y py)) spos.line X.env = pure true := by exact sw_true rfl rfl rfl rfl) (hs : ∀ x, foldedSetIterable iter X.env x = pure x := by intro _; rfl) :
    DS X T EX (.Assign [.Name y py] (.ListComp elt [⟨tg, iter, ifs, 0⟩] scope pos) spos) S E := ds_asgLcQ i _ hc nd hi hb fs hj hz hg ht he rfl (.inr rfl) k hi' hN hyl hsw hs
theorem ds_asgLcN (i : Nat) (hc : X.calm = true) (nd : X.N.Nodup) (hi : DIc X T tg iter S (xs.map emb)) (hb : blkC X.N X.env.scope scope own' = true) (fs : FreeS S (own'.map (·.2))) (hj : ∀ j ∈ js, j ∈ own'.map (·.2)) (hz : xs.length ≤ 1000000)
    (hg : ∀ z ∈ xs, ∀ (s : Shared) (H : Hp) (C : Addr) (cl : List (Str × Addr)) (fp : List Addr), DG (X.blk s H scope (compEnvC scope cl C X.env) fp) T tg js (wipeS S (own'.map (·.2))) (emb z) (S2 z))
    (ht : ∀ z ∈ xs, ∀ (s : Shared) (H : Hp) (C : Addr) (cl : List (Str × Addr)) (fp : List Addr), DTs (X.blk s H scope (compEnvC scope cl C X.env) fp) T ifs (S2 z) (f z))
    (he : ∀ z ∈ xs, f z = true → ∀ (s : Shared) (H : Hp) (C : Addr) (cl : List (Str × Addr)) (fp : List Addr), DE (X.blk s H scope (compEnvC scope cl C X.env) fp) T elt (S2 z) (g z)) (k : E.nx (S.set i (own ((xs.filter f).map g)))) (hi' : i < S.length) (hN : X.N[i]? = some y := by rfl) (hyl : X.env.scope.names.lookup y = some .local := by rfl)
    (hsw : swapsWith (.ListComp elt [⟨tg, iter, ifs, 0⟩] scope pos) (some (.Name y py)) spos.line X.env = pure true := by exact sw_true rfl rfl rfl rfl) (hs : ∀ x, foldedSetIterable iter X.env x = pure x := by intro _; rfl) :
    DS X T EX (.Assign [.Name y py] (.ListComp elt [⟨tg, iter, ifs, 0⟩] scope pos) spos) S E := ds_asgLcQ i _ hc nd hi hb fs hj hz hg ht he rfl (.inl rfl) k hi' hN hyl hsw hs
theorem ds_asgLc0 (i : Nat) (hc : X.calm = true) (nd : X.N.Nodup) (hi : DIc X T tg iter S (xs.map emb)) (hb : blkC X.N X.env.scope scope own' = true) (fs : FreeS S (own'.map (·.2))) (hj : ∀ j ∈ js, j ∈ own'.map (·.2)) (hz : xs.length ≤ 1000000)
    (hg : ∀ z ∈ xs, ∀ (s : Shared) (H : Hp) (C : Addr) (cl : List (Str × Addr)) (fp : List Addr), DG (X.blk s H scope (compEnvC scope cl C X.env) fp) T tg js (wipeS S (own'.map (·.2))) (emb z) (S2 z))
    (he : ∀ z ∈ xs, ∀ (s : Shared) (H : Hp) (C : Addr) (cl : List (Str × Addr)) (fp : List Addr), DE (X.blk s H scope (compEnvC scope cl C X.env) fp) T elt (S2 z) (g z)) (k : E.nx (S.set i (dat (.list (xs.map g))))) (hi' : i < S.length) (hN : X.N[i]? = some y := by rfl) (hyl : X.env.scope.names.lookup y = some .local := by rfl)
    (hsw : swapsWith (.ListComp elt [⟨tg, iter, [], 0⟩] scope pos) (some (.Name y py)) spos.line X.env = pure true := by exact sw_true rfl rfl rfl rfl) (hs : ∀ x, foldedSetIterable iter X.env x = pure x := by intro _; rfl) :
    DS X T EX (.Assign [.Name y py] (.ListComp elt [⟨tg, iter, [], 0⟩] scope pos) spos) S E := ds_asgLcQ (f := fun _ => true) i _ hc nd hi hb fs hj hz hg (fun z hz _ _ _ _ _ => dts_nil) (fun z hz _ => he z hz) (by rw [List.filter_eq_self.mpr (fun _ _ => rfl)]) (.inr rfl) k hi' hN hyl hsw hs
theorem ds_asgLcN0 (i : Nat) (hc : X.calm = true) (nd : X.N.Nodup) (hi : DIc X T tg iter S (xs.map emb)) (hb : blkC X.N X.env.scope scope own' = true) (fs : FreeS S (own'.map (·.2))) (hj : ∀ j ∈ js, j ∈ own'.map (·.2)) (hz : xs.length ≤ 1000000)
    (hg : ∀ z ∈ xs, ∀ (s : Shared) (H : Hp) (C : Addr) (cl : List (Str × Addr)) (fp : List Addr), DG (X.blk s H scope (compEnvC scope cl C X.env) fp) T tg js (wipeS S (own'.map (·.2))) (emb z) (S2 z))
    (he : ∀ z ∈ xs, ∀ (s : Shared) (H : Hp) (C : Addr) (cl : List (Str × Addr)) (fp : List Addr), DE (X.blk s H scope (compEnvC scope cl C X.env) fp) T elt (S2 z) (g z)) (k : E.nx (S.set i (own (xs.map g)))) (hi' : i < S.length) (hN : X.N[i]? = some y := by rfl) (hyl : X.env.scope.names.lookup y = some .local := by rfl)
    (hsw : swapsWith (.ListComp elt [⟨tg, iter, [], 0⟩] scope pos) (some (.Name y py)) spos.line X.env = pure true := by exact sw_true rfl rfl rfl rfl) (hs : ∀ x, foldedSetIterable iter X.env x = pure x := by intro _; rfl) :
    DS X T EX (.Assign [.Name y py] (.ListComp elt [⟨tg, iter, [], 0⟩] scope pos) spos) S E := ds_asgLcQ (f := fun _ => true) i _ hc nd hi hb fs hj hz hg (fun z hz _ _ _ _ _ => dts_nil) (fun z hz _ => he z hz) (by rw [List.filter_eq_self.mpr (fun _ _ => rfl)]) (.inl rfl) k hi' hN hyl hsw hs
end
end DL

namespace DL
open PySem PySem.Spec PyProof.Rows L2

section
variable {X : Cx} {pins : List (Addr × Obj)} {σ : L2.St} {H : Hp} {s : Shared}
mutual
theorem nested_of (I : Inv X pins σ H s) : ∀ (k : NestedKey) {v : V} {u : Value}, Dq H v k.data → RelV v u → NestedIs s.heap k u
  | .none, _, _, h, r => by
    simp only [NestedKey.data] at h
    cases h
    cases r
    exact .none
  | .num i, _, _, h, r => by
    simp only [NestedKey.data] at h
    cases h
    obtain ⟨t, rfl⟩ := r
    exact .int i t
  | .text x, _, _, h, r => by
    simp only [NestedKey.data] at h
    cases h
    obtain ⟨t, rfl⟩ := r
    exact .text x t
  | .tup ks, _, _, h, r => by
    simp only [NestedKey.data] at h
    cases h with
    | tup h1 h2 =>
      cases r
      obtain ⟨its, rv, ⟨o, ho, hc, n, hd⟩, _⟩ := I.tuple (SqT.of h1)
      exact .tup ho hc hd (nested_all I ks h2 rv)
theorem nested_all (I : Inv X pins σ H s) : ∀ (ks : List NestedKey) {vs : List V} {us : List Value}, Dqs H vs (NestedKey.datas ks) → Vals vs us → NestedAll s.heap ks us
  | [], _, _, h, r => by
    simp only [NestedKey.datas] at h
    cases h
    cases r
    exact .nil
  | k :: ks, _, _, h, r => by
    simp only [NestedKey.datas] at h
    cases h with
    | cons h1 h2 =>
      cases r with
      | cons r1 r2 => exact .cons (nested_of I k h1 r1) (nested_all I ks h2 r2)
end
end
inductive NE (F : Hp) : List (NestedKey × Addr × Value) → List (NestedKey × PD) → Prop
  | nil : NE F [] []
  | cons {k : NestedKey} {a : Addr} {u : Value} {d : PD} {xs kvs} : Dq F (.ref a) k.data → k.depth ≤ 8 → (∃ v, RelV v u ∧ Dq F v d) → NE F xs kvs → NE F ((k, a, u) :: xs) ((k, d) :: kvs)
section
variable {F F' : Hp}
theorem NE.mv : ∀ {xs kvs}, NE F xs kvs → Xt F F' → NE F' xs kvs
  | _, _, .nil, _ => .nil
  | _, _, .cons h z ⟨v, h1, h2⟩ t, e => .cons (h.mv e) z ⟨v, h1, h2.mv e⟩ (t.mv e)
theorem NE.length : ∀ {xs kvs}, NE F xs kvs → xs.length = kvs.length
  | _, _, .nil => rfl
  | _, _, .cons _ _ _ t => by simp [t.length]
theorem NE.get {k : NestedKey} : ∀ {xs kvs}, NE F xs kvs → (atKey xs k = none ∧ lk kvs k = none) ∨ ∃ p v d, atKey xs k = some p ∧ lk kvs k = some d ∧ RelV v p.2 ∧ Dq F v d
  | _, _, .nil => .inl ⟨rfl, rfl⟩
  | _, _, .cons (k := j) (a := a) (u := u) (d := d) (xs := xs) (kvs := kvs) h z ⟨v, h1, h2⟩ t => by
    by_cases e : j = k
    · exact .inr ⟨(a, u), v, d, by simp [atKey, List.find?_cons, e], by simp [lk, List.find?_cons, e], h1, h2⟩
    · rcases t.get (k := k) with ⟨a, b⟩ | ⟨p, v, d, a, b, c⟩
      · exact .inl ⟨by simpa [atKey, List.find?_cons, e] using a, by simpa [lk, List.find?_cons, e] using b⟩
      · exact .inr ⟨p, v, d, by simpa [atKey, List.find?_cons, e] using a, by simpa [lk, List.find?_cons, e] using b, c⟩
theorem NE.some_eq {k : NestedKey} {xs kvs} (h : NE F xs kvs) : (atKey xs k).isSome = (lk kvs k).isSome := by
  rcases h.get (k := k) with ⟨a, b⟩ | ⟨p, v, d, a, b, _⟩
  · rw [a, b]; rfl
  · rw [a, b]; rfl
theorem NE.any {k : NestedKey} : ∀ {xs kvs}, NE F xs kvs → (atKey xs k).isSome = kvs.any fun kv => decide (kv.1 = k)
  | _, _, .nil => rfl
  | _, _, .cons (k := j) h z _ t => by
    by_cases e : j = k
    · simp [atKey, List.find?_cons, e]
    · have ih := t.any (k := k)
      simp only [List.any_cons, e, decide_false, Bool.false_or]
      rw [← ih]
      simp [atKey, List.find?_cons, e]
theorem NE.repl {k : NestedKey} {u : Value} {d : PD} (q : ∃ v, RelV v u ∧ Dq F v d) : ∀ {xs kvs}, NE F xs kvs → NE F (xs.map (putAt k u)) (kvs.map fun kv => if kv.1 = k then (kv.1, d) else kv)
  | _, _, .nil => .nil
  | _, _, .cons (k := j) h z hv t => by
    rw [List.map_cons, List.map_cons]
    by_cases e : j = k
    · simp only [putAt, e, if_true]
      exact .cons (e ▸ h) (e ▸ z) q (t.repl q)
    · simp only [putAt, e, if_false]
      exact .cons h z hv (t.repl q)
theorem NE.snoc {k : NestedKey} {a : Addr} {u : Value} {d : PD} (hk : Dq F (.ref a) k.data) (hz : k.depth ≤ 8) (q : ∃ v, RelV v u ∧ Dq F v d) : ∀ {xs kvs}, NE F xs kvs → NE F (xs ++ [(k, a, u)]) (kvs ++ [(k, d)])
  | _, _, .nil => .cons hk hz q .nil
  | _, _, .cons h z hv t => .cons h z hv (t.snoc hk hz q)
theorem NE.put {k : NestedKey} {a : Addr} {u : Value} {d : PD} {xs kvs} (h : NE F xs kvs) (hk : Dq F (.ref a) k.data) (hz : k.depth ≤ 8) (q : ∃ v, RelV v u ∧ Dq F v d) : NE F (storedH xs k a u) (pt kvs k d) := by
  unfold storedH pt
  rw [h.any]
  split
  · exact h.repl q
  · exact h.snoc hk hz q
end
/-- the object itself -/
def DN_ (a : Addr) (o : Obj) : HO := .ext fun h => h.get? a = some o
theorem Mu.dn {a : Addr} {o : Obj} (hc : ∃ es ep, o.data = .dict es ep) : Mu (DN_ a o) := ⟨fun ps h => (by cases h), fun c q h => by
  unfold DN_ LamX.CodeO at h
  have e : (fun h : Heap => h.get? a = some o) = fun h : Heap => ∃ (oc : Obj) (vs : Array Value) (t : Tok), h.get? c = some oc ∧ oc.data = .fields vs ∧ vs[1]? = some (.str q t) := HO.ext.inj h
  obtain ⟨es, ep, hc⟩ := hc
  obtain ⟨cls, dd, data, sl⟩ := o
  simp only at hc
  subst hc
  have z : (⟨Array.replicate (a + 1) ⟨cls, dd, .dict es ep, sl⟩, {}⟩ : Heap).get? a = some ⟨cls, dd, .dict es ep, sl⟩ := by
    simp [Heap.get?]
  obtain ⟨oc, vs, t, h1, h2, _⟩ := (congrFun e (⟨Array.replicate (a + 1) ⟨cls, dd, .dict es ep, sl⟩, {}⟩ : Heap)).mp z
  have h3 : oc = ⟨cls, dd, .dict es ep, sl⟩ := by
    unfold Heap.get? at h1
    rw [Array.getElem?_replicate] at h1
    split at h1
    · cases h1
    · split at h1
      · cases h1; rfl
      · cases h1
  rw [h3] at h2
  cases h2⟩
def odN (P : Program) (w : World) (kvs : List (NestedKey × PD)) : SV := ⟨fun F H o v => ∃ a ob es ep xs, o = [a] ∧ v = some (.ref a) ∧ H a = some (DN_ a ob) ∧ (a == sysModules) = false ∧ ob.ExactDict ∧ ob.data = .dict es ep ∧ es.toList = xs.map (entryOfKey (nestedKind P w)) ∧ (xs.map (·.1)).Nodup ∧ xs.length ≤ sizeLine ∧ NE F xs kvs,
  by
    rintro F F' H H' o v e k ⟨a, ob, es, ep, xs, h1, h2, h3, h4, h5, h6, h7, h8, h9, h10⟩
    exact ⟨a, ob, es, ep, xs, h1, h2, by rw [k a (by simp [h1])]; exact h3, h4, h5, h6, h7, h8, h9, h10.mv e⟩⟩
theorem odN_ref {P : Program} {w : World} {kvs : List (NestedKey × PD)} : ∀ F H o v, (odN P w kvs).rep F H o v → ∃ a, o = [a] ∧ v = some (.ref a) := fun _ _ _ _ ⟨a, _, _, _, _, h1, h2, _⟩ => ⟨a, h1, h2⟩
/-- what stands in the heap -/
structure NAt (P : Program) (w : World) (F H : Hp) (a : Addr) (kvs : List (NestedKey × PD)) (xs : List (NestedKey × Addr × Value)) (ob : Obj) : Prop where
  at_ : H a = some (DN_ a ob)
  sys : (a == sysModules) = false
  ex : ob.ExactDict
  dat : ∃ es ep, ob.data = .dict es ep ∧ es.toList = xs.map (entryOfKey (nestedKind P w))
  nd : (xs.map (·.1)).Nodup
  sz : xs.length ≤ sizeLine
  ne : NE F xs kvs
section
variable {X : Cx} {pins : List (Addr × Obj)} {σ : L2.St} {H F : Hp} {s : Shared} {a : Addr} {kvs : List (NestedKey × PD)} {xs : List (NestedKey × Addr × Value)} {ob : Obj}
theorem ne_is (I : Inv X pins σ H s) (f : Xt F H) : ∀ {xs kvs}, NE F xs kvs → ∀ x ∈ xs, (nestedKind X.prog X.w).is s.heap x.1 x.2.1
  | _, _, .nil, x, hx => by cases hx
  | _, _, .cons h z _ t, x, hx => by
    rcases List.mem_cons.mp hx with e | hx
    · subst e; exact ⟨nested_of I _ (h.mv f) rfl, z⟩
    · exact ne_is I f t x hx
theorem NAt.of (n : NAt X.prog X.w F H a kvs xs ob) (I : Inv X pins σ H s) (f : Xt F H) : s.heap.DictOfH (nestedKind X.prog X.w) a xs := by
  obtain ⟨es, ep, h1, h2⟩ := n.dat
  obtain ⟨h3, _⟩ := I.hok a _ n.at_
  exact ⟨ob, es, ep, h3, n.ex, h1, h2, ne_is I f n.ne, n.nd⟩
theorem NAt.mv {F' H' : Hp} (n : NAt X.prog X.w F H a kvs xs ob) (f : Xt F F') (h : Xt H H') : NAt X.prog X.w F' H' a kvs xs ob := ⟨h a _ n.at_ (fun ps z => by cases z), n.sys, n.ex, n.dat, n.nd, n.sz, n.ne.mv f⟩
theorem RpO.dn_at {T : Tb} {O0 : Addr → Prop} {H0 : Hp} {os : Nat → List Addr} {S : AS} (r : RpO T O0 H0 os S σ H) {i : Nat} (h : S[i]? = some (odN X.prog X.w kvs)) : ∃ a xs ob, os i = [a] ∧ σ[i]? = some (some (.ref a)) ∧ NAt X.prog X.w (fz (Ow O0 os) H) H a kvs xs ob := by
  obtain ⟨v, h1, a, ob, es, ep, xs, h2, rfl, h3, h4, h5, h6, h7, h8, h9, h10⟩ := r.rep i _ h
  exact ⟨a, xs, ob, h2, h1, ⟨h3, h4, h5, ⟨es, ep, h6, h7⟩, h8, h9, h10⟩⟩
theorem dq_tupref {ks : List NestedKey} {v : V} (h : Dq H v (NestedKey.tup ks).data) : ∃ b, v = .ref b := by
  simp only [NestedKey.data] at h
  cases h with
  | tup h1 h2 => exact ⟨_, rfl⟩
end
section
variable {X : Cx} {T : Tb} {EX : XK} {S S' : AS} {E : En} {d d0 : PD} {e f b : Expr} {pos p p2 apos cpos : Pos} {kvs : List (NestedKey × PD)} {ks : List NestedKey} {x : Str}
theorem dv_dictN : DV X T (.Dict [] [] pos) S (odN X.prog X.w []) := by
  refine ⟨fun pins s σ H Q I ⟨O0, H0, os, r, k⟩ => ?_⟩
  have hb := I.big
  have hx := Heap.get?_push_size s.heap (o := { cls := .type "dict", data := .dict #[] }) rfl
  refine wpAny_Dict_empty ⟨.ref s.heap.objs.size, _, I.laid (a := s.heap.objs.size) (o := DN_ s.heap.objs.size { cls := .type "dict", data := .dict #[] }) (t' := s.toks) (fun _ _ q => Heap.get?_push_of_some _ q) (Nat.le_refl _) ⟨hx, ⟨_, hx⟩, fun h1 h2 z w => w _ z⟩, rfl, ?_⟩
  have hf := I.hok.fresh (Nat.le_refl s.heap.objs.size)
  refine k (.ref s.heap.objs.size) [s.heap.objs.size] _ (r.ec.new hf) ⟨.own ⟨s.heap.objs.size, _, #[], 0, [], rfl, rfl, upd_same, beq_eq_false_iff_ne.mpr (Ne.symm (Nat.ne_of_lt hb)), ⟨rfl, rfl, rfl⟩, rfl, rfl, List.nodup_nil, Nat.zero_le _, .nil⟩ .nil, by simp, by simpa using Nw.of hf, by simpa using ⟨_, upd_same, Mu.dn ⟨_, _, rfl⟩⟩⟩
theorem room_in1 {A : Around} (hu : A.units + 20 < cLine) : (nestedKind X.prog X.w).room A.in1 := by
  show A.units + 1 + 8 < cLine
  omega
/-- d.get(k, x) -/
theorem de_getN (i : Nat) (hu : X.A.units + 20 < cLine) (he : DE X T e S (NestedKey.tup ks).data) (hf : DE X T f S d0) (hk : (NestedKey.tup ks).depth ≤ 8) (hi : S[i]? = some (odN X.prog X.w kvs) := by rfl) (hN : X.N[i]? = some x := by rfl) (hv : Vis X.env.scope x := by first | exact Or.inl rfl | exact Or.inr (Or.inl rfl) | exact Or.inr (Or.inr rfl)) (hd : (x == ("__debug__" : Str)) = false := by decide)
    (hcd : (x == ("__classdict__" : Str)) = false := by decide) (m : M2 X (.Name x p) "get" apos e f cpos := by exact ⟨rfl, rfl, rfl, rfl⟩) : DE X T (.Call (.Attribute (.Name x p) "get" apos) [e, f] [] cpos) S ((lk kvs (.tup ks)).getD d0) := by
  refine ⟨fun pins s σ H Q I ⟨O0, H0, os, r, k⟩ => ?_⟩
  obtain ⟨a, xs, ob, h1, h2, n⟩ := r.dn_at hi
  refine wpAny_Call_method m.base m.few m.line PySem.F.plainAttrs_dict PySem.F.slot_dict_get PySem.F.type_dict_get (thn ((pe_var hN hv hd hcd).run pins s σ H (fun v H1 => v = .ref a ∧ H1 = H) I ⟨_, h2, rfl, rfl⟩) fun u s1 ⟨v, H1, I1, r1, q1⟩ => ?_)
  obtain ⟨ev, eH⟩ := q1
  subst ev
  subst eH
  obtain rfl : u = Value.ref a := r1
  have dd := n.of I1 fz_sub
  refine ⟨dd.typeIs, fun b q => ?_, ?_⟩
  · cases q
    obtain ⟨o, _, _, g1, g2, _⟩ := dd
    exact ⟨o, g1, g2.2.1⟩
  rw [m.trees]
  refine Calls.callWith_builtin rfl (Calls.evalArgs_plain (Calls.spliced_cons (thn (he.run pins s1 σ H1 (fun v H2 => Gr T H1 H2 ∧ Dq (fz (Ow O0 os) H2) v (NestedKey.tup ks).data) I1 ⟨O0, H0, os, r, fun v H2 g q => ⟨g, q⟩⟩) fun iv s2 ⟨y, H2, I2, ry, g2, q2⟩ =>
    Calls.spliced_cons (thn (hf.run pins s2 σ H2 (fun v H3 => Gr T H2 H3 ∧ Dq (fz (Ow O0 os) H3) v d0) I2 ⟨O0, H0, os, r.gr g2, fun v H3 g q => ⟨g, q⟩⟩) fun fv s3 ⟨z, H3, I3, rz, g3, q3⟩ => Calls.spliced_nil ?_))))
  obtain ⟨bk, rfl⟩ := dq_tupref q2
  obtain rfl : iv = Value.ref bk := ry
  have g := g2.trans g3
  have n3 := n.mv (fz_ext (O := Ow O0 os) g.ext) g.ext
  have dd3 := n3.of I3 fz_sub
  have hkey : (nestedKind X.prog X.w).is s3.heap (.tup ks) bk := ⟨nested_of I3 _ ((q2.mv (fz_ext g3.ext)).mv fz_sub) rfl, hk⟩
  refine call_meetsIn PySem.F.slot_dict_get dd3.typeIs PySem.F.entry_dict_get (PySem.F.args_dict_get_3 _ _ _) (meetsH_dict_get_default (nestedKind X.prog X.w) a bk n.sys fv) ⟨room_in1 hu, .tup ks, xs, hkey, dd3, ?_⟩
  rcases n3.ne.get (k := .tup ks) with ⟨z1, z2⟩ | ⟨p, v, d', z1, z2, z3, z4⟩
  · rw [z2] at k
    rw [z1]
    exact ⟨z, H3, I3.tok _, rz, k z H3 g q3⟩
  · rw [z2] at k
    rw [z1]
    exact ⟨v, H3, I3.tok _, z3, k v H3 g z4⟩
/-- k in d -/
theorem pc_inN {neg : Bool} (i : Nat) (hu : X.A.units + 20 < cLine) (he : DE X T e S (NestedKey.tup ks).data) (hk : (NestedKey.tup ks).depth ≤ 8) (hi : S[i]? = some (odN X.prog X.w kvs)) (hN : X.N[i]? = some x) (hv : Vis X.env.scope x) (hd : (x == ("__debug__" : Str)) = false)
    (hcd : (x == ("__classdict__" : Str)) = false) : PC X (if neg then .NotIn else .In) e (.Name x p) (tD T S (.bool (if neg then !(lk kvs (.tup ks)).isSome else (lk kvs (.tup ks)).isSome))) := by
  refine ⟨fun pins s σ H Q I ⟨O0, H0, os, r, k⟩ => ?_⟩
  obtain ⟨a, xs, ob, h1, h2, n⟩ := r.dn_at hi
  refine thn (he.run pins s σ H (fun v H2 => Gr T H H2 ∧ Dq (fz (Ow O0 os) H2) v (NestedKey.tup ks).data) I ⟨O0, H0, os, r, fun v H2 g q => ⟨g, q⟩⟩) fun iv s2 ⟨y, H2, I2, ry, g2, q2⟩ => ?_
  refine thn ((pe_var hN hv hd hcd).run pins s2 σ H2 (fun v H1 => v = .ref a ∧ H1 = H2) I2 ⟨_, h2, rfl, rfl⟩) fun u s1 ⟨v, H1, I1, r1, q1⟩ => ?_
  obtain ⟨ev, eH⟩ := q1
  subst ev
  subst eH
  obtain rfl : u = Value.ref a := r1
  obtain ⟨bk, rfl⟩ := dq_tupref q2
  obtain rfl : iv = Value.ref bk := ry
  have n3 := n.mv (fz_ext (O := Ow O0 os) g2.ext) g2.ext
  have dd3 := n3.of I1 fz_sub
  have hkey : (nestedKind X.prog X.w).is s1.heap (.tup ks) bk := ⟨nested_of I1 _ (q2.mv fz_sub) rfl, hk⟩
  cases neg with
  | true =>
    refine wpAny_notIn_heap (room_in1 hu) hkey n.sys dd3 ⟨_, _, I1.tok _, ?_, k (.bl (!(lk kvs (.tup ks)).isSome)) _ g2 (.bl _)⟩
    rw [n3.ne.some_eq]; rfl
  | false =>
    refine wpAny_in_heap (room_in1 hu) hkey n.sys dd3 ⟨_, _, I1.tok _, ?_, k (.bl (lk kvs (.tup ks)).isSome) _ g2 (.bl _)⟩
    rw [n3.ne.some_eq]; rfl
theorem dt_inN (i : Nat) (hu : X.A.units + 20 < cLine) (he : DE X T e S (NestedKey.tup ks).data) (hk : (NestedKey.tup ks).depth ≤ 8) (hi : S[i]? = some (odN X.prog X.w kvs) := by rfl) (hN : X.N[i]? = some x := by rfl) (hv : Vis X.env.scope x := by first | exact Or.inl rfl | exact Or.inr (Or.inl rfl) | exact Or.inr (Or.inr rfl)) (hd : (x == ("__debug__" : Str)) = false := by decide)
    (hcd : (x == ("__classdict__" : Str)) = false := by decide) (hm : behindInMarks .In (.Name x p) = false := by rfl) : DT X T (.Compare e [.In] [.Name x p] pos) S (lk kvs (.tup ks)).isSome :=
  pt_of (pt_cmp (pc_inN (neg := false) i hu he hk hi hN hv hd hcd) hm) fun σ H Q ⟨O0, H0, os, r, k⟩ => ⟨O0, H0, os, r, fun v H' g h => by cases h; exact ⟨_, rfl, k H' g⟩⟩
theorem dt_niN (i : Nat) (hu : X.A.units + 20 < cLine) (he : DE X T e S (NestedKey.tup ks).data) (hk : (NestedKey.tup ks).depth ≤ 8) (hi : S[i]? = some (odN X.prog X.w kvs) := by rfl) (hN : X.N[i]? = some x := by rfl) (hv : Vis X.env.scope x := by first | exact Or.inl rfl | exact Or.inr (Or.inl rfl) | exact Or.inr (Or.inr rfl)) (hd : (x == ("__debug__" : Str)) = false := by decide)
    (hcd : (x == ("__classdict__" : Str)) = false := by decide) (hm : behindInMarks .NotIn (.Name x p) = false := by rfl) : DT X T (.Compare e [.NotIn] [.Name x p] pos) S (!(lk kvs (.tup ks)).isSome) :=
  pt_of (pt_cmp (pc_inN (neg := true) i hu he hk hi hN hv hd hcd) hm) fun σ H Q ⟨O0, H0, os, r, k⟩ => ⟨O0, H0, os, r, fun v H' g h => by cases h; exact ⟨_, rfl, k H' g⟩⟩
/-- d[k] = v -/
theorem ds_putN (i : Nat) (hu : X.A.units + 20 < cLine) (he : DE X T e S (NestedKey.tup ks).data) (hv' : DE X T b S d) (hk : (NestedKey.tup ks).depth ≤ 8) (kk : E.nx (S.set i (odN X.prog X.w (pt kvs (.tup ks) d)))) (hz : kvs.length < sizeLine) (hi : S[i]? = some (odN X.prog X.w kvs) := by rfl) (hN : X.N[i]? = some x := by rfl) (hv : Vis X.env.scope x := by first | exact Or.inl rfl | exact Or.inr (Or.inl rfl) | exact Or.inr (Or.inr rfl)) (hd : (x == ("__debug__" : Str)) = false := by decide)
    (hcd : (x == ("__classdict__" : Str)) = false := by decide) (hs : swapsWith b (some (.Subscript (.Name x p) e p2)) pos.line X.env = pure false := by rfl) : DS X T EX (.Assign [.Subscript (.Name x p) e p2] b pos) S E := by
  refine ⟨fun pins s σ H D I ⟨O0, H0, os, r, l⟩ => ?_⟩
  obtain ⟨a, xs, ob, h1, h2, n⟩ := r.dn_at hi
  refine wpAny_Assign_Subscript (thn (hv'.run pins s σ H (fun v H1 => Gr T H H1 ∧ Dq (fz (Ow O0 os) H1) v d) I ⟨O0, H0, os, r, fun v H1 g q => ⟨g, q⟩⟩) fun rv s1 ⟨v, H1, I1, rv1, g1, q1⟩ =>
    thn ((pe_var hN hv hd hcd).run pins s1 σ H1 (fun v H2 => v = .ref a ∧ H2 = H1) I1 ⟨_, h2, rfl, rfl⟩) fun u s2 ⟨x2, H2, I2, rx2, ex2, eH2⟩ => ?_) hs
  subst ex2
  subst eH2
  obtain rfl : u = Value.ref a := rx2
  refine thn (he.run pins s2 σ H2 (fun v H3 => Gr T H2 H3 ∧ Dq (fz (Ow O0 os) H3) v (NestedKey.tup ks).data) I2 ⟨O0, H0, os, r.gr g1, fun v H3 g q => ⟨g, q⟩⟩) fun iv s3 ⟨y, H3, I3, ry, g3, q3⟩ => ?_
  obtain ⟨bk, rfl⟩ := dq_tupref q3
  obtain rfl : iv = Value.ref bk := ry
  have g := g1.trans g3
  have n3 := n.mv (fz_ext (O := Ow O0 os) g.ext) g.ext
  have dd3 := n3.of I3 fz_sub
  have hkey : (nestedKind X.prog X.w).is s3.heap (.tup ks) bk := ⟨nested_of I3 _ (q3.mv fz_sub) rfl, hk⟩
  refine wpAny_setItem_heap (hsz := n.sz) (room_in1 hu) hkey dd3 fun h' dd' hsb => ?_
  obtain ⟨o', es', ep', hq, w1, w2, w3, w4, w5⟩ := dd'
  have I4 : Inv X pins σ (upd H3 a (DN_ a o')) { s3 with heap := h', toks := s3.toks + (nestedKind X.prog X.w).draws (.tup ks) } := d_write I3 (by rw [n3.at_]; exact True.intro) hsb ⟨o', hq⟩ ⟨hq, ⟨o', hq⟩, fun h1 h2 z w => w _ z⟩
  refine ⟨σ, _, I4, l.nx _ _ _ kk ⟨os, ?_⟩⟩
  have ne' := n3.ne.put (k := .tup ks) (a := bk) (u := rv) (d := d) q3 hk ⟨v, rv1, q1.mv (fz_ext g3.ext)⟩
  refine (r.gr g).change i (lt_of_get hi) (by rw [h1]; exact List.mem_cons_self) (Mu.dn ⟨_, _, w2⟩) ⟨_, h2, a, o', es', ep', _, h1, rfl, upd_same, n.sys, w1, w2, w3, w5, ?_, ne'⟩
  rw [ne'.length]
  have := length_pt kvs (.tup ks) d
  omega
theorem de_lenN (i : Nat) {p2 : Pos} (hm : X.mg "len" = none) (hi : S[i]? = some (odN X.prog X.w kvs) := by rfl) (hN : X.N[i]? = some x := by rfl) (hv : Vis X.env.scope x := by first | exact Or.inl rfl | exact Or.inr (Or.inl rfl) | exact Or.inr (Or.inr rfl)) (hd : (x == ("__debug__" : Str)) = false := by decide)
    (hcd : (x == ("__classdict__" : Str)) = false := by decide) (hs : starEach [.Name x p2] X.env = (false, eval (.Name x p2) X.env) :: starEach [] X.env := by rfl) (hg : Gl X "len" := by rfl) : DE X T (.Call (.Name "len" p) [.Name x p2] [] pos) S (.int (kvs.length : Nat)) := by
  have hc : CallR X (.builtin "len") (fun vs H Q => ∃ F a xs ob, vs = [.ref a] ∧ Xt F H ∧ NAt X.prog X.w F H a kvs xs ob ∧ Q (.int (kvs.length : Nat)) H) := by
    intro pins s σ H vs us Q I rv h
    obtain ⟨F, a, xs, ob, rfl, f, n, q⟩ := h
    obtain ⟨u, rfl, ru⟩ := vals1 rv
    obtain rfl : u = Value.ref a := ru
    have hsz := n.sz
    rw [sizeLine_eq] at hsz
    refine call_len_dictH n.sys (n.of I f) (by omega) ?_
    rw [n.ne.length]
    exact ⟨.int ((kvs.length : Nat) : Int), H, I.tok _, ⟨_, rfl⟩, q⟩
  exact pe_of (pe_callB hc hg hm (by decide +kernel) (pa_cons (pe_var hN hv hd hcd) pa_nil hs) (by decide) (by decide) hs (by rfl)) fun σ H Q ⟨O0, H0, os, r, k⟩ => by
    obtain ⟨a, xs, ob, h1, h2, n⟩ := r.dn_at hi
    exact ⟨_, h2, _, a, xs, ob, rfl, fz_sub, n, k _ H r.ec.refl (.int _)⟩
end
end DL

namespace DL
open PySem PySem.Spec PyProof.Rows L2

/-- e is d, behind it the state is S' -/
def tDs (T : Tb) (S : AS) (d : PD) (S' : AS) : TE := fun σ H Q => ∃ O0 H0 os, RpO T O0 H0 os S σ H ∧ ∀ v H', RpO T O0 H0 os S' σ H' → Xt (fz (owned os) H) (fz (owned os) H') → Dq (fz (Ow O0 os) H') v d → Q v H'
abbrev DES (X : Cx) (T : Tb) (e : Expr) (S : AS) (d : PD) (S' : AS) : Prop := PE X e (tDs T S d S')
theorem fz_chg {O : Addr → Prop} {H : Hp} {a : Addr} {o : HO} (h : O a) : Xt (fz O H) (fz O (upd H a o)) := fun b w q n => by
  obtain ⟨q1, q2⟩ := fz_some q
  rw [fz_out q1, upd_ne (fun z => q1 (by rw [z]; exact h))]
  exact q2
theorem dqs_erase {H : Hp} : ∀ {ds : List PD} {vs : List V} (n : Nat), Dqs H vs ds → Dqs H (vs.eraseIdx n) (ds.eraseIdx n)
  | [], _, _, h => by cases h; exact .nil
  | _ :: _, _, 0, h => by
    cases h with
    | cons h1 h2 => exact h2
  | _ :: _, _, n + 1, h => by
    cases h with
    | cons h1 h2 => exact .cons h1 (dqs_erase n h2)
section
variable {X : Cx} {T : Tb} {EX : XK} {S S' : AS} {E : En} {d da : PD} {ds es : List PD} {e : Expr} {pos p apos cpos : Pos} {x : Str}
theorem ds_asgS {y : Str} {py : Pos} (j : Nat) (he : DES X T e S d S') (k : E.nx (S'.set j (dat d))) (nd : X.N.Nodup) (hN : X.N[j]? = some y := by rfl) (hx : Loc X.env.scope y := by first | exact Or.inl rfl | exact Or.inr rfl)
    (hs : swapsWith e (some (.Name y py)) pos.line X.env = pure false := by rfl) (hf : X.fn y = true ∨ X.env.scope.names.lookup y = some .local := by first | exact .inl rfl | exact .inr rfl) : DS X T EX (.Assign [.Name y py] e pos) S E :=
  ps_of (ps_set (i := j) nd hN hx he hs hf) fun D σ H ⟨O0, H0, os, r, l⟩ => ⟨O0, H0, os, r, fun v H' r' _ h => l.nx _ _ _ k (r'.set_dat j h)⟩
theorem ds_exprS (he : DES X T e S d S') (k : E.nx S') (hs : swapsWith e none pos.line X.env = pure false := by rfl) : DS X T EX (.Expr e pos) S E :=
  ps_of (ps_expr he hs) fun D σ H ⟨O0, H0, os, r, l⟩ => ⟨O0, H0, os, r, fun v H' r' _ h => l.nx S' σ H' k ⟨os, r'⟩⟩
/-- x.pop(e) -/
theorem des_popA (i : Nat) {n : Nat} (he : DE X T e S (.int (n : Nat))) (hi : S[i]? = some (own ds)) (hn : ds[n]? = some d) (hz : ds.length ≤ 1000000000) (hN : X.N[i]? = some x := by rfl) (hv : Vis X.env.scope x := by first | exact Or.inl rfl | exact Or.inr (Or.inl rfl) | exact Or.inr (Or.inr rfl)) (hdb : (x == ("__debug__" : Str)) = false := by decide)
    (hcd : (x == ("__classdict__" : Str)) = false := by decide) (hbase : attributeBase (.Name x p) "pop" X.env (eval (.Name x p) X.env) = eval (.Name x p) X.env := by rfl)
    (hfew : ((backTo cpos (starEach [e] X.env)).all (fun x => !x.1) && (backToKw cpos (keywordEach [] X.env)).all (fun x => x.1.isSome) && decide ([e].length + ([] : List Keyword).length + (if ([] : List Keyword).isEmpty then 0 else 1) < 30)) = true := by rfl)
    (hline : (apos.endLine == cpos.line) = true := by rfl) (hs : starEach [e] X.env = (false, eval e X.env) :: starEach [] X.env := by rfl) (hplain : (backTo cpos (starEach [] X.env)).any (·.1) = false := by rfl) :
    DES X T (.Call (.Attribute (.Name x p) "pop" apos) [e] [] cpos) S d (S.set i (own (ds.eraseIdx n))) := by
  refine pe_of (pe_bm PySem.F.plainAttrs_list PySem.F.slot_list_pop PySem.F.type_list_pop mt_popAt (pe_var hN hv hdb hcd) (pa_cons he pa_nil hs) hbase hfew hline hs hplain) fun σ H Q ⟨O0, H0, os, r, k⟩ => ?_
  obtain ⟨a, xs, h1, h2, h3, h4⟩ := r.own_at hi
  refine ⟨.ref a, h2, .inl ⟨rfl, xs, SqL.of h3⟩, O0, H0, os, r, fun v H' g h => ?_⟩
  cases h
  have h3' : H' a = some (.lst xs) := g.ext _ _ h3 fun _ z => by cases z
  have h4' := h4.mv (fz_ext (O := Ow O0 os) g.ext)
  obtain ⟨y, e1, e2⟩ := h4'.get hn
  have hlt : n < ds.length := (List.getElem?_eq_some_iff.mp hn).1
  have ha : a ∈ os i := by rw [h1]; exact List.mem_cons_self
  refine ⟨a, xs, (n : Nat), n, y, rfl, rfl, h3', by omega, by omega, ?_, e1, k y _ ((r.gr g).own_set (lt_of_get hi) h1 h2 (dqs_erase n h4')) ((fz_ext g.ext).trans (fz_chg ⟨i, ha⟩)) (e2.mv (fz_chg (.inr ⟨i, ha⟩)))⟩
  rw [h4'.length]
  simp [seqIndex?]
  omega
/-- x.pop() -/
theorem des_pop (i : Nat) (hi : S[i]? = some (own ds)) (hn : ds[ds.length - 1]? = some d) (hN : X.N[i]? = some x := by rfl) (hv : Vis X.env.scope x := by first | exact Or.inl rfl | exact Or.inr (Or.inl rfl) | exact Or.inr (Or.inr rfl)) (hdb : (x == ("__debug__" : Str)) = false := by decide)
    (hcd : (x == ("__classdict__" : Str)) = false := by decide) (hbase : attributeBase (.Name x p) "pop" X.env (eval (.Name x p) X.env) = eval (.Name x p) X.env := by rfl) (hline : (apos.endLine == cpos.line) = true := by rfl) :
    DES X T (.Call (.Attribute (.Name x p) "pop" apos) [] [] cpos) S d (S.set i (own ds.dropLast)) := by
  refine pe_of (pe_bm0 PySem.F.plainAttrs_list PySem.F.slot_list_pop PySem.F.type_list_pop mt_pop (pe_var hN hv hdb hcd) hbase hline) fun σ H Q ⟨O0, H0, os, r, k⟩ => ?_
  obtain ⟨a, xs, h1, h2, h3, h4⟩ := r.own_at hi
  obtain ⟨y, e1, e2⟩ := h4.get hn
  have ha : a ∈ os i := by rw [h1]; exact List.mem_cons_self
  have hd : Dqs (fz (Ow O0 os) H) xs.dropLast ds.dropLast := by
    rw [List.dropLast_eq_take, List.dropLast_eq_take, h4.length]
    exact h4.take _
  exact ⟨.ref a, h2, .inl ⟨rfl, xs, SqL.of h3⟩, a, xs, y, rfl, rfl, h3, by rw [h4.length]; exact e1, k y _ (r.own_set (lt_of_get hi) h1 h2 hd) (fz_chg ⟨i, ha⟩) (e2.mv (fz_chg (.inr ⟨i, ha⟩)))⟩
def rRemD : V → List V → Hp → VK → Prop := fun x vs H Q => ∃ (l : Addr) (xs : List V) (ds : List PD) (y : V) (d : PD) (j : Nat), x = .ref l ∧ vs = [y] ∧ H l = some (.lst xs) ∧ Dqs H xs ds ∧ Dq H y d ∧ SeqAt.dataPlace ds d = some j ∧ min (PyData.depthAll ds) d.depth ≤ 64 ∧ Q .non (upd H l (.lst (xs.eraseIdx j)))
theorem mt_removeD (hu : X.A.units + 100 < cLine) : MtM X "list.remove" rRemD := by
  intro pins s σ H x xs v us Q I rx rxs h
  obtain ⟨l, ys, ds, y, d, j, rfl, rfl, hH, hds, hd, hp, hm, q⟩ := h
  cases rx
  obtain ⟨u, rfl, ru⟩ := rxs.one
  obtain ⟨z, its, n, r, hl, e⟩ := I.lstM hH
  obtain ⟨as, r1⟩ := Dp.readsAll I ds ys its (Dqs.dp ds hds) r
  obtain ⟨bs, r2⟩ := Dp.reads I d y u (Dq.dp d hd) ru
  refine SeqAt.remove_list_data (vs := its.toArray) ⟨_, e, rfl, n, rfl⟩ (by simpa using r1) r2 (Dqs.plain ds hds) (Dq.plain d hd) (by omega) hp (by rw [List.size_toArray]; omega) ?_
  refine ⟨.non, _, I.lset (its' := its.eraseIdx j) (t' := s.toks) hH e ?_ (r.eraseIdx j) ?_, rfl, q⟩
  · show its.toArray.eraseIdxIfInBounds j = (its.eraseIdx j).toArray
    rw [List.eraseIdxIfInBounds_toArray]
  · have := len_erase ys j
    omega
/-- x.remove(e) -/
theorem des_remove (i : Nat) {j : Nat} (hu : X.A.units + 100 < cLine) (he : DE X T e S da) (hi : S[i]? = some (own ds)) (hj : SeqAt.dataPlace ds da = some j) (hdp : min (PyData.depthAll ds) da.depth ≤ 64) (hN : X.N[i]? = some x := by rfl) (hv : Vis X.env.scope x := by first | exact Or.inl rfl | exact Or.inr (Or.inl rfl) | exact Or.inr (Or.inr rfl)) (hdb : (x == ("__debug__" : Str)) = false := by decide)
    (hcd : (x == ("__classdict__" : Str)) = false := by decide) (hbase : attributeBase (.Name x p) "remove" X.env (eval (.Name x p) X.env) = eval (.Name x p) X.env := by rfl)
    (hfew : ((backTo cpos (starEach [e] X.env)).all (fun x => !x.1) && (backToKw cpos (keywordEach [] X.env)).all (fun x => x.1.isSome) && decide ([e].length + ([] : List Keyword).length + (if ([] : List Keyword).isEmpty then 0 else 1) < 30)) = true := by rfl)
    (hline : (apos.endLine == cpos.line) = true := by rfl) (hs : starEach [e] X.env = (false, eval e X.env) :: starEach [] X.env := by rfl) (hplain : (backTo cpos (starEach [] X.env)).any (·.1) = false := by rfl) :
    DES X T (.Call (.Attribute (.Name x p) "remove" apos) [e] [] cpos) S .none (S.set i (own (ds.eraseIdx j))) := by
  refine pe_of (pe_bm PySem.F.plainAttrs_list PySem.F.slot_list_remove PySem.F.type_list_remove (mt_removeD hu) (pe_var hN hv hdb hcd) (pa_cons he pa_nil hs) hbase hfew hline hs hplain) fun σ H Q ⟨O0, H0, os, r, k⟩ => ?_
  obtain ⟨a, xs, h1, h2, h3, h4⟩ := r.own_at hi
  refine ⟨.ref a, h2, .inl ⟨rfl, xs, SqL.of h3⟩, O0, H0, os, r, fun v H' g h => ?_⟩
  have h3' : H' a = some (.lst xs) := g.ext _ _ h3 fun _ z => by cases z
  have h4' := h4.mv (fz_ext (O := Ow O0 os) g.ext)
  have ha : a ∈ os i := by rw [h1]; exact List.mem_cons_self
  exact ⟨a, xs, ds, v, da, j, rfl, rfl, h3', h4'.mv fz_sub, h.mv fz_sub, hj, hdp, k .non _ ((r.gr g).own_set (lt_of_get hi) h1 h2 (dqs_erase j h4')) ((fz_ext g.ext).trans (fz_chg ⟨i, ha⟩)) .non⟩
def rCntD : V → List V → Hp → VK → Prop := fun x vs H Q => ∃ (l : Addr) (ds : List PD) (y : V) (d : PD), x = .ref l ∧ vs = [y] ∧ Dq H (.ref l) (.list ds) ∧ Dq H y d ∧ min (PyData.depthAll ds) d.depth ≤ 64 ∧ Q (.int ((ds.countP fun y => PyData.eqv y d : Nat) : Int)) H
theorem mt_countD (hu : X.A.units + 100 < cLine) : MtR X "list.count" rCntD := by
  intro pins s σ H x xs v us Q I rx rxs h
  obtain ⟨l, ds, y, d, rfl, rfl, hds, hd, hm, q⟩ := h
  cases rx
  obtain ⟨u, rfl, ru⟩ := rxs.one
  cases hds with
  | lst h1 h2 =>
    obtain ⟨its, rv, po, hlen⟩ := I.list (SqL.of h1)
    obtain ⟨as, r1⟩ := Dp.readsAll I ds _ its (Dqs.dp ds h2) rv
    obtain ⟨bs, r2⟩ := Dp.reads I d y u (Dq.dp d hd) ru
    exact SeqAt.count_list_data (vs := its.toArray) po.isList (by simpa using r1) r2 (Dqs.plain ds h2) (Dq.plain d hd) (by omega) ⟨.int ((ds.countP fun y => PyData.eqv y d : Nat) : Int), H, I.tok _, ⟨_, rfl⟩, q⟩
/-- x.count(e), x a list as data -/
theorem de_countD {o : Expr} (hu : X.A.units + 100 < cLine) (ho : DE X T o S (.list ds)) (he : DE X T e S da) (hdp : min (PyData.depthAll ds) da.depth ≤ 64) (hbase : attributeBase o "count" X.env (eval o X.env) = eval o X.env := by rfl)
    (hfew : ((backTo cpos (starEach [e] X.env)).all (fun x => !x.1) && (backToKw cpos (keywordEach [] X.env)).all (fun x => x.1.isSome) && decide ([e].length + ([] : List Keyword).length + (if ([] : List Keyword).isEmpty then 0 else 1) < 30)) = true := by rfl)
    (hline : (apos.endLine == cpos.line) = true := by rfl) (hs : starEach [e] X.env = (false, eval e X.env) :: starEach [] X.env := by rfl) (hplain : (backTo cpos (starEach [] X.env)).any (·.1) = false := by rfl) :
    DE X T (.Call (.Attribute o "count" apos) [e] [] cpos) S (.int ((ds.countP fun y => PyData.eqv y da : Nat) : Int)) := by
  refine pe_of (pe_bm PySem.F.plainAttrs_list PySem.F.slot_list_count PySem.F.type_list_count (mt_countD hu) ho (pa_cons he pa_nil hs) hbase hfew hline hs hplain) fun σ H Q ⟨O0, H0, os, r, k⟩ => ⟨O0, H0, os, r, fun v H1 g1 h1 => ?_⟩
  have h1' := h1
  cases h1 with
  | lst q1 q2 =>
    refine ⟨.inl ⟨rfl, _, SqL.of (fzl q1)⟩, O0, H0, os, r.gr g1, fun y H2 g2 h2 => ⟨_, ds, y, da, rfl, rfl, (h1'.mv (fz_ext g2.ext)).mv fz_sub, h2.mv fz_sub, hdp, k _ H2 (g1.trans g2) (.int _)⟩⟩
end
/-! ### y = [..] whose items change a list of one's own -/
section
variable {T : Tb} {O : Addr → Prop} {os : Nat → List Addr} {S : AS} {σ : L2.St} {H : Hp}
theorem RpC.other (r : RpC T O os S σ H) {D : Addr} {o : HO} (h : O D) (m : Mu o) : RpC T O os S σ (upd H D o) := by
  obtain ⟨u, hu, mu⟩ := r.allo D h
  have ne : ∀ i a, a ∈ os i → a ≠ D := fun i a ha z => (r.own i a ha).1 (z ▸ h)
  refine ⟨r.len, r.apart, fun i a ha => ⟨(r.own i a ha).1, by rw [upd_ne (ne i a ha)]; exact (r.own i a ha).2⟩, fun a ha => ?_, tabs_upd r.tabs hu mu, fun i s hs => ?_, r.out⟩
  · by_cases e : a = D
    · rw [e, upd_same]; exact ⟨o, rfl, m⟩
    · rw [upd_ne e]; exact r.allo a ha
  · obtain ⟨v, h1, h2⟩ := r.rep i s hs
    exact ⟨v, h1, s.mono (fz_chg (.inl h)) (fun a ha => upd_ne (ne i a ha)) h2⟩
theorem wipeS_at : ∀ {vs : List Nat} {i : Nat}, i ∈ vs → i < S.length → (wipeS S vs)[i]? = some un
  | [], _, h, _ => by cases h
  | v :: vs, i, h, hl => by
    have hlen : ∀ vs : List Nat, (wipeS S vs).length = S.length := fun vs => by
      induction vs with
      | nil => rfl
      | cons w ws ih => simp [wipeS, ih]
    unfold wipeS
    by_cases e : v = i
    · subst e
      exact List.getElem?_set_self (by rw [hlen]; exact hl)
    · rw [List.getElem?_set_ne e]
      rcases List.mem_cons.mp h with z | z
      · exact absurd z.symm e
      · exact wipeS_at z hl
theorem wipeS_len : ∀ {vs : List Nat}, (wipeS S vs).length = S.length
  | [] => rfl
  | v :: vs => by simp [wipeS, wipeS_len]
theorem RpC.unwipe {vs : List Nat} (r : RpC T O os (wipeS S vs) (wipe σ vs) H) : RpC T O os (wipeS S vs) σ H := by
  have hl : σ.length = S.length := by rw [← wipeS_len (vs := vs), ← r.len, wipe_len]
  refine ⟨by rw [← r.len, wipe_len], r.apart, r.own, r.allo, r.tabs, fun i s hs => ?_, r.out⟩
  obtain ⟨v, h1, h2⟩ := r.rep i s hs
  have hi : i < S.length := by rw [← wipeS_len (vs := vs)]; exact lt_of_get hs
  rw [wipe_at (by omega)] at h1
  by_cases m : i ∈ vs
  · rw [wipeS_at m hi] at hs
    cases hs
    exact ⟨σ[i]'(by omega), by simp [show i < σ.length by omega], h2⟩
  · rw [if_neg m] at h1
    exact ⟨v, h1, h2⟩
theorem RpC.wiped (r : RpC T O os S σ H) {vs : List Nat} (f : ∀ v ∈ vs, os v = []) : RpC T O os (wipeS S vs) (wipe σ vs) H := (r.based.wiped f).c
end
structure LcS (T : Tb) (O0 : Addr → Prop) (os : Nat → List Addr) (vs : List Nat) (σ : L2.St) (H1 : Hp) (D : Addr) (Sf : Nat → AS) (gd : Nat → PD) (i : Nat) (H : Hp) : Prop where
  rp : RpC T (fun a => O0 a ∨ a ∈ [D]) os (wipeS (Sf i) vs) (wipe σ vs) H
  ext : Xt (fz (owned os) H1) H
  acc : ∃ acc, H D = some (.lst acc) ∧ Dqs (fz (Ow (fun a => O0 a ∨ a ∈ [D]) os) H) acc ((List.range i).map gd)
section
variable {X : Cx} {T : Tb} {EX : XK} {S : AS} {E : En} {α : Type} {xs : List α} {emb : α → PD} {Sf : Nat → AS} {gd : Nat → PD} {S2 S3 : Nat → α → AS} {js : List Nat} {tg elt iter : Expr} {scope : Scope} {own' : List (Str × Nat)} {pos spos py : Pos} {y : Str}
theorem ds_asgLcS (j : Nat) (hc : X.calm = true) (nd : X.N.Nodup) (hi : DI X T tg iter S (xs.map emb)) (hS : S = Sf 0) (hb : blkC X.N X.env.scope scope own' = true) (fs : FreeS S (own'.map (·.2))) (hj : ∀ j ∈ js, j ∈ own'.map (·.2)) (hz : xs.length ≤ 1000000)
    (hg : ∀ i z, xs[i]? = some z → ∀ (s : Shared) (H : Hp) (C : Addr) (cl : List (Str × Addr)) (fp : List Addr), DG (X.blk s H scope (compEnvC scope cl C X.env) fp) T tg js (wipeS (Sf i) (own'.map (·.2))) (emb z) (S2 i z))
    (he : ∀ i z, xs[i]? = some z → ∀ (s : Shared) (H : Hp) (C : Addr) (cl : List (Str × Addr)) (fp : List Addr), DES (X.blk s H scope (compEnvC scope cl C X.env) fp) T elt (S2 i z) (gd i) (S3 i z)) (h3 : ∀ i z, xs[i]? = some z → wipeS (S3 i z) (own'.map (·.2)) = wipeS (Sf (i + 1)) (own'.map (·.2)))
    (k : E.nx ((wipeS (Sf xs.length) (own'.map (·.2))).set j (own ((List.range xs.length).map gd)))) (hj' : j < (Sf xs.length).length) (hN : X.N[j]? = some y := by rfl) (hyl : X.env.scope.names.lookup y = some .local := by rfl)
    (hsw : swapsWith (.ListComp elt [⟨tg, iter, [], 0⟩] scope pos) (some (.Name y py)) spos.line X.env = pure true := by exact sw_true rfl rfl rfl rfl) (hs : ∀ x, foldedSetIterable iter X.env x = pure x := by intro _; rfl) :
    DS X T EX (.Assign [.Name y py] (.ListComp elt [⟨tg, iter, [], 0⟩] scope pos) spos) S E := by
  refine ps_of (ps_setLc (i := j) hc nd hN hyl hsw hi (blkOk_by hb) (fun s H C cl fp => pg_any (P := fun p : Nat × α => xs[p.1]? = some p.2) fun p hp => hg p.1 p.2 hp s H C cl fp) (fun s H C cl fp => pts_any (P := fun p : Nat × α => xs[p.1]? = some p.2) (t := fun p => tQ T (S2 p.1 p.2) true) fun p hp => dts_nil) (fun s H C cl fp => pe_any (P := fun p : Nat × α => xs[p.1]? = some p.2) fun p hp => he p.1 p.2 hp s H C cl fp) hs) fun De σ H ⟨O0, H0, os, r, l⟩ => ⟨O0, H0, os, r, fun J H1 g1 w D hD => ?_⟩
  obtain ⟨G, Y, wk, wg, wy⟩ := w
  have r1 := r.gr g1
  have nD : ¬ Ow O0 os D := r1.free (.of hD)
  have wv : ∀ v ∈ own'.map (·.2), os v = [] := fun v hv => (fs.mem hv).os r
  have hl : (xs.map emb).length = xs.length := List.length_map _
  have nown : ∀ i, D ∉ os i := fun i z => nD (.inr ⟨i, z⟩)
  have rc0 := r1.hides (H' := upd H1 D (.lst [])) (ps := [D]) ⟨Xt.new hD, tabs_new r1.tabs hD⟩ (by simpa using Nw.of hD) (by simpa using ⟨_, upd_same, Mu.lst⟩)
  refine lc_it (g := fun v σ H Q => ∃ p : Nat × α, xs[p.1]? = some p.2 ∧ tG T js (wipeS (Sf p.1) (own'.map (·.2))) (emb p.2) (S2 p.1 p.2) v σ H Q) (tt := fun σ H Q => ∃ p : Nat × α, xs[p.1]? = some p.2 ∧ tQ T (S2 p.1 p.2) true σ H Q) (te := fun σ H Q => ∃ p : Nat × α, xs[p.1]? = some p.2 ∧ tDs T (S2 p.1 p.2) (gd p.1) (S3 p.1 p.2) σ H Q) (vs := own'.map (·.2)) (σ := σ) (D := D) (Qd := fun H => gName j (.ref D) σ H De.nx) wk (LcS T O0 os (own'.map (·.2)) σ H1 D Sf gd) ⟨by rw [← hS]; exact rc0.wiped wv, fun a o q n => ?_, [], upd_same, .nil⟩ (fun i H _ p => wg H p.ext) (fun i x H H2 hi p yy => ?_) (fun H p => ?_)
  · obtain ⟨q1, q2⟩ := fz_some q
    rw [upd_ne (ne_of_none q2 hD)]
    exact q2
  · rw [hl] at hi
    obtain ⟨acc, hacc, hda⟩ := p.acc
    have rb := p.rp.based
    obtain ⟨g2, it⟩ := wy i H x H2 (by rw [hl]; exact hi) p.ext p.rp.tabs yy
    obtain ⟨z, hz1⟩ : ∃ z, xs[i]? = some z := ⟨xs[i], by simp [hi]⟩
    obtain ⟨d, hd1, hd2⟩ := it _ rb.ec (fun a o q n => by
      obtain ⟨q1, q2⟩ := fz_some q
      have hne : a ≠ D := ne_of_none q2 hD
      rw [fz_out (fun z => by
        rcases z with (z | z) | z
        · exact q1 (.inl z)
        · exact hne (by simpa using z)
        · exact q1 (.inr z))]
      exact p.ext a o (by rw [fz_out (fun z => q1 (.inr z))]; exact q2) n)
    have hd3 : d = emb z := by
      rw [List.getElem?_map, hz1] at hd1
      exact (Option.some.inj hd1).symm
    subst hd3
    refine ⟨(i, z), hz1, _, _, os, rb.gr g2, hd2, fun σ2 l2 e2 r2 => ?_⟩
    have hws : wipe σ2 (own'.map (·.2)) = wipe σ (own'.map (·.2)) := wipe_same (by rw [l2, wipe_len]) e2 hj
    refine ⟨hws, (i, z), hz1, _, _, os, r2, fun H3 g3 => ?_⟩
    dsimp only
    rw [if_pos rfl]
    refine ⟨(i, z), hz1, _, _, os, r2.gr g3, fun yv H4 r4 x4 h4 => ?_⟩
    have x23 := (g2.trans g3).ext
    have step : ∀ {a : Addr} {o : HO}, H3 a = some o → NT o → (∀ i, a ∉ os i) → H4 a = some o := fun {a o} q n no => by
      have := x4 a o (by rw [fz_out (fun ⟨i, z⟩ => no i z)]; exact q) n
      exact (fz_some this).2
    have hacc3 : H3 D = some (.lst acc) := x23 _ _ hacc fun _ z => by cases z
    have hacc4 : H4 D = some (.lst acc) := step hacc3 (fun _ z => by cases z) nown
    have x34 : Xt (fz (Ow (fun a => O0 a ∨ a ∈ [D]) os) H3) (fz (Ow (fun a => O0 a ∨ a ∈ [D]) os) H4) := fun a o q n => by
      obtain ⟨q1, q2⟩ := fz_some q
      rw [fz_out q1]
      exact step q2 n fun i z => q1 (.inr ⟨i, z⟩)
    have hin : Ow (fun a => O0 a ∨ a ∈ [D]) os D := .inl (.inr (by simp))
    have hlen : acc.length = i := by rw [hda.length]; simp
    refine ⟨acc, hacc4, by rw [hlen, sizeLine_eq]; omega, ?_, ?_, acc ++ [yv], upd_same, ?_⟩
    · have := (r4.wiped wv).c.other (D := D) (o := .lst (acc ++ [yv])) (.inr (by simp)) Mu.lst
      rw [hws, h3 i z hz1] at this
      exact this
    · intro a o q n
      obtain ⟨q1, q2⟩ := fz_some q
      rw [upd_ne (ne_of_none q2 hD)]
      exact step (x23 a o (p.ext a o q n) n) n fun i z => q1 ⟨i, z⟩
    · rw [List.range_succ, List.map_append]
      exact (((hda.mv (fz_ext x23)).mv x34).snoc h4).mv (fz_chg hin)
  · rw [hl] at p
    obtain ⟨acc, hacc, hda⟩ := p.acc
    have ru := p.rp.unwipe
    have rg := ru.give j (by rw [wipeS_len]; exact hj') (s := own ((List.range xs.length).map gd)) (p := D) (v := some (.ref D)) (.inr (by simp)) ⟨D, acc, rfl, rfl, hacc, hda⟩
    have eO : (fun a => (O0 a ∨ a ∈ [D]) ∧ a ≠ D) = O0 := funext fun a => propext ⟨fun z => z.1.elim id fun h => absurd (by simpa using h) z.2, fun z => ⟨.inl z, fun e => nD (.inl (e ▸ z))⟩⟩
    rw [eO] at rg
    refine l.nx _ _ _ k ⟨_, rg.o (fun i a ha o q n => ?_) r.old (r1.rebased.trans p.ext)⟩
    split at ha
    · rw [List.mem_singleton] at ha
      subst ha
      have := r1.ext _ o q n
      rw [hD] at this
      cases this
    · exact (r.new i a ha).2.1 o q n
end
/-! ### a, b = x, y whose names are captured: the tuple is made and taken apart -/
section
variable {X : Cx} {T : Tb} {EX : XK} {S : AS} {E : En} {a b c : Expr} {pos : Pos} {s1 s2 s3 : SV}
theorem NewVs.add {O : Addr → Prop} {H H' : Hp} {vs oss ss} (n : NewVs O H H' vs oss ss) {p : Addr} {o : HO} (hp : H' p = none) : NewVs O H (upd H' p o) vs oss ss :=
  ⟨n.rep.mono (fz_ext (Xt.new hp)) (fun a ha => by
    obtain ⟨u, q, _⟩ := n.mu a ha
    exact upd_ne (ne_of_none q hp)), n.nodup, n.new, fun a ha => by
    obtain ⟨u, q, m⟩ := n.mu a ha
    exact ⟨u, by rw [upd_ne (ne_of_none q hp)]; exact q, m⟩⟩
theorem ds_unpV {x y : Str} {px py pt pt2 : Pos} {kt k2 : Nat} (i j : Nat) (ha : DVA X T [a, b] S [s1, s2]) (k : E.nx ((S.set i s1).set j s2)) (hc : X.calm = true) (nd : X.N.Nodup) (hiS : i < S.length) (hjS : j < S.length) (hi : X.N[i]? = some x := by rfl) (hj : X.N[j]? = some y := by rfl)
    (hx : Loc X.env.scope x := by first | exact Or.inl rfl | exact Or.inr rfl) (hy : Loc X.env.scope y := by first | exact Or.inl rfl | exact Or.inr rfl)
    (hfx : X.fn x = true ∨ X.env.scope.names.lookup x = some .local := by first | exact .inl rfl | exact .inr rfl) (hfy : X.fn y = true ∨ X.env.scope.names.lookup y = some .local := by first | exact .inl rfl | exact .inr rfl)
    (hs : swapsWithSole [.Tuple [.Name x px, .Name y py] kt pt] (.Tuple [a, b] k2 pt2) pos.line X.env = pure false := by rfl) (hw : swappedStores [.Tuple [.Name x px, .Name y py] kt pt] (.Tuple [a, b] k2 pt2) X.env = pure none := by rfl)
    (h1 : (assignEach [.Tuple [.Name x px, .Name y py] kt pt] X.env).map (·.2) = [assign (.Tuple [.Name x px, .Name y py] kt pt) X.env] := by rfl) (hl : (assignEach [.Name x px, .Name y py] X.env).length = 2 := by rfl) (hst : (assignEach [.Name x px, .Name y py] X.env).findIdx? (·.1) = none := by rfl)
    (hsa : (assignEach [.Name x px, .Name y py] X.env).map (·.2) = assign (.Name x px) X.env :: (assignEach [.Name y py] X.env).map (·.2) := by rfl) (hsb : (assignEach [.Name y py] X.env).map (·.2) = assign (.Name y py) X.env :: (assignEach [] X.env).map (·.2) := by rfl) :
    DS X T EX (.Assign [.Tuple [.Name x px, .Name y py] kt pt] (.Tuple [a, b] k2 pt2) pos) S E :=
  ps_of (ps_asg (pe_tup ha) (pg_tup hc (pgs_cons (pg_name nd hi hx hfx) (pgs_cons (pg_name nd hj hy hfy) pgs_nil hsb) hsa) hl hst) hs hw h1) fun D σ H ⟨O0, H0, os, r, l⟩ => ⟨O0, H0, os, r, fun vs oss H' g n => by
    have hlen := vsR_len n.rep
    match vs, hlen with
    | [v, w], _ =>
      refine ⟨by show 2 ≤ sizeLine; rw [sizeLine_eq]; decide, fun p hp => ⟨p, [v, w], rfl, SqT.of upd_same, rfl, v, [w], rfl, w, [], rfl, rfl, ?_⟩⟩
      exact l.nx _ _ _ k (r.set_vs (g.trans ((r.gr g).ec.new hp)) (n.add hp) (is := [i, j]) rfl (by simp [hiS, hjS]))⟩
end
/-! ### x[i] = v, x a list of one's own -/
section
variable {X : Cx} {T : Tb} {EX : XK} {S : AS} {E : En} {d : PD} {ds : List PD} {e b : Expr} {pos p p2 : Pos} {x : Str}
theorem ds_setO (i : Nat) {k : Int} {j : Nat} (he : DE X T e S (.int k)) (hv' : DE X T b S d) (hi : S[i]? = some (own ds)) (hj : ixN ds.length k = some j) (kk : E.nx (S.set i (own (ds.set j d)))) (hN : X.N[i]? = some x := by rfl) (hv : Vis X.env.scope x := by first | exact Or.inl rfl | exact Or.inr (Or.inl rfl) | exact Or.inr (Or.inr rfl)) (hd : (x == ("__debug__" : Str)) = false := by decide)
    (hcd : (x == ("__classdict__" : Str)) = false := by decide) (hs : swapsWith b (some (.Subscript (.Name x p) e p2)) pos.line X.env = pure false := by rfl) : DS X T EX (.Assign [.Subscript (.Name x p) e p2] b pos) S E := by
  refine ⟨fun pins s σ H D I ⟨O0, H0, os, r, l⟩ => ?_⟩
  obtain ⟨a, xs, h1, h2, h3, h4⟩ := r.own_at hi
  refine wpAny_Assign_Subscript (thn (hv'.run pins s σ H (fun v H1 => Gr T H H1 ∧ Dq (fz (Ow O0 os) H1) v d) I ⟨O0, H0, os, r, fun v H1 g q => ⟨g, q⟩⟩) fun rv s1 ⟨v, H1, I1, rv1, g1, q1⟩ =>
    thn ((pe_var hN hv hd hcd).run pins s1 σ H1 (fun v H2 => v = .ref a ∧ H2 = H1) I1 ⟨_, h2, rfl, rfl⟩) fun u s2 ⟨x2, H2, I2, rx2, ex2, eH2⟩ => ?_) hs
  subst ex2
  subst eH2
  refine thn (he.run pins s2 σ H2 (fun v H3 => Gr T H2 H3 ∧ Dq (fz (Ow O0 os) H3) v (.int k)) I2 ⟨O0, H0, os, r.gr g1, fun v H3 g q => ⟨g, q⟩⟩) fun iv s3 ⟨y, H3, I3, ry, g3, q3⟩ => ?_
  cases q3
  have g := g1.trans g3
  have h3' : H3 a = some (.lst xs) := g.ext _ _ h3 fun _ z => by cases z
  have h4' := h4.mv (fz_ext (O := Ow O0 os) g.ext)
  refine thn (set_list pins s3 σ H3 (.ref a) (.int k) v u iv rv (fun H' => D.nx σ H') I3 rx2 ry rv1 ⟨a, xs, k, j, rfl, rfl, h3', by rw [h4.length]; exact hj, ?_⟩) fun _ s4 ⟨H4, I4, q4⟩ => ⟨σ, H4, I4, q4⟩
  exact l.nx _ _ _ kk ⟨os, (r.gr g).own_set (lt_of_get hi) h1 h2 (h4'.set j (q1.mv (fz_ext g3.ext)))⟩
end
end DL

namespace DL
open PySem PySem.Spec PyProof.Rows L2
/-! ### (x,) * n for n from 0 on -/
theorem tuple_mul_same (l : Addr) (items : Array Value) (n : Nat) (dd : Option Addr) (sl : Array (Option Value)) (x : Int) (u : Tok) (c0 : (decide (x < -(2 ^ 63)) || decide (x ≥ 2 ^ 63)) = false) (c1 : (items.isEmpty || x == 1) = true) :
    Meets (Builtin.«tuple.__mul__» ⟨[.ref l, .int x u], []⟩) (fun _ R s => s.heap.get? l = some { cls := .type "tuple", dict := dd, data := .seq items n, slots := sl } ∧
      R (.ok (.ret (Value.ref l))) s) :=
  .of_wp fun prog w A R s h => by
    obtain ⟨hp, g, d, tk, os⟩ := s
    obtain ⟨hl, h⟩ := h
    have f1 := AutoSeq1.idx_int
    wp_walk using wpAny_loadPart' hl
    repeat (first
      | (refine wpAny_ite_false (decide_eq_false (by rw [c0]; exact Bool.false_ne_true)) ?_; wp_walk using wpAny_loadPart' hl)
      | (refine wpAny_ite_true (decide_eq_true c1) ?_; wp_walk using wpAny_loadPart' hl))
    exact ⟨_, rfl, h⟩
theorem tuple_mul_none (l : Addr) (items : Array Value) (n : Nat) (dd : Option Addr) (sl : Array (Option Value)) (x : Int) (u : Tok) (c0 : (decide (x < -(2 ^ 63)) || decide (x ≥ 2 ^ 63)) = false) (c1 : (items.isEmpty || x == 1) = false) (c2 : (decide (x ≤ 0) || items.isEmpty) = true) :
    Meets (Builtin.«tuple.__mul__» ⟨[.ref l, .int x u], []⟩) (fun _ R s => s.heap.get? l = some { cls := .type "tuple", dict := dd, data := .seq items n, slots := sl } ∧
      R (.ok (.ret (Value.ref s.heap.objs.size))) { s with heap := s.heap.push { cls := Value.type "tuple", data := Data.seq #[] }, toks := s.toks }) :=
  .of_wp fun prog w A R s h => by
    obtain ⟨hp, g, d, tk, os⟩ := s
    obtain ⟨hl, h⟩ := h
    have f1 := AutoSeq1.idx_int
    wp_walk using wpAny_loadPart' hl
    repeat (first
      | (refine wpAny_ite_false (decide_eq_false (by rw [c0]; exact Bool.false_ne_true)) ?_; wp_walk using wpAny_loadPart' hl)
      | (refine wpAny_ite_false (decide_eq_false (by rw [c1]; exact Bool.false_ne_true)) ?_; wp_walk using wpAny_loadPart' hl)
      | (refine wpAny_ite_true (decide_eq_true c2) ?_; wp_walk using wpAny_loadPart' hl))
    exact ⟨_, rfl, h⟩
def rRep0 (K : PySem.W.Frag) : R2 := fun x y H Q => ∃ l k xs, x = .ref l ∧ y = .int k ∧ SqT K H l xs ∧ xs ≠ [] ∧ 0 ≤ k ∧ k ≤ 1000 ∧ xs.length ≤ 1000 ∧ (k = 1 → Q (.ref l) H) ∧ (k ≠ 1 → ∀ p, H p = none → Q (.ref p) (upd H p (.tup (List.replicate k.toNat xs).flatten)))
theorem op_rep0 {X : Cx} : OpR X (binaryOp .Mult) (rRep0 X.K) := by
  intro pins s σ H x y v u Q I rx ry h
  obtain ⟨l, k, xs, rfl, rfl, hT, hne, h1, h2, hz, q1, q2⟩ := h
  by_cases hk : 2 ≤ k
  · exact op_repT pins s σ H _ _ v u Q I rx ry ⟨l, k, xs, rfl, rfl, hT, hne, hk, h2, hz, q2 (by omega)⟩
  cases rx
  obtain ⟨t, rfl⟩ := ry
  obtain ⟨its, r, ⟨⟨cls, dd, data, sl⟩, ho, hc, n, hd⟩, hs⟩ := I.tuple hT
  simp only at hc hd
  subst hc hd
  have hle : its.length = xs.length := r.length.symm
  have hn : its ≠ [] := fun e => hne (by
    rw [e] at hle
    exact List.eq_nil_of_length_eq_zero hle.symm)
  have hi : its.toArray.isEmpty = false := by
    cases its with
    | nil => exact absurd rfl hn
    | cons a b => rfl
  have c0 : (decide (k < -(2 ^ 63)) || decide (k ≥ 2 ^ 63)) = false := by
    rw [decide_eq_false (by omega), decide_eq_false (by omega)] <;> rfl
  have : k = 0 ∨ k = 1 := by omega
  rcases this with rfl | rfl
  · have c1 : (its.toArray.isEmpty || (0 : Int) == 1) = false := by rw [hi]; rfl
    have c2 : (decide ((0 : Int) ≤ 0) || its.toArray.isEmpty) = true := by rw [decide_eq_true (Int.le_refl 0), Bool.true_or]
    refine wpAny_binaryOp_repeat_ref (T := "tuple") (U := "int") (by decide) ⟨_, ho, rfl⟩ (fun s' => typeIs_int s' 0 t) noFill_tuple_mul F.fills_int_mul F.slot_int_rmul repeat_tuple F.slot_int_index.lookup
      (call_meets F.slot_int_rmul (typeIs_int s 0 t) F.entry_int_rmul (F.args_int_rmul_2 _ _) (int_rmul_tuple 0 t l its.toArray n dd sl)
        ⟨ho, rfl, ⟨_, ho, rfl⟩, call_meets F.slot_tuple_mul ⟨_, ho, rfl⟩ F.entry_tuple_mul (F.args_tuple_mul_2 _ _) (tuple_mul_none l its.toArray n dd sl 0 t c0 c1 c2) ⟨ho, ?_⟩⟩)
    refine ⟨.ref s.heap.objs.size, _, I.laid (t' := s.toks) (o := .tup (List.replicate (0 : Int).toNat xs).flatten) (fun b ob q => Heap.get?_push_of_some _ q) (Nat.le_refl _) ?_, rfl, q2 (by decide) _ (I.hok.fresh (Nat.le_refl _))⟩
    exact ⟨by simp, [], .nil, IsTup.new _ _⟩
  · have c1 : (its.toArray.isEmpty || (1 : Int) == 1) = true := by rw [hi]; rfl
    refine wpAny_binaryOp_repeat_ref (T := "tuple") (U := "int") (by decide) ⟨_, ho, rfl⟩ (fun s' => typeIs_int s' 1 t) noFill_tuple_mul F.fills_int_mul F.slot_int_rmul repeat_tuple F.slot_int_index.lookup
      (call_meets F.slot_int_rmul (typeIs_int s 1 t) F.entry_int_rmul (F.args_int_rmul_2 _ _) (int_rmul_tuple 1 t l its.toArray n dd sl)
        ⟨ho, rfl, ⟨_, ho, rfl⟩, call_meets F.slot_tuple_mul ⟨_, ho, rfl⟩ F.entry_tuple_mul (F.args_tuple_mul_2 _ _) (tuple_mul_same l its.toArray n dd sl 1 t c0 c1) ⟨ho, ?_⟩⟩)
    exact ⟨.ref l, H, I, rfl, q1 rfl⟩
variable {X : Cx} {T : Tb} {S : AS} {d da db dr : PD} {ds es : List PD} {e a b f : Expr} {p pos : Pos}
theorem ob_repT {n : Int} (h0 : 0 ≤ n) (h1 : n ≤ 1000) (hne : ds ≠ []) (hz : ds.length ≤ 1000) : OB X T .Mult (.tuple ds) (.int n) (.tuple (List.replicate n.toNat ds).flatten) := ⟨_, op_rep0, fun O H x y Q c hx hy k => by
  cases hx with
  | tup q1 q2 =>
    rename_i l xs
    cases hy
    refine ⟨l, n, xs, rfl, rfl, SqT.of (fzl q1), fun e => hne ?_, h0, h1, by rw [q2.length]; exact hz, fun e => ?_, fun _ p hp => k _ _ (c.new hp) (dq_newT c hp (dqs_rep q2 _))⟩
    · subst e
      cases q2
      rfl
    · subst e
      refine k _ _ c.refl ?_
      simpa using Dq.tup q1 q2⟩
/-! ### slices backwards -/
section
variable {prog : Program} {w : World} {A : Around} {E : Value → Shared → Prop} {s : Shared}
theorem adjust_back (n : Nat) : Builtin.Slice.sliceAdjust none none (-1) (n : Int) = ((n : Int) - 1, -1) := by
  have h1 : ((-1 : Int) < 0) := by omega
  unfold Builtin.Slice.sliceAdjust
  simp only [h1, if_true]
theorem places_back (n : Nat) : Builtin.Slice.slicePlaces ((n : Int) - 1) (-1) (-1) = n := by
  unfold Builtin.Slice.slicePlaces
  have h1 : ¬ ((-1 : Int) > 0) := by omega
  simp only [h1, if_false]
  by_cases h : ((n : Int) - 1) > -1
  · rw [if_pos h]; simp
  · rw [if_neg h]; omega
theorem applied_back {sl : Addr} {vs : Value} {n : Nat} {Q : Int × Int × Nat → Shared → Prop} (hs : s.heap.IsSliceOf sl .none .none vs) (ps : IsPart vs (some (-1)))
    (h : Q ((n : Int) - 1, -1, n) s) : wpAny (model prog w) A (Builtin.Slice.sliceApplied (.ref sl) (pure (n : Int))) Q E s := by
  obtain ⟨os, hos, hcs, hds⟩ := id hs
  unfold Builtin.Slice.sliceApplied Builtin.Slice.sliceFields
  refine wpAny_bind (wpAny_bind (wpAny_field hos hds (x := .none) rfl (wpAny_bind (wpAny_field hos hds (x := .none) rfl (wpAny_bind (wpAny_field hos hds (x := vs) rfl (wpAny_pure ?_)))))))
  refine wpAny_bind (HT.slicePart_ ps ?_)
  show wpAny _ _ (if ((-1 : Int) == 0) = true then _ else _) _ _ s
  rw [if_neg (by decide)]
  refine wpAny_bind (HT.slicePart_ .none (wpAny_bind (HT.slicePart_ .none (wpAny_bind (wpAny_pure ?_)))))
  show wpAny _ _ (match Builtin.Slice.sliceAdjust none none (-1) (n : Int) with | (lo, hi) => pure (lo, (-1 : Int), Builtin.Slice.slicePlaces lo hi (-1))) _ _ s
  rw [adjust_back n]
  show wpAny _ _ (pure ((n : Int) - 1, (-1 : Int), Builtin.Slice.slicePlaces ((n : Int) - 1) (-1) (-1))) _ _ s
  rw [places_back]
  exact wpAny_pure h
theorem pick_back (xs : Array Value) : ((List.range xs.size).filterMap fun (m : Nat) => xs[((xs.size : Int) - 1 + (m : Int) * (-1)).toNat]?).toArray = xs.toList.reverse.toArray := by
  congr 1
  have : ∀ l : List Value, ((List.range l.length).filterMap fun (m : Nat) => l[((l.length : Int) - 1 + (m : Int) * (-1)).toNat]?) = l.reverse := by
    intro l
    have cg : ∀ (f g : Nat → Option Value) (ms : List Nat), (∀ m ∈ ms, f m = g m) → ms.filterMap f = ms.filterMap g := fun f g ms h => by
      induction ms with
      | nil => rfl
      | cons a ms ih => rw [List.filterMap_cons, List.filterMap_cons, h a List.mem_cons_self, ih fun m hm => h m (List.mem_cons_of_mem _ hm)]
    have e : (List.range l.length).filterMap (fun (m : Nat) => l[((l.length : Int) - 1 + (m : Int) * (-1)).toNat]?) = (List.range l.length).filterMap (fun m => some (l.reverse.getD m .none)) := by
      refine cg _ _ _ fun m hm => ?_
      have hm := List.mem_range.mp hm
      have h2 : ((l.length : Int) - 1 + (m : Int) * (-1)).toNat = l.length - 1 - m := by omega
      rw [h2, List.getD_eq_getElem?_getD, List.getElem?_reverse hm, List.getElem?_eq_getElem (by omega)]
      rfl
    rw [e, List.filterMap_eq_map']
    apply List.ext_getElem
    · simp
    · intro i h1 h2
      simp [List.getD_eq_getElem?_getD, List.getElem?_eq_getElem h2]
  have := this xs.toList
  simpa using this
theorem getItem_tuple_back {t sl : Addr} {items : Array Value} {vs : Value} {Q : Value → Shared → Prop} (ht : IsTup s.heap t items) (hs : s.heap.IsSliceOf sl .none .none vs) (ps : IsPart vs (some (-1)))
    (h : Q (.ref s.heap.objs.size) { s with heap := s.heap.push { cls := .type "tuple", data := .seq items.toList.reverse.toArray } })
    (hsz : items.size ≤ sizeLine) : wpAny (model prog w) A (getItem (.ref t) (.ref sl)) Q E s := by
  have htake : sizeOk (.seq items.toList.reverse.toArray) := by
    show items.toList.reverse.toArray.size ≤ sizeLine
    simpa using hsz
  obtain ⟨os, hos, hcs, hds⟩ := id hs
  have hTs : s.TypeIs (.ref sl) "slice" := ⟨os, hos, hcs⟩
  unfold getItem
  try with_reducible refine wpAny_holding ?_
  first | refine wpAny_bind (wpAny_pure ?_) | skip
  refine wpAny_bind (wpAny_sequenceKey ht.typeIs (by decide) ?_)
  refine wpAny_bind (wpAny_callSpecial?_slot (name := Str.ofString "__getitem__") ht.typeIs PyProof.Rows.slot_tuple_getitem
    (wpAny_call_entry PyProof.Rows.slot_tuple_getitem ht.typeIs entry_tuple_getitem ?_ (args_tuple_getitem _ _)))
  show wpAny _ _ (Builtin.Tuple.tupleItemsOf (.ref t) >>= _) _ _ s
  refine wpAny_bind (tupleItemsOf_ ht ?_)
  refine wpAny_bind (wpAny_typeOf hTs ?_)
  rw [if_pos (by decide)]
  refine wpAny_bind (applied_back hs ps ?_)
  have hno : ¬ ((((items.size : Int) - 1) == 0 && (-1 : Int) == 1 && items.size == items.size) = true) := by
    intro q
    rw [Bool.and_eq_true, Bool.and_eq_true] at q
    exact absurd q.1.2 (by decide)
  show wpAny _ _ (if (((items.size : Int) - 1) == 0 && (-1 : Int) == 1 && items.size == items.size) = true then _ else _) _ _ s
  rw [if_neg hno, pick_back]
  first
    | exact wpAny_bind (m := Builtin.Tuple.tupleExact _) (wpAny_newObj_type (wpAny_pure ⟨_, rfl, wpAny_pure h⟩) htake)
    | exact wpAny_bind (m := Builtin.Tuple.tupleExact _) (wpAny_newObj_type (wpAny_bind (wpAny_pure (wpAny_pure ⟨_, rfl, wpAny_pure h⟩))) htake)
    | exact wpAny_bind (wpAny_bind (m := Builtin.Tuple.tupleExact _) (wpAny_newObj_type (wpAny_pure (wpAny_pure ⟨_, rfl, wpAny_pure h⟩)) htake))
    | exact wpAny_bind (wpAny_bind (m := Builtin.Tuple.tupleExact _) (wpAny_newObj_type (wpAny_pure ⟨_, rfl, wpAny_pure h⟩) htake))
end
def tRevT (K : PySem.W.Frag) (te : TE) : TE := fun σ H Q => te σ H fun x H1 => ∃ a xs, x = .ref a ∧ SqT K H1 a xs ∧ ∀ p, H1 p = none → Q (.ref p) (upd H1 p (.tup xs.reverse))
theorem pe_revT {e : Expr} {te : TE} {k : Nat} {p1 p2 p3 pos : Pos} (he : PE X e te) : PE X (.Subscript e (.Slice none none (some (.UnaryOp .USub (.Constant (.int 1) k p1) p2)) p3) pos) (tRevT X.K te) := by
  refine ⟨fun pins s σ H Q I h => ?_⟩
  refine Subscript_ (thn (he.run pins s σ H _ I h) fun v s1 ⟨x, H1, I1, r1, q1⟩ => ?_)
  obtain ⟨a, xs, ex, hx, q⟩ := q1
  subst ex
  cases r1
  have hst : PO X (some (.UnaryOp .USub (.Constant (.int 1) k p1) p2)) (tPart (tUn (rU fun i => .int (-i)) (tC (.int 1)))) := po_some (pe_un un_neg pe_int)
  refine wpAny_Slice (thn (po_none.run pins s1 σ H1 (fun o H2 => o = none ∧ H2 = H1) I1 ⟨rfl, rfl⟩) fun vl s2 ⟨l, H2, I2, pl, el, e2⟩ => ?_)
  subst el e2
  cases pl
  refine thn (po_none.run pins s2 σ H2 (fun o H3 => o = none ∧ H3 = H2) I2 ⟨rfl, rfl⟩) fun vu s3 ⟨u, H3, I3, pu, eu, e3⟩ => ?_
  subst eu e3
  cases pu
  refine thn (hst.run pins s3 σ H3 (fun o H4 => o = some (-1) ∧ H4 = H3) I3 ⟨1, rfl, -1, rfl, rfl, rfl⟩) fun vs s4 ⟨o, H4, I4, ps, eo, e4⟩ => ?_
  subst eo e4
  have I5 : Inv X pins σ H4 { s4 with heap := s4.heap.push { cls := .type "slice", data := .fields #[.none, .none, vs] } } := I4.kept (t' := s4.toks) fun b ob q => Heap.get?_push_of_some _ q
  obtain ⟨its, r, ht, hz⟩ := I5.tuple hx
  have hlen := r.length
  show wpAny (model X.prog X.w) X.A (subscriptTail e (.Slice none none (some (.UnaryOp .USub (.Constant (.int 1) k p1) p2)) p3) (.ref a) (.ref s4.heap.objs.size)) (EP X pins σ Q) X.xe { s4 with heap := s4.heap.push { cls := .type "slice", data := .fields #[.none, .none, vs] } }
  refine tail_any (ops := [.ref a, .ref s4.heap.objs.size]) ht.typeIs (PyProof.Rows.slot_tuple_getitem.lookup) ?_ (by with_unfolding_all rfl)
  refine getItem_tuple_back ht (Heap.IsSliceOf.new _ .none .none vs) ps ?_ (by rw [List.size_toArray]; omega)
  refine ⟨.ref _, _, I5.laid (t' := s4.toks) (o := .tup xs.reverse) (fun b ob q => Heap.get?_push_of_some _ q) (Nat.le_refl _) ?_, rfl, q _ (I5.hok.fresh (Nat.le_refl _))⟩
  exact ⟨by rw [List.length_reverse]; exact hz, _, r.reverse, IsTup.new _ _⟩
theorem de_revT {k : Nat} {p1 p2 p3 : Pos} (ha : DE X T a S (.tuple ds)) : DE X T (.Subscript a (.Slice none none (some (.UnaryOp .USub (.Constant (.int 1) k p1) p2)) p3) pos) S (.tuple ds.reverse) :=
  pe_of (pe_revT ha) fun σ H Q ⟨O0, H0, os, r, k⟩ => ⟨O0, H0, os, r, fun x H1 g1 h1 => by
    cases h1 with
    | tup q1 q2 =>
      exact ⟨_, _, rfl, SqT.of (fzl q1), fun p hp => k _ _ (g1.trans ((r.gr g1).ec.new hp)) (dq_newT (r.gr g1).ec hp q2.rev)⟩⟩
theorem dn_revL {k : Nat} {p1 p2 p3 : Pos} (ha : DE X T a S (.list ds)) : DN X T (.Subscript a (.Slice none none (some (.UnaryOp .USub (.Constant (.int 1) k p1) p2)) p3) pos) S ds.reverse :=
  pe_of (pe_revL ha) fun σ H Q ⟨O0, H0, os, r, k⟩ => ⟨O0, H0, os, r, fun x H1 g1 h1 => by
    cases h1 with
    | lst q1 q2 =>
      exact ⟨_, _, rfl, SqL.of (fzl q1), fun p hp => k p _ _ ((Nw.of hp).back g1.ext) (g1.trans ((r.gr g1).ec.new hp)) upd_same (q2.rev.mv (fz_add hp))⟩⟩
/-! ### max, min of a list of ints -/
theorem de_maxL {ns : List Int} {m : Int} (hm : X.mg "max" = none) (hc : X.calm = true) (he : DE X T e S (.list (ns.map .int))) (h0 : m ∈ ns) (h1 : ∀ y ∈ ns, y ≤ m) (hs : starEach [e] X.env = (false, eval e X.env) :: starEach [] X.env := by rfl) (hg : Gl X "max" := by rfl) : DE X T (.Call (.Name "max" p) [e] [] pos) S (.int m) :=
  de_callB1 (cr_max hc) hm he (fun O H vs Q c hv k => by
    cases hv with
    | cons h1' h2 =>
      cases h2
      cases h1' with
      | lst q1 q2 =>
        have e := dqs_ints q2
        subst e
        refine ⟨_, ns, rfl, SqL.of (fzl q1), List.length_pos_of_mem h0, fun m' a1 a2 => ?_⟩
        have : m' = m := Int.le_antisymm (h1 _ a1) (a2 _ h0)
        subst this
        exact k _ _ c.refl (.int _)) (by decide +kernel) hs hg (by decide) (by decide)
theorem de_minL {ns : List Int} {m : Int} (hm : X.mg "min" = none) (hc : X.calm = true) (he : DE X T e S (.list (ns.map .int))) (h0 : m ∈ ns) (h1 : ∀ y ∈ ns, m ≤ y) (hs : starEach [e] X.env = (false, eval e X.env) :: starEach [] X.env := by rfl) (hg : Gl X "min" := by rfl) : DE X T (.Call (.Name "min" p) [e] [] pos) S (.int m) :=
  de_callB1 (cr_min hc) hm he (fun O H vs Q c hv k => by
    cases hv with
    | cons h1' h2 =>
      cases h2
      cases h1' with
      | lst q1 q2 =>
        have e := dqs_ints q2
        subst e
        refine ⟨_, ns, rfl, SqL.of (fzl q1), List.length_pos_of_mem h0, fun m' a1 a2 => ?_⟩
        have : m' = m := Int.le_antisymm (a2 _ h0) (h1 _ a1)
        subst this
        exact k _ _ c.refl (.int _)) (by decide +kernel) hs hg (by decide) (by decide)
end DL

namespace DL
open PySem PySem.Spec PyProof.Rows L2
theorem sql_mv {K : Fr} {H H' : Hp} {a : Addr} {xs : List V} (h : SqL K H a xs) (e : Xt H H') : SqL K H' a xs := by
  rcases h with (h | ⟨o, h⟩) | h
  · exact .inl (.inl (e _ _ h fun _ z => by cases z))
  · exact .inl (.inr ⟨o, e _ _ h fun _ z => by cases z⟩)
  · exact .inr h
/-- the script's slot -/
def scr (K : Fr) (a : Addr) (ns : List Int) : SV := ⟨fun F _ o v => o = [] ∧ v = some (.ref a) ∧ SqL K F a (ns.map V.int), fun e _ ⟨h1, h2, h3⟩ => ⟨h1, h2, sql_mv h3 e⟩⟩
def spSc (T : Tb) (K : Fr) (R : List Int → List PD → PD → Prop) : Sp := fun vs H Q _ => ∃ O a ns us ds d, EC T O H ∧ vs = .ref a :: us ∧ SqL K (fz O H) a (ns.map V.int) ∧ Dqs (fz O H) us ds ∧ R ns ds d ∧ ∀ v H', Gr T H H' → Dq (fz O H') v d → Q v H'
section
variable {X : Cx} {T : Tb} {EX : XK} {S : AS} {E : En} {a : Addr} {ns : List Int} {x : Str} {p p1 p2 pos : Pos} {e : Expr} {d : PD} {ds : List PD}
theorem de_scrLen (i : Nat) (hm : X.mg "len" = none) (hi : S[i]? = some (scr X.K a ns) := by rfl) (hN : X.N[i]? = some x := by rfl) (hv : Vis X.env.scope x := by first | exact Or.inl rfl | exact Or.inr (Or.inl rfl) | exact Or.inr (Or.inr rfl)) (hd : (x == ("__debug__" : Str)) = false := by decide)
    (hcd : (x == ("__classdict__" : Str)) = false := by decide) (hg : Gl X "len" := by rfl) : DE X T (.Call (.Name "len" p) [.Name x p1] [] pos) S (.int (ns.length : Nat)) :=
  pe_of (pe_callB call_len_seq hg hm boot_len (pa_cons (pe_var hN hv hd hcd) pa_nil)) fun σ H Q ⟨O0, H0, os, r, k⟩ => by
    obtain ⟨v, h1, _, rfl, h3⟩ := r.rep i _ hi
    exact ⟨.ref a, h1, a, ns.map V.int, rfl, .inl (sql_mv h3 fz_sub), by rw [List.length_map]; exact k _ _ r.ec.refl (.int _)⟩
def rEqS (K : Fr) : R2 := fun x y H Q => ∃ a b ns, x = .ref a ∧ y = .ref b ∧ SqL K H a (ns.map V.int) ∧ SqL K H b [] ∧ Q (.bl (decide (ns = []))) H
theorem dpAll_ints {K : Fr} {H : Hp} : ∀ ns : List Int, DpAll K H (ns.map V.int) (ns.map PyData.int)
  | [] => .nil
  | n :: ns => .cons (.int n) (dpAll_ints ns)
theorem plainAll_ints : ∀ ns : List Int, PyData.plainAll (ns.map PyData.int) = true
  | [] => rfl
  | n :: ns => by simp only [List.map_cons, PyData.plainAll, PyData.plain, plainAll_ints ns, Bool.and_self]
theorem op_eqS (hu : X.A.units + 100 < cLine) : OpR X (compareOp .Eq) (rEqS X.K) := by
  intro pins s σ H x y v u Q I rx ry h
  obtain ⟨a, b, ns, rfl, rfl, h1, h2, q⟩ := h
  obtain ⟨as, r1⟩ := Dp.reads I (.list (ns.map .int)) (.ref a) v (.lst h1 (dpAll_ints ns)) rx
  obtain ⟨bs, r2⟩ := Dp.reads I (.list []) (.ref b) u (.lst h2 .nil) ry
  have e : PyData.eqv (.list (ns.map .int)) (.list []) = decide (ns = []) := by
    cases ns with
    | nil => rfl
    | cons n ns => simp [PyData.eqv, PyData.eqvAll]
  refine SeqAt.eq_plain r1 r2 (by simp only [PyData.plain, plainAll_ints]) (by simp only [PyData.plain, PyData.plainAll]) (by have h1 := Nat.min_le_right (PyData.list (ns.map .int)).depth (PyData.list []).depth; have h2 : (PyData.list []).depth ≤ 1 := (by decide); omega) ⟨.bl _, H, I, rfl, ?_⟩
  rw [e]; exact q
theorem dt_scrNil (i : Nat) (hu : X.A.units + 100 < cLine) (hi : S[i]? = some (scr X.K a ns) := by rfl) (hN : X.N[i]? = some x := by rfl) (hv : Vis X.env.scope x := by first | exact Or.inl rfl | exact Or.inr (Or.inl rfl) | exact Or.inr (Or.inr rfl)) (hd : (x == ("__debug__" : Str)) = false := by decide)
    (hcd : (x == ("__classdict__" : Str)) = false := by decide) (hm : behindInMarks .Eq (.List [] p2) = false := by first | exact nomark _ | rfl | with_unfolding_all rfl) : DT X T (.Compare (.Name x p1) [.Eq] [.List [] p2] pos) S (decide (ns = [])) :=
  pt_of (pt_cmpR (op_eqS hu) (pe_var hN hv hd hcd) (pe_lst pa_nil) hm) fun σ H Q ⟨O0, H0, os, r, k⟩ => by
    obtain ⟨v, h1, _, rfl, h3⟩ := r.rep i _ hi
    refine ⟨.ref a, h1, (by show 0 ≤ sizeLine; exact Nat.zero_le _), fun b hb => ?_⟩
    refine ⟨a, b, ns, rfl, rfl, sql_mv h3 (fz_sub.trans (Xt.new hb)), SqL.of upd_same, _, rfl, k _ (r.ec.new hb)⟩
theorem de_scrIx (i : Nat) {k : Int} {m : Int} (he : DE X T e S (.int k)) (hk : atI ns k = some m) (hi : S[i]? = some (scr X.K a ns) := by rfl) (hN : X.N[i]? = some x := by rfl) (hv : Vis X.env.scope x := by first | exact Or.inl rfl | exact Or.inr (Or.inl rfl) | exact Or.inr (Or.inr rfl)) (hd : (x == ("__debug__" : Str)) = false := by decide)
    (hcd : (x == ("__classdict__" : Str)) = false := by decide) (hs : PlainIx e := by exact fun _ _ => rfl) : DE X T (.Subscript (.Name x p1) e pos) S (.int m) :=
  pe_of (pe_ix ix_list (pe_var hN hv hd hcd) he hs) fun σ H Q ⟨O0, H0, os, r, kk⟩ => by
    obtain ⟨v, h1, _, rfl, h3⟩ := r.rep i _ hi
    refine ⟨.ref a, h1, O0, H0, os, r, fun v H' g h => ?_⟩
    cases h
    have hk' : atI (ns.map V.int) k = some (.int m) := by
      unfold atI at hk ⊢
      rw [List.length_map]
      cases q : ixN ns.length k with
      | none => rw [q] at hk; cases hk
      | some j =>
        rw [q] at hk
        simp only [Option.bind_some] at hk ⊢
        rw [List.getElem?_map, hk]; rfl
    exact ⟨_, _, k, .int m, rfl, rfl, sql_mv h3 (fz_sub.trans g.ext), hk', kk _ _ g (.int _)⟩
section
variable {k : Nat} {f : Addr} {fd : FuncData} {ps : List Str} {R : List Int → List PD → PD → Prop} {l : List Expr}
theorem de_callSc {y : Str} (i : Nat) (F : FnOk X.prog X.w X.K X.mg X.base CX0 k f fd ps (spSc T X.K R)) (hr : Room k X.A) (hm : X.mg y = some (.ref f)) (hk : PySem.W.keepIn X.K (.ref f) = true) (hb : Binds X.K fd ps []) (ha : DA X T l S ds) (hR : R ns ds d) (hi : S[i]? = some (scr X.K a ns) := by rfl) (hN : X.N[i]? = some x := by rfl) (hv : Vis X.env.scope x := by first | exact Or.inl rfl | exact Or.inr (Or.inl rfl) | exact Or.inr (Or.inr rfl)) (hd : (x == ("__debug__" : Str)) = false := by decide)
    (hcd : (x == ("__classdict__" : Str)) = false := by decide) (hg : Gl X y := by rfl) (hdb : (y == ("__debug__" : Str)) = false := by decide)
    (he : starEach (.Name x p1 :: l) X.env = (false, eval (.Name x p1) X.env) :: starEach l X.env := by rfl) (hpl : (backTo pos (starEach l X.env)).any (·.1) = false := by rfl) : DE X T (.Call (.Name y p) (.Name x p1 :: l) [] pos) S d :=
  pe_of (pe_call F hr hg hm hk hb .nil pass0 (pa_cons (pe_var hN hv hd hcd) ha he) hdb he hpl) fun σ H Q ⟨O0, H0, os, r, kk⟩ => by
    obtain ⟨v, h1, _, rfl, h3⟩ := r.rep i _ hi
    exact ⟨.ref a, h1, O0, H0, os, r, fun vs H1 g1 h => ⟨Ow O0 os, a, ns, vs, ds, d, (r.gr g1).ec, by rw [List.append_nil], sql_mv h3 (fz_ext g1.ext), h, hR, fun v H' g hq => kk v H' (g1.trans g) hq⟩⟩
end
end
section
variable {P : Program} {w : World} {K : Fr} {mg : Str → Option Value} {base : Heap} {f : Addr} {fd : FuncData} {qual x : Str} {params : Arguments} {body : List Stmt} {scope : Scope} {y z : Str} {N ps : List Str} {k : Nat} {T : Tb} {ds : List PD}
theorem enter_sc {O : Addr → Prop} {H : Hp} {N : List Str} {vs : List V} {a : Addr} {ns : List Int} (c : EC T O H) (hs : SqL K (fz O H) a (ns.map V.int)) (h : Dqs (fz O H) vs ds) (hl : ds.length ≤ N.length) : RpO T O H (fun _ => []) (scr K a ns :: enter N ds) (L2.start (y :: N) (.ref a :: vs)) H := by
  have q := enter_ok c h hl
  have es : L2.start (y :: N) (.ref a :: vs) = some (.ref a) :: L2.start N vs := by
    unfold L2.start; simp
  rw [es]
  refine ⟨by simp [q.len], q.apart, q.new, q.old, q.ext, q.tabs, fun i s e => ?_, fun i hi => rfl⟩
  cases i with
  | zero =>
    have e : scr K a ns = s := by simpa using e
    subst e
    have ef : Ow O (fun _ => []) = O := funext fun a => propext ⟨fun z => z.elim id fun ⟨i, w⟩ => (by cases w), fun z => .inl z⟩
    rw [ef]
    exact ⟨_, rfl, rfl, rfl, hs⟩
  | succ i => exact q.rep i s (by simpa using e)
/-- a def that is handed the script -/
theorem fn_okSc {R : List Int → List PD → PD → Prop} (F : FunD K x qual params body scope [] [] f fd) (S : FnScope (y :: N) (z :: ps) scope) (len : ∀ ns ds d, R ns ds d → ds.length = ps.length ∧ ds.length ≤ N.length)
    (hbody : ∀ (a : Addr) (ns : List Int) (ds : List PD) (d : PD), R ns ds d → ∀ (cd : Value) (A : Around) (outer : List Env) (s : Shared) (H : Hp) (E : XK), Room k (A.deeper (envOfC qual scope s.heap.objs.size f cd)) → DSs (bodyX P w K mg base (y :: N) qual scope f cd A outer s H E) T E body (scr K a ns :: enter N ds) (rets d)) :
    FnOk P w K mg base CX0 (k + 1) f fd (z :: ps) (spSc T K R) := by
  refine F.ok S (fun vs H Q E ⟨O, a, ns, us, ds, d, c, e, hs, h, r, _⟩ => by rw [e]; simp [h.length, (len ns ds d r).1]) fun cdv A outer s H vs Q E hr ⟨O, a, ns, us, ds, d, c, e, hs, h, r, q⟩ => ⟨_, (hbody a ns ds d r cdv A outer s H E hr).nox, O, H, _, e ▸ enter_sc c hs h (len ns ds d r).2, ?_⟩
  exact ⟨fun S' σ' H' e ⟨os, rr⟩ => q _ H' ⟨rr.ext, rr.tabs⟩ (by rw [show d = .none from e]; exact .non), fun d' v H' e g hd => q v H' g (by rw [show d' = d from e] at hd; exact hd), fun _ _ _ z => z.elim, fun _ _ _ z => z.elim, fun _ _ z => z.elim, fun _ _ _ _ z => z.elim⟩
end
end DL

namespace DL
open PySem PySem.Spec PyProof.Rows L2 L2H
section
variable {prog : Program} {w : World} {A : Around} {E : Value → Shared → Prop} {s : Shared}
theorem next_end_hot {it l x1 : Addr} {i : Nat} {items : Array Value} {Q : Option Value → Shared → Prop} (hot : HotX.HotAt A x1 s.heap) (hxi : x1 ≠ it)
    (hit : s.heap.IsListIter it l i) (hl : s.heap.IsList l items) (hx : items[i]? = none)
    (hQ : ∀ h', Heap.ExtBut it s.heap h' → Q none { s with heap := h' }) : wpAny (model prog w) A (pyNext (.ref it)) Q E s := by
  obtain ⟨o, ho, hc, hd⟩ := id hit
  obtain ⟨ol, hol, _, nl, hdl⟩ := hl
  obtain ⟨hh, o1, vs1, h1, d1, c1⟩ := hot
  unfold pyNext
  refine wpAny_bind (wpAny_attempt (wpAny_callSpecial?_slot (name := Str.ofString "__next__") hit.typeIs slot_listiter_next
    (wpAny_call_entry slot_listiter_next hit.typeIs entry_listiter_next ?_ (args_listiter_next _))))
  show wpAny _ _ (field (.ref it) 0 >>= _) _ _ s
  refine wpAny_bind (wpAny_field ho hd (x := .ref l) rfl ?_)
  show wpAny _ _ (if (Value.ref l == Value.none) = true then _ else _) _ _ s
  rw [if_neg (show ¬ ((Value.ref l == Value.none) = true) from Bool.false_ne_true)]
  show wpAny _ _ (field (.ref it) 1 >>= _) _ _ s
  refine wpAny_bind (wpAny_field ho hd (x := .int i 0) rfl ?_)
  show wpAny _ _ (seqItems? (.ref l) >>= _) _ _ s
  refine wpAny_bind (wpAny_seqItems hol hdl ?_)
  simp only [Int.toNat_natCast, hx]
  refine wpAny_bind (wpAny_rule (wpAny_bind (wpAny_setField ho hd (by simp) ?_)))
  show wpAny _ _ (newExc (.type "StopIteration") [] >>= _) _ _ _
  refine wpAny_bind ?_
  simp only [newExc, newTuple]
  refine wpAny_bind (wpAny_newObj_type ?_ (by size_fits))
  refine wpAny_bind (m := firstArgMember _ _) (wpAny_of_eq (a := Value.none) (by first | rfl | (simp only [firstArgMember]; rfl)) ?_)
  refine wpAny_newObj_type ?_ (by size_fits)
  have u1 := (Heap.SameBut.update (h := s.heap) (a := it) (f := Obj.mapFields (·.setIfInBounds 0 .none))).extBut x1 o1 hxi h1
  refine HotX.raiseNew_hot ⟨hh, o1, vs1, Heap.get?_push_of_some _ (Heap.get?_push_of_some _ u1), d1, c1⟩ (Nat.ne_of_lt (Heap.lt_size (Heap.get?_push_of_some _ u1))) (Heap.get?_push_size _ rfl) rfl (by first | (simp; done) | (simp; omega) | (simp only [Array.size_append]; simp; omega)) ?_
  refine wpAny_bind (wpAny_isInstance (T := "StopIteration") (b := true) ⟨_, Heap.get?_update_self _ (Heap.get?_push_size _ rfl) rfl, rfl⟩ isSubtype_stop ?_)
  refine wpAny_pure (hQ _ fun b o hb e => ?_)
  have e2 := (Heap.SameBut.update (h := s.heap) (a := it) (f := Obj.mapFields (·.setIfInBounds 0 .none))).extBut b o hb e
  rw [Heap.get?_update_other _ _ (Nat.ne_of_gt (Heap.lt_size (Heap.get?_push_of_some _ e2)))]
  exact Heap.get?_push_of_some _ (Heap.get?_push_of_some _ e2)
/-- a list walked so -/
theorem walks_hot {x1 : Addr} (hh : A.handled = some (.ref x1)) (I ax : Addr) (hne : ax ≠ I) (hxi : x1 ≠ I) (items : Array Value) :
    Walks prog w A I [I, ax, x1] [I] items.size (fun i v => items[i]? = some v) (fun i h => h.IsListIter I ax i ∧ h.IsList ax items ∧ ∃ (o : Obj) (vs : Array Value), h.get? x1 = some o ∧ o.data = .fields vs ∧ vs[2]? = some .none) where
  sub := fun b hb => by simp at hb; simp [hb]
  frame := fun _ _ _ ⟨h1, h2, o, vs, h3, h4⟩ hk => ⟨h1.at fun o e => hk I (by simp) o e, h2.at fun o e => hk ax (by simp) o e, o, vs, hk x1 (by simp) o h3, h4⟩
  item := fun i s Q E hi ⟨h1, h2, o, vs, h3, h4⟩ hQ => by
    refine wpAny_pyNext_list_item h1 h2 (x := items[i]) (by simp [hi]) fun h' hit' hs' => ?_
    exact hQ _ h' s.toks (by simp [hi]) ⟨hit', h2.extBut hs'.extBut hne, o, vs, hs'.extBut x1 o hxi h3, h4⟩ fun b o hb e => hs'.extBut b o (fun h => hb (by simp [h])) e
  done := fun s Q E ⟨h1, h2, o, vs, h3, h4⟩ hQ => next_end_hot ⟨hh, o, vs, h3, h4⟩ hxi h1 h2 (by simp) fun h' he' => hQ h' s.toks fun b o hb e => he' b o (fun h => hb (by simp [h])) e
  self := fun _ _ _ _ st hQ => wpAny_pyIter_listiter st.1 hQ
end
section
variable {X : Cx}
theorem cr_sumH (hc : HotC X) : CallR X (.builtin "sum") (rSum X.K) := by
  intro pins s σ H vs us Q I r h
  obtain ⟨a, ns, rfl, hs, q⟩ := h
  obtain ⟨its, rv, hl, _⟩ := I.list hs
  obtain ⟨x1, hh, ox, vx, h1, d1, c1⟩ := hc.at I
  rw [Vals.ref1 r]
  have hi := rv.ints
  obtain ⟨xs, e⟩ := hi.allInts.items
  have hn : numsOf (intItems xs).toList = ns := by rw [← e]; exact hi.numsOf
  rw [nums_intItems] at hn
  have hl' := hl.isList
  rw [e] at hl'
  refine call_sum_walkG (iter_intList hl' fun s₂ e2 st hfp hne => ?_)
  subst e2
  refine ⟨_, _, _, _, _, _, numAt xs, rfl, walks_hot (A := X.A.in1) hh _ a hne (Nat.ne_of_lt (Heap.lt_size h1)) (intItems xs), ⟨st.1, st.2, ox, vx, Heap.get?_push_of_some _ h1, d1, c1⟩, fun b hb => ?_, (fun _ _ => intItems_at), fun h' tk t' hk => ?_⟩
  · rcases List.mem_cons.mp hb with rfl | hb
    · exact hfp _ (by simp)
    · rcases List.mem_cons.mp hb with rfl | hb
      · exact hfp _ (by simp)
      · have : b = x1 := by simpa using hb
        subst this
        exact Heap.lt_size (Heap.get?_push_of_some _ h1)
  · refine ⟨.int ns.sum, H, I.kept (t' := tk) (old_kept hk), ⟨t', ?_⟩, q⟩
    rw [preSum_eq, List.take_of_length_le (by simp [intItems]), hn]
theorem obj_there {P : Program} {w : World} {H : Hp} {h : Heap} {a : Addr} {o : HO} (x : ObjOk P w H h a o) : ∃ ob, h.get? a = some ob := by
  cases o with
  | lst xs => obtain ⟨_, _, _, _, e⟩ := x; exact ⟨_, e⟩
  | tup xs => obtain ⟨_, _, _, _, e, _⟩ := x; exact ⟨_, e⟩
  | dK kvs => obtain ⟨_, _, _, _, o, _, _, e, _⟩ := x; exact ⟨_, e⟩
  | dT kvs => obtain ⟨_, _, _, _, o, _, _, e, _⟩ := x; exact ⟨_, e⟩
  | set S n => obtain ⟨o, _, _, _, e, _⟩ := x; exact ⟨_, e⟩
  | ins C dx fs => obtain ⟨_, _, _, e, _⟩ := x; exact ⟨_, e⟩
  | own y => exact x
  | xd fs => obtain ⟨_, ⟨_, _, _, e, _⟩, _⟩ := x; exact ⟨_, e⟩
  | rng lo hi => obtain ⟨_, _, _, e⟩ := x; exact ⟨_, e⟩
  | frz ob u => obtain ⟨e, _⟩ := x; exact ⟨_, e⟩
  | tbl ps => exact ⟨_, show h.get? a = some _ from x⟩
  | met f y => exact ⟨_, show h.get? a = some _ from x⟩
  | ext φ => obtain ⟨_, e, _⟩ := x; exact e
/-- a new object where none was -/
theorem laid_new {pins : List (Addr × Obj)} {σ : L2.St} {H : Hp} {s : Shared} {h' : Heap} {a : Addr} {o : HO} {t' : Nat} (I : Inv X pins σ H s) (k : ∀ b u, s.heap.get? b = some u → h'.get? b = some u) (hp : s.heap.get? a = none) (new : ObjOk X.prog X.w (upd H a o) h' a o) :
    Inv X pins σ (upd H a o) { s with heap := h', toks := t' } ∧ H a = none := by
  have hn : H a = none := by
    cases q : H a with
    | none => rfl
    | some u =>
      obtain ⟨ob, e⟩ := obj_there (I.hok a u q)
      rw [hp] at e; cases e
  have bne : ∀ {b : Addr} {u : Obj}, s.heap.get? b = some u → b ≠ a := fun e z => by rw [z, hp] at e; cases e
  refine ⟨I.un ⟨fun b u q _ _ _ => k b u q, fun b u q _ _ _ => ⟨u.slots, k b u q⟩, fun b u q n _ => by rw [upd_ne (bne q)]; exact n, fun b u q _ => ⟨u, k b u q⟩, fun b xs q => by rw [upd_ne (ne_of_none q hn)]; exact q, fun b u xs q => by rw [upd_ne (ne_of_none q hn)]; exact q, fun b ps q => ⟨#[], by rw [upd_ne (ne_of_none q hn), q]; simp⟩⟩ fun b u e => ?_, hn⟩
  by_cases hb : b = a
  · subst hb
    rw [upd_same] at e
    cases e
    exact new
  · rw [upd_ne hb] at e
    exact (I.hok b u e).stay (fun c v _ q => k c v q) (fun c q => by rw [upd_ne (ne_of_none q hn)]; exact q) fun c xs q => by rw [upd_ne (ne_of_none q hn)]; exact q
/-- [int(x) for x in e], e a list of truths -/
def tLcI (K : Fr) (te : TE) : TE := fun σ H Q => te σ H fun v H1 => ∃ (a : Addr) (bs : List Bool), v = .ref a ∧ SqL K H1 a (bs.map V.bl) ∧ ∀ p, H1 p = none → Q (.ref p) (upd H1 p (.lst (bs.map fun b => V.int (if b then 1 else 0))))
theorem vals_bools : ∀ {bs : List Bool} {us : List Value}, Vals (bs.map V.bl) us → us = bs.map Value.bool
  | [], _, h => by cases h; rfl
  | b :: bs, _, h => by
    cases h with
    | cons h1 h2 =>
      have h1 : _ = Value.bool b := h1
      rw [h1, vals_bools h2]; rfl
theorem paired_vals : ∀ {bs : List Bool} {ys : List Value}, Paired (fun v y => ∃ (b : Bool) (t : Tok), v = Value.bool b ∧ y = Value.int (if b then 1 else 0) t) (bs.map Value.bool) ys → Vals (bs.map fun b => V.int (if b then 1 else 0)) ys
  | [], _, h => by cases h; exact .nil
  | b :: bs, _, h => by
    cases h with
    | cons h1 h2 =>
      obtain ⟨b', t, e1, e2⟩ := h1
      have e1 : b = b' := by injection e1
      subst e1 e2
      exact .cons ⟨t, rfl⟩ (paired_vals h2)
theorem pe_lcIntH {te : TE} {iter : Expr} {x : Str} {px p1 p2 p3 pos : Pos} {scope : Scope} (hc : HotC X) (hm : X.mg "int" = none) (he : PE X iter te)
    (hfree : ∀ y ∈ scope.names, y.2 ≠ .free) (hcell : ∀ y ∈ scope.names, y.2 ≠ .cell) (hkind : scope.kind = .function)
    (hnames : ∀ y ∈ scope.names, y.2 = .local → scope.names.lookup y.1 = some .local) (hx : scope.names.lookup x = some .local) (hi : scope.names.lookup ("int" : Str) = some .globalImplicit) (hxd : (x == ("__debug__" : Str)) = false)
    (hs : ∀ x, foldedSetIterable iter X.env x = pure x := by intro _; rfl) :
    PE X (.ListComp (.Call (.Name "int" p1) [.Name x p2] [] p3) [⟨.Name x px, iter, [], 0⟩] scope pos) (tLcI X.K te) := by
  refine ⟨fun pins s σ H Q I h => ?_⟩
  refine wpAny_ListComp_walk (fun _ => true) (fun v y => ∃ (b : Bool) (t : Tok), v = Value.bool b ∧ y = Value.int (if b then 1 else 0) t) hfree hcell hkind hnames hx ?_ hs
  refine thn (he.run pins s σ H _ I h) fun xv s1 ⟨v, H1, I1, r1, a, bs, ev, hq, q⟩ => ?_
  subst ev
  cases r1
  obtain ⟨its, rv, hl, hz⟩ := I1.list hq
  obtain ⟨x1, hh, ox, vx, h1, d1, c1⟩ := hc.at I1
  have eits := vals_bools rv
  have hlt : a < s1.heap.objs.size := by obtain ⟨_, e, _⟩ := hl.isList; exact Heap.lt_size e
  refine wpAny_pyIter_list hl.isList ?_
  have hlen := rv.length
  refine ⟨s1.heap.objs.size, [s1.heap.objs.size, a, x1], [s1.heap.objs.size], its.toArray.size, _, _, rfl, walks_hot hh _ a (Nat.ne_of_lt hlt) (Nat.ne_of_lt (Heap.lt_size h1)) its.toArray, by rw [List.size_toArray]; omega, ⟨⟨_, Heap.get?_push_size _ rfl, rfl, rfl⟩, hl.isList.push _, ox, vx, Heap.get?_push_of_some _ h1, d1, c1⟩, fun b hb => ?_, ?_, fun D h' tk ys vs hD hys hpl hvl hP hF hk => ?_⟩
  · show b < (s1.heap.push _).objs.size
    rw [Heap.size_push]
    rcases List.mem_cons.mp hb with rfl | hb
    · exact Nat.lt_succ_self _
    · rcases List.mem_cons.mp hb with rfl | hb
      · exact Nat.lt_succ_of_lt hlt
      · have : b = x1 := by simpa using hb
        subst this
        exact Nat.lt_succ_of_lt (Heap.lt_size h1)
  · refine ⟨fun C i v s3 m3 E' hv hn hmx hk htk => ?_, fun C i v s3 m3 E' hv _ hn hmx hk htk => ?_⟩
    · exact wpAny_pure ⟨rfl, s3.heap, s3.toks, rfl, fun _ _ e => e⟩
    · have hb : ∃ b, v = Value.bool b := by
        rw [eits] at hv
        simp only [List.getElem?_toArray, List.getElem?_map] at hv
        cases q2 : bs[i]? with
        | none => rw [q2] at hv; cases hv
        | some b => rw [q2] at hv; exact ⟨b, by simpa using hv.symm⟩
      obtain ⟨b, rfl⟩ := hb
      obtain ⟨mb, g1, g2⟩ := I1.mod.blt
      have kp : ∀ b o, s1.heap.get? b = some o → s3.heap.get? b = some o := fun b o e => hk b o (fun hm => by
        have hb : b = s1.heap.objs.size := by simpa using hm
        have := Heap.lt_size e
        rw [hb] at this
        exact Nat.lt_irrefl _ this) (Heap.get?_push_of_some _ e)
      refine Call_ (Calls.Name_function_global (env := compEnv scope C X.env) hkind hi (Calls.loadGlobal_builtin (by show s3.heap.Ns X.env.globals X.mg; rw [I1.ok.glob]; exact (I1.mod.glob.keeps I1.bk).at' fun o e => kp _ o e) hm (by show s3.heap.Ns X.env.builtins mb; rw [I1.ok.blt]; exact (g1.keeps I1.bk).at' fun o e => kp _ o e) ((g2 "int" (by decide)).trans (show bootBuiltins "int" = some (.type "int") by decide +kernel)) ?_))
      refine PyProof.Rows.callWith_type1 (Calls.spliced_cons (wpAny_Name (wpAny_loadName_local (env := compEnv scope C X.env) hkind hx (by show s3.heap.Ns C m3; exact hn) hmx (Calls.spliced_nil ?_)) hxd)) (by rfl) (by rfl)
      exact call_int_bool ⟨⟨b, s3.toks, rfl, rfl⟩, s3.heap, s3.toks + 1, rfl, fun _ _ e => e⟩
  · have kp : ∀ b o, s1.heap.get? b = some o → h'.get? b = some o := fun b o e => hk b o (fun hm => by
      have hb : b = s1.heap.objs.size := by simpa using hm
      have := Heap.lt_size e
      rw [hb] at this
      exact Nat.lt_irrefl _ this) (Heap.get?_push_of_some _ e)
    have evs : vs = bs.map Value.bool := by
      apply List.ext_getElem?
      intro j
      cases q2 : vs[j]? with
      | none =>
        have h1 := List.getElem?_eq_none_iff.mp q2
        rw [eits] at hvl
        symm
        rw [List.getElem?_eq_none_iff]
        rw [hvl] at h1
        simpa using h1
      | some v =>
        have := hP j v q2
        rw [eits] at this
        simpa using this.symm
    have hD1 : s1.heap.get? D = none := by
      cases q2 : s1.heap.get? D with
      | none => rfl
      | some o =>
        have := Heap.get?_push_of_some { cls := .type "list_iterator", data := .fields #[.ref a, .int 0 0] } q2
        rw [this] at hD; cases hD
    have hft : (bs.map Value.bool).filter (fun _ => true) = bs.map Value.bool := List.filter_eq_self.mpr fun _ _ => rfl
    rw [evs, hft] at hF
    have hvs := paired_vals hF
    obtain ⟨od, hod⟩ := hpl
    have hsz : (bs.map fun b => V.int (if b then 1 else 0)).length ≤ sizeLine := by
      have : bs.length = (bs.map V.bl).length := by simp
      rw [List.length_map, this]
      exact Nat.le_trans (by omega) hz
    obtain ⟨I2, hn⟩ := laid_new (t' := tk) (o := .lst (bs.map fun b => V.int (if b then 1 else 0))) I1 kp hD1 ⟨hsz, ys.toList, od, hvs, by simpa using hod⟩
    exact ⟨.ref D, _, I2, rfl, q D hn⟩
end
end DL

namespace DL
open PySem PySem.Spec PyProof.Rows L2 LamX L2H
/-! ### the lambda's context; what leaves it has no context of its own -/
abbrev lamX (X : Cx) (A : Around) (outer : List Env) (s : Shared) (H : Hp) (E : XK) (scope : Scope) (f c' : Addr) : Value → Shared → Prop := fun e s' =>
  wpAny (model X.prog X.w) (A.deeper (lamEnv X scope s.heap.objs.size f c')) (leaving (lamEnv X scope s.heap.objs.size f c') e) (fun _ s'' => L2N.CX X.prog X.w outer H s E e s'') (fun e' s'' => L2N.CX X.prog X.w outer H s E e' s'') s'
abbrev lamN (X : Cx) (A : Around) (outer : List Env) (s : Shared) (H : Hp) (E : XK) (scope : Scope) (f c' : Addr) : Cx :=
  (lamCx X A outer s H E scope f c').tr [] (lamX X A outer s H E scope f c')
section
variable {X : Cx} {pins : List (Addr × Obj)} {σ : L2.St} {H : Hp} {s : Shared}
theorem act_n {CXg : CXT} {Eg : XK} {Ng : List Str} {qg : Str} {sg : Scope} {g f c' : Addr} {cdg pm ctv : Value} {params : Arguments} {body : Expr} {scope : Scope} {k i : Nat} {a : Str} {pn : List (Addr × Obj)} {xe : Value → Shared → Prop} {W : WX} {E : XK} {tb : TE} {p1 p2 : Pos}
    (I : Inv X pins σ H s) (L : LamS X.env.scope scope) (hf : s.heap.get? f = some (PySem.W.kla_obj "<lambda>" (X.env.qual ++ "<lambda>") params body scope (cloFrom X.env.cells scope.names []) pm c' ctv)) (hfn : H f = none) (hfr : f ∉ frs X.stack)
    (hbind : bindArgs (PySem.W.kla_fn "<lambda>" (X.env.qual ++ "<lambda>") params body scope (cloFrom X.env.cells scope.names []) pm (.ref c') ctv) ⟨[], []⟩ = pure [])
    (tk : L2N.Takes ((cxOf CXg X.prog X.w X.K X.mg X.base Ng qg sg g cdg X.A X.stack s H Eg).tr pn xe) W) (hW : ∀ cls d σ' H', E cls d H' → W cls d σ' H') (hr : Room (k + 1) (X.A.deeper (envOfC qg sg s.heap.objs.size g cdg)))
    (hbody : ∀ (A : Around) (outer : List Env) (s : Shared) (H : Hp), Room k (A.deeper (lamEnv X scope s.heap.objs.size f c')) → PE (lamN X A outer s H E scope f c') body tb)
    (hN : Ng[i]? = some a) (hv : Vis sg a) (hd : (a == ("__debug__" : Str)) = false := by decide) (hcd : (a == ("__classdict__" : Str)) = false := by decide) :
    PE ((cxOf CXg X.prog X.w X.K X.mg X.base Ng qg sg g cdg X.A X.stack s H Eg).tr pn xe) (.Call (.Name a p1) [] [] p2)
      (fun σZ HZ Q => σZ[i]? = some (some (.ref f)) ∧ HZ c' = some (CodeO c' (X.env.qual ++ "<lambda>")) ∧ tb σ HZ Q) := by
  refine ⟨fun pZ sZ σZ HZ Q IZ ⟨h1, h2, h3⟩ => ?_⟩
  have nm := (pe_var (X := (cxOf CXg X.prog X.w X.K X.mg X.base Ng qg sg g cdg X.A X.stack s H Eg).tr pn xe) (pos := p1) (i := i) hN hv hd hcd).run pZ sZ σZ HZ (fun v H1 => v = .ref f ∧ H1 = HZ) IZ ⟨.ref f, h1, rfl, rfl⟩
  refine wpAny_Call_Name_kw (thn nm fun u sB ⟨v, HB, IB, rB, eB, eH⟩ => ?_)
  subst eB
  rw [eH] at IB
  obtain rfl : u = Value.ref f := rB
  have at1 : sB.heap.get? f = some (PySem.W.kla_obj "<lambda>" (X.env.qual ++ "<lambda>") params body scope (cloFrom X.env.cells scope.names []) pm c' ctv) := IB.base.keep f _ hf hfn hfr (fun z => nomatch (show f ∈ ([] : List Addr) from z))
  refine PySem.W.callWith_F0 ⟨_, _, _, _, at1⟩ ?_
  obtain ⟨⟨oc, vs, t, hoc, hdc, hvc⟩, _, _⟩ := IB.hok c' _ h2
  have run : codeAny (model X.prog X.w) (X.A.deeper (envOfC qg sg s.heap.objs.size g cdg)) (.call (.ref f) ⟨[], []⟩) (CR (L2N.CX X.prog X.w) (envOfC qg sg s.heap.objs.size g cdg :: X.stack) X.prog X.w HZ sB Q E) sB := by
    refine PySem.W.kla_callFunE hr.depth at1 rfl L.co L.gen rfl ⟨c', oc, vs, t, rfl, hoc, hdc, hvc⟩ ?_
    rw [hbind]
    refine wpAny_pure (wpAny_newFunctionEnv (fun y hy => (L.own y hy).2) (fun y hy => absurd hy (by simp)) (fun h₁ hns hsb => ⟨IB.nolimit.fresh _ hsb, ?_⟩) L.kind)
    show codeAny _ _ (.expr body (lamEnv X scope sB.heap.objs.size f c')) _ _
    have J := lam_start2 (E := E) (f := f) (c' := c') (tk := sB.toks + ([] : List (Str × Value)).length) I L IB.env0 hr.hd IB.base hns (fun b o e => hsb.extBut b o (Nat.ne_of_lt (Heap.lt_size e)) (Heap.get?_push_of_some _ e))
    have J2 := J.toTry (lamX X (X.A.deeper (envOfC qg sg s.heap.objs.size g cdg)) (envOfC qg sg s.heap.objs.size g cdg :: X.stack) sB HZ E scope f c')
    refine PySem.W.kla_codeExpr (wpAny_mono ((hbody _ _ sB HZ (hr.deeper _)).run [] _ _ HZ Q J2 h3) (fun v s' ⟨w', H', J', rv, q⟩ => ?_) fun e s' hq => hq)
    exact ⟨w', H', J'.os, J'.bare, J'.base, J'.hok, rv, q⟩
  refine wpAny_call (codeAny_mono run fun r s' hq => ?_)
  cases r with
  | error e => exact L2N.passes_call tk hW pZ σZ HZ sB e s' IB hq
  | ok fl =>
    cases fl with
    | ret u => exact IB.after hq
    | next => exact False.elim hq
    | brk => exact False.elim hq
    | cont => exact False.elim hq
end
/-! ### a def called while an exception is handled: its promise of that very exception -/
structure FnP (P : Program) (w : World) (K : Fr) (mg : Str → Option Value) (base : Heap) (k : Nat) (f : Addr) (fd : FuncData) (ps : List Str) (sp : Addr × Obj → Sp) : Prop where
  len : ∀ p vs H Q E, sp p vs H Q E → vs.length = ps.length
  run : ∀ (A : Around) (outer : List Env) (s : Shared) (H : Hp) (args : Args) (us : List Value) (vs : List V) (Q : VK) (E : XK) (p : Addr × Obj), RoomH k A → Hot1 A p → PinOk outer H s p → Env0 P w K mg base A outer s H → BindsTo s fd args (ps.zip us) → Vals vs us → sp p vs H Q E →
    codeAny (model P w) A (.call (.ref f) args) (CR CX0 outer P w H s Q E) s
/-- the promise of one exception -/
def spAt (sp : Addr × Obj → Sp) (p0 : Addr × Obj) : Sp := fun vs H Q E => sp p0 vs H Q E
theorem fnP_of {P : Program} {w : World} {K : Fr} {mg : Str → Option Value} {base : Heap} {k : Nat} {f : Addr} {fd : FuncData} {x qual : Str} {params : Arguments} {body : List Stmt} {scope : Scope} {N ps : List Str} {sp : Addr × Obj → Sp}
    (F : FunD K x qual params body scope [] [] f fd) (S : FnScope N ps scope) (len : ∀ p vs H Q E, sp p vs H Q E → vs.length = ps.length)
    (hbody : ∀ (cdv : Value) (A : Around) (outer : List Env) (s : Shared) (H : Hp) (vs : List V) (Q : VK) (E : XK) (p : Addr × Obj), Hot1 A p → RoomH k (A.deeper (envOfC qual scope s.heap.objs.size f cdv)) → sp p vs H Q E →
      ∃ t, PSs (cxH CX0 P w K mg base N qual scope f cdv A outer s H E p) body t ∧ t { nx := fun _ H' => Q .non H', rt := Q } (L2.start N vs) H) : FnP P w K mg base (k + 1) f fd ps sp := by
  obtain ⟨oc, od, dV, kV, doc, pm, an, cdv, ct, osl, rfl, lk, hcd, _, _⟩ := F.ex
  refine ⟨len, fun A outer s H args us vs Q E p hr hot hpin e0 hb r hsp => ?_⟩
  have hl := len _ _ _ _ _ hsp
  have KX : K.In s.heap := e0.mod.kin.keeps fun b o e => (e0.bs b o e).1
  have lim : s.heap.NoLimit := e0.mod.nolimit.keeps fun b o e => (e0.bs b o e).1
  refine codeAny_call_function hr.depth (KX _ _ lk) rfl S.co S.gen rfl (PySem.W.codeRec_of KX hcd) (hb _ _ _ _ ?_)
  refine wpAny_newFunctionEnv_cells S.kind (fun ⟨n, v⟩ hy => ?_) fun env he s1 x => ?_
  · rcases S.par n (List.of_mem_zip hy).1 with q | q
    · exact .inl q
    · exact .inr ⟨q, PySem.W.cellsFrom_some _ _ _ (.inl q)⟩
  subst he
  refine ⟨lim.keeps x.toInCall.keep, codeAny_func ?_⟩
  obtain ⟨t, ht, hq⟩ := hbody cdv A outer s H vs Q E p hot (hr.deeper _) hsp
  refine wpAny_mono (ht.run [] s1 (L2.start N vs) H _ (inv_startH S hpin e0 hl r x) hq) (fun fl s' hs => ?_) fun e s' hs => hs
  cases fl with
  | ret u => obtain ⟨v, σ', H', J, rv, q⟩ := hs; exact ⟨v, H', J.os, J.bare, J.base, J.hok, rv, q⟩
  | next => obtain ⟨σ', H', J, q⟩ := hs; exact ⟨.non, H', J.os, J.bare, J.base, J.hok, rfl, q⟩
  | brk => obtain ⟨_, _, _, q⟩ := hs; exact False.elim q
  | cont => obtain ⟨_, _, _, q⟩ := hs; exact False.elim q
section
variable {X : Cx} {k : Nat} {f : Addr} {fd : FuncData} {ps : List Str} {sp : Addr × Obj → Sp} {x : Str} {q pos : Pos} {e : Expr} {es : List Expr} {t : TA}
theorem pe_callP {p : Addr × Obj} (F : FnP X.prog X.w X.K X.mg X.base k f fd ps sp) (hr : RoomH k X.A) (hot : Hot1 X.A p) (hp : p ∈ X.pn) (hg : Gl X x) (hm : X.mg x = some (.ref f)) (hk : PySem.W.keepIn X.K (.ref f) = true) (hb : Binds X.K fd ps [])
    (ha : PA X (e :: es) t) (hdb : (x == ("__debug__" : Str)) = false := by decide) (he : starEach (e :: es) X.env = (false, eval e X.env) :: starEach es X.env := by rfl) (hpl : (backTo pos (starEach es X.env)).any (·.1) = false := by rfl) :
    PE X (.Call (.Name x q) (e :: es) [] pos) (fun σ H Q => t σ H fun vs H1 => sp p vs H1 Q E0) := by
  refine ⟨fun pins s σ H Q I h => ?_⟩
  refine wpAny_Call_Name_kw (ld_glob I hg hm ?_ hdb)
  refine PySem.W.callWith_K (h₀ := X.base) I.ok.mod.kin hk (thn (ha.run pos pins s σ H _ I h) fun us s1 ⟨vs, H1, I1, r, hq⟩ => ⟨I1.kIn, ?_⟩) he hpl
  have hl : us.length = ps.length := by rw [← r.length]; exact F.len _ _ _ _ _ hq
  have b := hb s1 us I1.kIn (by rw [List.append_nil]; exact hl)
  rw [List.append_nil] at b
  have P1 := I1.pin p (List.mem_append_left _ hp)
  have hpin : PinOk X.stack H1 s1 p := ⟨P1.1, P1.2.1, fun hm => (List.mem_cons.mp (I1.stkSub p.1 hm)).elim P1.2.2.1 P1.2.2.2.1, P1.2.2.2.2⟩
  refine wpAny_call (codeAny_mono (F.run X.A X.stack s1 H1 ⟨us, []⟩ us vs Q E0 p hr hot hpin I1.env0 b r hq) fun r s' hq => ?_)
  cases r with
  | error e => exact False.elim hq
  | ok fl =>
    cases fl with
    | ret u => exact I1.after hq
    | next => exact False.elim hq
    | brk => exact False.elim hq
    | cont => exact False.elim hq
end
end DL

namespace DL
open PySem PySem.Spec PyProof.Rows L2 LamX L2H
/-! ### what is known of a class of exceptions -/
def excE (K : Fr) (C : Addr) : Bool :=
  (PySem.W.clsIn K C).isSome && (decide (PySem.W.findIn K (.ref C) "__getattribute__" = some (some (.builtin "BaseException.__getattribute__"))) && ((PySem.W.findIn K (.ref C) "__getattr__").isSome &&
    (decide (PySem.W.subIn K (.ref C) (.type "BaseException") = some true) && (decide (PySem.W.findIn K (.ref C) "__class__" = some (some (.builtin "object.__class__"))) &&
    (decide (PySem.W.specialIn K (.builtin "object.__class__") "__get__" = some (some (.builtin "getset_descriptor.__get__"))) && (decide (PySem.W.takesIn K (.builtin "object.__class__") = some true) && (decide (PySem.W.mroIn K C (.type "object") = some true) &&
    decide (PySem.W.kitOne K (.ref C) (.type "ValueError") = some true))))))))
/-- of several classes: each by its name, none below another -/
def excsE (K : Fr) (ns : List Str) : Bool := ns.all fun x => excE K (He.ga K x) && ns.all fun y => decide (PySem.W.kitOne K (.ref (He.ga K x)) (.ref (He.ga K y)) = some (decide (x = y)))
/-- the slot of the exception that is handled -/
def exS (a : Addr) : SV := ⟨fun _ _ o v => o = [] ∧ v = some (.ref a), fun _ _ h => h⟩
section
variable {X : Cx} {T : Tb} {EX : XK} {S : AS} {E : En} {x : Str} {p0 p1 p2 p3 pos : Pos} {e : Expr} {d : PD} {ds : List PD}
theorem isi_ex {p : Addr × Obj} {C : Addr} (hot : Hot1 X.A p) (hp : p ∈ X.pn) (hc : p.2.cls = .ref C) (hd : p.2.dict = none) (hE : excE X.K C = true) : CallR X (.builtin "isinstance") (fun xs H Q => ∃ (c : V) (u : Value) (b : Bool), xs = [.ref p.1, c] ∧ ClsV c u ∧ PySem.W.kitOne X.K (.ref C) u = some b ∧ Q (.bl b) H) := by
  intro pins s σ H xs us Q I r ⟨c, u, b, exs, k, ek, q⟩
  subst exs
  obtain ⟨u1, u2, rfl, r1, r2⟩ := vals2 r
  have e2 := k.eq r2
  subst e2
  obtain rfl : u1 = Value.ref p.1 := r1
  simp only [excE, Bool.and_eq_true, decide_eq_true_eq] at hE
  obtain ⟨h1, h2, h3, h4, h5, h6, h7, h8, _⟩ := hE
  obtain ⟨gt, h3⟩ := Option.isSome_iff_exists.mp h3
  obtain ⟨_, vs, ev, _⟩ := hot
  have P1 := I.pin p (List.mem_append_left _ hp)
  have inst : PySem.W.InstAt s.heap p.1 p.2 C none := ⟨P1.1, hc, by
    obtain ⟨oa, ob⟩ := p
    obtain ⟨c1, d1, dt, sl⟩ := ob
    simp only at ev
    subst ev
    rfl, by rw [hd]; trivial⟩
  exact PySem.W.kia_one (PySem.W.kitx_exc (x := p.1) (ox := p.2) (od := none) h1 h2 h3 h4 h5 h6 h7 h8) I.kIn inst ek (fun z => nomatch z) fun tk => ⟨.bl b, H, I.tok tk, rfl, q⟩
/-- isinstance(e, C) -/
theorem de_isiC {p : Addr × Obj} {C D : Addr} {y : Str} {b : Bool} (i : Nat) (hot : Hot1 X.A p) (hp : p ∈ X.pn) (hc : p.2.cls = .ref C) (hd : p.2.dict = none) (hE : excE X.K C = true) (hm : X.mg "isinstance" = none) (gD : X.mg y = some (.ref D)) (hk : PySem.W.kitOne X.K (.ref C) (.ref D) = some b)
    (hi : S[i]? = some (exS p.1) := by rfl) (hN : X.N[i]? = some x := by rfl) (hv : Vis X.env.scope x := by first | exact Or.inl rfl | exact Or.inr (Or.inl rfl) | exact Or.inr (Or.inr rfl)) (hdb : (x == ("__debug__" : Str)) = false := by decide)
    (hcd : (x == ("__classdict__" : Str)) = false := by decide) (hg : Gl X "isinstance" := by rfl) (hgy : Gl X y := by rfl) (hdy : (y == ("__debug__" : Str)) = false := by decide) : DE X T (.Call (.Name "isinstance" p0) [.Name x p1, .Name y p2] [] pos) S (.bool b) :=
  pe_of (pe_callB (isi_ex hot hp hc hd hE) hg hm (show bootBuiltins "isinstance" = some (.builtin "isinstance") by decide +kernel) (pa_cons (pe_var hN hv hdb hcd) (pa_cons (pe_glob hgy gD (v := .ref D) rfl hdy) pa_nil))) fun σ H Q ⟨O0, H0, os, r, k⟩ => by
    obtain ⟨v, h1, _, rfl⟩ := r.rep i _ hi
    exact ⟨.ref p.1, h1, .ref D, _, b, rfl, .own D, hk, k _ _ r.ec.refl (.bl _)⟩
theorem de_isiV {p : Addr × Obj} {C : Addr} (i : Nat) (hot : Hot1 X.A p) (hp : p ∈ X.pn) (hc : p.2.cls = .ref C) (hd : p.2.dict = none) (hE : excE X.K C = true) (hm : X.mg "isinstance" = none) (hm2 : X.mg "ValueError" = none)
    (hi : S[i]? = some (exS p.1) := by rfl) (hN : X.N[i]? = some x := by rfl) (hv : Vis X.env.scope x := by first | exact Or.inl rfl | exact Or.inr (Or.inl rfl) | exact Or.inr (Or.inr rfl)) (hdb : (x == ("__debug__" : Str)) = false := by decide)
    (hcd : (x == ("__classdict__" : Str)) = false := by decide) (hg : Gl X "isinstance" := by rfl) (hgy : Gl X "ValueError" := by rfl) : DE X T (.Call (.Name "isinstance" p0) [.Name x p1, .Name "ValueError" p2] [] pos) S (.bool true) :=
  pe_of (pe_callB (isi_ex hot hp hc hd hE) hg hm (show bootBuiltins "isinstance" = some (.builtin "isinstance") by decide +kernel) (pa_cons (pe_var hN hv hdb hcd) (pa_cons (pe_bltn hgy hm2 (show bootBuiltins "ValueError" = some (.type "ValueError") by decide +kernel) (v := .ty "ValueError") rfl) pa_nil))) fun σ H Q ⟨O0, H0, os, r, k⟩ => by
    obtain ⟨v, h1, _, rfl⟩ := r.rep i _ hi
    have hk : PySem.W.kitOne X.K (.ref C) (.type "ValueError") = some true := by
      simp only [excE, Bool.and_eq_true, decide_eq_true_eq] at hE
      exact hE.2.2.2.2.2.2.2.2
    exact ⟨.ref p.1, h1, .ty "ValueError", _, true, rfl, .ty _, hk, k _ _ r.ec.refl (.bl _)⟩
theorem dqs_boolsV {H : Hp} : ∀ {bs : List Bool} {vs : List V}, Dqs H vs (bs.map .bool) → vs = bs.map V.bl
  | [], _, h => by cases h; rfl
  | b :: bs, _, h => by
    cases h with
    | cons h1 h2 => cases h1; rw [dqs_boolsV h2]; rfl
theorem dqs_ofInts {H : Hp} : ∀ {ns : List Int}, Dqs H (ns.map V.int) (ns.map .int)
  | [] => .nil
  | n :: ns => .cons (.int n) dqs_ofInts
/-- [int(x) for x in e] while an exception is handled -/
theorem dn_lcIH {bs : List Bool} {scope : Scope} {iter : Expr} {px : Pos} (hc : HotC X) (hm : X.mg "int" = none) (he : DE X T iter S (.list (bs.map .bool)))
    (hfree : ∀ y ∈ scope.names, y.2 ≠ .free := by decide +kernel) (hcell : ∀ y ∈ scope.names, y.2 ≠ .cell := by decide +kernel) (hkind : scope.kind = .function := by decide +kernel)
    (hnames : ∀ y ∈ scope.names, y.2 = .local → scope.names.lookup y.1 = some .local := by decide +kernel) (hx : scope.names.lookup x = some .local := by decide +kernel) (hi : scope.names.lookup ("int" : Str) = some .globalImplicit := by decide +kernel) (hxd : (x == ("__debug__" : Str)) = false := by decide)
    (hs : ∀ x, foldedSetIterable iter X.env x = pure x := by intro _; rfl) :
    DN X T (.ListComp (.Call (.Name "int" p1) [.Name x p2] [] p3) [⟨.Name x px, iter, [], 0⟩] scope pos) S ((bs.map fun b => if b then (1 : Int) else 0).map .int) :=
  pe_of (pe_lcIntH hc hm he hfree hcell hkind hnames hx hi hxd hs) fun σ H Q ⟨O0, H0, os, r, k⟩ => ⟨O0, H0, os, r, fun v H1 g1 h1 => by
    cases h1 with
    | lst q1 q2 =>
      have e := dqs_boolsV q2
      subst e
      refine ⟨_, bs, rfl, SqL.of (fzl q1), fun p hp => ?_⟩
      refine k p (bs.map fun b => V.int (if b then 1 else 0)) _ ((Nw.of hp).back g1.ext) (g1.trans ((r.gr g1).ec.new hp)) upd_same ?_
      have : (bs.map fun b => V.int (if b then 1 else 0)) = (bs.map fun b => if b then (1 : Int) else 0).map V.int := by rw [List.map_map]; rfl
      rw [this]
      exact dqs_ofInts⟩
theorem de_sumH {ns : List Int} (hm : X.mg "sum" = none) (hc : HotC X) (he : DE X T e S (.list (ns.map .int))) (hs : starEach [e] X.env = (false, eval e X.env) :: starEach [] X.env := by rfl) (hg : Gl X "sum" := by rfl) : DE X T (.Call (.Name "sum" p0) [e] [] pos) S (.int ns.sum) :=
  de_callB1 (cr_sumH hc) hm he (fun O H vs Q c hv k => by
    cases hv with
    | cons h1 h2 =>
      cases h2
      cases h1 with
      | lst q1 q2 =>
        have e := dqs_ints q2
        subst e
        exact ⟨_, ns, rfl, SqL.of (fzl q1), k _ _ c.refl (.int _)⟩) (by decide +kernel) hs hg (by decide) (by decide)
/-- xs.index(True) of truths -/
theorem de_indexT {bs : List Bool} {o : Expr} {jc : Nat} {apos cpos : Pos} (j : Nat) (ho : DE X T o S (.list (bs.map .bool))) (hj : bs[j]? = some true) (hl : ∀ m, m < j → bs[m]? = some false) (hbase : attributeBase o "index" X.env (eval o X.env) = eval o X.env := by rfl)
    (hfew : ((backTo cpos (starEach [(.Constant (.bool true) jc p1 : Expr)] X.env)).all (fun x => !x.1) && (backToKw cpos (keywordEach [] X.env)).all (fun x => x.1.isSome) && decide ([(.Constant (.bool true) jc p1 : Expr)].length + ([] : List Keyword).length + (if ([] : List Keyword).isEmpty then 0 else 1) < 30)) = true := by rfl)
    (hline : (apos.endLine == cpos.line) = true := by rfl) (hplain : (backTo cpos (starEach [] X.env)).any (·.1) = false := by rfl) :
    DE X T (.Call (.Attribute o "index" apos) [.Constant (.bool true) jc p1] [] cpos) S (.int (j : Nat)) := by
  refine pe_of (pe_bm PySem.F.plainAttrs_list PySem.F.slot_list_index PySem.F.type_list_index mt_index ho (pa_cons pe_bl pa_nil) hbase hfew hline (by rfl) hplain) fun σ H Q ⟨O0, H0, os, r, k⟩ => ⟨O0, H0, os, r, fun v H1 g1 h1 => ?_⟩
  cases h1 with
  | lst q1 q2 =>
    have e := dqs_boolsV q2
    subst e
    refine ⟨.inl ⟨rfl, _, SqL.of (fzl q1)⟩, _, bs.map V.bl, .bl true, j, .bl true, rfl, rfl, SqL.of (fzl q1), rfl, ?_, by rw [List.getElem?_map, hj]; rfl, rfl, fun m z' hm hz => ?_, k _ _ g1 (.int _)⟩
    · rw [List.all_map]; exact List.all_eq_true.mpr fun b _ => rfl
    · rw [List.getElem?_map, hl m hm] at hz
      have hz : V.bl false = z' := by simpa using hz
      subst hz
      rfl
end
/-- the promise of the def that names the class -/
def spW (T : Tb) (K : Fr) (ns : List Str) : Addr × Obj → Sp := fun p vs H Q _ => ∃ O x, x ∈ ns ∧ EC T O H ∧ vs = [.ref p.1] ∧ p.2.cls = .ref (He.ga K x) ∧ p.2.dict = none ∧ ∀ v H', Gr T H H' → Dq (fz O H') v (.str x) → Q v H'
abbrev bodyW (P : Program) (w : World) (K : Fr) (mg : Str → Option Value) (base : Heap) (N : List Str) (qual : Str) (scope : Scope) (f : Addr) (cd : Value) (A : Around) (outer : List Env) (s : Shared) (H : Hp) (E : XK) (p : Addr × Obj) : Cx := cxH CX0 P w K mg base N qual scope f cd A outer s H E p
section
variable {P : Program} {w : World} {K : Fr} {mg : Str → Option Value} {base : Heap} {f : Addr} {fd : FuncData} {qual x y z : Str} {params : Arguments} {body : List Stmt} {scope : Scope} {N ps : List Str} {k : Nat} {T : Tb} {ds : List PD}
theorem enter_ex {O : Addr → Prop} {H : Hp} {N : List Str} {a : Addr} (c : EC T O H) : RpO T O H (fun _ => []) (exS a :: enter N []) (L2.start (y :: N) [.ref a]) H := by
  have q := enter_ok (N := N) (vs := []) (ds := []) c .nil (by simp)
  have es : L2.start (y :: N) [.ref a] = some (.ref a) :: L2.start N [] := by
    unfold L2.start; simp
  rw [es]
  refine ⟨by simp [q.len], q.apart, q.new, q.old, q.ext, q.tabs, fun i s e => ?_, fun i hi => rfl⟩
  cases i with
  | zero =>
    have e : exS a = s := by simpa using e
    subst e
    exact ⟨_, rfl, rfl, rfl⟩
  | succ i => exact q.rep i s (by simpa using e)
theorem fn_okW {ns : List Str} (F : FunD K x qual params body scope [] [] f fd) (S : FnScope (y :: N) [z] scope)
    (hbody : ∀ (cd : Value) (A : Around) (outer : List Env) (s : Shared) (H : Hp) (E : XK) (p : Addr × Obj) (c : Str), c ∈ ns → Hot1 A p → p.2.cls = .ref (He.ga K c) → p.2.dict = none → RoomH k (A.deeper (envOfC qual scope s.heap.objs.size f cd)) →
      DSs (bodyW P w K mg base (y :: N) qual scope f cd A outer s H E p) T E0 body (exS p.1 :: enter N []) (rets (.str c))) :
    FnP P w K mg base (k + 1) f fd [z] (spW T K ns) := by
  refine fnP_of F S (fun p vs H Q E ⟨O, c, _, _, e, _⟩ => by rw [e]; rfl) fun cdv A outer s H vs Q E p hot hr ⟨O, c, hc, ec, e, h1, h2, q⟩ => ⟨_, hbody cdv A outer s H E p c hc hot h1 h2 hr, O, H, _, e ▸ enter_ex ec, ?_⟩
  exact ⟨fun S' σ' H' e ⟨os, rr⟩ => (by cases e), fun d' v H' e g hd => q v H' g (by rw [show d' = .str c from e] at hd; exact hd), fun _ _ _ z => z.elim, fun _ _ _ z => z.elim, fun _ _ z => z.elim, fun _ _ _ _ z => z.elim⟩
end
end DL

namespace DL
open PySem PySem.Spec PyProof.Rows L2 LamX L2H
theorem takes0N {X : Cx} : L2N.Takes X (fun _ _ _ _ => False) := fun _ _ x => by
  obtain ⟨_, _, _, _, _, _, _, _, _, _, _, _, _, _, _, _, z⟩ := x
  exact z.elim
/-- what is told of a deed that does r -/
def toldD (K : Fr) (ns : List Str) (r : Rs) (d : PD) : Prop := r = .ok d ∨ ∃ x, x ∈ ns ∧ r = .no (.ref (He.ga K x)) ∧ d = .str x
section
variable {X : Cx} {T : Tb} {S : AS} {d : PD} {ns : List Str}
/-- told(lambda: body) -/
theorem de_told {x a en wn ln : Str} {g c P : Addr} {k kw : Nat} {pg : Arguments} {sg : Scope} {fd : FuncData} {Ng : List Str} {zW : Str} {fW : Addr} {fdW : FuncData} {r : Rs}
    {params : Arguments} {body : Expr} {scope : Scope} {p lpos pos p1 p2 p3 p4 p5 p6 p7 p8 p9 p10 : Pos}
    (hm : X.mg x = some (.ref g)) (F : FunD X.K x x pg [.Try [.Return (some (.Call (.Name a p1) [] [] p2)) p3] [.ExceptHandler (some (.Name ln p4)) (some en) [.Return (some (.Call (.Name wn p5) [.Name en p6] [] p7)) p8] p9] [] [] p10] sg [] [] g fd)
    (hb : L2.Binds X.K fd [a] []) (Sg : FnScope Ng [a] sg)
    (W : FnP X.prog X.w X.K X.mg X.base kw fW fdW [zW] (spW T X.K ns)) (hkw : kw ≤ k + 1) (hmW : X.mg wn = some (.ref fW)) (hkW : PySem.W.keepIn X.K (.ref fW) = true) (hbW : Binds X.K fdW [zW] [])
    (hmL : X.mg ln = some (.ref (He.ga X.K ln))) (hex : ∀ y ∈ ns, PySem.W.exmOne X.K (.ref (He.ga X.K y)) (.ref (He.ga X.K ln)) = some true)
    (TB : TabB X.base X.mg c P) (hcode : X.env.code = .ref c) (hmT : (P, X.env.qual ++ "<lambda>") ∈ T) (hu : ∀ p ∈ T, p.1 = P → p.2 = X.env.qual ++ "<lambda>") (hr : Room (k + 2) X.A)
    (hbody : ∀ (A : Around) (outer : List Env) (s : Shared) (H : Hp) (E : XK) (f c' : Addr), Room k (A.deeper (lamEnv X scope s.heap.objs.size f c')) → PE (lamN X A outer s H E scope f c') body (tX T E S r))
    (hd : toldD X.K ns r d)
    (L : LamS X.env.scope scope := by first | exact lamS_by rfl | exact lamS_by (by decide +kernel)) (hdef : defaultsOf params X.env = ([], []) := by rfl)
    (hbind : ∀ (q : Str) (cl : List (Str × Addr)) (pm cv ctv : Value), bindArgs (PySem.W.kla_fn "<lambda>" q params body scope cl pm cv ctv) ⟨[], []⟩ = pure [] := by intro _ _ _ _ _; rfl)
    (hg : Gl X x := by rfl) (hN0 : Ng[0]? = some a := by rfl) (hN1 : Ng[1]? = some en := by rfl) (hva : Vis sg a := by first | exact Or.inl rfl | exact Or.inr (Or.inl rfl) | exact Or.inr (Or.inr rfl)) (hve : sg.names.lookup en = some .local := by rfl)
    (hgl : sg.names.lookup ln = some .globalImplicit := by rfl) (hgw : sg.names.lookup wn = some .globalImplicit := by rfl)
    (hdb : (x == ("__debug__" : Str)) = false := by decide) (hda : (a == ("__debug__" : Str)) = false := by decide) (hca : (a == ("__classdict__" : Str)) = false := by decide) (hde : (en == ("__debug__" : Str)) = false := by decide) (hce : (en == ("__classdict__" : Str)) = false := by decide)
    (hdl : (ln == ("__debug__" : Str)) = false := by decide) (hdw : (wn == ("__debug__" : Str)) = false := by decide) :
    DE X T (.Call (.Name x p) [.Lambda params body scope lpos] [] pos) S d := by
  refine ⟨fun pins s σ H Q I ⟨O0, H0, os, rp, kk⟩ => ?_⟩
  have hkp := F.kp
  obtain ⟨oc, od, dV, kV, doc, pm, an, cdv, ct, osl, rfl, lk, hcg, _, _⟩ := F.ex
  refine wpAny_Call_Name_kw (ld_glob I hg hm ?_ hdb)
  refine PySem.W.callWith_K (h₀ := X.base) I.ok.mod.kin hkp ?_ (by rfl) (by rfl)
  show wpAny _ _ (spliced ((false, eval (.Lambda params body scope lpos) X.env) :: backTo pos (starEach [] X.env))) _ _ s
  refine Calls.spliced_cons (lam_make2 I TB hcode hmT hu rp.tabs hdef (L.has I.ok) fun f c' pm' ctv H1 s' I1 eN T1 hf hfn hfr hco => ?_)
  refine Calls.spliced_nil ⟨I1.kIn, ?_⟩
  have gr1 : Gr T H H1 := ⟨eN, T1⟩
  have rp1 := rp.gr gr1
  have rc : codeAny (model X.prog X.w) X.A (.call (.ref g) ⟨[.ref f], []⟩) (CR CX0 X.stack X.prog X.w H1 s' Q E0) s' := by
    refine run_ofS (N := Ng) (ps := [a]) (us := [.ref f]) (vs := [.ref f]) lk hcg Sg hr I1.env0 (hb s' [.ref f] I1.kIn rfl) (.cons rfl .nil) rfl fun hr' => ?_
    have hst0 : (L2.start Ng [V.ref f])[0]? = some (some (V.ref f)) := rfl
    have hlN : 1 < Ng.length := (List.getElem?_eq_some_iff.mp hN1).1
    refine ⟨_, (pss_one (L2N.ps_try_as (X := (cxOf CX0 X.prog X.w X.K X.mg X.base Ng x sg g cdv X.A X.stack s' H1 E0).nox) (c := .ref (He.ga X.K ln)) (i := 1) (n := en) (Wout := fun _ _ _ _ => False)
      (tb := fun W D σ1 H2 => ∃ Ech : XK, (∀ cls d σ' H', Ech cls d H' → W cls d σ' H') ∧ σ1[0]? = some (some (.ref f)) ∧ H2 c' = some (CodeO c' (X.env.qual ++ "<lambda>")) ∧ tX T Ech S r σ H2 D.rt)
      (ts := fun a cls d D σ H => (∃ σ' : L2.St, σ = σ'.set 1 (some (V.ref a))) ∧ ∃ O y, y ∈ ns ∧ EC T O H ∧ cls = .ref (He.ga X.K y) ∧ d = none ∧ ∀ v H2, Gr T H H2 → Dq (fz O H2) v (.str y) → D.rt v H2)
      rfl rfl Sg.nd hN1 hve ⟨hgl, hdl, .inl hmL⟩ takes0N (fun W' pn xe tk _ => ?_) (fun a' oe cls d' pn hz hfl => ?_))).nox, ?_⟩
    · refine ⟨fun pins2 s2 σ2 H2 D I2 ⟨Ech, hW, h1, h2, h3⟩ => ?_⟩
      have hp := act_n (CXg := CX0) (Eg := E0) (i := 0) (p1 := p1) (p2 := p2) I1 L hf hfn hfr (hbind _ _ _ _ _) tk hW hr' (fun A outer s H hr2 => hbody A outer s H Ech f c' hr2) hN0 hva hda hca
      exact (pss_one (ps_ret (pos := p3) hp)).run pins2 s2 σ2 H2 D I2 ⟨h1, h2, h3⟩
    · refine ⟨fun pins2 s2 σ2 H2 D I2 ⟨⟨σ3, e3⟩, O, y, hy, ec, e1, e2, q⟩ => ?_⟩
      have h1 : σ2[1]? = some (some (V.ref a')) := by
        have hl := I2.len
        rw [e3, List.length_set] at hl
        have hl : σ3.length = Ng.length := hl
        rw [e3, List.getElem?_set_self (by omega)]
      obtain ⟨vs, hvs⟩ := hfl
      have hot : Hot1 ((cxOf CX0 X.prog X.w X.K X.mg X.base Ng x sg g cdv X.A X.stack s' H1 E0).nox.suite a' ((a', oe) :: pn)).A (a', oe) := ⟨rfl, vs, hvs, hz.2.2 vs hvs⟩
      have hrH : RoomH kw ((cxOf CX0 X.prog X.w X.K X.mg X.base Ng x sg g cdv X.A X.stack s' H1 E0).nox.suite a' ((a', oe) :: pn)).A := ⟨((roomH_of hr').mono hkw).dp, ((roomH_of hr').mono hkw).un⟩
      have hp := pe_callP (X := (cxOf CX0 X.prog X.w X.K X.mg X.base Ng x sg g cdv X.A X.stack s' H1 E0).nox.suite a' ((a', oe) :: pn)) (q := p5) (pos := p7) W hrH hot List.mem_cons_self hgw hmW hkW hbW (pa_cons (pe_var (pos := p6) (i := 1) hN1 (.inl hve) hde hce) pa_nil) hdw
      exact (pss_one (ps_ret (pos := p8) hp)).run pins2 s2 σ2 H2 D I2 ⟨.ref a', h1, O, y, hy, ec, rfl, hz.1.trans e1, hz.2.1.trans e2, q⟩
    · refine ⟨fun cls d' H2 => d' = none ∧ Gr T H1 H2 ∧ ∃ y, y ∈ ns ∧ cls = .ref (He.ga X.K y) ∧ d = .str y, fun cls d' σ' H2 ⟨h1, h2, y, hy, h3, h4⟩ => ?_, hst0, hco, O0, H0, os, rp1, fun d2 e2 v H2 g2 hv => ?_, fun c2 e2 H2 g2 => ?_⟩
      · refine ⟨true, by rw [h3]; exact hex y hy, fun _ a' ha' => ⟨⟨σ', rfl⟩, Ow O0 os, y, hy, (rp1.gr h2).ec, h3, h1, fun v H3 g3 hv => kk v H3 ((gr1.trans h2).trans g3) (h4 ▸ hv)⟩, fun z => by cases z⟩
      · have : d = d2 := by
          rcases hd with e | ⟨y', _, e, _⟩
          · rw [e2] at e; cases e; rfl
          · rw [e2] at e; cases e
        subst this
        exact kk v H2 (gr1.trans g2) hv
      · rcases hd with e | ⟨y', hy, e, e'⟩
        · rw [e2] at e; cases e
        · rw [e2] at e
          cases e
          exact ⟨rfl, g2, y', hy, rfl, e'⟩
  refine wpAny_call (codeAny_mono rc fun r s2 hq => ?_)
  cases r with
  | error e => exact (show False from hq).elim
  | ok fl =>
    cases fl with
    | ret u => exact I1.after hq
    | next => exact False.elim hq
    | brk => exact False.elim hq
    | cont => exact False.elim hq
end
/-! ### defs in which lambdas stand: their code object is known -/
section
variable {P : Program} {w : World} {K : Fr} {mg : Str → Option Value} {base : Heap} {fd : FuncData} {x y z : Str} {params : Arguments} {body : List Stmt} {scope : Scope} {N ps : List Str} {k : Nat} {T : Tb} {ds : List PD}
theorem ok_code {CX : CXT} {sp : Sp} (F : FunD K x x params body scope [] [] (He.ga K x) fd) (S : FnScope N ps scope) (len : ∀ vs H Q E, sp vs H Q E → vs.length = ps.length)
    (hbody : ∀ (cd : Value), cd = .ref (He.codeOf K (x, none)) → ∀ (A : Around) (outer : List Env) (s : Shared) (H : Hp) (vs : List V) (Q : VK) (E : XK), Room k (A.deeper (envOfC x scope s.heap.objs.size (He.ga K x) cd)) → sp vs H Q E →
      ∃ t, PSs (cxOf CX P w K mg base N x scope (He.ga K x) cd A outer s H E) body t ∧ t { nx := fun _ H' => Q .non H', rt := Q } (L2.start N vs) H) : FnOk P w K mg base CX (k + 1) (He.ga K x) fd ps sp := by
  obtain ⟨oc, od, dV, kV, doc, pm, an, cdv, ct, osl, rfl, lk, hcd, _, _⟩ := F.ex
  obtain ⟨c, rfl⟩ := He.codeIn_ref hcd
  have ec := He.codeOf_eq (p := (x, none)) lk rfl
  exact fn_of lk hcd S len fun A outer s H vs Q E hr hsp => hbody (.ref c) (by rw [ec]) A outer s H vs Q E hr hsp
theorem fn_okL {R : List PD → PD → Prop} (F : FunD K x x params body scope [] [] (He.ga K x) fd) (S : FnScope N ps scope) (len : ∀ ds d, R ds d → ds.length = ps.length ∧ ds.length ≤ N.length)
    (hbody : ∀ (ds : List PD) (d : PD), R ds d → ∀ (cd : Value), cd = .ref (He.codeOf K (x, none)) → ∀ (A : Around) (outer : List Env) (s : Shared) (H : Hp) (E : XK), Room k (A.deeper (envOfC x scope s.heap.objs.size (He.ga K x) cd)) → DSs (bodyX P w K mg base N x scope (He.ga K x) cd A outer s H E) T E body (enter N ds) (rets d)) :
    FnOk P w K mg base CX0 (k + 1) (He.ga K x) fd ps (spF T R) := by
  refine ok_code F S (fun vs H Q E ⟨O, ds, d, c, h, r, _⟩ => by rw [h.length]; exact (len ds d r).1) fun cdv hcd A outer s H vs Q E hr ⟨O, ds, d, c, h, r, q⟩ => ⟨_, (hbody ds d r cdv hcd A outer s H E hr).nox, O, H, _, enter_ok c h (len ds d r).2, ?_⟩
  exact ⟨fun S' σ' H' e ⟨os, rr⟩ => q _ H' ⟨rr.ext, rr.tabs⟩ (by rw [show d = .none from e]; exact .non), fun d' v H' e g hd => q v H' g (by rw [show d' = d from e] at hd; exact hd), fun _ _ _ z => z.elim, fun _ _ _ z => z.elim, fun _ _ z => z.elim, fun _ _ _ _ z => z.elim⟩
theorem fn_okScL {R : List Int → List PD → PD → Prop} (F : FunD K x x params body scope [] [] (He.ga K x) fd) (S : FnScope (y :: N) (z :: ps) scope) (len : ∀ ns ds d, R ns ds d → ds.length = ps.length ∧ ds.length ≤ N.length)
    (hbody : ∀ (a : Addr) (ns : List Int) (ds : List PD) (d : PD), R ns ds d → ∀ (cd : Value), cd = .ref (He.codeOf K (x, none)) → ∀ (A : Around) (outer : List Env) (s : Shared) (H : Hp) (E : XK), Room k (A.deeper (envOfC x scope s.heap.objs.size (He.ga K x) cd)) → DSs (bodyX P w K mg base (y :: N) x scope (He.ga K x) cd A outer s H E) T E body (scr K a ns :: enter N ds) (rets d)) :
    FnOk P w K mg base CX0 (k + 1) (He.ga K x) fd (z :: ps) (spSc T K R) := by
  refine ok_code F S (fun vs H Q E ⟨O, a, ns, us, ds, d, c, e, hs, h, r, _⟩ => by rw [e]; simp [h.length, (len ns ds d r).1]) fun cdv hcd A outer s H vs Q E hr ⟨O, a, ns, us, ds, d, c, e, hs, h, r, q⟩ => ⟨_, (hbody a ns ds d r cdv hcd A outer s H E hr).nox, O, H, _, e ▸ enter_sc c hs h (len ns ds d r).2, ?_⟩
  exact ⟨fun S' σ' H' e ⟨os, rr⟩ => q _ H' ⟨rr.ext, rr.tabs⟩ (by rw [show d = .none from e]; exact .non), fun d' v H' e g hd => q v H' g (by rw [show d' = d from e] at hd; exact hd), fun _ _ _ z => z.elim, fun _ _ _ z => z.elim, fun _ _ z => z.elim, fun _ _ _ _ z => z.elim⟩
end
/-- the tables of the defs in which lambdas stand -/
def tabL (K : Fr) (ls : List (Str × Str)) : Tb := ls.map fun p => ((He.cT K (p.1, none)).2, p.2)
/-- the tables lie apart -/
def apartT (K : Fr) (ls : List (Str × Str)) : Bool := ls.all fun a => ls.all fun b => decide ((He.cT K (a.1, none)).2 = (He.cT K (b.1, none)).2 → a.2 = b.2)
theorem apartT_one {K : Fr} {ls : List (Str × Str)} {x q : Str} (h : apartT K ls = true) (hx : (x, q) ∈ ls) : ∀ p ∈ tabL K ls, p.1 = (He.cT K (x, none)).2 → p.2 = q := by
  intro p hp e
  obtain ⟨a, ha, rfl⟩ := List.mem_map.mp hp
  have h1 := List.all_eq_true.mp (List.all_eq_true.mp h a ha) (x, q) hx
  exact of_decide_eq_true h1 e
end DL

namespace DL
open PySem PySem.Spec PyProof.Rows L2
section
variable {H H' : Hp}
mutual
theorem dq_ls (e : ∀ a o, H a = some o → (∃ xs, o = .lst xs ∨ o = .tup xs) → H' a = some o) : ∀ (d : PD) {v : V}, Dq H v d → Dq H' v d
  | .none, _, h => by cases h; exact .non
  | .bool b, _, h => by cases h; exact .bl b
  | .int i, _, h => by cases h; exact .int i
  | .str x, _, h => by cases h; exact .str x
  | .list ds, _, h => by
    cases h with
    | lst hs ha => exact .lst (e _ _ hs ⟨_, .inl rfl⟩) (dqs_ls e ds ha)
  | .tuple ds, _, h => by
    cases h with
    | tup hs ha => exact .tup (e _ _ hs ⟨_, .inr rfl⟩) (dqs_ls e ds ha)
  | .dict _, _, h => by cases h
theorem dqs_ls (e : ∀ a o, H a = some o → (∃ xs, o = .lst xs ∨ o = .tup xs) → H' a = some o) : ∀ (ds : List PD) {vs : List V}, Dqs H vs ds → Dqs H' vs ds
  | [], _, h => by cases h; exact .nil
  | d :: ds, _, h => by
    cases h with
    | cons h1 h2 => exact .cons (dq_ls e d h1) (dqs_ls e ds h2)
end
end
section
variable {X : Cx} {T : Tb} {EX : XK} {S : AS} {E : En} {d : PD} {e f : Expr} {pos : Pos} {ks : List NestedKey}
theorem dv_dict1 (hu : X.A.units + 20 < cLine) (he : DE X T e S (NestedKey.tup ks).data) (hf : DE X T f S d) (hk : (NestedKey.tup ks).depth ≤ 8) : DV X T (.Dict [some e] [f] pos) S (odN X.prog X.w [(.tup ks, d)]) := by
  refine ⟨fun pins s σ H Q I ⟨O0, H0, os, r, k⟩ => ?_⟩
  have hb := I.big
  have hx := Heap.get?_push_size s.heap (o := { cls := .type "dict", data := .dict #[] }) rfl
  have hfr := I.hok.fresh (Nat.le_refl s.heap.objs.size)
  generalize hd0 : s.heap.objs.size = d0 at hx hfr
  have I1 : Inv X pins σ (upd H d0 (DN_ d0 { cls := .type "dict", data := .dict #[] })) { s with heap := s.heap.push { cls := .type "dict", data := .dict #[] } } :=
    I.laid (o := DN_ d0 { cls := .type "dict", data := .dict #[] }) (t' := s.toks) (fun _ _ q => Heap.get?_push_of_some _ q) (Nat.le_of_eq hd0) ⟨hx, ⟨_, hx⟩, fun h1 h2 z w => w _ z⟩
  have g0 : Gr T H (upd H d0 (DN_ d0 { cls := .type "dict", data := .dict #[] })) := r.ec.new hfr
  have hpairs : (evalEachOpt [some e] X.env).zip ((evalEach [f] X.env).map fun v => do let x ← v; standAt pos; pure x) = ([(eval e X.env, do let x ← eval f X.env; standAt pos; pure x)] : List (Sem Value × Sem Value)).map fun p => (some p.1, p.2) := rfl
  rw [arm_eval_Dict, hpairs, dictDisplay_pairs _ (by simp) (by simp)]
  refine wpAny_bind (wpAny_standAt (wpAny_bind (wpAny_subDictH (knd := nestedKind X.prog X.w) (by show X.A.units + 8 < cLine; omega) (by simp) (evalPairs_cons ?_))))
  refine thn (he.run pins _ σ _ (fun v H2 => Gr T (upd H d0 (DN_ d0 { cls := .type "dict", data := .dict #[] })) H2 ∧ Dq (fz (Ow O0 os) H2) v (NestedKey.tup ks).data) I1 ⟨O0, H0, os, r.gr g0, fun v H2 g q => ⟨g, q⟩⟩) fun kv s2 ⟨y, H2, I2, ry, g2, q2⟩ => ?_
  refine wpAny_bind (thn (hf.run pins s2 σ H2 (fun v H3 => Gr T H2 H3 ∧ Dq (fz (Ow O0 os) H3) v d) I2 ⟨O0, H0, os, (r.gr g0).gr g2, fun v H3 g q => ⟨g, q⟩⟩) fun fv s3 ⟨v, H3, I3, rv, g3, q3⟩ => wpAny_bind (wpAny_standAt (wpAny_pure (evalPairs_nil ?_))))
  obtain ⟨bk, rfl⟩ := dq_tupref q2
  obtain rfl : kv = Value.ref bk := ry
  have q2' := q2.mv (fz_ext (O := Ow O0 os) g3.ext)
  have at3 : H3 d0 = some (DN_ d0 { cls := .type "dict", data := .dict #[] }) := (g2.trans g3).ext d0 _ upd_same fun ps z => by unfold DN_ at z; cases z
  have h3 : s3.heap.get? d0 = some { cls := .type "dict", data := .dict #[] } := (I3.hok d0 _ at3).1
  have hkey : (nestedKind X.prog X.w).is s3.heap (.tup ks) bk := ⟨nested_of I3 _ (q2'.mv fz_sub) rfl, hk⟩
  refine ⟨[(.tup ks, bk, fv)], ⟨rfl, rfl, hkey, trivial⟩, by rw [hd0]; exact ⟨_, #[], 0, h3, ⟨rfl, rfl, rfl⟩, rfl, rfl, by simp, by simp⟩, fun h' tk dd' hsb => ?_⟩
  rw [hd0] at dd' hsb ⊢
  obtain ⟨o', es', ep', hq, w1, w2, w3, w4, w5⟩ := dd'
  have I4 : Inv X pins σ (upd H3 d0 (DN_ d0 o')) { s3 with heap := h', toks := tk } := d_write I3 (by rw [at3]; exact True.intro) hsb ⟨o', hq⟩ ⟨hq, ⟨o', hq⟩, fun h1 h2 z w => w _ z⟩
  have nw : Nw H d0 := Nw.of hfr
  have nO : ¬ Ow O0 os d0 := r.ec.free nw
  have xt4 : Xt H (upd H3 d0 (DN_ d0 o')) := fun b o q n => by
    rw [upd_ne (ne_of_none q hfr)]
    exact ((g0.trans g2).trans g3).ext b o q n
  have tb4 : LamX.Tabs T (upd H3 d0 (DN_ d0 o')) := tabs_upd ((r.gr g0).gr (g2.trans g3)).tabs at3 (Mu.dn ⟨_, _, rfl⟩)
  refine wpAny_pure ⟨.ref d0, _, I4, rfl, k (.ref d0) [d0] _ ⟨xt4, tb4⟩ ⟨.own ⟨d0, o', es', ep', _, rfl, rfl, upd_same, beq_eq_false_iff_ne.mpr (Ne.symm (Nat.ne_of_lt (hd0 ▸ hb))), w1, w2, w3, w5, ?_, ?_⟩ .nil, by simp, by simpa using nw, by simpa using ⟨_, upd_same, Mu.dn ⟨_, _, w2⟩⟩⟩⟩
  · show 1 ≤ sizeLine
    rw [sizeLine_eq]; decide
  · have ls : ∀ (O' : Addr → Prop), (∀ a, O' a → Ow O0 os a ∨ a = d0) → ∀ a o, fz (Ow O0 os) H3 a = some o → (∃ xs, o = .lst xs ∨ o = .tup xs) → fz O' (upd H3 d0 (DN_ d0 o')) a = some o := fun O' hO' a o q ⟨xs, hxs⟩ => by
      obtain ⟨n1, n2⟩ := fz_some q
      have nd : a ≠ d0 := fun z => by
        rw [z, at3] at n2
        have n2 := Option.some.inj n2
        unfold DN_ at n2
        rcases hxs with e | e <;> rw [e] at n2 <;> cases n2
      rw [fz_out (fun z => (hO' a z).elim n1 nd), upd_ne nd]
      exact n2
    exact .cons (dq_ls (ls _ fun a z => z.elim .inl fun z => .inr (by simpa using z)) _ q2') hk ⟨v, rv, dq_ls (ls _ fun a z => z.elim .inl fun z => .inr (by simpa using z)) _ q3⟩ .nil
end
end DL

namespace DL
open PySem PySem.Spec PyProof.Rows L2
/-- a dict that is not changed any more -/
def fdK (kvs : List (Key × PD)) : SV := ⟨fun F _ o v => o = [] ∧ ∃ a xs, v = some (.ref a) ∧ F a = some (.dK xs) ∧ KD F xs kvs, fun e _ ⟨h, a, xs, h1, h2, h3⟩ => ⟨h, a, xs, h1, e _ _ h2 (fun _ z => by cases z), h3.mv e⟩⟩
section
variable {T : Tb} {O0 : Addr → Prop} {H0 H : Hp} {os : Nat → List Addr} {S : AS} {σ : St} {kvs : List (Key × PD)}
theorem RpO.freezeK (r : RpO T O0 H0 os S σ H) (i : Nat) (h : S[i]? = some (odK kvs)) : Rp T O0 H0 (S.set i (fdK kvs)) σ H :=
  ⟨_, r.drop i _ rfl (fun _ _ => rfl) fun hlt => by
    obtain ⟨v, h1, a, xs, h2, h3, h4, h5⟩ := r.rep i _ h
    refine ⟨v, h1, rfl, a, xs, h3, ?_, h5.mv (fz_mono fun a => ow_drop)⟩
    rw [fz_out ?_]
    · exact h4
    · rintro (z | ⟨k, z⟩)
      · exact (r.new i a (by simp [h2])).1 z
      · dsimp only at z
        split at z
        · cases z
        · rename_i hk
          exact hk (r.apart k i a z (by simp [h2]))⟩
theorem le_frK (i : Nat) (h : S[i]? = some (odK kvs)) : Le S (S.set i (fdK kvs)) := fun _ _ _ _ _ ⟨_, r⟩ => r.freezeK i h
end
def tDK (T : Tb) (S : AS) (ds : List PD) (kvs : List (Key × PD)) : TA := fun σ H Q => ∃ O0 H0 os, RpO T O0 H0 os S σ H ∧ ∀ us a xs H', Gr T H H' → Dqs (fz (Ow O0 os) H') us ds → fz (Ow O0 os) H' a = some (.dK xs) → KD (fz (Ow O0 os) H') xs kvs → Q (us ++ [.ref a]) H'
abbrev DAK (X : Cx) (T : Tb) (es : List Expr) (S : AS) (ds : List PD) (kvs : List (Key × PD)) : Prop := PA X es (tDK T S ds kvs)
def spK (T : Tb) (R : List PD → List (Key × PD) → PD → Prop) : Sp := fun vs H Q _ => ∃ O us a xs ds kvs d, EC T O H ∧ vs = us ++ [.ref a] ∧ Dqs (fz O H) us ds ∧ fz O H a = some (.dK xs) ∧ KD (fz O H) xs kvs ∧ R ds kvs d ∧ ∀ v H', Gr T H H' → Dq (fz O H') v d → Q v H'
section
variable {X : Cx} {T : Tb} {EX : XK} {S S' : AS} {E : En} {d da db : PD} {ds es : List PD} {e a b c : Expr} {pos p p1 p2 : Pos} {kvs : List (Key × PD)} {k : Key} {x : Str}
theorem de_getF (i : Nat) (hu : X.A.units + 1 < cLine) (he : DE X T e S (kD k)) (hl : lk kvs k = some d) (hi : S[i]? = some (fdK kvs) := by rfl) (hN : X.N[i]? = some x := by rfl) (hv : Vis X.env.scope x := by first | exact Or.inl rfl | exact Or.inr (Or.inl rfl) | exact Or.inr (Or.inr rfl)) (hd : (x == ("__debug__" : Str)) = false := by decide)
    (hcd : (x == ("__classdict__" : Str)) = false := by decide) (hs : NoSl e := by exact fun _ _ => rfl) : DE X T (.Subscript (.Name x p) e pos) S d :=
  pe_of (pe_dget hu (pe_var hN hv hd hcd) he hs) fun σ H Q ⟨O0, H0, os, r, k2⟩ => by
    obtain ⟨v, h2, _, a, xs, rfl, h3, h4⟩ := r.rep i _ hi
    refine ⟨_, h2, O0, H0, os, r, fun v H' g q => ?_⟩
    rw [dq_key q]
    have h5 := h4.mv (fz_ext (O := Ow O0 os) g.ext)
    rcases h5.get (k := k) with ⟨_, z⟩ | ⟨v, d', z1, z2, z3⟩
    · rw [hl] at z; cases z
    · rw [hl] at z2; cases z2
      exact ⟨a, v, rfl, by rw [← z1]; exact .k (g.ext _ _ (fz_some h3).2 fun _ z => by cases z), k2 v H' g z3⟩
theorem dak_last (i : Nat) (hi : S[i]? = some (fdK kvs) := by rfl) (hN : X.N[i]? = some x := by rfl) (hv : Vis X.env.scope x := by first | exact Or.inl rfl | exact Or.inr (Or.inl rfl) | exact Or.inr (Or.inr rfl)) (hd : (x == ("__debug__" : Str)) = false := by decide)
    (hcd : (x == ("__classdict__" : Str)) = false := by decide) (hs : starEach [.Name x p] X.env = (false, eval (.Name x p) X.env) :: starEach [] X.env := by rfl) : DAK X T [.Name x p] S [] kvs :=
  pa_of (pa_cons (pe_var hN hv hd hcd) pa_nil hs) fun σ H Q ⟨O0, H0, os, r, k⟩ => by
    obtain ⟨v, h2, _, a, xs, rfl, h3, h4⟩ := r.rep i _ hi
    exact ⟨_, h2, k [] a xs H r.ec.refl .nil h3 h4⟩
theorem dak_cons {l : List Expr} (ha : DE X T a S d) (hb : DAK X T l S ds kvs) (hs : starEach (a :: l) X.env = (false, eval a X.env) :: starEach l X.env := by rfl) : DAK X T (a :: l) S (d :: ds) kvs :=
  pa_of (pa_cons ha hb hs) fun σ H Q ⟨O0, H0, os, r, k⟩ => ⟨O0, H0, os, r, fun v H1 g1 h1 => ⟨O0, H0, os, r.gr g1, fun us a xs H2 g2 h2 h3 h4 => k (v :: us) a xs _ (g1.trans g2) (.cons (h1.mv (fz_ext g2.ext)) h2) h3 h4⟩⟩
section
variable {n : Nat} {f : Addr} {fd : FuncData} {ps : List Str} {R : List PD → List (Key × PD) → PD → Prop} {l : List Expr}
theorem de_callK {y : Str} (F : FnOk X.prog X.w X.K X.mg X.base CX0 n f fd ps (spK T R)) (hr : Room n X.A) (hm : X.mg y = some (.ref f)) (hk : PySem.W.keepIn X.K (.ref f) = true) (hb : Binds X.K fd ps []) (ha : DAK X T (e :: l) S ds kvs) (hR : R ds kvs d) (hg : Gl X y := by rfl) (hdb : (y == ("__debug__" : Str)) = false := by decide)
    (he : starEach (e :: l) X.env = (false, eval e X.env) :: starEach l X.env := by rfl) (hpl : (backTo pos (starEach l X.env)).any (·.1) = false := by rfl) : DE X T (.Call (.Name y p) (e :: l) [] pos) S d :=
  pe_of (pe_call F hr hg hm hk hb .nil pass0 ha hdb he hpl) fun σ H Q ⟨O0, H0, os, r, kk⟩ => ⟨O0, H0, os, r, fun us a xs H1 g1 h1 h2 h3 => ⟨Ow O0 os, us, a, xs, ds, kvs, d, (r.gr g1).ec, by rw [List.append_nil], h1, h2, h3, hR, fun v H' g hq => kk v H' (g1.trans g) hq⟩⟩
end
/-! dict(pairs) -/
def mg (kvs : List (Key × PD)) : List (Key × PD) := kvs.foldl (fun acc kv => pt acc kv.1 kv.2) []
theorem KD.merge {F : Hp} {more : List (Key × V)} {rs : List (Key × PD)} (m : KD F more rs) : ∀ {xs : List (Key × V)} {kvs : List (Key × PD)}, KD F xs kvs → KD F (more.foldl (fun acc kv => putK acc kv.1 kv.2) xs) (rs.foldl (fun acc kv => pt acc kv.1 kv.2) kvs) := by
  induction m with
  | nil => exact fun h => h
  | cons q _ ih => exact fun h => ih (h.put q)
theorem pairs_kd {K : Fr} {F H : Hp} (e : Xt F H) : ∀ {kvs : List (Key × PD)} {vs : List V}, Dqs F vs (kvs.map fun kv => .tuple [kD kv.1, kv.2]) → ∃ (ps : List Addr) (xs : List (Key × V)), vs = ps.map V.ref ∧ Paired (fun p kv => SqT K H p [kV kv.1, kv.2]) ps xs ∧ KD F xs kvs
  | [], _, h => by cases h; exact ⟨[], [], rfl, .nil, .nil⟩
  | (k, d) :: kvs, _, h => by
    cases h with
    | cons h1 h2 =>
      obtain ⟨ps, xs, rfl, q1, q2⟩ := pairs_kd (K := K) e h2
      cases h1 with
      | @tup p _ _ g1 g2 =>
        cases g2 with
        | cons f1 f2 =>
          cases f2 with
          | @cons v2 _ _ _ f3 f4 =>
            cases f4
            have ek := dq_key f1
            subst ek
            exact ⟨p :: ps, (k, v2) :: xs, rfl, .cons (SqT.of (e _ _ g1 fun _ z => by cases z)) q1, .cons f3 q2⟩
theorem dv_dictP (hc : X.calm = true) (hm : X.mg "dict" = none) (he : DE X T e S (.list (kvs.map fun kv => .tuple [kD kv.1, kv.2]))) (hs : starEach [e] X.env = (false, eval e X.env) :: starEach [] X.env := by rfl) (hg : Gl X "dict" := by rfl) : DV X T (.Call (.Name "dict" p) [e] [] pos) S (odK (mg kvs)) :=
  pe_of (pe_callTy (call_dictP hc) hg hm (by decide +kernel) (pa_cons he pa_nil hs) (by decide) (by decide) hs (by rfl)) fun σ H Q ⟨O0, H0, os, r, k⟩ => ⟨O0, H0, os, r, fun v H' g q => by
    cases q with
    | lst q1 q2 =>
      rename_i l ys
      obtain ⟨ps, xs, rfl, h1, h2⟩ := pairs_kd (K := X.K) fz_sub q2
      refine ⟨l, ps, xs, rfl, SqL.of (fzl q1), h1, fun p hp => k (.ref p) [p] _ (g.trans ((r.gr g).ec.new hp)) ⟨.own ⟨p, _, rfl, rfl, upd_same, ?_⟩ .nil, by simp, by simpa using (Nw.of hp).back g.ext, by simpa using ⟨_, upd_same, Mu.dK⟩⟩⟩
      exact (KD.merge h2 .nil).mv ((fz_add hp).trans (fz_mono fun a h => by simpa using h))⟩
theorem kd_keys {F : Hp} {xs : List (Key × V)} (h : KD F xs kvs) : xs.map (·.1) = kvs.map (·.1) := by
  induction h with
  | nil => rfl
  | cons _ _ ih => simp [ih]
/-- sorted(x), x a dict with fewer than 64 number keys -/
theorem dn_sortK {ks : List Int} (i : Nat) (hc : X.calm = true) (hm : X.mg "sorted" = none) (hks : kvs.map (·.1) = ks.map Sum.inl) (h64 : ks.length < 64) (hi : S[i]? = some (odK kvs) := by rfl) (hN : X.N[i]? = some x := by rfl) (hv : Vis X.env.scope x := by first | exact Or.inl rfl | exact Or.inr (Or.inl rfl) | exact Or.inr (Or.inr rfl)) (hd : (x == ("__debug__" : Str)) = false := by decide)
    (hcd : (x == ("__classdict__" : Str)) = false := by decide) (hs : starEach [.Name x p2] X.env = (false, eval (.Name x p2) X.env) :: starEach [] X.env := by rfl) (hg : Gl X "sorted" := by rfl) : DN X T (.Call (.Name "sorted" p) [.Name x p2] [] pos) S ((sortI ks).map .int) :=
  pe_of (pe_callB (call_sortedDI hc) hg hm (by decide +kernel) (pa_cons (pe_var hN hv hd hcd) pa_nil hs) (by decide) (by decide) hs (by rfl)) fun σ H Q ⟨O0, H0, os, r, k⟩ => by
    obtain ⟨a, xs, h1, h2, h3, h4⟩ := r.dk_at hi
    exact ⟨_, h2, a, xs, ks, rfl, .inl h3, (kd_keys h4).trans hks, h64, fun ys l h5 h6 hl => k l _ _ (.of hl) (r.ec.new hl) upd_same (by rw [← sortI_eq h5 h6]; exact ints_dqs ys)⟩
/-- x.append(e), e changes another list -/
theorem ds_appendS {apos cpos : Pos} (i : Nat) (he : DES X T e S d S') (hi : S[i]? = some (own ds)) (hi' : S'[i]? = some (own ds)) (k : E.nx (S'.set i (own (ds ++ [d])))) (hz : ds.length < sizeLine) (hN : X.N[i]? = some x := by rfl) (hv : Vis X.env.scope x := by first | exact Or.inl rfl | exact Or.inr (Or.inl rfl) | exact Or.inr (Or.inr rfl)) (hdb : (x == ("__debug__" : Str)) = false := by decide)
    (hcd : (x == ("__classdict__" : Str)) = false := by decide) (hbase : attributeBase (.Name x p) "append" X.env (eval (.Name x p) X.env) = eval (.Name x p) X.env := by rfl)
    (hfew : ((backTo cpos (starEach [e] X.env)).all (fun x => !x.1) && (backToKw cpos (keywordEach [] X.env)).all (fun x => x.1.isSome) && decide ([e].length + ([] : List Keyword).length + (if ([] : List Keyword).isEmpty then 0 else 1) < 30)) = true := by rfl)
    (hline : (apos.endLine == cpos.line) = true := by rfl) (hs : starEach [e] X.env = (false, eval e X.env) :: starEach [] X.env := by rfl) (hplain : (backTo cpos (starEach [] X.env)).any (·.1) = false := by rfl)
    (hsw : swapsWith (.Call (.Attribute (.Name x p) "append" apos) [e] [] cpos) none pos.line X.env = pure false := by rfl) : DS X T EX (.Expr (.Call (.Attribute (.Name x p) "append" apos) [e] [] cpos) pos) S E := by
  refine ps_of (ps_expr (pe_bm PySem.F.plainAttrs_list PySem.F.slot_list_append PySem.F.type_list_append mt_append (pe_var hN hv hdb hcd) (pa_cons he pa_nil hs) hbase hfew hline hs hplain) hsw) fun D σ H ⟨O0, H0, os, r, l⟩ => ?_
  obtain ⟨a, xs, h1, h2, h3, h4⟩ := r.own_at hi
  refine ⟨.ref a, h2, .inl ⟨rfl, xs, SqL.of h3⟩, O0, H0, os, r, fun v H' r' _ h => ?_⟩
  obtain ⟨a', xs', g1, g2, g3, g4⟩ := r'.own_at hi'
  have ea : a' = a := by rw [h1] at g1; simpa using g1.symm
  subst ea
  exact ⟨a', xs', v, rfl, rfl, g3, by rw [g4.length]; exact hz, l.nx _ _ _ k ⟨os, r'.own_set (lt_of_get hi') g1 g2 (g4.snoc h)⟩⟩
end
/-! a def that is handed a dict behind its data -/
section
variable {P : Program} {w : World} {K : Fr} {mg : Str → Option Value} {base : Heap} {f : Addr} {fd : FuncData} {qual x : Str} {params : Arguments} {body : List Stmt} {scope : Scope} {N ps : List Str} {k : Nat} {T : Tb} {ds : List PD} {kvs : List (Key × PD)}
theorem dqs_snoc_non {H : Hp} {vs : List V} (h : Dqs H vs ds) : Dqs H (vs ++ [.non]) (ds ++ [.none]) := h.snoc .non
theorem start_set {N : List Str} {us : List V} {v u : V} : L2.start N (us ++ [v]) = (L2.start N (us ++ [u])).set us.length (some v) := by
  unfold L2.start
  simp [List.set_append]
theorem enter_K {O : Addr → Prop} {H : Hp} {us : List V} {a : Addr} {xs : List (Key × V)} (c : EC T O H) (h : Dqs (fz O H) us ds) (ha : fz O H a = some (.dK xs)) (hk : KD (fz O H) xs kvs) (hl : ds.length < N.length) : RpO T O H (fun _ => []) ((enter N (ds ++ [.none])).set ds.length (fdK kvs)) (L2.start N (us ++ [.ref a])) H := by
  have q := enter_ok (N := N) c (dqs_snoc_non h) (by simp; omega)
  have ef : Ow O (fun _ => []) = O := funext fun a => propext ⟨fun z => z.elim id fun ⟨i, w⟩ => (by cases w), fun z => .inl z⟩
  have hlen : ds.length < (enter N (ds ++ [.none])).length := by rw [enter_eq (by simp; omega)]; simp
  have hls : us.length < (L2.start N (us ++ [V.non])).length := by rw [q.len, h.length]; exact hlen
  rw [start_set (u := .non)]
  have e1 : us.length = ds.length := h.length
  refine ⟨by simp [q.len], q.apart, q.new, q.old, q.ext, q.tabs, fun i s e => ?_, fun i hi => rfl⟩
  by_cases hi : i = ds.length
  · subst hi
    rw [List.getElem?_set_self hlen] at e
    cases e
    rw [ef]
    exact ⟨_, by rw [e1]; exact List.getElem?_set_self (by rw [← e1]; exact hls), rfl, a, xs, rfl, ha, hk⟩
  · rw [List.getElem?_set_ne (Ne.symm hi)] at e
    obtain ⟨v, h1, h2⟩ := q.rep i s e
    exact ⟨v, by rw [e1, List.getElem?_set_ne (Ne.symm hi)]; exact h1, h2⟩
theorem fn_okK {R : List PD → List (Key × PD) → PD → Prop} (F : FunD K x qual params body scope [] [] f fd) (S : FnScope N ps scope) (len : ∀ ds kvs d, R ds kvs d → ds.length + 1 = ps.length ∧ ds.length < N.length)
    (hbody : ∀ (ds : List PD) (kvs : List (Key × PD)) (d : PD), R ds kvs d → ∀ (cd : Value) (A : Around) (outer : List Env) (s : Shared) (H : Hp) (E : XK), Room k (A.deeper (envOfC qual scope s.heap.objs.size f cd)) → DSs (bodyX P w K mg base N qual scope f cd A outer s H E) T E body ((enter N (ds ++ [.none])).set ds.length (fdK kvs)) (rets d)) :
    FnOk P w K mg base CX0 (k + 1) f fd ps (spK T R) := by
  refine F.ok S (fun vs H Q E ⟨O, us, a, xs, ds, kvs, d, c, e, h, ha, hk, r, _⟩ => by rw [e]; simp [h.length, (len ds kvs d r).1]) fun cdv A outer s H vs Q E hr ⟨O, us, a, xs, ds, kvs, d, c, e, h, ha, hk, r, q⟩ => ⟨_, (hbody ds kvs d r cdv A outer s H E hr).nox, O, H, _, e ▸ enter_K c h ha hk (len ds kvs d r).2, ?_⟩
  exact ⟨fun S' σ' H' e ⟨os, rr⟩ => q _ H' ⟨rr.ext, rr.tabs⟩ (by rw [show d = .none from e]; exact .non), fun d' v H' e g hd => q v H' g (by rw [show d' = d from e] at hd; exact hd), fun _ _ _ z => z.elim, fun _ _ _ z => z.elim, fun _ _ z => z.elim, fun _ _ _ _ z => z.elim⟩
end
/-! x.extend(t), t a tuple -/
theorem list_extend_tupA (l : Addr) (items : Array Value) (n : Nat) (b : Addr) (items2 : Array Value) (n2 : Nat) (dd : Option Addr) (sl : Array (Option Value)) (hs0 : ¬(!items.isEmpty && Builtin.List.listTooLong (items.size + items2.size)) = true) (hs1 : items.size ≤ sizeLine) (hs2 : items.size + items2.size ≤ sizeLine + 1) :
    Meets (Builtin.«list.extend» ⟨[.ref l, .ref b], []⟩) (fun _ R s => s.heap.get? l = some { cls := .type "list", dict := none, data := .seq items n, slots := #[] } ∧ s.heap.get? b = some { cls := .type "tuple", dict := dd, data := .seq items2 n2, slots := sl } ∧ R (.ok (.ret Value.none)) { s with heap := s.heap.update l (Obj.mapSeq fun x => x ++ items2), toks := s.toks }) :=
  .of_wp fun prog w A R s h => by
    obtain ⟨hp, g, d, tk, os⟩ := s; obtain ⟨hl, hb, h⟩ := h; have f1 := PySem.AutoSeq1.idx_int; have f2 := PySem.AutoSeq1.sub_tuple_tuple; have f3 := PySem.AutoSeq1.sub_list_list; have f4 := PySem.AutoSeq1.sub_tuple_list; have f5 := PySem.AutoSeq1.sub_list_tuple;
    have hz' : (items ++ items2).size ≤ sizeLine + 1 := by rw [Array.size_append]; exact hs2
    wp_walk using (wpAny_updateSeq hl rfl (hz := hs1) (_hz' := hz')), PySem.AutoSeq1.wpAny_loadPart' hl, PySem.AutoSeq1.wpAny_loadPart' hb; exact ⟨_, rfl, h⟩
def rExtendT (K : Fr) : V → List V → Hp → VK → Prop := fun x vs H Q => ∃ l b xs zs, x = .ref l ∧ vs = [.ref b] ∧ H l = some (.lst xs) ∧ SqT K H b zs ∧ xs.length + zs.length ≤ sizeLine ∧ Q .non (upd H l (.lst (xs ++ zs)))
theorem mt_extendT {X : Cx} : MtM X "list.extend" (rExtendT X.K) := by
  intro pins s σ H x vs v us Q I rx rv h
  obtain ⟨l, b, xs, zs, rfl, rfl, hH, hB, hz, q⟩ := h
  cases rx
  obtain ⟨u, rfl, ru⟩ := rv.one
  cases ru
  obtain ⟨z, its, n, r, hl, e⟩ := I.lstM hH
  obtain ⟨its2, r2, ⟨o, e2, ec, n2, ed⟩, z2⟩ := I.tuple hB
  obtain ⟨oc, od, odt, osl⟩ := o
  simp only at ec ed
  subst ec
  subst ed
  have hl2 := r2.length
  have hsz : its.toArray.size + its2.toArray.size ≤ sizeLine := by rw [List.size_toArray, List.size_toArray]; omega
  have hlong : ¬ (!its.toArray.isEmpty && Builtin.List.listTooLong (its.toArray.size + its2.toArray.size)) = true := by
    rw [notLongL hsz, Bool.and_false]
    exact Bool.false_ne_true
  refine call_meets F.slot_list_extend ⟨_, e, rfl⟩ F.entry_list_extend (F.args_list_extend_2 _ _)
    (list_extend_tupA l its.toArray n b its2.toArray n2 od osl hlong (by rw [List.size_toArray]; omega) (by omega)) ⟨e, e2, ?_⟩
  refine ⟨.non, _, I.lset (its' := its ++ its2) hH e (by simp) (r.append r2) ?_, rfl, q⟩
  rw [List.length_append]
  omega
section
variable {X : Cx} {T : Tb} {EX : XK} {S S' : AS} {E : En} {d da db : PD} {ds es : List PD} {e a b c : Expr} {pos p p1 p2 : Pos} {x : Str}
theorem ds_extendT {apos cpos : Pos} (i : Nat) (he : DE X T e S (.tuple es)) (hi : S[i]? = some (own ds)) (k : E.nx (S.set i (own (ds ++ es)))) (hz : ds.length + es.length ≤ sizeLine) (hN : X.N[i]? = some x := by rfl) (hv : Vis X.env.scope x := by first | exact Or.inl rfl | exact Or.inr (Or.inl rfl) | exact Or.inr (Or.inr rfl)) (hdb : (x == ("__debug__" : Str)) = false := by decide)
    (hcd : (x == ("__classdict__" : Str)) = false := by decide) (hbase : attributeBase (.Name x p) "extend" X.env (eval (.Name x p) X.env) = eval (.Name x p) X.env := by rfl)
    (hfew : ((backTo cpos (starEach [e] X.env)).all (fun x => !x.1) && (backToKw cpos (keywordEach [] X.env)).all (fun x => x.1.isSome) && decide ([e].length + ([] : List Keyword).length + (if ([] : List Keyword).isEmpty then 0 else 1) < 30)) = true := by rfl)
    (hline : (apos.endLine == cpos.line) = true := by rfl) (hs : starEach [e] X.env = (false, eval e X.env) :: starEach [] X.env := by rfl) (hplain : (backTo cpos (starEach [] X.env)).any (·.1) = false := by rfl)
    (hsw : swapsWith (.Call (.Attribute (.Name x p) "extend" apos) [e] [] cpos) none pos.line X.env = pure false := by rfl) : DS X T EX (.Expr (.Call (.Attribute (.Name x p) "extend" apos) [e] [] cpos) pos) S E := by
  refine ps_of (ps_expr (pe_bm PySem.F.plainAttrs_list PySem.F.slot_list_extend PySem.F.type_list_extend mt_extendT (pe_var hN hv hdb hcd) (pa_cons he pa_nil hs) hbase hfew hline hs hplain) hsw) fun D σ H ⟨O0, H0, os, r, l⟩ => ?_
  obtain ⟨a, xs, h1, h2, h3, h4⟩ := r.own_at hi
  refine ⟨.ref a, h2, .inl ⟨rfl, xs, SqL.of h3⟩, O0, H0, os, r, fun v H' g h => ?_⟩
  have h3' : H' a = some (.lst xs) := g.ext _ _ h3 fun _ z => by cases z
  cases h with
  | tup q1 q2 => exact ⟨a, _, xs, _, rfl, rfl, h3', SqT.of (fzl q1), by rw [h4.length, q2.length]; exact hz, l.nx _ _ _ k ⟨os, (r.gr g).own_set (lt_of_get hi) h1 h2 ((h4.mv (fz_ext g.ext)).app q2)⟩⟩
theorem cb_isnotB {u v : Bool} : CB X T .IsNot (.bool u) (.bool v) (!decide (u = v)) := ⟨_, op_isnot_bl, fun O H x y Q c hx hy k => by
  cases hx
  cases hy
  exact ⟨u, v, rfl, rfl, k _ _ c.refl (.bl _)⟩⟩
end
end DL

namespace DL
open PySem PySem.Spec PyProof.Rows L2
def tEs (T : Tb) (S : AS) (P : List PD → Prop) : TA := fun σ H Q => ∃ O0 H0 os, RpO T O0 H0 os S σ H ∧ ∀ ds vs H', P ds → Gr T H H' → Dqs (fz (Ow O0 os) H') vs ds → Q vs H'
abbrev DAx (X : Cx) (T : Tb) (es : List Expr) (S : AS) (P : List PD → Prop) : Prop := PA X es (tEs T S P)
section
variable {X : Cx} {T : Tb} {EX : XK} {S S' : AS} {E : En} {d da db : PD} {ds es : List PD} {e a b c tg : Expr} {pos p p1 p2 : Pos} {x : Str} {P : PD → Prop} {PS : List PD → Prop}
theorem dax_nil : DAx X T [] S (fun ds => ds = []) := pa_of pa_nil fun σ H Q ⟨O0, H0, os, r, k⟩ => k [] [] H rfl r.ec.refl .nil
theorem dax_cons {l : List Expr} (ha : DEx X T a S P) (hb : DAx X T l S PS) (hs : starEach (a :: l) X.env = (false, eval a X.env) :: starEach l X.env := by rfl) : DAx X T (a :: l) S (fun ds => ∃ d ds', P d ∧ PS ds' ∧ ds = d :: ds') :=
  pa_of (pa_cons ha hb hs) fun σ H Q ⟨O0, H0, os, r, k⟩ => ⟨O0, H0, os, r, fun d v H1 q1 g1 h1 => ⟨O0, H0, os, r.gr g1, fun ds vs H2 q2 g2 h2 => k (d :: ds) (v :: vs) _ ⟨d, ds, q1, q2, rfl⟩ (g1.trans g2) (.cons (h1.mv (fz_ext g2.ext)) h2)⟩⟩
theorem dx_tup {l : List Expr} {k : Nat} (h : DAx X T l S PS) (hl : ∀ ds, PS ds → ds.length ≤ sizeLine) : DEx X T (.Tuple l k pos) S (fun d => ∃ ds, PS ds ∧ d = .tuple ds) := pe_of (pe_tup h) fun σ H Q ⟨O0, H0, os, r, k⟩ =>
  ⟨O0, H0, os, r, fun ds vs H' q g hv => ⟨dqs_len hv (hl ds q), fun p hp => k _ _ _ ⟨ds, q, rfl⟩ (g.trans ((r.gr g).ec.new hp)) (dq_newT (r.gr g).ec hp hv)⟩⟩
theorem ds_asgGE {js : List Nat} {S2 : PD → AS} (he : DEx X T e S P) (hg : ∀ d, P d → DG X T tg js S d (S2 d)) (k : ∀ d, P d → E.nx (S2 d)) (hs : swapsWithSole [tg] e pos.line X.env = pure false := by rfl) (hw : swappedStores [tg] e X.env = pure none := by rfl)
    (h1 : (assignEach [tg] X.env).map (·.2) = [assign tg X.env] := by rfl) : DS X T EX (.Assign [tg] e pos) S E :=
  ps_of (ps_asg he (pg_any (P := P) fun d hd => hg d hd) hs hw h1) fun D σ H ⟨O0, H0, os, r, l⟩ => ⟨O0, H0, os, r, fun d v H' q g h => ⟨d, q, O0, H0, os, r.gr g, h, fun σ' _ _ r' => l.nx (S2 d) σ' H' (k d q) ⟨os, r'⟩⟩⟩
end
end DL

namespace DL
open PySem PySem.Spec PyProof.Rows L2
/-! ### zip, while the tuple that was given out is there -/
theorem zip_nolen : typeLookup (.type "zip") "__len__" = pure none := am_miss_of_fast (by decide +kernel)
theorem zip_nohint : typeLookup (.type "zip") "__length_hint__" = pure none := am_miss_of_fast (by decide +kernel)
section
variable {prog : Program} {w : World} {A : Around} {E : Value → Shared → Prop} {s : Shared} {z TI TO T i1 i2 : Addr} {fp1 fp2 : List Addr} {n1 n2 i : Nat} {P1 P2 : Nat → Value → Prop} {St1 St2 : Nat → Heap → Prop} {f : Bool} {oT : Obj}
theorem zh_item {Q : Value → Shared → Prop} (S : ZipSep2 z TI TO i1 i2 fp1 fp2) (D1 : Draws prog w A i1 fp1 n1 P1 St1) (D2 : Draws prog w A i2 fp2 n2 P2 St2)
    (hz : IsZipHeld s.heap z TI TO T f) (hT : s.heap.get? T = some oT) (hTI : IsTupOf2 s.heap TI (.ref i1) (.ref i2)) (st1 : St1 i s.heap) (st2 : St2 i s.heap) (hlt1 : i < n1) (hlt2 : i < n2)
    (hQ : ∀ x y h' tk, P1 i x → P2 i y → IsZipHeld h' z TI TO T true → St1 (i + 1) h' → St2 (i + 1) h' → IsTupOf2 h' s.heap.objs.size x y → h'.objs.size = s.heap.objs.size + 1 →
      (∀ c o, c ≠ z → c ≠ i1 → c ≠ i2 → s.heap.get? c = some o → h'.get? c = some o) → Q (.ref s.heap.objs.size) { s with heap := h', toks := tk }) :
    wpAny (model prog w) A (Builtin.«zip.__next__» ⟨[.ref z], []⟩) (fun fin s' => ∃ v, fin = .done (.ret v) ∧ Q v s') E s := by
  obtain ⟨hp, g, d, tk0, os⟩ := s
  show wpAny _ _ (field (.ref z) 2 >>= _) _ _ _
  refine wpAny_bind (wpAny_field hz rfl (x := .bool false) rfl ?_)
  show wpAny _ _ (field (.ref z) 3 >>= _) _ _ _
  refine wpAny_bind (wpAny_field hz rfl (x := .ref TI) rfl ?_)
  refine wpAny_bind (wpAny_seqItems hTI rfl ?_)
  show wpAny _ _ (Builtin.SmallTypes.ownedTupleIsFree (.ref z) >>= _) _ _ _
  refine wpAny_bind (wpAny_tupleHeld_zip hz hT fun h₁ hz₁ hs₁ => ?_)
  replace hs₁ : Heap.SameBut z hp h₁ := hs₁
  simp only [Bool.false_eq_true, if_false]
  refine wpAny_bind ?_
  rw [← Array.forIn_toList]
  simp only [List.forIn_cons, List.forIn_nil]
  refine wpAny_bind (wpAny_bind (wpAny_holding ?_))
  show wpAny _ _ (Builtin.SmallTypes.nextOf (.ref i1) >>= _) _ _ ⟨h₁, g, d, tk0, os⟩
  refine wpAny_bind (D1.item i _ _ _ hlt1 (D1.over st1 hs₁ S.zf1) fun x h₂ tk1 hx st1₂ hs₂ => wpAny_pure ?_)
  replace hs₂ : Heap.SameBut i1 h₁ h₂ := hs₂
  refine wpAny_pure ?_
  refine wpAny_bind (wpAny_bind (wpAny_holding ?_))
  show wpAny _ _ (Builtin.SmallTypes.nextOf (.ref i2) >>= _) _ _ ⟨h₂, g, d, tk1, os⟩
  refine wpAny_bind (D2.item i _ _ _ hlt2 (D2.over (D2.over st2 hs₁ S.zf2) hs₂ S.sep1_2) fun y h₃ tk2 hy st2₃ hs₃ => wpAny_pure ?_)
  replace hs₃ : Heap.SameBut i2 h₂ h₃ := hs₃
  refine wpAny_pure (wpAny_pure ?_)
  show wpAny _ _ (newTuple [x, y] >>= _) _ _ ⟨h₃, g, d, tk2, os⟩
  refine wpAny_bind (wpAny_newTuple ?_)
  have hsz : h₃.objs.size = hp.objs.size := by rw [hs₃.1, hs₂.1, hs₁.1]
  have hz₃ : IsZipHeld h₃ z TI TO T true := hs₃.extBut _ _ S.zi2 (hs₂.extBut _ _ S.zi1 hz₁)
  have hk : ∀ c o, c ≠ z → c ≠ i1 → c ≠ i2 → hp.get? c = some o → h₃.get? c = some o := fun c o c1 c2 c3 e => hs₃.extBut _ _ c3 (hs₂.extBut _ _ c2 (hs₁.extBut _ _ c1 e))
  have st1₃ : St1 (i + 1) h₃ := D1.over st1₂ hs₃ S.sep2_1
  refine wpAny_pure ⟨_, rfl, ?_⟩
  show Q (.ref h₃.objs.size) ⟨h₃.push { cls := .type "tuple", data := .seq #[x, y] }, g, d, tk2, os⟩
  have hp' : IsTupOf2 (h₃.push { cls := .type "tuple", data := .seq #[x, y] }) h₃.objs.size x y := Heap.get?_push_size _ rfl
  have hz4 : (h₃.push { cls := .type "tuple", data := .seq #[x, y] }).objs.size = h₃.objs.size + 1 := Heap.size_push ..
  rw [hsz] at hp' hz4 ⊢
  exact hQ x y _ tk2 hx hy (Heap.get?_push_of_some _ hz₃) (D1.frame _ _ _ st1₃ fun b _ o e => Heap.get?_push_of_some _ e) (D2.frame _ _ _ st2₃ fun b _ o e => Heap.get?_push_of_some _ e) hp' hz4 fun c o c1 c2 c3 e => Heap.get?_push_of_some _ (hk c o c1 c2 c3 e)
theorem zh_end {Q : Fin → Shared → Prop} (S : ZipSep2 z TI TO i1 i2 fp1 fp2) (D1 : Draws prog w A i1 fp1 n1 P1 St1) (D2 : Draws prog w A i2 fp2 n2 P2 St2)
    (hz : IsZipHeld s.heap z TI TO T f) (hT : s.heap.get? T = some oT) (hTI : IsTupOf2 s.heap TI (.ref i1) (.ref i2)) (st1 : St1 i s.heap) (st2 : St2 i s.heap) (hle1 : i ≤ n1) (hle2 : i ≤ n2) (hend : i = n1 ∨ i = n2)
    (hE : ∀ h' tk e, (∀ c o, c ≠ z → c ≠ i1 → c ≠ i2 → s.heap.get? c = some o → h'.get? c = some o) → (∃ o, h'.get? e = some o ∧ o.cls = .type "StopIteration") → E (.ref e) { s with heap := h', toks := tk }) :
    wpAny (model prog w) A (Builtin.«zip.__next__» ⟨[.ref z], []⟩) Q E s := by
  obtain ⟨hp, g, d, tk0, os⟩ := s
  show wpAny _ _ (field (.ref z) 2 >>= _) _ _ _
  refine wpAny_bind (wpAny_field hz rfl (x := .bool false) rfl ?_)
  show wpAny _ _ (field (.ref z) 3 >>= _) _ _ _
  refine wpAny_bind (wpAny_field hz rfl (x := .ref TI) rfl ?_)
  refine wpAny_bind (wpAny_seqItems hTI rfl ?_)
  show wpAny _ _ (Builtin.SmallTypes.ownedTupleIsFree (.ref z) >>= _) _ _ _
  refine wpAny_bind (wpAny_tupleHeld_zip hz hT fun h₁ hz₁ hs₁ => ?_)
  replace hs₁ : Heap.SameBut z hp h₁ := hs₁
  simp only [Bool.false_eq_true, if_false]
  refine wpAny_bind ?_
  rw [← Array.forIn_toList]
  simp only [List.forIn_cons, List.forIn_nil]
  refine wpAny_bind (wpAny_bind (wpAny_holding ?_))
  show wpAny _ _ (Builtin.SmallTypes.nextOf (.ref i1) >>= _) _ _ ⟨h₁, g, d, tk0, os⟩
  by_cases hlt1 : i < n1
  · refine wpAny_bind (D1.item i _ _ _ hlt1 (D1.over st1 hs₁ S.zf1) fun x h₂ tk1 hx st1₂ hs₂ => wpAny_pure ?_)
    replace hs₂ : Heap.SameBut i1 h₁ h₂ := hs₂
    refine wpAny_pure ?_
    have hi2 : i = n2 := by omega
    refine wpAny_bind (wpAny_bind (wpAny_holding ?_))
    show wpAny _ _ (Builtin.SmallTypes.nextOf (.ref i2) >>= _) _ _ ⟨h₂, g, d, tk1, os⟩
    refine wpAny_bind (D2.done ⟨h₂, g, d, tk1, os⟩ _ _ (by rw [← hi2]; exact D2.over (D2.over st2 hs₁ S.zf2) hs₂ S.sep1_2) fun h₃ e hs₃ he => ?_)
    replace hs₃ : Heap.ExtBut i2 h₂ h₃ := hs₃
    exact hE h₃ tk1 e (fun c o c1 c2 c3 x => hs₃ _ _ c3 (hs₂.extBut _ _ c2 (hs₁.extBut _ _ c1 x))) he
  · have hi1 : i = n1 := by omega
    refine wpAny_bind (D1.done ⟨h₁, g, d, tk0, os⟩ _ _ (by rw [← hi1]; exact D1.over st1 hs₁ S.zf1) fun h₂ e hs₂ he => ?_)
    replace hs₂ : Heap.ExtBut i1 h₁ h₂ := hs₂
    exact hE h₂ tk0 e (fun c o c1 c2 _ x => hs₂ _ _ c2 (hs₁.extBut _ _ c1 x)) he
theorem zh_nextItem {Q : Option Value → Shared → Prop} (S : ZipSep2 z TI TO i1 i2 fp1 fp2) (D1 : Draws prog w A.in1 i1 fp1 n1 P1 St1) (D2 : Draws prog w A.in1 i2 fp2 n2 P2 St2)
    (hz : IsZipHeld s.heap z TI TO T f) (hT : s.heap.get? T = some oT) (hTI : IsTupOf2 s.heap TI (.ref i1) (.ref i2)) (st1 : St1 i s.heap) (st2 : St2 i s.heap) (hlt1 : i < n1) (hlt2 : i < n2)
    (hQ : ∀ x y h' tk, P1 i x → P2 i y → IsZipHeld h' z TI TO T true → St1 (i + 1) h' → St2 (i + 1) h' → IsTupOf2 h' s.heap.objs.size x y → h'.objs.size = s.heap.objs.size + 1 →
      (∀ c o, c ≠ z → c ≠ i1 → c ≠ i2 → s.heap.get? c = some o → h'.get? c = some o) → Q (some (.ref s.heap.objs.size)) { s with heap := h', toks := tk }) :
    wpAny (model prog w) A (pyNext (.ref z)) Q E s := by
  have hTy : s.TypeIs (.ref z) "zip" := ⟨_, hz, rfl⟩
  unfold pyNext
  exact wpAny_bind (wpAny_attempt (wpAny_callSpecial?_slot (name := Str.ofString "__next__") hTy F.slot_zip_next
    (wpAny_call_entry F.slot_zip_next hTy F.entry_zip_next
      (zh_item S D1 D2 hz hT hTI st1 st2 hlt1 hlt2 fun x y h' tk a0 a1 a2 a3 a4 a5 a6 a7 => wpAny_pure (hQ x y h' tk a0 a1 a2 a3 a4 a5 a6 a7)) (F.args_zip_next_1 _))))
theorem zh_nextEnd {Q : Option Value → Shared → Prop} (S : ZipSep2 z TI TO i1 i2 fp1 fp2) (D1 : Draws prog w A.in1 i1 fp1 n1 P1 St1) (D2 : Draws prog w A.in1 i2 fp2 n2 P2 St2)
    (hz : IsZipHeld s.heap z TI TO T f) (hT : s.heap.get? T = some oT) (hTI : IsTupOf2 s.heap TI (.ref i1) (.ref i2)) (st1 : St1 i s.heap) (st2 : St2 i s.heap) (hle1 : i ≤ n1) (hle2 : i ≤ n2) (hend : i = n1 ∨ i = n2)
    (hQ : ∀ h' tk, (∀ c o, c ≠ z → c ≠ i1 → c ≠ i2 → s.heap.get? c = some o → h'.get? c = some o) → Q none { s with heap := h', toks := tk }) : wpAny (model prog w) A (pyNext (.ref z)) Q E s := by
  have hTy : s.TypeIs (.ref z) "zip" := ⟨_, hz, rfl⟩
  unfold pyNext
  refine wpAny_bind (wpAny_attempt (wpAny_callSpecial?_slot (name := Str.ofString "__next__") hTy F.slot_zip_next
    (wpAny_call_entry F.slot_zip_next hTy F.entry_zip_next (zh_end S D1 D2 hz hT hTI st1 st2 hle1 hle2 hend fun h' tk e hk he => ?_) (F.args_zip_next_1 _))))
  obtain ⟨o, ho, hc⟩ := he
  refine wpAny_bind (wpAny_isInstance (T := "StopIteration") (b := true) ⟨o, ho, hc⟩ isSubtype_stop ?_)
  exact wpAny_pure (hQ _ _ hk)
end
/-- the pairs gathered so far: new tuples, one behind the other -/
structure ZipG (P1 P2 : Nat → Value → Prop) (lo : Addr) (h : Heap) (as : List Addr) : Prop where
  rise : as.Pairwise (· < ·)
  above : ∀ a ∈ as, lo < a
  pairs : ∀ (j : Nat) (a : Addr), as[j]? = some a → ∃ x y, P1 j x ∧ P2 j y ∧ IsTupOf2 h a x y
theorem ZipG.there {P1 P2 : Nat → Value → Prop} {lo : Addr} {h : Heap} {as : List Addr} (g : ZipG P1 P2 lo h as) {a : Addr} (ha : a ∈ as) : a < h.objs.size := by
  obtain ⟨j, hj⟩ := List.mem_iff_getElem?.mp ha
  obtain ⟨_, _, _, _, e⟩ := g.pairs j a hj
  exact Heap.lt_size e
/-- a zip between its draws -/
def ZipAt (h : Heap) (z TI TO i1 i2 S : Addr) : Prop := (IsZip h z TI TO .none ∧ ∃ a1 a2, IsTupOf2 h TO a1 a2) ∨ ∃ T f oT, IsZipHeld h z TI TO T f ∧ h.get? T = some oT ∧ T ≠ z ∧ T ≠ i1 ∧ T ≠ i2 ∧ T ≠ S
section
variable {prog : Program} {w : World} {A : Around} {s : Shared} {R : Result → Shared → Prop} {z TI TO i1 i2 : Addr} {fp1 fp2 : List Addr} {n1 n2 : Nat} {P1 P2 : Nat → Value → Prop} {St1 St2 : Nat → Heap → Prop}
theorem zl_loop {S lo : Addr} (Z : ZipSep2 z TI TO i1 i2 fp1 fp2) (D1 : Draws prog w A.in1.in1 i1 fp1 n1 P1 St1) (D2 : Draws prog w A.in1.in1 i2 fp2 n2 P2 St2) (hlo : ∀ c, c ∈ [z, TI, TO, i1, i2, S] → c ≤ lo) (hSz : S ≠ z) (hSTI : S ≠ TI) (hSTO : S ≠ TO) (hS1 : S ∉ fp1) (hS2 : S ∉ fp2) (hn : min n1 n2 ≤ sizeLine) (res : Value) {h₁ : Heap} (hlow : ∀ b o, h₁.get? b = some o → b ≤ lo)
    (hR : ∀ h' tk acc c as, (∀ b o, b ∉ [S, z, TO, i1, i2] → h₁.get? b = some o → h'.get? b = some o) → h'.get? S = some { cls := .type "list", dict := none, data := .seq acc c, slots := #[] } → as.length = min n1 n2 → ZipG P1 P2 lo h' as →
      acc.toList = as.map Value.ref → R (.ok (.ret res)) { s with heap := h', toks := tk }) :
    ∀ (k i : Nat) (h : Heap) (tk c : Nat) (acc : Array Value) (as : List Addr), min n1 n2 - i = k → i ≤ min n1 n2 → ZipAt h z TI TO i1 i2 S → IsTupOf2 h TI (.ref i1) (.ref i2) → St1 i h → St2 i h → (∀ b o, b ∉ [S, z, TO, i1, i2] → h₁.get? b = some o → h.get? b = some o) →
      h.get? S = some { cls := .type "list", dict := none, data := .seq acc c, slots := #[] } → acc.toList = as.map Value.ref → as.length = i → ZipG P1 P2 lo h as → lo < h.objs.size →
      codeAny (model prog w) A (.builtin "list.extend.loop" ⟨[.ref S, .ref z, res], []⟩) R { s with heap := h, toks := tk } := by
  have hS1' : S ≠ i1 := fun e => hS1 (e ▸ Z.mem1)
  have hS2' : S ≠ i2 := fun e => hS2 (e ▸ Z.mem2)
  have nlo : ∀ {a : Addr}, lo < a → a ∉ [S, z, TO, i1, i2] := fun {a} ha hm => by
    have : a ≤ lo := hlo a (by simp only [List.mem_cons, List.not_mem_nil, or_false] at hm ⊢; rcases hm with h | h | h | h | h <;> simp [h])
    exact absurd this (Nat.not_le.mpr ha)
  intro k
  induction k with
  | zero =>
    intro i h tk c acc as hk hi hz hTI st1 st2 hkeep hS hacc hal hG hIs
    have hin : i = min n1 n2 := by omega
    refine codeAny_builtin PySem.F.entry_extend_loop ?_
    rw [Around.under_plainId PySem.F.plain_extend_loop _]
    show wpAny _ A.in1 (pyNext (.ref z) >>= _) _ _ _
    have fin : ∀ h' tk', (∀ c o, c ≠ z → c ≠ TO → c ≠ i1 → c ≠ i2 → h.get? c = some o → h'.get? c = some o) → R (.ok (.ret res)) { s with heap := h', toks := tk' } := fun h' tk' he => by
      refine hR h' tk' acc c as (fun b o hb e => ?_) (he S _ hSz hSTO hS1' hS2' hS) (by omega) ⟨hG.rise, hG.above, fun j a hj => ?_⟩ hacc
      · have := hkeep b o hb e
        simp only [List.mem_cons, List.not_mem_nil, or_false, not_or] at hb
        exact he b o hb.2.1 hb.2.2.1 hb.2.2.2.1 hb.2.2.2.2 this
      · obtain ⟨x, y, px, py, e3⟩ := hG.pairs j a hj
        have := nlo (hG.above a (List.mem_of_getElem? hj))
        simp only [List.mem_cons, List.not_mem_nil, or_false, not_or] at this
        exact ⟨x, y, px, py, he a _ this.2.1 this.2.2.1 this.2.2.2.1 this.2.2.2.2 e3⟩
    rcases hz with ⟨hz, a1, a2, hTO⟩ | ⟨T, f, oT, hz, hT, _⟩
    · exact wpAny_bind (wpAny_pyNext_zipD2_end (s := { s with heap := h, toks := tk }) (A := A.in1) Z D1 D2 hz hTI hTO st1 st2 (by omega) (by omega) (by omega) fun h' tk' he => wpAny_pure (fin h' tk' fun c o c1 c2 c3 c4 e => he c o c1 c2 c3 c4 e))
    · exact wpAny_bind (zh_nextEnd (s := { s with heap := h, toks := tk }) (A := A.in1) Z D1 D2 hz hT hTI st1 st2 (by omega) (by omega) (by omega) fun h' tk' he => wpAny_pure (fin h' tk' fun c o c1 _ c3 c4 e => he c o c1 c3 c4 e))
  | succ k ih =>
    intro i h tk c acc as hk hi hz hTI st1 st2 hkeep hS hacc hal hG hIs
    have hlt : i < min n1 n2 := by omega
    have hsz : acc.size = i := by rw [← Array.length_toList, hacc, List.length_map, hal]
    refine codeAny_builtin PySem.F.entry_extend_loop ?_
    rw [Around.under_plainId PySem.F.plain_extend_loop _]
    show wpAny _ A.in1 (pyNext (.ref z) >>= _) _ _ _
    have go : ∀ x y h' tk', P1 i x → P2 i y → ZipAt h' z TI TO i1 i2 S → IsTupOf2 h' TI (.ref i1) (.ref i2) → St1 (i + 1) h' → St2 (i + 1) h' → IsTupOf2 h' h.objs.size x y → h'.objs.size = h.objs.size + 1 → (∀ c o, c ≠ z → c ≠ TO → c ≠ i1 → c ≠ i2 → h.get? c = some o → h'.get? c = some o) →
        wpAny (model prog w) A.in1 (updateSeq S (·.push (Value.ref h.objs.size)) >>= fun _ => again (.builtin "list.extend.loop" ⟨[.ref S, .ref z, res], []⟩)) (fun fin s' => match fin with | .done f => R (.ok f) s' | .again c' => c'.quiet = true ∧ codeAny (model prog w) A c' R s') (fun e s' => R (.error e) s') { s with heap := h', toks := tk' } := fun x y h' tk' px py hz' hTI' st1' st2' ht hsz' hkp => by
      have hS' := hkp S _ hSz hSTO hS1' hS2' hS
      have up : ∀ b o, b ≠ S → h'.get? b = some o → (h'.update S (Obj.mapSeq (·.push (Value.ref h.objs.size)))).get? b = some o := fun b o hb e => (Heap.get?_update_other _ _ (Ne.symm hb)).trans e
      have hSl : S < h.objs.size := Heap.lt_size hS
      have hnw : h.objs.size ≠ S := Nat.ne_of_gt hSl
      refine wpAny_bind ?_
      refine wpAny_updateSeq hS' rfl (wpAny_pure ⟨plainId_quiet PySem.F.plain_extend_loop _, ih (i + 1) _ tk' _ (acc.push (Value.ref h.objs.size)) (as ++ [h.objs.size]) (by omega) hlt ?_ (up _ _ hSTI.symm hTI') (D1.frame _ _ _ st1' fun b hb o e => up b o (fun q => hS1 (q ▸ hb)) e) (D2.frame _ _ _ st2' fun b hb o e => up b o (fun q => hS2 (q ▸ hb)) e)
        (fun b o hb e => ?_) (Heap.get?_update_self _ hS' rfl) (by rw [Array.toList_push, hacc, List.map_append]; rfl) (by rw [List.length_append, hal]; rfl) ⟨?_, ?_, ?_⟩ ?_⟩) (by rw [hsz]; omega) (by show (acc.push (Value.ref h.objs.size)).size ≤ sizeLine + 1; rw [Array.size_push, hsz]; omega)
      · rcases hz' with ⟨q, a1, a2, q2⟩ | ⟨T, f, oT, q, q2, q3, q4, q5, q6⟩
        · exact .inl ⟨up _ _ hSz.symm q, a1, a2, up _ _ hSTO.symm q2⟩
        · exact .inr ⟨T, f, oT, up _ _ hSz.symm q, up _ _ q6 q2, q3, q4, q5, q6⟩
      · have h0 := hkeep b o hb e
        simp only [List.mem_cons, List.not_mem_nil, or_false, not_or] at hb
        exact up b o hb.1 (hkp b o hb.2.1 hb.2.2.1 hb.2.2.2.1 hb.2.2.2.2 h0)
      · refine List.pairwise_append.mpr ⟨hG.rise, List.pairwise_singleton _ _, fun a ha b hb => ?_⟩
        rw [List.mem_singleton.mp hb]
        exact hG.there ha
      · intro a ha
        rcases List.mem_append.mp ha with ha | ha
        · exact hG.above a ha
        · rw [List.mem_singleton.mp ha]; exact hIs
      · intro j b hj
        rcases Nat.lt_trichotomy j as.length with h1 | h1 | h1
        · rw [List.getElem?_append_left h1] at hj
          obtain ⟨x, y, px, py, e3⟩ := hG.pairs j b hj
          have := nlo (hG.above b (List.mem_of_getElem? hj))
          simp only [List.mem_cons, List.not_mem_nil, or_false, not_or] at this
          exact ⟨x, y, px, py, up b _ this.1 (hkp b _ this.2.1 this.2.2.1 this.2.2.2.1 this.2.2.2.2 e3)⟩
        · subst h1
          have hb : h.objs.size = b := by simpa using hj
          subst hb
          exact ⟨x, y, by rw [hal]; exact px, by rw [hal]; exact py, up _ _ hnw ht⟩
        · have hnone : (as ++ [h.objs.size])[j]? = none := List.getElem?_eq_none (by rw [List.length_append, List.length_singleton]; omega)
          rw [hnone] at hj; cases hj
      · have e : (h'.update S (Obj.mapSeq (·.push (Value.ref h.objs.size)))).get? h.objs.size = _ := up _ _ hnw ht
        exact Nat.lt_trans hIs (Heap.lt_size e)
    have fresh : ∀ c, c ≤ lo → h.objs.size ≠ c := fun c hc => Nat.ne_of_gt (Nat.lt_of_le_of_lt hc hIs)
    have hlz := hlo z (by simp)
    have hl1 := hlo i1 (by simp)
    have hl2 := hlo i2 (by simp)
    have hlS := hlo S (by simp)
    rcases hz with ⟨hz, a1, a2, hTO⟩ | ⟨T, f, oT, hz, hT, q3, q4, q5, q6⟩
    · exact wpAny_bind (wpAny_pyNext_zipD2_item (s := { s with heap := h, toks := tk }) (A := A.in1) Z D1 D2 hz hTI hTO st1 st2 (by omega) (by omega) fun x y h' tk' px py b1 b2 d1 d2 b5 b6 he =>
        go x y h' tk' px py (.inr ⟨h.objs.size, false, _, b1, b5, fresh _ hlz, fresh _ hl1, fresh _ hl2, fresh _ hlS⟩) (he _ _ Z.TIz Z.TITO Z.TIi1 Z.TIi2 hTI) d1 d2 b5 b6 he)
    · exact wpAny_bind (zh_nextItem (s := { s with heap := h, toks := tk }) (A := A.in1) Z D1 D2 hz hT hTI st1 st2 (by omega) (by omega) fun x y h' tk' px py b1 d1 d2 b5 b6 he =>
        go x y h' tk' px py (.inr ⟨T, true, oT, b1, he T _ q3 q4 q5 hT, q3, q4, q5, q6⟩) (he _ _ Z.TIz Z.TIi1 Z.TIi2 hTI) d1 d2 b5 b6 fun c o c1 _ c3 c4 e => he c o c1 c3 c4 e)
end
section
variable {prog : Program} {w : World} {A : Around} {E : Value → Shared → Prop} {s : Shared} {z TI TO i1 i2 : Addr} {fp1 fp2 : List Addr} {n1 n2 : Nat} {P1 P2 : Nat → Value → Prop} {St1 St2 : Nat → Heap → Prop}
theorem zl_hint {Q : Bool → Shared → Prop} (hT : s.TypeIs (.ref z) "zip") (h : Q true s) : wpAny (model prog w) A (Builtin.List.listLengthHint (.ref z)) Q E s := by
  unfold Builtin.List.listLengthHint
  refine wpAny_bind (wpAny_specialOf hT zip_nolen ?_)
  show wpAny _ A (specialOf (Value.ref z) (Str.ofString "__length_hint__") >>= _) _ _ _
  exact wpAny_bind (wpAny_specialOf hT zip_nohint (wpAny_pure h))
/-- list(z) of a zip not drawn from yet -/
theorem zl_call {Q : Value → Shared → Prop} (Z : ZipSep2 z TI TO i1 i2 fp1 fp2) (D1 : Draws prog w A.in1.in1.in1 i1 fp1 n1 P1 St1) (D2 : Draws prog w A.in1.in1.in1 i2 fp2 n2 P2 St2) (hf1 : ∀ b ∈ fp1, b < s.heap.objs.size) (hf2 : ∀ b ∈ fp2, b < s.heap.objs.size)
    (hz : IsZip s.heap z TI TO .none) (hTI : IsTupOf2 s.heap TI (.ref i1) (.ref i2)) (hTO : ∃ a1 a2, IsTupOf2 s.heap TO a1 a2) (st1 : St1 0 s.heap) (st2 : St2 0 s.heap) (hn : min n1 n2 ≤ sizeLine)
    (hQ : ∀ h' tk acc c as, (∀ b o, b ∉ [z, TO, i1, i2] → s.heap.get? b = some o → h'.get? b = some o) → h'.get? s.heap.objs.size = some { cls := .type "list", dict := none, data := .seq acc c, slots := #[] } → as.length = min n1 n2 → ZipG P1 P2 s.heap.objs.size h' as →
      acc.toList = as.map Value.ref → Q (.ref s.heap.objs.size) { s with heap := h', toks := tk }) :
    wpAny (model prog w) A (call (.type "list") [.ref z]) Q E s := by
  obtain ⟨a1, a2, hTO⟩ := hTO
  have lz : z < s.heap.objs.size := Heap.lt_size hz
  have lTI : TI < s.heap.objs.size := Heap.lt_size hTI
  have lTO : TO < s.heap.objs.size := Heap.lt_size hTO
  have l1 := hf1 i1 Z.mem1
  have l2 := hf2 i2 Z.mem2
  refine callType_codes (Q₁ := fun obj s₁ => obj = .ref s.heap.objs.size ∧ s₁ = { s with heap := s.heap.push { cls := .type "list", data := .seq #[] } }) PySem.F.called_list (PySem.F.typeCall_list_1 _) PySem.F.entry_list_init
    (code_list_new _ ⟨rfl, rfl⟩) fun obj s₁ h₁ => ?_
  obtain ⟨rfl, rfl⟩ := h₁
  have hS : (s.heap.push { cls := .type "list", data := .seq #[] }).get? s.heap.objs.size = some { cls := .type "list", data := .seq #[] } := Heap.get?_push_size _ rfl
  refine ⟨⟨_, hS, rfl⟩, PySem.F.args_list_init_2 _ _, ?_⟩
  generalize hS0 : s.heap.objs.size = S at *
  have kp : ∀ b o, s.heap.get? b = some o → (s.heap.push { cls := .type "list", data := .seq #[] }).get? b = some o := fun b o e => Heap.get?_push_of_some _ e
  have hsz : (s.heap.push { cls := .type "list", data := .seq #[] }).objs.size = S + 1 := by rw [Heap.size_push, hS0]
  have low0 : ∀ b o, (s.heap.push { cls := .type "list", data := .seq #[] }).get? b = some o → b ≤ S := fun b o e => by
    have := Heap.lt_size e
    rw [hsz] at this
    exact Nat.le_of_lt_succ this
  generalize s.heap.push { cls := .type "list", data := .seq #[] } = h0 at *
  show wpAny _ _ (do let old ← Builtin.List.listItems (.ref S); Builtin.List.listUpdate (.ref S) (fun _ => #[]); letGo old.toList.reverse; Builtin.List.listExtendWith (.ref S) (.ref z) .none) _ _ { s with heap := h0 }
  refine wpAny_bind ?_
  unfold Builtin.List.listItems
  refine wpAny_bind (wpAny_seqItems (s := { s with heap := h0 }) hS rfl (wpAny_pure ?_))
  show wpAny _ _ (updateSeq S (fun _ => #[]) >>= fun _ => letGo (#[] : Array Value).toList.reverse >>= fun _ => Builtin.List.listExtendWith (.ref S) (.ref z) .none) _ _ { s with heap := h0 }
  refine wpAny_bind (wpAny_updateSeq (s := { s with heap := h0 }) hS rfl ?_)
  have hS₂ := Heap.get?_update_self (Obj.mapSeq (fun _ => (#[] : Array Value))) hS rfl
  have oth : ∀ b o, b ≠ S → h0.get? b = some o → (h0.update S (Obj.mapSeq (fun _ => (#[] : Array Value)))).get? b = some o := fun b o hb e => (Heap.get?_update_other _ _ (Ne.symm hb)).trans e
  have low1 : ∀ b o, (h0.update S (Obj.mapSeq (fun _ => (#[] : Array Value)))).get? b = some o → b ≤ S := fun b o e => by
    have := Heap.lt_size e
    rw [Heap.size_update, hsz] at this
    exact Nat.le_of_lt_succ this
  have lst1 : S < (h0.update S (Obj.mapSeq (fun _ => (#[] : Array Value)))).objs.size := Heap.lt_size hS₂
  show wpAny _ _ (letGo (#[] : Array Value).toList.reverse >>= fun _ => Builtin.List.listExtendWith (.ref S) (.ref z) .none) _ _ { s with heap := h0.update S (Obj.mapSeq (fun _ => (#[] : Array Value))) }
  generalize h0.update S (Obj.mapSeq (fun _ => (#[] : Array Value))) = h1 at *
  have ne : ∀ {b : Addr}, b < S → b ≠ S := fun h => Nat.ne_of_lt h
  have up : ∀ b o, b < S → s.heap.get? b = some o → h1.get? b = some o := fun b o hb e => oth b o (ne hb) (kp b o e)
  have hz1 := up _ _ lz hz
  have hTI1 := up _ _ lTI hTI
  have hTO1 := up _ _ lTO hTO
  have st1' := D1.frame _ _ h1 st1 fun b hb o e => up b o (hf1 b hb) e
  have st2' := D2.frame _ _ h1 st2 fun b hb o e => up b o (hf2 b hb) e
  refine wpAny_bind (wpAny_letGo ?_)
  unfold Builtin.List.listExtendWith
  refine wpAny_bind (wpAny_typeOf (T := "zip") (s := { s with heap := h1 }) ⟨_, hz1, rfl⟩ ?_)
  have e1 : Builtin.List.listSameRef (.ref S) (.ref z) = false := by simp [Builtin.List.listSameRef, Nat.ne_of_gt lz]
  have e2 : (Value.type "zip" == Value.type "list") = false := by decide
  have e3 : (Value.type "zip" == Value.type "tuple") = false := by decide
  simp only [e1, e2, e3, Bool.or_false, Bool.false_eq_true, if_false]
  refine wpAny_bind (wpAny_pyIter_zip (s := { s with heap := h1 }) hz1 ?_)
  refine wpAny_bind (wpAny_holding (zl_hint (s := { s with heap := h1 }) ⟨_, hz1, rfl⟩ ?_))
  show wpAny _ _ (rule "list.extend.makes-room" >>= fun _ => Builtin.List.listTouch (.ref S) >>= fun _ => again (.builtin "list.extend.loop" ⟨[.ref S, .ref z, .none], []⟩)) _ _ { s with heap := h1 }
  refine wpAny_bind (wpAny_rule ?_)
  refine wpAny_bind ?_
  show wpAny _ _ (updateSeq S (·.push .none) >>= fun _ => updateSeq S (·.pop)) _ _ _
  refine wpAny_bind (wpAny_updateSeq hS₂ rfl ?_)
  have hS₃ := Heap.get?_update_self (Obj.mapSeq (·.push Value.none)) hS₂ rfl
  refine wpAny_updateSeq (hz := by seq_fits) hS₃ rfl ?_
  have hS₄ := Heap.get?_update_self (Obj.mapSeq (·.pop)) hS₃ rfl
  have up2 : ∀ b o, b ≠ S → h1.get? b = some o → ((h1.update S (Obj.mapSeq (·.push Value.none))).update S (Obj.mapSeq (·.pop))).get? b = some o := fun b o hb e => (Heap.get?_update_other _ _ (Ne.symm hb)).trans ((Heap.get?_update_other _ _ (Ne.symm hb)).trans e)
  have nf1 : S ∉ fp1 := fun q => Nat.lt_irrefl _ (hf1 _ q)
  have nf2 : S ∉ fp2 := fun q => Nat.lt_irrefl _ (hf2 _ q)
  refine wpAny_pure ⟨plainId_quiet PySem.F.plain_extend_loop _, zl_loop (A := A.in1) (s := s) (h₁ := h1) (lo := S) (S := S) Z D1 D2 (fun c hc => ?_) (Nat.ne_of_gt lz) (Nat.ne_of_gt lTI) (Nat.ne_of_gt lTO) nf1 nf2 hn .none low1 (fun h' tk acc c as hk hS' hl hG hacc => ?_)
    (min n1 n2) 0 _ _ _ #[] [] (Nat.sub_zero _) (Nat.zero_le _) (.inl ⟨up2 _ _ (ne lz) hz1, a1, a2, up2 _ _ (ne lTO) hTO1⟩) (up2 _ _ (ne lTI) hTI1) (D1.frame _ _ _ st1' fun b hb o e => up2 b o (fun q => nf1 (q ▸ hb)) e) (D2.frame _ _ _ st2' fun b hb o e => up2 b o (fun q => nf2 (q ▸ hb)) e)
    (fun b o hb e => up2 b o (fun q => hb (by simp [q])) e) hS₄ rfl rfl ⟨List.Pairwise.nil, (fun _ ha => nomatch ha), (fun j a hj => by simp at hj)⟩ (Heap.lt_size hS₄)⟩
  · simp only [List.mem_cons, List.not_mem_nil, or_false] at hc
    rcases hc with q | q | q | q | q | q
    · rw [q]; exact Nat.le_of_lt lz
    · rw [q]; exact Nat.le_of_lt lTI
    · rw [q]; exact Nat.le_of_lt lTO
    · rw [q]; exact Nat.le_of_lt l1
    · rw [q]; exact Nat.le_of_lt l2
    · rw [q]; exact Nat.le_refl _
  · refine ⟨rfl, hQ h' tk acc c as (fun b o hb e => ?_) hS' hl hG hacc⟩
    have lb : b < S := by rw [← hS0]; exact Heap.lt_size e
    refine hk b o (fun q => ?_) (up b o lb e)
    rcases List.mem_cons.mp q with q | q
    · exact ne lb q
    · exact hb q
end
/-! ### the pairs laid -/
def putZ : Hp → List Addr → List (List V) → Hp
  | H, a :: as, p :: r => putZ (upd H a (.tup p)) as r
  | H, _, _ => H
theorem putZ_off {b : Addr} : ∀ (as : List Addr) (r : List (List V)) (H : Hp), b ∉ as → putZ H as r b = H b
  | [], _, _, _ => rfl
  | _ :: _, [], _, _ => rfl
  | a :: as, p :: r, H, h => by
    show putZ (upd H a (.tup p)) as r b = H b
    rw [putZ_off as r _ (fun z => h (List.mem_cons_of_mem _ z)), upd_ne (fun z => h (by rw [z]; exact List.mem_cons_self))]
theorem putZ_at : ∀ (as : List Addr) (r : List (List V)) (H : Hp), as.length = r.length → as.Nodup → ∀ (j : Nat) (a : Addr) (p : List V), as[j]? = some a → r[j]? = some p → putZ H as r a = some (.tup p)
  | [], _, _, _, _, j, a, p, h, _ => by simp at h
  | _ :: _, [], _, h, _, _, _, _, _, _ => by cases h
  | a :: as, p :: r, H, h, hn, 0, b, q, e1, e2 => by
    have hn' := List.nodup_cons.mp hn
    simp only [List.getElem?_cons_zero, Option.some.injEq] at e1 e2
    subst e1 e2
    show putZ (upd H a (.tup p)) as r a = some (.tup p)
    rw [putZ_off as r _ hn'.1, upd_same]
  | a :: as, p :: r, H, h, hn, j + 1, b, q, e1, e2 => putZ_at as r _ (Nat.succ.inj h) (List.nodup_cons.mp hn).2 j b q e1 e2
theorem vsZip_len (xs ys : List V) (i : Nat) : (vsZip xs ys i).length = 2 := rfl
def tLz (K : Fr) (ta : TA) : TE := fun σ H Q => ta σ H fun vs H1 => ∃ k1 k2 a b xs ys, vs = [.ref a, .ref b] ∧ Sq K k1 H1 a xs ∧ Sq K k2 H1 b ys ∧ min xs.length ys.length ≤ 1000000 ∧ ∀ (H' : Hp) (p : Addr) (ts : List Addr), (∀ b o, H1 b = some o → H' b = some o) → H1 p = none → (∀ t ∈ ts, H1 t = none) → p ∉ ts → H' p = some (.lst (ts.map V.ref)) → ts.length = min xs.length ys.length → (∀ j t, ts[j]? = some t → H' t = some (.tup (vsZip xs ys j))) → Q (.ref p) H'
section
variable {X : Cx} {e e2 : Expr} {ta : TA} {p q pos pos2 : Pos}
theorem zips_laid {pins : List (Addr × Obj)} {σ : L2.St} {H : Hp} {s : Shared} {h' : Heap} {tk : Nat} {xs ys : List V} {its its2 : List Value} {acc : Array Value} {c : Nat} {as : List Addr} {S : Addr} (I : Inv X pins σ H s) (hz : min xs.length ys.length ≤ sizeLine) (rx : Vals xs its) (ry : Vals ys its2) (hlow : s.heap.objs.size ≤ S)
    (hk : ∀ b o, s.heap.get? b = some o → h'.get? b = some o) (hS : h'.get? S = some { cls := .type "list", dict := none, data := .seq acc c, slots := #[] }) (hl : as.length = min xs.length ys.length) (hG : ZipG (fun i v => its.toArray[i]? = some v) (fun i v => its2.toArray[i]? = some v) S h' as) (hacc : acc.toList = as.map Value.ref) :
    ∃ H' : Hp, (∀ b o, H b = some o → H' b = some o) ∧ H S = none ∧ (∀ t ∈ as, H t = none) ∧ S ∉ as ∧ H' S = some (.lst (as.map V.ref)) ∧ (∀ j t, as[j]? = some t → H' t = some (.tup (vsZip xs ys j))) ∧ Inv X pins σ H' { s with heap := h', toks := tk } := by
  have hSn : S ∉ as := fun z => Nat.lt_irrefl _ (hG.above _ z)
  have nd : as.Nodup := List.Pairwise.imp (fun {a b} (h : a < b) => Nat.ne_of_lt h) hG.rise
  have new : ∀ t ∈ as, H t = none := fun t ht => I.hok.fresh (Nat.le_trans hlow (Nat.le_of_lt (hG.above t ht)))
  have newS : H S = none := I.hok.fresh hlow
  have hlr : as.length = ((List.range (min xs.length ys.length)).map (vsZip xs ys)).length := by simp [hl]
  have atP : ∀ j t, as[j]? = some t → putZ (upd H S (.lst (as.map V.ref))) as ((List.range (min xs.length ys.length)).map (vsZip xs ys)) t = some (.tup (vsZip xs ys j)) := fun j t hj => by
    refine putZ_at as _ _ hlr nd j t _ hj ?_
    have : j < min xs.length ys.length := by rw [← hl]; exact (List.getElem?_eq_some_iff.mp hj).1
    simp [List.getElem?_map, List.getElem?_range this]
  have off : ∀ b, b ∉ as → b ≠ S → putZ (upd H S (.lst (as.map V.ref))) as ((List.range (min xs.length ys.length)).map (vsZip xs ys)) b = H b := fun b h1 h2 => by rw [putZ_off as _ _ h1, upd_ne h2]
  have low : ∀ b o, s.heap.get? b = some o → b ∉ as ∧ b ≠ S := fun b o e => ⟨fun z => absurd (Nat.lt_of_lt_of_le (Heap.lt_size e) hlow) (Nat.not_lt.mpr (Nat.le_of_lt (hG.above b z))), Nat.ne_of_lt (Nat.lt_of_lt_of_le (Heap.lt_size e) hlow)⟩
  have eS : putZ (upd H S (.lst (as.map V.ref))) as ((List.range (min xs.length ys.length)).map (vsZip xs ys)) S = some (.lst (as.map V.ref)) := by rw [putZ_off as _ _ hSn, upd_same]
  generalize putZ (upd H S (.lst (as.map V.ref))) as ((List.range (min xs.length ys.length)).map (vsZip xs ys)) = H' at *
  have kp : ∀ b u, H b = some u → H' b = some u := fun b u e => by
    rw [off b (fun z => by rw [new b z] at e; cases e) (fun z => by rw [z, newS] at e; cases e)]
    exact e
  refine ⟨H', kp, newS, new, hSn, eS, atP, ?_⟩
  refine I.call' (ch := []) rfl ⟨fun b o q _ _ _ => hk b o q, fun b o q _ _ _ => ⟨o.slots, hk b o q⟩, fun b o q n _ => ?_, fun b o q _ => ⟨o, hk b o q⟩, fun b xs q => kp b _ q, fun b o u q => kp b _ q, fun b ps q => ⟨#[], by rw [kp b _ q]; simp⟩⟩ (fun b u q => ?_) I.bare fun b z => by simp at z
  · obtain ⟨z1, z2⟩ := low b o q
    rw [off b z1 z2]
    exact n
  · by_cases hb : b ∈ as
    · obtain ⟨j, hj⟩ := List.mem_iff_getElem?.mp hb
      rw [atP j b hj] at q
      cases q
      obtain ⟨x, y, px, py, f3⟩ := hG.pairs j b hj
      have hjl : j < min xs.length ys.length := by rw [← hl]; exact (List.getElem?_eq_some_iff.mp hj).1
      obtain ⟨x1, hx1⟩ : ∃ y, xs[j]? = some y := ⟨xs[j]'(by omega), by simp [show j < xs.length by omega]⟩
      obtain ⟨y1, hy1⟩ : ∃ y, ys[j]? = some y := ⟨ys[j]'(by omega), by simp [show j < ys.length by omega]⟩
      obtain ⟨u, hu, ru⟩ := rx.get hx1
      obtain ⟨u2, hu2, ru2⟩ := ry.get hy1
      have px : its[j]? = some x := by simpa using px
      have py : its2[j]? = some y := by simpa using py
      rw [px] at hu
      cases hu
      rw [py] at hu2
      cases hu2
      have rv : Vals (vsZip xs ys j) [x, y] := by
        refine .cons ?_ (.cons ?_ .nil)
        · rw [List.getD_eq_getElem?_getD, hx1]; exact ru
        · rw [List.getD_eq_getElem?_getD, hy1]; exact ru2
      exact ⟨by rw [vsZip_len, sizeLine_eq]; decide, [x, y], rv, ⟨_, f3, rfl, _, rfl⟩⟩
    · by_cases hb2 : b = S
      · rw [hb2] at q ⊢
        rw [eS] at q
        cases q
        refine ⟨by rw [List.length_map, hl]; exact hz, acc.toList, c, by rw [hacc]; exact LiI.vals_refs as, ?_⟩
        rw [Array.toArray_toList]
        exact hS
      · rw [off b hb hb2] at q
        exact (I.hok b u q).stay (fun d v _ y => hk d v y) (fun d y => kp d _ y) fun d xs y => kp d _ y
theorem pe_listZip (hc : X.calm = true) (ha : PA X [e, e2] ta) (hg : Gl X "list") (hm : X.mg "list" = none) (hg2 : Gl X "zip") (hm2 : X.mg "zip" = none)
    (hs : starEach [e, e2] X.env = (false, eval e X.env) :: starEach [e2] X.env := by rfl) (hpl : (backTo pos2 (starEach [e2] X.env)).any (·.1) = false := by rfl)
    (na : starEach [.Call (.Name "zip" q) [e, e2] [] pos2] X.env = (false, eval (.Call (.Name "zip" q) [e, e2] [] pos2) X.env) :: starEach [] X.env := by rfl) :
    PE X (.Call (.Name "list" p) [.Call (.Name "zip" q) [e, e2] [] pos2] [] pos) (tLz X.K ta) := by
  refine ⟨fun pins s σ H Q I h => ?_⟩
  refine Call_ (ld_blt (u := .type "list") I hg hm (by decide +kernel) ?_)
  refine PyProof.Rows.callWith_type1 (PyProof.Rows.args_cons ?_ na) na rfl
  refine Call_ (ld_blt I hg2 hm2 PyProof.Rows.boot_zip (PyProof.Rows.callWith_type1 (thn (ha.run pos2 pins s σ H _ I h) fun us s1 ⟨vs, H1, I1, r1, q1⟩ => ?_) hs hpl))
  obtain ⟨k1, k2, a, b, xs, ys, ex, hqx, hqy, hn, qq⟩ := q1
  subst ex
  cases r1 with
  | cons r rr =>
    cases rr with
    | cons r' rr =>
      cases rr
      cases r
      cases r'
      obtain ⟨its, rv, po⟩ := sq_its I1 hqx
      obtain ⟨its2, rv2, po2⟩ := sq_its I1 hqy
      refine zip_begins2 (begK k1 a its.toArray) (begK k2 b its2.toArray) po po2 fun h' hz hTI hTO h1 h2 hsz hk => ?_
      refine PyProof.Rows.args_nil ?_
      have la := po.lt
      have lb := po2.lt
      have hd : X.A.in1.in1.in1.handled = none := I1.ok.hd hc
      have D1 := drawK (P := X.prog) (w := X.w) (A := X.A.in1.in1.in1) k1 hd s1.heap.objs.size a (Nat.ne_of_lt la) its.toArray
      have D2 := drawK (P := X.prog) (w := X.w) (A := X.A.in1.in1.in1) k2 hd (s1.heap.objs.size + 1) b (Nat.ne_of_lt (Nat.lt_succ_of_lt lb)) its2.toArray
      have Z := zip_sep2 (N := s1.heap.objs.size) (fp1 := [a]) (fp2 := [b]) (by simpa using la) (by simpa using lb)
      have ofa : OfK k1 h' a its.toArray := by
        cases k1 with
        | true => obtain ⟨o, e, r⟩ := po; exact ⟨o, hk _ _ e, r⟩
        | false => obtain ⟨o, e, r⟩ := po; exact ⟨o, hk _ _ e, r⟩
      have ofb : OfK k2 h' b its2.toArray := by
        cases k2 with
        | true => obtain ⟨o, e, r⟩ := po2; exact ⟨o, hk _ _ e, r⟩
        | false => obtain ⟨o, e, r⟩ := po2; exact ⟨o, hk _ _ e, r⟩
      have hn' : min its.toArray.size its2.toArray.size = min xs.length ys.length := by rw [List.size_toArray, List.size_toArray, rv.length, rv2.length]
      have hle : s1.heap.objs.size ≤ h'.objs.size := by rw [hsz]; exact Nat.le_add_right _ _
      have hfp : ∀ c, c < s1.heap.objs.size + 2 → c < h'.objs.size := fun c hc => by rw [hsz]; omega
      have hsl : min xs.length ys.length ≤ sizeLine := Nat.le_trans hn (by rw [sizeLine_eq]; decide)
      refine zl_call (s := { s1 with heap := h' }) Z D1 D2 (fun c hcm => ?_) (fun c hcm => ?_) hz hTI ⟨_, _, hTO⟩ ⟨.of h1, ofa⟩ ⟨.of h2, ofb⟩ (by rw [hn']; exact hsl) fun h2 tk acc c as hk2 hS hl hG hacc => ?_
      · simp only [List.mem_cons, List.not_mem_nil, or_false] at hcm
        rcases hcm with z | z
        · rw [z]; exact hfp _ (by omega)
        · rw [z]; exact hfp _ (Nat.lt_trans la (by omega))
      · simp only [List.mem_cons, List.not_mem_nil, or_false] at hcm
        rcases hcm with z | z
        · rw [z]; exact hfp _ (by omega)
        · rw [z]; exact hfp _ (Nat.lt_trans lb (by omega))
      · rw [hn'] at hl
        obtain ⟨H', g1, g2, g3, g4, g5, g6, g7⟩ := zips_laid (X := X) (tk := tk) I1 hsl rv rv2 hle (fun b o e => hk2 b o (fun zm => by
          have := Heap.lt_size e
          simp only [List.mem_cons, List.not_mem_nil, or_false] at zm
          rcases zm with z | z | z | z
          · exact absurd (z ▸ this) (Nat.not_lt.mpr (Nat.le_add_right _ _))
          · exact absurd (z ▸ this) (Nat.not_lt.mpr (Nat.le_add_right _ _))
          · exact absurd (z ▸ this) (Nat.lt_irrefl _)
          · exact absurd (z ▸ this) (Nat.not_lt.mpr (Nat.le_add_right _ _))) (hk b o e)) hS hl hG hacc
        exact ⟨.ref h'.objs.size, H', g7, rfl, qq H' _ as g1 g2 g3 g4 g5 hl g6⟩
variable {T : Tb} {S : AS} {ds es : List PD} {k1 k2 : Bool}
/-- list(zip(e, e2)) -/
theorem dn_listZip (hm : X.mg "list" = none) (hm2 : X.mg "zip" = none) (hc : X.calm = true) (ha : DA X T [e, e2] S [seqD k1 ds, seqD k2 es]) (hz : min ds.length es.length ≤ 1000000) (hg : Gl X "list" := by rfl) (hg2 : Gl X "zip" := by rfl)
    (hs : starEach [e, e2] X.env = (false, eval e X.env) :: starEach [e2] X.env := by rfl) (hpl : (backTo pos2 (starEach [e2] X.env)).any (·.1) = false := by rfl)
    (na : starEach [.Call (.Name "zip" q) [e, e2] [] pos2] X.env = (false, eval (.Call (.Name "zip" q) [e, e2] [] pos2) X.env) :: starEach [] X.env := by rfl) :
    DN X T (.Call (.Name "list" p) [.Call (.Name "zip" q) [e, e2] [] pos2] [] pos) S (zipD ds es) :=
  pe_of (pe_listZip hc ha hg hm hg2 hm2 hs hpl na) fun σ H Q ⟨O0, H0, os, r, k⟩ => by
    refine ⟨O0, H0, os, r, fun vs H1 g h => ?_⟩
    cases h with
    | cons h1 h2 =>
      cases h2 with
      | cons h2 h3 =>
        cases h3
        obtain ⟨a, xs, rfl, sa, da, o, no, ea, ka⟩ := dq_seq h1
        obtain ⟨b, ys, rfl, sb, db, o2, no2, eb, kb⟩ := dq_seq h2
        have l1 := da.length
        have l2 := db.length
        refine ⟨k1, k2, a, b, xs, ys, rfl, ka H1 _ (fz_some ea).2, kb H1 _ (fz_some eb).2, by rw [l1, l2]; exact hz, fun H' p ts g1 g2 g3 g4 g5 g6 g7 => ?_⟩
        have r1 := r.gr g
        have gr : Gr T H1 H' := ⟨Xt.ex g1, g.tabs.ext g1⟩
        refine k p _ H' ((Nw.of g2).back g.ext) (g.trans gr) g5 ?_
        have fe : Xt (fz (Ow O0 os) H1) (fz (fun a => Ow O0 os a ∨ a = p) H') := fun c u q1 _ => by
          obtain ⟨q2, q3⟩ := fz_some q1
          rw [fz_out (fun w => w.elim q2 (fun w => by rw [w, g2] at q3; cases q3))]
          exact g1 c u q3
        have da' := da.mv fe
        have db' := db.mv fe
        have all : ∀ (m : Nat) (l : List Addr) (j0 : Nat), l.length = m → (∀ j t, l[j]? = some t → ts[j0 + j]? = some t) → j0 + m = ts.length → Dqs (fz (fun a => Ow O0 os a ∨ a = p) H') (l.map V.ref) (((List.range' j0 m).map fun i => PyData.tuple [ds.getD i .none, es.getD i .none])) := by
          intro m
          induction m with
          | zero =>
            intro l j0 hl _ _
            rw [List.length_eq_zero_iff.mp hl]
            exact .nil
          | succ m ih =>
            intro l j0 hl hj hm
            match l, hl with
            | t :: l, hl =>
              have ht := hj 0 t rfl
              rw [Nat.add_zero] at ht
              have hlt : j0 < min xs.length ys.length := by rw [← g6]; omega
              refine .cons (.tup (xs := vsZip xs ys j0) ?_ ?_) (ih l (j0 + 1) (by simpa using hl) (fun j u hu => ?_) (by omega))
              · rw [fz_out]
                · exact g7 j0 t ht
                · rintro (w | w)
                  · exact r1.free (.of (g3 t (List.mem_of_getElem? ht))) w
                  · exact g4 (w ▸ List.mem_of_getElem? ht)
              · exact .cons (dqs_getD da' (by omega)) (.cons (dqs_getD db' (by omega)) .nil)
              · have := hj (j + 1) u hu
                rwa [show j0 + (j + 1) = j0 + 1 + j by omega] at this
        have := all ts.length ts 0 rfl (fun j t h => by rw [Nat.zero_add]; exact h) (Nat.zero_add _)
        rw [← List.range_eq_range', g6, l1, l2] at this
        exact this
end
end DL

namespace DL
open PySem PySem.Spec PyProof.Rows L2
/-! ### targets that change the heap -/
def tGc (T : Tb) (S : AS) (d : PD) (S' : AS) : TG := fun v σ H Q => ∃ O0 H0 os, RpO T O0 H0 os S σ H ∧ Dq (fz (Ow O0 os) H) v d ∧ ∀ H', RpO T O0 H0 os S' σ H' → Xt (fz (Ow O0 os) H) (fz (Ow O0 os) H') → Q σ H'
abbrev DC (X : Cx) (T : Tb) (tg : Expr) (S : AS) (d : PD) (S' : AS) : Prop := PG X tg (tGc T S d S')
def tGcs (T : Tb) (S : AS) (ds : List PD) (S' : AS) : TGs := fun vs σ H Q => ∃ O0 H0 os, RpO T O0 H0 os S σ H ∧ Dqs (fz (Ow O0 os) H) vs ds ∧ ∀ H', RpO T O0 H0 os S' σ H' → Xt (fz (Ow O0 os) H) (fz (Ow O0 os) H') → Q σ H'
abbrev DCs (X : Cx) (T : Tb) (l : List Expr) (S : AS) (ds : List PD) (S' : AS) : Prop := PGs X l (tGcs T S ds S')
section
variable {X : Cx} {T : Tb} {EX : XK} {S S' S1 : AS} {E : En} {d d0 : PD} {ds es : List PD} {e e1 e2 a b tg : Expr} {pos p p1 p2 : Pos} {x : Str}
theorem dcs_nil : DCs X T [] S [] S := pgs_of pgs_nil fun vs σ H Q ⟨O0, H0, os, r, h, k⟩ => by
  cases h
  exact ⟨rfl, k H r Xt.refl⟩
theorem dcs_cons {l : List Expr} (h1 : DC X T a S d S1) (h2 : DCs X T l S1 ds S') (hs : (assignEach (a :: l) X.env).map (·.2) = assign a X.env :: (assignEach l X.env).map (·.2) := by rfl) : DCs X T (a :: l) S (d :: ds) S' :=
  pgs_of (pgs_cons h1 h2 hs) fun vs σ H Q ⟨O0, H0, os, r, h, k⟩ => by
    cases h with
    | cons q1 q2 => exact ⟨_, _, rfl, O0, H0, os, r, q1, fun H1 r1 x1 => ⟨O0, H0, os, r1, q2.mv x1, fun H2 r2 x2 => k H2 r2 (x1.trans x2)⟩⟩
theorem dc_tup {l : List Expr} {k : Nat} (hc : X.calm = true) (h : DCs X T l S ds S') (hl : (assignEach l X.env).length = ds.length := by rfl) (hst : (assignEach l X.env).findIdx? (·.1) = none := by rfl) : DC X T (.Tuple l k pos) S (.tuple ds) S' :=
  pg_of (pg_tup hc h hl hst) fun v σ H Q ⟨O0, H0, os, r, h, k⟩ => by
    cases h with
    | tup q1 q2 => exact ⟨_, _, rfl, SqT.of (fzl q1), q2.length, O0, H0, os, r, q2, k⟩
theorem dc_sub (i : Nat) {k : Int} {j : Nat} (he : DE X T e S (.int k)) (hi : S[i]? = some (own ds)) (hj : ixN ds.length k = some j) (hN : X.N[i]? = some x := by rfl) (hv : Vis X.env.scope x := by first | exact Or.inl rfl | exact Or.inr (Or.inl rfl) | exact Or.inr (Or.inr rfl)) (hd : (x == ("__debug__" : Str)) = false := by decide)
    (hcd : (x == ("__classdict__" : Str)) = false := by decide)
    (ha : ∀ v, assign (.Subscript (.Name x p) e p2) X.env v = (do
      let ov ← holding [v] (eval (.Name x p) X.env)
      let iv ← holding [v, ov] (eval e X.env)
      standAt p2
      holding [v, ov, iv] (setItem ov iv v)
      release [v, ov, iv] []) := by intro _; rfl) : DC X T (.Subscript (.Name x p) e p2) S d (S.set i (own (ds.set j d))) :=
  pg_of (pg_sub (pe_var hN hv hd hcd) he set_list ha) fun v σ H Q ⟨O0, H0, os, r, h, k⟩ => by
    obtain ⟨a, xs, h1, h2, h3, h4⟩ := r.own_at hi
    refine ⟨_, h2, O0, H0, os, r, fun y H2 g2 hy => ?_⟩
    cases hy
    have h3' : H2 a = some (.lst xs) := g2.ext _ _ h3 fun _ z => by cases z
    have h4' := h4.mv (fz_ext (O := Ow O0 os) g2.ext)
    have hO : Ow O0 os a := .inr ⟨i, by rw [h1]; exact List.mem_cons_self⟩
    exact ⟨a, xs, _, j, rfl, rfl, h3', by rw [h4.length]; exact hj, k _ ((r.gr g2).own_set (lt_of_get hi) h1 h2 (h4'.set j (h.mv (fz_ext g2.ext)))) ((fz_ext g2.ext).trans (fz_chg hO))⟩
/-- targets by the heap = value -/
theorem ds_asgC (he : DE X T e S d) (hg : DC X T tg S d S') (k : E.nx S') (hs : swapsWithSole [tg] e pos.line X.env = pure false := by rfl) (hw : swappedStores [tg] e X.env = pure none := by rfl)
    (h1 : (assignEach [tg] X.env).map (·.2) = [assign tg X.env] := by rfl) : DS X T EX (.Assign [tg] e pos) S E :=
  ps_of (ps_asg he hg hs hw h1) fun D σ H ⟨O0, H0, os, r, l⟩ => ⟨O0, H0, os, r, fun v H' g h => ⟨O0, H0, os, r.gr g, h, fun H2 r' _ => l.nx S' σ H2 k ⟨os, r'⟩⟩⟩
end
/-! ### lists of one's own within one -/
inductive InnR (F H : Hp) : List Addr → List (List PD) → Prop
  | nil : InnR F H [] []
  | cons {p : Addr} {xs : List V} {ds : List PD} {ps : List Addr} {dss : List (List PD)} : H p = some (.lst xs) → Dqs F xs ds → InnR F H ps dss → InnR F H (p :: ps) (ds :: dss)
section
variable {F F' H H' : Hp}
theorem InnR.mono : ∀ {ps dss}, InnR F H ps dss → Xt F F' → (∀ a ∈ ps, H' a = H a) → InnR F' H' ps dss
  | [], _, h, _, _ => by cases h; exact .nil
  | p :: ps, _, h, e, k => by
    cases h with
    | cons h1 h2 h3 => exact .cons (by rw [k p List.mem_cons_self]; exact h1) (h2.mv e) (h3.mono e fun a ha => k a (List.mem_cons_of_mem _ ha))
theorem InnR.len : ∀ {ps dss}, InnR F H ps dss → ps.length = dss.length
  | [], _, h => by cases h; rfl
  | p :: ps, _, h => by
    cases h with
    | cons _ _ h3 => simp [h3.len]
theorem InnR.get {ds : List PD} : ∀ {ps dss} {j : Nat}, InnR F H ps dss → dss[j]? = some ds → ∃ p xs, ps[j]? = some p ∧ H p = some (.lst xs) ∧ Dqs F xs ds
  | [], _, j, h, e => by cases h; simp at e
  | p :: ps, _, 0, h, e => by
    cases h with
    | cons h1 h2 _ => simp at e; subst e; exact ⟨_, _, rfl, h1, h2⟩
  | p :: ps, _, j + 1, h, e => by
    cases h with
    | cons _ _ h3 =>
      obtain ⟨q, xs, r1, r2, r3⟩ := InnR.get (j := j) h3 (by simpa using e)
      exact ⟨q, xs, by simpa using r1, r2, r3⟩
theorem InnR.mu : ∀ {ps dss}, InnR F H ps dss → ∀ p ∈ ps, ∃ u, H p = some u ∧ Mu u
  | [], _, _, _, hp => by cases hp
  | q :: ps, _, h, p, hp => by
    cases h with
    | cons h1 _ h3 =>
      rcases List.mem_cons.mp hp with e | hp
      · rw [e]; exact ⟨_, h1, Mu.lst⟩
      · exact h3.mu p hp
theorem InnR.snoc {p : Addr} {xs : List V} {ds : List PD} (h1 : H p = some (.lst xs)) (h2 : Dqs F xs ds) : ∀ {ps dss}, InnR F H ps dss → InnR F H (ps ++ [p]) (dss ++ [ds])
  | [], _, h => by cases h; exact .cons h1 h2 .nil
  | q :: ps, _, h => by
    cases h with
    | cons g1 g2 g3 => exact .cons g1 g2 (g3.snoc h1 h2)
theorem InnR.set {p : Addr} {xs : List V} {ds : List PD} (e : Xt F F') (h2 : Dqs F' xs ds) : ∀ {ps dss} {j : Nat}, ps.Nodup → InnR F H ps dss → ps[j]? = some p → InnR F' (upd H p (.lst xs)) ps (dss.set j ds)
  | [], _, j, _, h, q => by simp at q
  | r :: ps, _, 0, nd, h, q => by
    simp at q; subst q
    cases h with
    | cons g1 g2 g3 => exact .cons upd_same h2 (g3.mono e fun a ha => upd_ne (show a ≠ r from fun z => (List.nodup_cons.mp nd).1 (by rw [← z]; exact ha)))
  | r :: ps, _, j + 1, nd, h, q => by
    cases h with
    | cons g1 g2 g3 =>
      have q' : ps[j]? = some p := by simpa using q
      refine .cons ?_ (g2.mv e) (InnR.set e h2 (List.nodup_cons.mp nd).2 g3 q')
      rw [upd_ne (show r ≠ p from fun z => (List.nodup_cons.mp nd).1 (by rw [z]; exact List.mem_of_getElem? q'))]
      exact g1
theorem InnR.frozen : ∀ {ps dss}, InnR F H ps dss → Xt F F' → (∀ p ∈ ps, ∀ o, H p = some o → F' p = some o) → Dqs F' (ps.map V.ref) (dss.map PyData.list)
  | [], _, h, _, _ => by cases h; exact .nil
  | p :: ps, _, h, e, k => by
    cases h with
    | cons h1 h2 h3 => exact .cons (.lst (k p List.mem_cons_self _ h1) (h2.mv e)) (h3.frozen e fun q hq => k q (List.mem_cons_of_mem _ hq))
end
def own2 (dss : List (List PD)) : SV := ⟨fun F H o v => ∃ a ps, o = a :: ps ∧ v = some (.ref a) ∧ H a = some (.lst (ps.map V.ref)) ∧ (a :: ps).Nodup ∧ InnR F H ps dss,
  fun e k ⟨a, ps, h1, h2, h3, h4, h5⟩ => ⟨a, ps, h1, h2, by rw [k a (by simp [h1])]; exact h3, h4, h5.mono e fun b hb => k b (by simp [h1, hb])⟩⟩
section
variable {T : Tb} {O0 : Addr → Prop} {H0 H H' : Hp} {os : Nat → List Addr} {S : AS} {σ : St} {dss : List (List PD)}
theorem RpO.freeze2 (r : RpO T O0 H0 os S σ H) (i : Nat) (h : S[i]? = some (own2 dss)) : Rp T O0 H0 (S.set i (dat (.list (dss.map .list)))) σ H :=
  ⟨_, r.drop i _ rfl (fun _ _ => rfl) fun hlt => by
    obtain ⟨v, h1, a, ps, h2, h3, h4, h5, h6⟩ := r.rep i _ h
    have nO : ∀ b, b ∈ os i → ¬ Ow O0 (fun j => if j = i then [] else os j) b := fun b hb => by
      rintro (z | ⟨k, z⟩)
      · exact (r.new i b hb).1 z
      · dsimp only at z
        split at z
        · cases z
        · rename_i hk
          exact hk (r.apart k i b z hb)
    refine ⟨v, h1, rfl, .ref a, h3, .lst (by rw [fz_out (nO a (by simp [h2]))]; exact h4) (h6.frozen (fz_mono fun a => ow_drop) fun p hp o q => by rw [fz_out (nO p (by simp [h2, hp]))]; exact q)⟩⟩
theorem le_fr2 (i : Nat) (h : S[i]? = some (own2 dss)) : Le S (S.set i (dat (.list (dss.map .list)))) := fun _ _ _ _ _ ⟨_, r⟩ => r.freeze2 i h
/-- several new objects come into a slot -/
theorem RpO.set_news (r : RpO T O0 H0 os S σ H) (i : Nat) (hi : i < S.length) {s : SV} {ps : List Addr} {v : Option V} (hp : ∀ p ∈ ps, Nw H p) (e : Xt H H') (t : LamX.Tabs T H') (hm : ∀ p ∈ ps, ∃ o, H' p = some o ∧ Mu o)
    (hs : s.rep (fz (fun a => Ow O0 os a ∨ a ∈ ps) H') H' ps v) : Rp T O0 H0 (S.set i s) (σ.set i v) H' := by
  have np : ∀ p ∈ ps, ¬ Ow O0 os p := fun p h => r.free (hp p h)
  have np2 : ∀ p ∈ ps, ∀ j, p ∉ os j := fun p h j z => np p h (.inr ⟨j, z⟩)
  have ow : ∀ {a : Addr}, Ow O0 (fun j => if j = i then ps else os j) a → Ow O0 os a ∨ a ∈ ps := fun {a} h => by
    rcases h with h | ⟨k, h⟩
    · exact .inl (.inl h)
    · dsimp only at h
      split at h
      · exact .inr h
      · exact .inl (.inr ⟨k, h⟩)
  refine ⟨fun j => if j = i then ps else os j, by simpa using r.len, fun j k a h1 h2 => ?_, fun j a h => ?_, r.old, r.ext.trans e, t, fun j s' h => ?_, fun j hj => ?_⟩
  · split at h1
    · rename_i q1
      split at h2
      · rename_i q2; rw [q1, q2]
      · exact absurd h2 (np2 a h1 k)
    · split at h2
      · exact absurd h1 (np2 a h2 j)
      · exact r.apart j k a h1 h2
  · split at h
    · obtain ⟨o, ho, m⟩ := hm a h
      exact ⟨fun z => np a h (.inl z), fun u q n => hp a h u (r.ext a u q n) n, o, ho, m⟩
    · obtain ⟨h1, h2, u, h3, m⟩ := r.new j a h
      exact ⟨h1, h2, u, e.at h3 m, m⟩
  · by_cases hj : j = i
    · subst hj
      rw [List.getElem?_set_self hi] at h
      cases h
      refine ⟨_, List.getElem?_set_self (by rw [r.len]; exact hi), ?_⟩
      rw [if_pos rfl]
      exact s.mono (fz_mono fun a ha => ow ha) (fun _ _ => rfl) hs
    · rw [List.getElem?_set_ne (Ne.symm hj)] at h
      obtain ⟨v', h1, h2⟩ := r.rep j s' h
      refine ⟨v', (List.getElem?_set_ne (Ne.symm hj)).trans h1, ?_⟩
      rw [if_neg hj]
      refine s'.mono (fun a u q n => ?_) (fun a ha => ?_) h2
      · obtain ⟨q1, q2⟩ := fz_some q
        rw [fz_out]
        · exact e a u q2 n
        · intro z
          rcases ow z with z | z
          · exact q1 z
          · exact hp a z u q2 n
      · obtain ⟨_, _, u, h3, m⟩ := r.new j a ha
        rw [h3]; exact e.at h3 m
  · have hj' : S.length ≤ j := by simpa using hj
    rw [if_neg (by omega)]
    exact r.out j hj'
end
/-- what stands behind the i-th turn -/
structure LcAt2 (T : Tb) (O : Addr → Prop) (H1 : Hp) (D : Addr) (res : List (List PD)) (H : Hp) : Prop where
  ext : Xt H1 H
  tabs : LamX.Tabs T H
  acc : ∃ ps, H D = some (.lst (ps.map V.ref)) ∧ (D :: ps).Nodup ∧ (∀ p ∈ ps, Nw H1 p) ∧ InnR (fz (fun a => O a ∨ a ∈ D :: ps) H) H ps res
section
variable {X : Cx} {T : Tb} {EX : XK} {S : AS} {E : En} {α : Type} {xs : List α} {emb : α → PD} {g : α → List PD} {S2 : α → AS} {js : List Nat} {tg elt iter : Expr} {scope : Scope} {own' : List (Str × Nat)} {pos spos py : Pos} {y : Str}
theorem lc_read2 {O0 : Addr → Prop} {H0 H' : Hp} {os : Nat → List Addr} {σ : L2.St} {Q : Hp → Prop} {J : It} {D : Addr} {vs : List Nat} (r : RpO T O0 H0 os S σ H') (w : WalkD T (fz (Ow O0 os) H') H' (xs.map emb) J) (hD : H' D = none) (fs : FreeS S vs) (hj : ∀ j ∈ js, j ∈ vs) (hz : xs.length ≤ 1000000)
    (hd : ∀ H, LcAt2 T (Ow O0 os) H' D (xs.map g) H → Q H) :
    ∃ W : Nat → Nat → Hp → Prop, (∃ m, W 0 m (upd H' D (.lst []))) ∧ ∀ i m H, W i m H →
      (J.stop i H ∧ Q H) ∨ (J.go i H ∧ ∃ Nx : Hp → Prop, (∀ H', Nx H' → ∃ m', m' < m ∧ W (i + 1) m' H') ∧ ∀ x H', J.yld i H x H' →
        (fun v σ H Q => ∃ z, z ∈ xs ∧ tG T js (wipeS S vs) (emb z) (S2 z) v σ H Q) x (wipe σ vs) H' fun σ2 H2 => wipe σ2 vs = wipe σ vs ∧ (fun σ H Q => ∃ z, z ∈ xs ∧ tQ T (S2 z) true σ H Q) σ2 H2 fun b H3 =>
        if b = true then (fun σ H Q => ∃ z, z ∈ xs ∧ tN T (S2 z) (g z) σ H Q) σ2 H3 fun y H4 => ∃ acc, H4 D = some (.lst acc) ∧ acc.length < sizeLine ∧ Nx (upd H4 D (.lst (acc ++ [y]))) else Nx H3) := by
  obtain ⟨G, Y, wk, wg, wy⟩ := w
  have nD : ¬ Ow O0 os D := r.free (.of hD)
  have wv : ∀ v ∈ vs, os v = [] := fun v hv => (fs.mem hv).os r
  have hl : (xs.map emb).length = xs.length := List.length_map _
  refine lc_it (g := fun v σ H Q => ∃ z, z ∈ xs ∧ tG T js (wipeS S vs) (emb z) (S2 z) v σ H Q) (tt := fun σ H Q => ∃ z, z ∈ xs ∧ tQ T (S2 z) true σ H Q) (te := fun σ H Q => ∃ z, z ∈ xs ∧ tN T (S2 z) (g z) σ H Q) (vs := vs) (σ := σ) (D := D) (Qd := Q) wk (fun i H => LcAt2 T (Ow O0 os) H' D ((xs.take i).map g) H) ⟨Xt.new hD, tabs_new r.tabs hD, [], upd_same, by simp, (fun p h => by simp at h), .nil⟩ (fun i H _ p => wg H p.ext) (fun i x H H2 hi p y => ?_) (fun H p => ?_)
  · rw [hl] at hi
    obtain ⟨ps, hacc, hnd, hnw, hin⟩ := p.acc
    have mus : ∀ q ∈ D :: ps, ∃ u, H q = some u ∧ Mu u := fun q hq => by
      rcases List.mem_cons.mp hq with e | hq
      · rw [e]; exact ⟨_, hacc, Mu.lst⟩
      · exact hin.mu q hq
    have news : ∀ q ∈ D :: ps, Nw H' q := fun q hq => by
      rcases List.mem_cons.mp hq with e | hq
      · rw [e]; exact .of hD
      · exact hnw q hq
    have r1 := ((r.wiped wv).hides ⟨p.ext, p.tabs⟩ news mus).based
    obtain ⟨g1, it⟩ := wy i H x H2 (by rw [hl]; exact hi) p.ext p.tabs y
    obtain ⟨z, hz1⟩ : ∃ z, xs[i]? = some z := ⟨xs[i], by simp [hi]⟩
    obtain ⟨d, hd1, hd2⟩ := it _ r1.ec (by
      rw [fz_or2]
      exact fun a u q m => by
        obtain ⟨q1, q2⟩ := fz_some q
        rw [fz_out (fun w => w.elim q1 (fun e => news a e u q2 m))]
        exact p.ext a u q2 m)
    have hd3 : d = emb z := by
      rw [List.getElem?_map, hz1] at hd1
      exact (Option.some.inj hd1).symm
    subst hd3
    have hm := List.mem_of_getElem? hz1
    have take : (xs.take (i + 1)).map g = (xs.take i).map g ++ [g z] := by rw [List.take_add_one, hz1]; simp
    refine ⟨z, hm, _, _, os, r1.gr g1, hd2, fun σ2 l2 e2 r2 => ⟨wipe_same (by rw [l2, wipe_len]) e2 hj, z, hm, _, _, os, r2, fun H3 g3 => ?_⟩⟩
    dsimp only
    rw [if_pos rfl]
    have x3 : Gr T H H3 := g1.trans g3
    refine ⟨z, hm, _, _, os, r2.gr g3, fun q us H4 nq g4 hq hu => ?_⟩
    have x4 : Gr T H H4 := x3.trans g4
    have nqH : Nw H q := nq.back x3.ext
    have nqD : q ≠ D := fun e => nqH _ (e ▸ hacc) Mu.lst.1
    have nqp : q ∉ ps := fun h => by
      obtain ⟨u, hu, m⟩ := hin.mu q h
      exact nqH u hu m.1
    have hacc4 : H4 D = some (.lst (ps.map V.ref)) := x4.ext _ _ hacc fun _ z => by cases z
    refine ⟨ps.map V.ref, hacc4, ?_, fun b u q1 m => ?_, tabs_upd x4.tabs hacc4 Mu.lst, ps ++ [q], by simp [upd_same], ?_, ?_, ?_⟩
    · rw [List.length_map, hin.len, List.length_map, List.length_take]
      exact Nat.lt_of_lt_of_le (show _ < 1000001 by omega) (by rw [sizeLine_eq]; decide)
    · rw [upd_ne (fun e => by rw [e, hD] at q1; cases q1)]
      exact (p.ext.trans x4.ext) b u q1 m
    · rw [← List.cons_append, List.nodup_append]
      refine ⟨hnd, by simp, fun a ha b hb => ?_⟩
      rw [List.mem_singleton.mp hb]
      rcases List.mem_cons.mp ha with e | ha
      · rw [e]; exact nqD.symm
      · exact fun e => nqp (e ▸ ha)
    · intro b hb
      rcases List.mem_append.mp hb with hb | hb
      · exact hnw b hb
      · rw [List.mem_singleton.mp hb]; exact nqH.back p.ext
    · rw [take]
      have fo : Xt (fz (fun a => Ow (fun a => O0 a ∨ a ∈ D :: ps) os a ∨ a = q) H4) (fz (fun a => Ow O0 os a ∨ a ∈ D :: (ps ++ [q])) (upd H4 D (.lst (ps.map V.ref ++ [V.ref q])))) := fun b u q1 m => by
        obtain ⟨q2, q3⟩ := fz_some q1
        rw [fz_out, upd_ne]
        · exact q3
        · exact fun e => q2 (.inl (.inl (.inr (e ▸ List.mem_cons_self))))
        · rintro (w | w)
          · refine q2 (.inl ?_)
            rcases w with w | w
            · exact .inl (.inl w)
            · exact .inr w
          · rcases List.mem_cons.mp w with w | w
            · exact q2 (.inl (.inl (.inr (w ▸ List.mem_cons_self))))
            · rcases List.mem_append.mp w with w | w
              · exact q2 (.inl (.inl (.inr (List.mem_cons_of_mem _ w))))
              · exact q2 (.inr (List.mem_singleton.mp w))
      have fo2 : Xt (fz (fun a => Ow O0 os a ∨ a ∈ D :: ps) H) (fz (fun a => Ow O0 os a ∨ a ∈ D :: (ps ++ [q])) (upd H4 D (.lst (ps.map V.ref ++ [V.ref q])))) := fun b u q1 m => by
        obtain ⟨q2, q3⟩ := fz_some q1
        rw [fz_out, upd_ne]
        · exact x4.ext b u q3 m
        · exact fun e => q2 (.inr (e ▸ List.mem_cons_self))
        · rintro (w | w)
          · exact q2 (.inl w)
          · rcases List.mem_cons.mp w with w | w
            · exact q2 (.inr (w ▸ List.mem_cons_self))
            · rcases List.mem_append.mp w with w | w
              · exact q2 (.inr (List.mem_cons_of_mem _ w))
              · exact nqH u (by rw [← List.mem_singleton.mp w]; exact q3) m
      refine InnR.snoc ?_ (hu.mv fo) (hin.mono fo2 fun b hb => ?_)
      · rw [upd_ne nqD]; exact hq
      · rw [upd_ne (show b ≠ D from fun e => (List.nodup_cons.mp hnd).1 (by rw [← e]; exact hb))]
        obtain ⟨u, hu2, m⟩ := hin.mu b hb
        rw [hu2]
        exact x4.ext _ _ hu2 m.1
  · rw [hl, List.take_length] at p
    exact hd H p
/-- y = [elt for tg in iter], each item a new list, all of one's own -/
theorem ds_asgLcO (i : Nat) (hc : X.calm = true) (nd : X.N.Nodup) (hi : DIc X T tg iter S (xs.map emb)) (hb : blkC X.N X.env.scope scope own' = true) (fs : FreeS S (own'.map (·.2))) (hj : ∀ j ∈ js, j ∈ own'.map (·.2)) (hz : xs.length ≤ 1000000)
    (hg : ∀ z ∈ xs, ∀ (s : Shared) (H : Hp) (C : Addr) (cl : List (Str × Addr)) (fp : List Addr), DG (X.blk s H scope (compEnvC scope cl C X.env) fp) T tg js (wipeS S (own'.map (·.2))) (emb z) (S2 z))
    (he : ∀ z ∈ xs, ∀ (s : Shared) (H : Hp) (C : Addr) (cl : List (Str × Addr)) (fp : List Addr), DN (X.blk s H scope (compEnvC scope cl C X.env) fp) T elt (S2 z) (g z)) (k : E.nx (S.set i (own2 (xs.map g)))) (hi' : i < S.length) (hN : X.N[i]? = some y := by rfl) (hyl : X.env.scope.names.lookup y = some .local := by rfl)
    (hsw : swapsWith (.ListComp elt [⟨tg, iter, [], 0⟩] scope pos) (some (.Name y py)) spos.line X.env = pure true := by rfl) (hs : ∀ x, foldedSetIterable iter X.env x = pure x := by intro _; rfl) :
    DS X T EX (.Assign [.Name y py] (.ListComp elt [⟨tg, iter, [], 0⟩] scope pos) spos) S E := by
  refine ps_of (ps_setLc (i := i) hc nd hN hyl hsw hi (blkOk_by hb) (fun s H C cl fp => pg_any fun z hz => hg z hz s H C cl fp) (fun s H C cl fp => pts_any (P := fun z => z ∈ xs) (t := fun z => tQ T (S2 z) true) fun z hz => dts_nil) (fun s H C cl fp => pe_any (P := fun z => z ∈ xs) fun z hz => he z hz s H C cl fp) hs) fun D σ H ⟨O0, H0, os, r, l⟩ => ⟨O0, H0, os, r, fun J H' g1 w D' hD => ?_⟩
  refine lc_read2 (r.gr g1) w hD fs hj hz fun H'' p => ?_
  obtain ⟨ps, h1, h2, h3, h4⟩ := p.acc
  refine l.nx _ _ _ k (r.set_news i hi' (ps := D' :: ps) (fun q hq => ?_) (g1.ext.trans p.ext) p.tabs (fun q hq => ?_) ⟨D', ps, rfl, rfl, h1, h2, h4⟩)
  · rcases List.mem_cons.mp hq with e | hq
    · rw [e]; exact (Nw.of hD).back g1.ext
    · exact (h3 q hq).back g1.ext
  · rcases List.mem_cons.mp hq with e | hq
    · rw [e]; exact ⟨_, h1, Mu.lst⟩
    · exact h4.mu q hq
end
section
variable {X : Cx} {T : Tb} {EX : XK} {S S' S1 : AS} {E : En} {d d0 : PD} {ds es : List PD} {dss : List (List PD)} {e e1 e2 a b tg : Expr} {pos p p1 p2 p3 : Pos} {x : Str}
theorem RpO.own2_at {O0 : Addr → Prop} {H0 H : Hp} {os : Nat → List Addr} {σ : L2.St} (r : RpO T O0 H0 os S σ H) {i : Nat} (h : S[i]? = some (own2 dss)) : ∃ a ps, os i = a :: ps ∧ σ[i]? = some (some (.ref a)) ∧ H a = some (.lst (ps.map V.ref)) ∧ (a :: ps).Nodup ∧ InnR (fz (Ow O0 os) H) H ps dss := by
  obtain ⟨v, h1, a, ps, h2, rfl, h3, h4, h5⟩ := r.rep i _ h
  exact ⟨a, ps, h2, h1, h3, h4, h5⟩
theorem atI_map {α β : Type} (f : α → β) {l : List α} {k : Int} {y : α} (h : atI l k = some y) : atI (l.map f) k = some (f y) := by
  unfold atI at h ⊢
  rw [List.length_map]
  cases q : ixN l.length k with
  | none => rw [q] at h; cases h
  | some j => rw [q] at h; simp only [Option.bind_some] at h ⊢; rw [List.getElem?_map, h]; rfl
theorem inn_at {F H : Hp} {ps : List Addr} (h : InnR F H ps dss) {k : Int} {j : Nat} (hj : ixN dss.length k = some j) (hd : dss[j]? = some ds) : ∃ q xs, ps[j]? = some q ∧ atI (ps.map V.ref) k = some (.ref q) ∧ H q = some (.lst xs) ∧ Dqs F xs ds := by
  obtain ⟨q, xs, h1, h2, h3⟩ := h.get hd
  refine ⟨q, xs, h1, atI_map V.ref ?_, h2, h3⟩
  unfold atI
  rw [h.len, hj]
  exact h1
/-- x[e1][e2] -/
theorem de_ix2 (i : Nat) {k1 k2 : Int} {j : Nat} (h1 : DE X T e1 S (.int k1)) (h2 : DE X T e2 S (.int k2)) (hj : ixN dss.length k1 = some j) (hds : dss[j]? = some ds) (hx : atI ds k2 = some d) (hi : S[i]? = some (own2 dss) := by rfl) (hN : X.N[i]? = some x := by rfl) (hv : Vis X.env.scope x := by first | exact Or.inl rfl | exact Or.inr (Or.inl rfl) | exact Or.inr (Or.inr rfl)) (hd : (x == ("__debug__" : Str)) = false := by decide)
    (hcd : (x == ("__classdict__" : Str)) = false := by decide) (hs1 : PlainIx e1 := by exact fun _ _ => rfl) (hs2 : PlainIx e2 := by exact fun _ _ => rfl) : DE X T (.Subscript (.Subscript (.Name x p) e1 p1) e2 p2) S d :=
  pe_of (pe_ix ix_list (pe_ix ix_list (pe_var hN hv hd hcd) h1 hs1) h2 hs2) fun σ H Q ⟨O0, H0, os, r, k⟩ => by
    obtain ⟨a, ps, g1, g2, g3, g4, g5⟩ := r.own2_at hi
    refine ⟨_, g2, O0, H0, os, r, fun y H1 x1 hy => ?_⟩
    cases hy
    obtain ⟨q, xs, q1, q2, q3, q4⟩ := inn_at g5 hj hds
    refine ⟨a, _, k1, _, rfl, rfl, SqL.of (x1.ext _ _ g3 fun _ z => by cases z), q2, O0, H0, os, r.gr x1, fun y H2 x2 hy => ?_⟩
    cases hy
    obtain ⟨v, e1, e2⟩ := dqs_atI q4 hx
    have x12 := x1.trans x2
    exact ⟨q, xs, k2, v, rfl, rfl, SqL.of (x12.ext _ _ q3 fun _ z => by cases z), e1, k _ _ x12 (e2.mv (fz_ext x12.ext))⟩
/-- x[e1][e2] = b -/
theorem ds_set2 (i : Nat) {k1 k2 : Int} {j1 j2 : Nat} (h1 : DE X T e1 S (.int k1)) (h2 : DE X T e2 S (.int k2)) (hv' : DE X T b S d) (hj : ixN dss.length k1 = some j1) (hds : dss[j1]? = some ds) (hj2 : ixN ds.length k2 = some j2) (kk : E.nx (S.set i (own2 (dss.set j1 (ds.set j2 d))))) (hi : S[i]? = some (own2 dss) := by rfl) (hN : X.N[i]? = some x := by rfl) (hv : Vis X.env.scope x := by first | exact Or.inl rfl | exact Or.inr (Or.inl rfl) | exact Or.inr (Or.inr rfl)) (hd : (x == ("__debug__" : Str)) = false := by decide)
    (hcd : (x == ("__classdict__" : Str)) = false := by decide) (hs1 : PlainIx e1 := by exact fun _ _ => rfl) (hs : swapsWith b (some (.Subscript (.Subscript (.Name x p) e1 p1) e2 p2)) pos.line X.env = pure false := by rfl) : DS X T EX (.Assign [.Subscript (.Subscript (.Name x p) e1 p1) e2 p2] b pos) S E := by
  refine ⟨fun pins s σ H D I ⟨O0, H0, os, r, l⟩ => ?_⟩
  obtain ⟨a, ps, g1, g2, g3, g4, g5⟩ := r.own2_at hi
  obtain ⟨q, xs, q1, q2, q3, q4⟩ := inn_at g5 hj hds
  refine wpAny_Assign_Subscript (thn (hv'.run pins s σ H (fun v H1 => Gr T H H1 ∧ Dq (fz (Ow O0 os) H1) v d) I ⟨O0, H0, os, r, fun v H1 g q => ⟨g, q⟩⟩) fun rv s1 ⟨v, H1, I1, rv1, x1, v1⟩ =>
    thn ((pe_ix (pos := p1) ix_list (pe_var hN hv hd hcd) h1 hs1).run pins s1 σ H1 (fun v H2 => v = .ref q ∧ Gr T H1 H2) I1 ⟨_, g2, O0, H0, os, r.gr x1, fun y H2 x2 hy => ?_⟩) fun u s2 ⟨w2, H2, I2, rx2, ex2, x2⟩ => ?_) hs
  · cases hy
    exact ⟨a, _, k1, _, rfl, rfl, SqL.of ((x1.trans x2).ext _ _ g3 fun _ z => by cases z), q2, rfl, x2⟩
  subst ex2
  refine thn (h2.run pins s2 σ H2 (fun v H3 => Gr T H2 H3 ∧ Dq (fz (Ow O0 os) H3) v (.int k2)) I2 ⟨O0, H0, os, r.gr (x1.trans x2), fun v H3 g q => ⟨g, q⟩⟩) fun iv s3 ⟨y, H3, I3, ry, x3, v3⟩ => ?_
  cases v3
  have gx := (x1.trans x2).trans x3
  have h3' : H3 q = some (.lst xs) := gx.ext _ _ q3 fun _ z => by cases z
  refine thn (set_list pins s3 σ H3 (.ref q) (.int k2) v u iv rv (fun H' => D.nx σ H') I3 rx2 ry rv1 ⟨q, xs, k2, j2, rfl, rfl, h3', by rw [q4.length]; exact hj2, ?_⟩) fun _ s4 ⟨H4, I4, w4⟩ => ⟨σ, H4, I4, w4⟩
  have hq : q ∈ os i := by rw [g1]; exact List.mem_cons_of_mem _ (List.mem_of_getElem? q1)
  have hO : Ow O0 os q := .inr ⟨i, hq⟩
  have hF := (fz_ext (O := Ow O0 os) gx.ext)
  have g5' := g5.mono (H' := H3) hF fun b hb => by
    obtain ⟨u, hu, m⟩ := g5.mu b hb
    rw [hu]; exact gx.ext _ _ hu m.1
  refine l.nx _ _ _ kk ⟨os, (r.gr gx).change i (lt_of_get hi) hq Mu.lst ⟨_, g2, a, ps, g1, rfl, ?_, g4, ?_⟩⟩
  · rw [upd_ne (show a ≠ q from fun e => (List.nodup_cons.mp g4).1 (by rw [e]; exact List.mem_of_getElem? q1))]
    exact gx.ext _ _ g3 fun _ z => by cases z
  · refine (g5'.mono (F' := fz (Ow O0 os) H3) Xt.refl fun _ _ => rfl).set Xt.refl ((q4.mv hF).set j2 (v1.mv (fz_ext (x2.trans x3).ext))) (List.nodup_cons.mp g4).2 q1
end
end DL

namespace DL
open PySem PySem.Spec PyProof.Rows L2
section
variable {β : Type} {enc : β → PD} {H : Hp}
theorem each_dqs : ∀ {bs : List β} {xs : List V} {its : List Value}, Vals xs its → Dqs H xs (bs.map enc) → PySem.W.EachIs (fun v b => ∃ x, RelV x v ∧ Dq H x (enc b)) its bs
  | [], _, _, r, h => by
    cases h
    cases r
    exact .nil
  | b :: bs, _, _, r, h => by
    cases h with
    | cons h1 h2 =>
      cases r with
      | cons r1 r2 => exact .cons ⟨_, r1, h1⟩ (each_dqs r2 h2)
theorem dqs_each : ∀ {bs : List β} {its : List Value}, PySem.W.EachIs (fun v b => ∃ x, RelV x v ∧ Dq H x (enc b)) its bs → ∃ xs, Vals xs its ∧ Dqs H xs (bs.map enc)
  | [], _, h => by
    cases h
    exact ⟨[], .nil, .nil⟩
  | b :: bs, _, h => by
    cases h with
    | cons h1 h2 =>
      obtain ⟨x, r1, d1⟩ := h1
      obtain ⟨xs, r2, d2⟩ := dqs_each h2
      exact ⟨x :: xs, .cons r1 r2, .cons d1 d2⟩
end
def rSortD {β : Type} (K : Fr) (enc : β → PD) (bs : List β) : List V → Hp → VK → Prop := fun vs H Q => ∃ (F : Hp) (l : Addr) (xs : List V), vs = [.ref l] ∧ SqL K H l xs ∧ Xt F H ∧ Dqs F xs (bs.map enc) ∧ ∀ ys p, Dqs F ys ((bs.mergeSort (PySem.W.dataLe false enc)).map enc) → H p = none → Q (.ref p) (upd H p (.lst ys))
section
variable {X : Cx} {T : Tb} {S : AS} {β : Type} {enc : β → PD} {bs : List β} {e : Expr} {pos p : Pos}
theorem cr_sortD (hu : X.A.units + 100 < cLine) (hal : PySem.W.AllAlike (bs.map enc)) (hk : PySem.W.Sortable (bs.map enc)) (hdp : ∀ b ∈ bs, (enc b).depth ≤ 64) : CallR X (.builtin "sorted") (rSortD X.K enc bs) := by
  intro pins s σ H vs us Q I r h
  obtain ⟨F, l, xs, rfl, hs, hF, hd, q⟩ := h
  obtain ⟨its, rv, hl, hz⟩ := I.list hs
  rw [Vals.ref1 r]
  have hdH : Dqs H xs (bs.map enc) := hd.mv hF
  obtain ⟨as, ra⟩ := Dp.readsAll I (bs.map enc) xs its (Dqs.dp _ hdH) rv
  have hlen : xs.length = bs.length := by rw [hd.length, List.length_map]
  refine PySem.W.sorted_data (vs := its) (enc := enc) (bs := bs) (R := fun v b => ∃ x, RelV x v ∧ Dq F x (enc b)) hl.isList (each_dqs rv hd) (PySem.W.readsAll_each enc ra) hal hk (by rw [← hlen]; exact hz) (fun b hb => by have := hdp b hb; omega) fun out ol oe => ?_
  obtain ⟨ys, r2, d2⟩ := dqs_each oe
  obtain ⟨ep, he'⟩ := PyProof.Rows.sortedAll_at s.heap its out.toArray
  have hl2 : ys.length ≤ sizeLine := by
    rw [d2.length, List.length_map, List.length_mergeSort, ← hlen]; exact hz
  exact ⟨.ref _, upd H (s.heap.objs.size + 1) (.lst ys), I.laid (t' := s.toks) (fun _ _ => PyProof.Rows.sortedAll_old) (Nat.le_succ _) ⟨hl2, out, ep, r2, he'⟩, rfl, q _ _ d2 (I.hok.fresh (Nat.le_succ _))⟩
/-- sorted(e) of alike data -/
theorem dn_sortD (hu : X.A.units + 100 < cLine) (hal : PySem.W.AllAlike (bs.map enc)) (hk : PySem.W.Sortable (bs.map enc)) (hdp : ∀ b ∈ bs, (enc b).depth ≤ 64) (hm : X.mg "sorted" = none) (he : DE X T e S (.list (bs.map enc))) (hs : starEach [e] X.env = (false, eval e X.env) :: starEach [] X.env := by rfl) (hg : Gl X "sorted" := by rfl) : DN X T (.Call (.Name "sorted" p) [e] [] pos) S ((bs.mergeSort (PySem.W.dataLe false enc)).map enc) :=
  dn_callB (cr_sortD hu hal hk hdp) (fun O H vs Q c hv k => by
    cases hv with
    | cons h1 h2 =>
      cases h2
      cases h1 with
      | lst q1 q2 =>
        refine ⟨fz O H, _, _, rfl, SqL.of (fzl q1), fz_sub, q2, fun ys l d2 hl => k l _ _ (.of hl) (c.new hl) upd_same (d2.mv (fz_add hl))⟩) hm (da_cons he da_nil hs) (by decide +kernel) hg (by decide) (by decide) hs (by rfl)
end
end DL

namespace DL
open PySem PySem.Spec PyProof.Rows L2
/-- a list of one's own at a place known -/
def ownA (p : Addr) (ds : List PD) : SV := ⟨fun F H o v => o = [p] ∧ v = some (.ref p) ∧ ∃ xs, H p = some (.lst xs) ∧ Dqs F xs ds,
  fun e k ⟨h1, h2, xs, h3, h4⟩ => ⟨h1, h2, xs, by rw [k p (by simp [h1])]; exact h3, h4.mv e⟩⟩
/-- a place, nothing owned -/
def at_ (a : Addr) : SV := ⟨fun _ _ o v => o = [] ∧ v = some (.ref a), fun _ _ h => h⟩
def own2A (a : Addr) (ps : List Addr) (dss : List (List PD)) : SV := ⟨fun F H o v => o = a :: ps ∧ v = some (.ref a) ∧ H a = some (.lst (ps.map V.ref)) ∧ (a :: ps).Nodup ∧ InnR F H ps dss,
  fun e k ⟨h1, h2, h3, h4, h5⟩ => ⟨h1, h2, by rw [k a (by simp [h1])]; exact h3, h4, h5.mono e fun b hb => k b (by simp [h1, hb])⟩⟩
section
variable {T : Tb} {O0 : Addr → Prop} {H0 H H' : Hp} {os : Nat → List Addr} {S : AS} {σ : L2.St} {dss : List (List PD)}
theorem RpO.weak (r : RpO T O0 H0 os S σ H) (i : Nat) {s s' : SV} (h : S[i]? = some s) (k : ∀ v, s.rep (fz (Ow O0 os) H) H (os i) v → s'.rep (fz (Ow O0 os) H) H (os i) v) : RpO T O0 H0 os (S.set i s') σ H where
  len := by rw [List.length_set]; exact r.len
  apart := r.apart
  new := r.new
  old := r.old
  ext := r.ext
  tabs := r.tabs
  rep := fun j u hu => by
    by_cases q : j = i
    · subst q
      rw [List.getElem?_set_self (lt_of_get h)] at hu
      cases hu
      obtain ⟨v, h1, h2⟩ := r.rep j s h
      exact ⟨v, h1, k v h2⟩
    · rw [List.getElem?_set_ne (Ne.symm q)] at hu
      exact r.rep j u hu
  out := fun i hi => r.out i (by simpa using hi)
theorem InnR.repl {F F' H H' : Hp} {p : Addr} {xs : List V} {es : List PD} (e : Xt F F') (h1 : H' p = some (.lst xs)) (h2 : Dqs F' xs es) : ∀ {ps : List Addr} {dss : List (List PD)} {j : Nat}, ps.Nodup → InnR F H ps dss → ps[j]? = some p → (∀ q ∈ ps, q ≠ p → H' q = H q) → InnR F' H' ps (dss.set j es)
  | [], _, j, _, h, q, _ => by simp at q
  | r :: ps, _, 0, nd, h, q, hq => by
    simp at q; subst q
    cases h with
    | cons g1 g2 g3 => exact .cons h1 h2 (g3.mono e fun a ha => hq a (List.mem_cons_of_mem _ ha) (show a ≠ r from fun z => (List.nodup_cons.mp nd).1 (by rw [← z]; exact ha)))
  | r :: ps, _, j + 1, nd, h, q, hq => by
    cases h with
    | cons g1 g2 g3 =>
      have q' : ps[j]? = some p := by simpa using q
      refine .cons ?_ (g2.mv e) (InnR.repl e h1 h2 (List.nodup_cons.mp nd).2 g3 q' fun a ha => hq a (List.mem_cons_of_mem _ ha))
      rw [hq r List.mem_cons_self (show r ≠ p from fun z => (List.nodup_cons.mp nd).1 (by rw [z]; exact List.mem_of_getElem? q'))]
      exact g1
theorem le_ownA {p : Addr} {ds : List PD} (i : Nat) (h : S[i]? = some (ownA p ds)) : Le S (S.set i (own ds)) := fun _ _ _ _ _ ⟨os, r⟩ => ⟨os, r.weak i h fun v ⟨h1, h2, xs, h3, h4⟩ => ⟨p, xs, h1, h2, h3, h4⟩⟩
theorem le_own2A {a : Addr} {ps : List Addr} (i : Nat) (h : S[i]? = some (own2A a ps dss)) : Le S (S.set i (own2 dss)) := fun _ _ _ _ _ ⟨os, r⟩ => ⟨os, r.weak i h fun v ⟨h1, h2, h3, h4, h5⟩ => ⟨a, ps, h1, h2, h3, h4, h5⟩⟩
end
section
variable {X : Cx} {T : Tb} {EX : XK} {S S' S1 : AS} {E : En} {d d0 : PD} {ds es : List PD} {dss : List (List PD)} {e e1 e2 a b tg : Expr} {pos p p1 p2 p3 : Pos} {x y : Str} {pa : Addr}
theorem RpO.ownA_at {O0 : Addr → Prop} {H0 H : Hp} {os : Nat → List Addr} {σ : L2.St} (r : RpO T O0 H0 os S σ H) {i : Nat} (h : S[i]? = some (ownA pa ds)) : ∃ xs, os i = [pa] ∧ σ[i]? = some (some (.ref pa)) ∧ H pa = some (.lst xs) ∧ Dqs (fz (Ow O0 os) H) xs ds := by
  obtain ⟨v, h1, h2, rfl, xs, h3, h4⟩ := r.rep i _ h
  exact ⟨xs, h2, h1, h3, h4⟩
theorem de_ixA {i : Int} (j : Nat) (hb : DE X T b S (.int i)) (h : atI ds i = some d) (hi : S[j]? = some (ownA pa ds) := by rfl) (hN : X.N[j]? = some x := by rfl) (hv : Vis X.env.scope x := by first | exact Or.inl rfl | exact Or.inr (Or.inl rfl) | exact Or.inr (Or.inr rfl)) (hd : (x == ("__debug__" : Str)) = false := by decide)
    (hcd : (x == ("__classdict__" : Str)) = false := by decide) (hs : PlainIx b := by exact fun _ _ => rfl) : DE X T (.Subscript (.Name x p2) b pos) S d :=
  pe_of (pe_ix ix_list (pe_var hN hv hd hcd) hb hs) fun σ H Q ⟨O0, H0, os, r, k⟩ => by
    obtain ⟨xs, h2, h1, h3, h4⟩ := r.ownA_at hi
    refine ⟨_, h1, O0, H0, os, r, fun y H2 g2 hy => ?_⟩
    cases hy
    obtain ⟨v, e1, e2⟩ := dqs_atI h4 h
    exact ⟨pa, xs, i, v, rfl, rfl, SqL.of (g2.ext _ _ h3 fun _ z => by cases z), e1, k _ _ g2 (e2.mv (fz_ext g2.ext))⟩
theorem ds_setA (i : Nat) {k : Int} {j : Nat} (he : DE X T e S (.int k)) (hv' : DE X T b S d) (hi : S[i]? = some (ownA pa ds)) (hj : ixN ds.length k = some j) (kk : E.nx (S.set i (ownA pa (ds.set j d)))) (hN : X.N[i]? = some x := by rfl) (hv : Vis X.env.scope x := by first | exact Or.inl rfl | exact Or.inr (Or.inl rfl) | exact Or.inr (Or.inr rfl)) (hd : (x == ("__debug__" : Str)) = false := by decide)
    (hcd : (x == ("__classdict__" : Str)) = false := by decide) (hs : swapsWith b (some (.Subscript (.Name x p) e p2)) pos.line X.env = pure false := by rfl) : DS X T EX (.Assign [.Subscript (.Name x p) e p2] b pos) S E := by
  refine ⟨fun pins s σ H D I ⟨O0, H0, os, r, l⟩ => ?_⟩
  obtain ⟨xs, h1, h2, h3, h4⟩ := r.ownA_at hi
  refine wpAny_Assign_Subscript (thn (hv'.run pins s σ H (fun v H1 => Gr T H H1 ∧ Dq (fz (Ow O0 os) H1) v d) I ⟨O0, H0, os, r, fun v H1 g q => ⟨g, q⟩⟩) fun rv s1 ⟨v, H1, I1, rv1, g1, q1⟩ =>
    thn ((pe_var hN hv hd hcd).run pins s1 σ H1 (fun v H2 => v = .ref pa ∧ H2 = H1) I1 ⟨_, h2, rfl, rfl⟩) fun u s2 ⟨x2, H2, I2, rx2, ex2, eH2⟩ => ?_) hs
  subst ex2
  subst eH2
  refine thn (he.run pins s2 σ H2 (fun v H3 => Gr T H2 H3 ∧ Dq (fz (Ow O0 os) H3) v (.int k)) I2 ⟨O0, H0, os, r.gr g1, fun v H3 g q => ⟨g, q⟩⟩) fun iv s3 ⟨y, H3, I3, ry, g3, q3⟩ => ?_
  cases q3
  have g := g1.trans g3
  have h3' : H3 pa = some (.lst xs) := g.ext _ _ h3 fun _ z => by cases z
  have h4' := h4.mv (fz_ext (O := Ow O0 os) g.ext)
  refine thn (set_list pins s3 σ H3 (.ref pa) (.int k) v u iv rv (fun H' => D.nx σ H') I3 rx2 ry rv1 ⟨pa, xs, k, j, rfl, rfl, h3', by rw [h4.length]; exact hj, ?_⟩) fun _ s4 ⟨H4, I4, q4⟩ => ⟨σ, H4, I4, q4⟩
  exact l.nx _ _ _ kk ⟨os, (r.gr g).change i (lt_of_get hi) (by rw [h1]; exact List.mem_cons_self) Mu.lst ⟨_, h2, h1, rfl, _, upd_same, h4'.set j (q1.mv (fz_ext g3.ext))⟩⟩
theorem de_lenO2 (i : Nat) (hm : X.mg "len" = none) (hi : S[i]? = some (own2 dss) := by rfl) (hN : X.N[i]? = some x := by rfl) (hv : Vis X.env.scope x := by first | exact Or.inl rfl | exact Or.inr (Or.inl rfl) | exact Or.inr (Or.inr rfl)) (hd : (x == ("__debug__" : Str)) = false := by decide)
    (hcd : (x == ("__classdict__" : Str)) = false := by decide) (hg : Gl X "len" := by rfl) : DE X T (.Call (.Name "len" p) [.Name x p1] [] pos) S (.int (dss.length : Nat)) :=
  pe_of (pe_callB call_len_seq hg hm boot_len (pa_cons (pe_var hN hv hd hcd) pa_nil)) fun σ H Q ⟨O0, H0, os, r, k⟩ => by
    obtain ⟨a, ps, h1, h2, h3, h4, h5⟩ := r.own2_at hi
    exact ⟨.ref a, h2, a, ps.map V.ref, rfl, .inl (SqL.of h3), by rw [List.length_map, h5.len]; exact k _ _ r.ec.refl (.int _)⟩
/-- x.append(e), e a new list -/
theorem ds_append2 {apos cpos : Pos} (i : Nat) (he : DN X T e S es) (hi : S[i]? = some (own2 dss)) (k : E.nx (S.set i (own2 (dss ++ [es])))) (hz : dss.length < sizeLine) (hN : X.N[i]? = some x := by rfl) (hv : Vis X.env.scope x := by first | exact Or.inl rfl | exact Or.inr (Or.inl rfl) | exact Or.inr (Or.inr rfl)) (hdb : (x == ("__debug__" : Str)) = false := by decide)
    (hcd : (x == ("__classdict__" : Str)) = false := by decide) (hbase : attributeBase (.Name x p) "append" X.env (eval (.Name x p) X.env) = eval (.Name x p) X.env := by rfl)
    (hfew : ((backTo cpos (starEach [e] X.env)).all (fun x => !x.1) && (backToKw cpos (keywordEach [] X.env)).all (fun x => x.1.isSome) && decide ([e].length + ([] : List Keyword).length + (if ([] : List Keyword).isEmpty then 0 else 1) < 30)) = true := by rfl)
    (hline : (apos.endLine == cpos.line) = true := by rfl) (hs : starEach [e] X.env = (false, eval e X.env) :: starEach [] X.env := by rfl) (hplain : (backTo cpos (starEach [] X.env)).any (·.1) = false := by rfl)
    (hsw : swapsWith (.Call (.Attribute (.Name x p) "append" apos) [e] [] cpos) none pos.line X.env = pure false := by rfl) : DS X T EX (.Expr (.Call (.Attribute (.Name x p) "append" apos) [e] [] cpos) pos) S E := by
  refine ps_of (ps_expr (pe_bm PySem.F.plainAttrs_list PySem.F.slot_list_append PySem.F.type_list_append mt_append (pe_var hN hv hdb hcd) (pa_cons he pa_nil hs) hbase hfew hline hs hplain) hsw) fun D σ H ⟨O0, H0, os, r, l⟩ => ?_
  obtain ⟨a, ps, h1, h2, h3, h4, h5⟩ := r.own2_at hi
  refine ⟨.ref a, h2, .inl ⟨rfl, ps.map V.ref, SqL.of h3⟩, O0, H0, os, r, fun q us H' nq g hq hu => ?_⟩
  have h3' : H' a = some (.lst (ps.map V.ref)) := g.ext _ _ h3 fun _ z => by cases z
  have nqO : ¬ Ow O0 os q := r.free nq
  have nqa : q ≠ a := fun e => nqO (.inr ⟨i, by rw [h1, e]; exact List.mem_cons_self⟩)
  have nqp : q ∉ ps := fun e => nqO (.inr ⟨i, by rw [h1]; exact List.mem_cons_of_mem _ e⟩)
  have nd' : (a :: (ps ++ [q])).Nodup := by
    rw [← List.cons_append, List.nodup_append]
    refine ⟨h4, by simp, fun b hb c hc => ?_⟩
    rw [List.mem_singleton.mp hc]
    rcases List.mem_cons.mp hb with e | hb
    · rw [e]; exact nqa.symm
    · exact fun e => nqp (e ▸ hb)
  refine ⟨a, ps.map V.ref, .ref q, rfl, rfl, h3', by rw [List.length_map, h5.len]; exact hz, ?_⟩
  have hia : a ∈ os i := by rw [h1]; exact List.mem_cons_self
  have nia : ∀ b, b ∈ os i → Nw H0 b := fun b hb => (r.new i b hb).2.1
  have hil := lt_of_get hi
  have ow : ∀ {b : Addr}, Ow O0 (fun j => if j = i then a :: (ps ++ [q]) else os j) b → Ow O0 os b ∨ b = q := fun {b} h => by
    rcases h with h | ⟨k, h⟩
    · exact .inl (.inl h)
    · dsimp only at h
      split at h
      · rename_i e
        rcases List.mem_cons.mp h with h | h
        · exact .inl (.inr ⟨i, by rw [h]; exact hia⟩)
        · rcases List.mem_append.mp h with h | h
          · exact .inl (.inr ⟨i, by rw [h1]; exact List.mem_cons_of_mem _ h⟩)
          · exact .inr (List.mem_singleton.mp h)
      · exact .inl (.inr ⟨k, h⟩)
  have r2 := r.gr g
  have nqH0 : Nw H0 q := nq.back r.ext
  have fo : Xt (fz (fun b => Ow O0 os b ∨ b = q) H') (fz (Ow O0 fun j => if j = i then a :: (ps ++ [q]) else os j) (upd H' a (.lst (ps.map V.ref ++ [V.ref q])))) := fun b u q1 m => by
    obtain ⟨q2, q3⟩ := fz_some q1
    rw [fz_out (fun z => q2 (ow z)), upd_ne (fun e => q2 (.inl (.inr ⟨i, by rw [e]; exact hia⟩)))]
    exact q3
  have fo2 : Xt (fz (Ow O0 os) H) (fz (Ow O0 fun j => if j = i then a :: (ps ++ [q]) else os j) (upd H' a (.lst (ps.map V.ref ++ [V.ref q])))) := fun b u q1 m => by
    obtain ⟨q2, q3⟩ := fz_some q1
    refine fo b u ?_ m
    rw [fz_out]
    · exact g.ext b u q3 m
    · rintro (z | z)
      · exact q2 z
      · exact nq u (by rw [← z]; exact q3) m
  refine l.nx _ _ _ k ⟨fun j => if j = i then a :: (ps ++ [q]) else os j, by rw [List.length_set]; exact r.len, fun j m b hb hc => ?_, fun j b hb => ?_, r.old, fun b u q1 m => ?_, tabs_upd g.tabs h3' Mu.lst, fun j s hs' => ?_, fun j hj => ?_⟩
  · have key : ∀ j, b ∈ (if j = i then a :: (ps ++ [q]) else os j) → b ≠ q → b ∈ os j := fun j h ne => by
      split at h
      · rename_i e
        rw [e, h1]
        rcases List.mem_cons.mp h with h | h
        · rw [h]; exact List.mem_cons_self
        · rcases List.mem_append.mp h with h | h
          · exact List.mem_cons_of_mem _ h
          · exact absurd (List.mem_singleton.mp h) ne
      · exact h
    by_cases e : b = q
    · subst e
      have key2 : ∀ j, b ∈ (if j = i then a :: (ps ++ [b]) else os j) → j = i := fun j h => by
        split at h
        · assumption
        · exact absurd (.inr ⟨j, h⟩) nqO
      rw [key2 j hb, key2 m hc]
    · exact r.apart j m b (key j hb e) (key m hc e)
  · by_cases e : b = q
    · subst e
      refine ⟨fun z => nqO (.inl z), nqH0, _, ?_, Mu.lst (xs := us)⟩
      rw [upd_ne nqa]; exact hq
    · have hb' : b ∈ os j := by
        try dsimp only at hb
        split at hb
        · rename_i e2
          rw [e2, h1]
          rcases List.mem_cons.mp hb with h | h
          · rw [h]; exact List.mem_cons_self
          · rcases List.mem_append.mp h with h | h
            · exact List.mem_cons_of_mem _ h
            · exact absurd (List.mem_singleton.mp h) e
        · exact hb
      obtain ⟨n1, n2, u, n3, n4⟩ := r2.new j b hb'
      refine ⟨n1, n2, ?_⟩
      by_cases e2 : b = a
      · rw [e2, upd_same]; exact ⟨_, rfl, Mu.lst⟩
      · rw [upd_ne e2]; exact ⟨u, n3, n4⟩
  · rw [upd_ne (fun e => nia a hia u (by rw [← e]; exact q1) m)]
    exact r2.ext b u q1 m
  · by_cases e : j = i
    · subst e
      rw [List.getElem?_set_self hil] at hs'
      cases hs'
      refine ⟨_, h2, a, ps ++ [q], if_pos rfl, rfl, by simp [upd_same], nd', ?_⟩
      refine InnR.snoc (xs := us) ?_ (hu.mv fo) (h5.mono fo2 fun b hb => ?_)
      · rw [upd_ne nqa]; exact hq
      · rw [upd_ne (show b ≠ a from fun e => (List.nodup_cons.mp h4).1 (by rw [← e]; exact hb))]
        obtain ⟨u, hu2, m⟩ := h5.mu b hb
        rw [hu2]
        exact g.ext _ _ hu2 m.1
    · rw [List.getElem?_set_ne (Ne.symm e)] at hs'
      obtain ⟨v, v1, v2⟩ := r.rep j s hs'
      refine ⟨v, v1, ?_⟩
      rw [if_neg e]
      refine s.mono fo2 (fun b hb => ?_) v2
      rw [upd_ne (show b ≠ a from fun z => e (r.apart j i b hb (by rw [z]; exact hia)))]
      obtain ⟨_, _, u, n3, n4⟩ := r.new j b hb
      rw [n3]; exact g.ext.at n3 n4
  · try dsimp only
    rw [if_neg (by have := hil; simp at hj; omega)]
    exact r.out j (by simpa using hj)
/-- what the inner state of the walk is, and how it comes back -/
theorem own2_in {O0 : Addr → Prop} {Hb H : Hp} {os : Nat → List Addr} {σ : L2.St} {k j i : Nat} {aa q : Addr} {ps : List Addr} (r : RpO T O0 Hb os ((S.set k (own2A aa ps dss)).set j un) σ H) (hk : k < S.length) (hj : j < S.length) (hkj : k ≠ j) (hq : ps[i]? = some q) (hd : dss[i]? = some ds)
    : ∃ H1, RpO T (fun b => O0 b ∨ (b ∈ aa :: ps ∧ b ≠ q)) H1 (fun m => if m = j then [q] else if m = k then [] else os m) ((S.set k (at_ aa)).set j (ownA q ds)) (σ.set j (some (.ref q))) H ∧
      ∀ {σ' : L2.St} {H' : Hp} {os' : Nat → List Addr} {es : List PD}, RpO T (fun b => O0 b ∨ (b ∈ aa :: ps ∧ b ≠ q)) H1 os' ((S.set k (at_ aa)).set j (ownA q es)) σ' H' → Rp T O0 Hb ((S.set k (own2A aa ps (dss.set i es))).set j un) σ' H' := by
  have gk : ∀ s s' : SV, ((S.set k s).set j s')[k]? = some s := fun s s' => by rw [List.getElem?_set_ne (Ne.symm hkj), List.getElem?_set_self hk]
  have gj : ∀ s s' : SV, ((S.set k s).set j s')[j]? = some s' := fun s s' => List.getElem?_set_self (by simpa using hj)
  have go : ∀ (s s' : SV) (m : Nat), m ≠ k → m ≠ j → ((S.set k s).set j s')[m]? = S[m]? := fun s s' m h1 h2 => by rw [List.getElem?_set_ne (Ne.symm h2), List.getElem?_set_ne (Ne.symm h1)]
  obtain ⟨vk, k1, k2, rfl, k3, k4, k5⟩ := r.rep k _ (gk _ _)
  obtain ⟨vj, j1, j2⟩ := r.rep j _ (gj _ _)
  have j2 : os j = [] := j2
  obtain ⟨q', xs, e1, e2, e3⟩ := k5.get hd
  have eq : q' = q := by rw [hq] at e1; exact (Option.some.inj e1).symm
  subst eq
  have qps : q' ∈ ps := List.mem_of_getElem? hq
  have qne : q' ≠ aa := fun e => (List.nodup_cons.mp k4).1 (by rw [← e]; exact qps)
  have qos : q' ∈ os k := by rw [k2]; exact List.mem_cons_of_mem _ qps
  have aos : aa ∈ os k := by rw [k2]; exact List.mem_cons_self
  have hOw : Ow (fun b => O0 b ∨ (b ∈ aa :: ps ∧ b ≠ q')) (fun m => if m = j then [q'] else if m = k then [] else os m) = Ow O0 os := funext fun b => propext ⟨fun h => by
    rcases h with (h | ⟨h, _⟩) | ⟨m, h⟩
    · exact .inl h
    · exact .inr ⟨k, by rw [k2]; exact h⟩
    · dsimp only at h
      split at h
      · rw [List.mem_singleton.mp h]; exact .inr ⟨k, qos⟩
      · split at h
        · cases h
        · exact .inr ⟨m, h⟩, fun h => by
    rcases h with h | ⟨m, h⟩
    · exact .inl (.inl h)
    · by_cases e : m = k
      · subst e
        rw [k2] at h
        by_cases e2 : b = q'
        · exact .inr ⟨j, by dsimp only; rw [if_pos rfl, e2]; exact List.mem_cons_self⟩
        · exact .inl (.inr ⟨h, e2⟩)
      · have : m ≠ j := fun z => by rw [z, j2] at h; cases h
        exact .inr ⟨m, by dsimp only; rw [if_neg this, if_neg e]; exact h⟩⟩
  have hC : RpC T (fun b => O0 b ∨ (b ∈ aa :: ps ∧ b ≠ q')) (fun m => if m = j then [q'] else if m = k then [] else os m) ((S.set k (at_ aa)).set j (ownA q' ds)) (σ.set j (some (.ref q'))) H := by
    refine ⟨by simpa using r.len, fun m n b hb hc => ?_, fun m b hb => ?_, fun b hb => ?_, r.tabs, fun m s hs => ?_, fun m hm => ?_⟩
    · try dsimp only at hb hc
      split at hb
      · rename_i z1
        split at hc
        · rename_i z2; rw [z1, z2]
        · split at hc
          · cases hc
          · rename_i z2 z3
            rw [List.mem_singleton.mp hb] at hc
            exact absurd (r.apart n k q' hc qos) z3
      · split at hb
        · cases hb
        · rename_i y1 y2
          split at hc
          · rw [List.mem_singleton.mp hc] at hb
            exact absurd (r.apart m k q' hb qos) y2
          · split at hc
            · cases hc
            · exact r.apart m n b hb hc
    · try dsimp only at hb
      split at hb
      · rw [List.mem_singleton.mp hb]
        refine ⟨fun z => ?_, (r.new k q' qos).2.2⟩
        rcases z with z | z
        · exact (r.new k q' qos).1 z
        · exact z.2 rfl
      · split at hb
        · cases hb
        · rename_i y1 y2
          refine ⟨fun z => ?_, (r.new m b hb).2.2⟩
          rcases z with z | z
          · exact (r.new m b hb).1 z
          · exact y2 (r.apart m k b hb (by rw [k2]; exact z.1))
    · rcases hb with hb | hb
      · exact r.allo (.inl hb)
      · exact r.allo (.inr ⟨k, by rw [k2]; exact hb.1⟩)
    · rw [hOw]
      by_cases m1 : m = j
      · subst m1
        rw [gj] at hs; cases hs
        refine ⟨_, List.getElem?_set_self (by rw [r.len]; simpa using hj), if_pos rfl, rfl, xs, e2, e3⟩
      · rw [List.getElem?_set_ne (Ne.symm m1)]
        by_cases m2 : m = k
        · subst m2
          rw [gk] at hs; cases hs
          exact ⟨_, k1, by rw [if_neg m1, if_pos rfl], rfl⟩
        · rw [go _ _ m m2 m1] at hs
          obtain ⟨v, v1, v2⟩ := r.rep m s (by rw [go _ _ m m2 m1]; exact hs)
          exact ⟨v, v1, by rw [if_neg m1, if_neg m2]; exact v2⟩
    · have : S.length ≤ m := by simpa using hm
      try dsimp only
      rw [if_neg (by omega), if_neg (by omega)]
      exact r.out m (by simpa using this)
  refine ⟨_, hC.based, fun {σ' H' os' es} r3 => ?_⟩
  have Hb1 : Xt Hb (fz (owned fun m => if m = j then [q'] else if m = k then [] else os m) H) := fun b u h1 h2 => by
    rw [fz_out]
    · exact r.ext b u h1 h2
    · rintro ⟨m, hm⟩
      try dsimp only at hm
      split at hm
      · exact (r.new k q' qos).2.1 u (by rw [← List.mem_singleton.mp hm]; exact h1) h2
      · split at hm
        · cases hm
        · exact (r.new m b hm).2.1 u h1 h2
  obtain ⟨wk, w1, w2, w3⟩ := r3.rep k _ (gk _ _)
  obtain ⟨wj, y1, y2, rfl, xs', y3, y4⟩ := r3.rep j _ (gj _ _)
  have w3 : wk = some (.ref aa) := w3
  have w2 : os' k = [] := w2
  subst w3
  have qos' : q' ∈ os' j := by rw [y2]; exact List.mem_cons_self
  have hOw' : Ow O0 (fun m => if m = k then aa :: ps else if m = j then [] else os' m) = Ow (fun b => O0 b ∨ (b ∈ aa :: ps ∧ b ≠ q')) os' := funext fun b => propext ⟨fun h => by
    rcases h with h | ⟨m, h⟩
    · exact .inl (.inl h)
    · dsimp only at h
      split at h
      · by_cases e : b = q'
        · exact .inr ⟨j, by rw [e]; exact qos'⟩
        · exact .inl (.inr ⟨h, e⟩)
      · split at h
        · cases h
        · exact .inr ⟨m, h⟩, fun h => by
    rcases h with (h | ⟨h, _⟩) | ⟨m, h⟩
    · exact .inl h
    · exact .inr ⟨k, by dsimp only; rw [if_pos rfl]; exact h⟩
    · by_cases e : m = j
      · rw [e, y2] at h
        exact .inr ⟨k, by dsimp only; rw [if_pos rfl, List.mem_singleton.mp h]; exact List.mem_cons_of_mem _ qps⟩
      · by_cases e2 : m = k
        · rw [e2, w2] at h; cases h
        · exact .inr ⟨m, by dsimp only; rw [if_neg e2, if_neg e]; exact h⟩⟩
  have hF : Xt (fz (Ow O0 os) H) (fz (Ow (fun b => O0 b ∨ (b ∈ aa :: ps ∧ b ≠ q')) os') H') := by
    refine Xt.trans (fun b u h1 h2 => ?_) r3.base
    rw [← hOw] at h1
    obtain ⟨z1, z2⟩ := fz_some h1
    rw [fz_out (fun z => z1 (.inl z)), fz_out (fun z => z1 (.inr z))]
    exact z2
  have same : ∀ b ∈ aa :: ps, b ≠ q' → H' b = H b := fun b hb hne => by
    obtain ⟨u, hu, m⟩ := r.allo (.inr ⟨k, by rw [k2]; exact hb⟩ : Ow O0 os b)
    rw [hu]
    refine r3.ext b u ?_ m.1
    rw [fz_out]
    · exact hu
    · rintro ⟨n, hn⟩
      try dsimp only at hn
      split at hn
      · exact hne (List.mem_singleton.mp hn)
      · split at hn
        · cases hn
        · rename_i z1 z2
          exact z2 (r.apart n k b hn (by rw [k2]; exact hb))
  refine ⟨fun m => if m = k then aa :: ps else if m = j then [] else os' m, by simpa using r3.len, fun m n b hb hc => ?_, fun m b hb => ?_, r.old, Hb1.trans r3.ext, r3.tabs, fun m s hs => ?_, fun m hm => ?_⟩
  · have key : ∀ m, m ≠ k → m ≠ j → b ∈ os' m → b ∉ aa :: ps := fun m m1 m2 h1 h2 => by
      by_cases e : b = q'
      · rw [e] at h1; exact m2 (r3.apart m j q' h1 qos')
      · exact (r3.new m b h1).1 (.inr ⟨h2, e⟩)
    try dsimp only at hb hc
    split at hb
    · rename_i z1
      split at hc
      · rename_i z2; rw [z1, z2]
      · split at hc
        · cases hc
        · rename_i z2 z3; exact absurd hb (key n z2 z3 hc)
    · split at hb
      · cases hb
      · rename_i z1 z2
        split at hc
        · exact absurd hc (key m z1 z2 hb)
        · split at hc
          · cases hc
          · exact r3.apart m n b hb hc
  · try dsimp only at hb
    split at hb
    · have hb' : b ∈ os k := by rw [k2]; exact hb
      refine ⟨(r.new k b hb').1, (r.new k b hb').2.1, ?_⟩
      by_cases e : b = q'
      · rw [e]; exact ⟨_, y3, Mu.lst⟩
      · exact r3.allo (.inl (.inr ⟨hb, e⟩))
    · split at hb
      · cases hb
      · obtain ⟨n1, n2, n3⟩ := r3.new m b hb
        exact ⟨fun z => n1 (.inl z), fun u h1 h2 => n2 u (Hb1 b u h1 h2) h2, n3⟩
  · rw [hOw']
    by_cases m2 : m = k
    · subst m2
      rw [gk] at hs; cases hs
      refine ⟨_, w1, if_pos rfl, rfl, ?_, k4, ?_⟩
      · rw [same aa List.mem_cons_self (Ne.symm qne)]; exact k3
      · exact k5.repl hF y3 y4 (List.nodup_cons.mp k4).2 hq fun b hb hne => same b (List.mem_cons_of_mem _ hb) hne
    · by_cases m1 : m = j
      · subst m1
        rw [gj] at hs; cases hs
        exact ⟨_, y1, by rw [if_neg m2, if_pos rfl]; rfl⟩
      · rw [go _ _ m m2 m1] at hs
        obtain ⟨v, v1, v2⟩ := r3.rep m s (by rw [go _ _ m m2 m1]; exact hs)
        exact ⟨v, v1, by rw [if_neg m2, if_neg m1]; exact v2⟩
  · have : S.length ≤ m := by simpa using hm
    try dsimp only
    rw [if_neg (by omega), if_neg (by omega)]
    exact r3.out m (by simpa using this)
abbrev Enx (M : AS → Prop) : En := { nx := M, rt := fun _ => False, bk := fun _ => False, ct := fun _ => False, ex := fun _ => False, rv := fun _ => False }
/-- for y in x[:n]: .., x a list of lists of one's own; each is changed by y -/
theorem ds_forO2 (k j n : Nat) {hi : Expr} (f : List PD → List PD) {body : List Stmt} (hk : S[k]? = some (own2 dss)) (hj : S[j]? = some un) (hkj : k ≠ j) (hn : n ≤ dss.length) (hu : DO X T (some hi) S (some (n : Nat)))
    (hb : ∀ (aa q : Addr) (i : Nat) (ds : List PD), dss[i]? = some ds → i < n → DSs X T EX body ((S.set k (at_ aa)).set j (ownA q ds)) (Enx fun S' => Le S' ((S.set k (at_ aa)).set j (ownA q (f ds)))))
    (he : E.nx ((S.set k (own2 ((dss.take n).map f ++ dss.drop n))).set j un))
    (hp : PassesOwn (model X.prog X.w) X.A X.env X.xe) (hc : X.calm = true) (nd : X.N.Nodup) (hN : X.N[k]? = some x := by rfl) (hv : Vis X.env.scope x := by first | exact Or.inl rfl | exact Or.inr (Or.inl rfl) | exact Or.inr (Or.inr rfl)) (hd : (x == ("__debug__" : Str)) = false := by decide)
    (hcd : (x == ("__classdict__" : Str)) = false := by decide) (hNj : X.N[j]? = some y := by rfl) (hy : Loc X.env.scope y := by first | exact Or.inl rfl | exact Or.inr rfl) (hf : X.fn y = true ∨ X.env.scope.names.lookup y = some .local := by first | exact .inl rfl | exact .inr rfl)
    (hs : ∀ z, foldedSetIterable (.Subscript (.Name x p) (.Slice none (some hi) none p2) p3) X.env z = pure z := by intro _; rfl) : DS X T EX (.For (.Name y p1) (.Subscript (.Name x p) (.Slice none (some hi) none p2) p3) body [] pos) S E := by
  refine ps_of (ps_for hp hc (pi_list (pe_slice sl_list (pe_var hN hv hd hcd) (do_none (T := T) (S := S)) hu)) (pg_name nd hNj hy hf) (pss_any (P := fun z : Addr × Addr × Nat × List PD => dss[z.2.2.1]? = some z.2.2.2 ∧ z.2.2.1 < n) fun z hz => hb z.1 z.2.1 z.2.2.1 z.2.2.2 hz.1 hz.2) hs) fun D σ H ⟨O0, H0, os, r, l⟩ => ?_
  obtain ⟨aa, ps, g1, g2, g3, g4, g5⟩ := r.own2_at hk
  have hkl := lt_of_get hk
  have hjl := lt_of_get hj
  refine ⟨.ref aa, g2, O0, H0, os, r, fun H1 x1 => ⟨O0, H0, os, r.gr x1, fun H2 x2 => ?_⟩⟩
  have x12 := x1.trans x2
  have g3' : H2 aa = some (.lst (ps.map V.ref)) := x12.ext _ _ g3 fun _ z => by cases z
  refine ⟨aa, _, rfl, SqL.of g3', fun q hq => ?_⟩
  have hcut : cutV (ps.map V.ref) none (some ((n : Nat) : Int)) = (ps.take n).map V.ref := by
    unfold cutV
    rw [HT.sIx_none, HT.sIx_nat, List.length_map, g5.len, Nat.min_eq_left hn, Nat.sub_zero, List.drop_zero, List.map_take]
  rw [hcut]
  have gq := (x12.trans ((r.gr x12).ec.new (o := .lst ((ps.take n).map V.ref)) hq))
  refine ⟨q, rfl, ⟨_, SqL.of upd_same⟩, ?_⟩
  have r1 := r.gr gq
  have rb := r1.rebase
  have e0 := r1.rebased
  have lb := l.base e0 r.old
  have hlen : ((ps.take n).map V.ref).length = n := by rw [List.length_map, List.length_take, g5.len, Nat.min_eq_left hn]
  have wk : Walk (Itl X.K q) n (fun H => SqL X.K H q ((ps.take n).map V.ref)) (YAt ((ps.take n).map V.ref)) := by
    have := walk_list (K := X.K) (a := q) (xs := (ps.take n).map V.ref)
    rwa [hlen] at this
  have nO : ∀ i, q ∉ os i := fun i h => by
    obtain ⟨u, hu, _⟩ := r.allo (.inr ⟨i, h⟩ : Ow O0 os q)
    rw [x12.ext _ _ hu (by obtain ⟨_, _, u', h1, h2⟩ := r.new i q h; rw [hu] at h1; cases h1; exact h2.1)] at hq
    cases hq
  let F := fun i => (dss.take i).map f ++ dss.drop i
  have Fat : ∀ i, i < n → ∀ ds, dss[i]? = some ds → (F i)[i]? = some ds ∧ (F i).set i (f ds) = F (i + 1) := fun i hi ds hds => by
    have hl : ((dss.take i).map f).length = i := by rw [List.length_map, List.length_take]; omega
    have hdr : dss.drop i = ds :: dss.drop (i + 1) := by
      obtain ⟨h1, h2⟩ := List.getElem?_eq_some_iff.mp hds
      rw [← h2]; exact List.drop_eq_getElem_cons h1
    constructor
    · show ((dss.take i).map f ++ dss.drop i)[i]? = some ds
      rw [List.getElem?_append_right (by omega), hl, Nat.sub_self, hdr]; rfl
    · show ((dss.take i).map f ++ dss.drop i).set i (f ds) = (dss.take (i + 1)).map f ++ dss.drop (i + 1)
      rw [List.set_append_right _ _ (by omega), hl, Nat.sub_self, hdr, List.take_add_one, hds]
      simp
  refine for_it (g := gName j) (tb := fun D σ H => ∃ z : Addr × Addr × Nat × List PD, (dss[z.2.2.1]? = some z.2.2.2 ∧ z.2.2.1 < n) ∧ tS T EX ((S.set k (at_ z.1)).set j (ownA z.2.1 z.2.2.2)) (Enx fun S' => Le S' ((S.set k (at_ z.1)).set j (ownA z.2.1 (f z.2.2.2)))) D σ H) (D := D) wk (fun i σ H => Rp T O0 (fz (owned os) (upd H2 q (.lst ((ps.take n).map V.ref)))) ((S.set k (own2A aa ps (F i))).set j un) σ H) ?_ (fun i σ' H' _ ⟨_, r'⟩ => ?_) (fun i x σ' H3 H4 hi' ⟨os', r'⟩ yd => ?_) (fun σ' H' rr => ?_)
  · refine le_un j T O0 _ σ _ ⟨os, rb.weak k hk fun v hv => ?_⟩
    obtain ⟨a2, ps2, h1, rfl, h3, h4, h5⟩ := hv
    rw [g1] at h1
    cases h1
    exact ⟨g1, rfl, h3, h4, by simpa [F] using h5⟩
  · refine SqL.of (r'.ext q _ ?_ fun _ z => by cases z)
    rw [fz_out (fun ⟨i, z⟩ => nO i z)]
    exact upd_same
  · obtain ⟨rfl, hx⟩ := yd
    obtain ⟨ds, hds⟩ : ∃ ds, dss[i]? = some ds := ⟨dss[i], by simp [show i < dss.length by omega]⟩
    obtain ⟨f1, f2⟩ := Fat i hi' ds hds
    rw [List.getElem?_map, List.getElem?_take, if_pos hi'] at hx
    obtain ⟨pi, hpi, rfl⟩ := Option.map_eq_some_iff.mp hx
    obtain ⟨H5, r5, back⟩ := own2_in r' hkl hjl hkj hpi f1
    refine ⟨(aa, pi, i, ds), ⟨hds, hi'⟩, _, _, _, r5, ⟨fun S' σ3 H6 m rr => ?_, fun _ _ _ h => h.elim, fun _ _ _ h => h.elim, fun _ _ _ h => h.elim, fun _ _ h => h.elim, fun _ _ _ _ h => h.elim⟩⟩
    obtain ⟨os3, r3⟩ := m _ _ _ _ _ rr
    have := back r3
    rw [f2] at this
    exact this
  · obtain ⟨os', r'⟩ := rr
    have hk' : ((S.set k (own2A aa ps (F n))).set j un)[k]? = some (own2A aa ps (F n)) := by rw [List.getElem?_set_ne (Ne.symm hkj), List.getElem?_set_self hkl]
    have r2 := r'.weak k hk' (s' := own2 (F n)) fun v ⟨h1, h2, h3, h4, h5⟩ => ⟨aa, ps, h1, h2, h3, h4, h5⟩
    rw [List.set_comm _ _ hkj.symm, List.set_set] at r2
    exact lb.nx _ σ' H' he ⟨os', r2⟩
end
end DL

namespace DL
open PySem PySem.Spec PyProof.Rows L2
section
variable {prog : Program} {w : World} {A : Around} {E : Value → Shared → Prop} {s : Shared}
theorem applied_two {sl : Addr} {vs : Value} {Q : Int × Int × Nat → Shared → Prop} (hs : s.heap.IsSliceOf sl .none .none vs) (ps : IsPart vs (some 2))
    (h : Q (0, 2, 2) s) : wpAny (model prog w) A (Builtin.Slice.sliceApplied (.ref sl) (pure (3 : Int))) Q E s := by
  obtain ⟨os, hos, hcs, hds⟩ := id hs
  unfold Builtin.Slice.sliceApplied Builtin.Slice.sliceFields
  refine wpAny_bind (wpAny_bind (wpAny_field hos hds (x := .none) rfl (wpAny_bind (wpAny_field hos hds (x := .none) rfl (wpAny_bind (wpAny_field hos hds (x := vs) rfl (wpAny_pure ?_)))))))
  refine wpAny_bind (HT.slicePart_ ps ?_)
  show wpAny _ _ (if ((2 : Int) == 0) = true then _ else _) _ _ s
  rw [if_neg (by decide)]
  refine wpAny_bind (HT.slicePart_ .none (wpAny_bind (HT.slicePart_ .none (wpAny_bind (wpAny_pure ?_)))))
  show wpAny _ _ (match Builtin.Slice.sliceAdjust none none 2 (3 : Int) with | (lo, hi) => pure (lo, (2 : Int), Builtin.Slice.slicePlaces lo hi 2)) _ _ s
  rw [show Builtin.Slice.sliceAdjust none none 2 (3 : Int) = (0, 3) from by decide]
  show wpAny _ _ (pure ((0 : Int), (2 : Int), Builtin.Slice.slicePlaces 0 3 2)) _ _ s
  rw [show Builtin.Slice.slicePlaces 0 3 2 = 2 from by decide]
  exact wpAny_pure h
theorem getItem_tuple_two {t sl : Addr} {items : Array Value} {vs : Value} {Q : Value → Shared → Prop} {x y z : Value} (hi : items = #[x, y, z]) (ht : IsTup s.heap t items) (hs : s.heap.IsSliceOf sl .none .none vs) (ps : IsPart vs (some 2))
    (h : Q (.ref s.heap.objs.size) { s with heap := s.heap.push { cls := .type "tuple", data := .seq #[x, z] } }) : wpAny (model prog w) A (getItem (.ref t) (.ref sl)) Q E s := by
  subst hi
  have htake : sizeOk (.seq #[x, z]) := by
    show 2 ≤ sizeLine
    rw [sizeLine_eq]; decide
  obtain ⟨os, hos, hcs, hds⟩ := id hs
  have hTs : s.TypeIs (.ref sl) "slice" := ⟨os, hos, hcs⟩
  unfold getItem
  try with_reducible refine wpAny_holding ?_
  first | refine wpAny_bind (wpAny_pure ?_) | skip
  refine wpAny_bind (wpAny_sequenceKey ht.typeIs (by decide) ?_)
  refine wpAny_bind (wpAny_callSpecial?_slot (name := Str.ofString "__getitem__") ht.typeIs PyProof.Rows.slot_tuple_getitem
    (wpAny_call_entry PyProof.Rows.slot_tuple_getitem ht.typeIs entry_tuple_getitem ?_ (args_tuple_getitem _ _)))
  show wpAny _ _ (Builtin.Tuple.tupleItemsOf (.ref t) >>= _) _ _ s
  refine wpAny_bind (tupleItemsOf_ ht ?_)
  refine wpAny_bind (wpAny_typeOf hTs ?_)
  rw [if_pos (by decide)]
  refine wpAny_bind (applied_two hs ps ?_)
  show wpAny _ _ (if (((0 : Int)) == 0 && (2 : Int) == 1 && 2 == 3) = true then _ else _) _ _ s
  rw [if_neg (by decide)]
  first
    | exact wpAny_bind (m := Builtin.Tuple.tupleExact _) (wpAny_newObj_type (wpAny_pure ⟨_, rfl, wpAny_pure h⟩) htake)
    | exact wpAny_bind (m := Builtin.Tuple.tupleExact _) (wpAny_newObj_type (wpAny_bind (wpAny_pure (wpAny_pure ⟨_, rfl, wpAny_pure h⟩))) htake)
    | exact wpAny_bind (wpAny_bind (m := Builtin.Tuple.tupleExact _) (wpAny_newObj_type (wpAny_pure (wpAny_pure ⟨_, rfl, wpAny_pure h⟩)) htake))
    | exact wpAny_bind (wpAny_bind (m := Builtin.Tuple.tupleExact _) (wpAny_newObj_type (wpAny_pure ⟨_, rfl, wpAny_pure h⟩) htake))
end
section
variable {X : Cx} {T : Tb} {S : AS} {a : Expr} {pos : Pos} {d1 d2 d3 : PD}
def tTwoT (K : PySem.W.Frag) (te : TE) : TE := fun σ H Q => te σ H fun x H1 => ∃ a u v w, x = .ref a ∧ SqT K H1 a [u, v, w] ∧ ∀ p, H1 p = none → Q (.ref p) (upd H1 p (.tup [u, w]))
theorem pe_twoT {e : Expr} {te : TE} {k : Nat} {p1 p3 pos : Pos} (he : PE X e te) : PE X (.Subscript e (.Slice none none (some (.Constant (.int 2) k p1)) p3) pos) (tTwoT X.K te) := by
  refine ⟨fun pins s σ H Q I h => ?_⟩
  refine Subscript_ (thn (he.run pins s σ H _ I h) fun v s1 ⟨x, H1, I1, r1, q1⟩ => ?_)
  obtain ⟨a, u1, u2, u3, ex, hx, q⟩ := q1
  subst ex
  cases r1
  have hst : PO X (some (.Constant (.int 2) k p1)) (tPart (tC (.int 2))) := po_some pe_int
  refine wpAny_Slice (thn (po_none.run pins s1 σ H1 (fun o H2 => o = none ∧ H2 = H1) I1 ⟨rfl, rfl⟩) fun vl s2 ⟨l, H2, I2, pl, el, e2⟩ => ?_)
  subst el e2
  cases pl
  refine thn (po_none.run pins s2 σ H2 (fun o H3 => o = none ∧ H3 = H2) I2 ⟨rfl, rfl⟩) fun vu s3 ⟨u, H3, I3, pu, eu, e3⟩ => ?_
  subst eu e3
  cases pu
  refine thn (hst.run pins s3 σ H3 (fun o H4 => o = some 2 ∧ H4 = H3) I3 ⟨2, rfl, rfl, rfl⟩) fun vs s4 ⟨o, H4, I4, ps, eo, e4⟩ => ?_
  subst eo e4
  have I5 : Inv X pins σ H4 { s4 with heap := s4.heap.push { cls := .type "slice", data := .fields #[.none, .none, vs] } } := I4.kept (t' := s4.toks) fun b ob q => Heap.get?_push_of_some _ q
  obtain ⟨its, r, ht, hz⟩ := I5.tuple hx
  cases r with
  | cons r1 r =>
  cases r with
  | cons r2 r =>
  cases r with
  | cons r3 r =>
  cases r
  show wpAny (model X.prog X.w) X.A (subscriptTail e (.Slice none none (some (.Constant (.int 2) k p1)) p3) (.ref a) (.ref s4.heap.objs.size)) (EP X pins σ Q) X.xe { s4 with heap := s4.heap.push { cls := .type "slice", data := .fields #[.none, .none, vs] } }
  refine tail_any (ops := [.ref a, .ref s4.heap.objs.size]) ht.typeIs (PyProof.Rows.slot_tuple_getitem.lookup) ?_ (by with_unfolding_all rfl)
  refine getItem_tuple_two rfl ht (Heap.IsSliceOf.new _ .none .none vs) ps ?_
  refine ⟨.ref _, _, I5.laid (t' := s4.toks) (o := .tup [u1, u3]) (fun b ob q => Heap.get?_push_of_some _ q) (Nat.le_refl _) ?_, rfl, q _ (I5.hok.fresh (Nat.le_refl _))⟩
  exact ⟨by show 2 ≤ sizeLine; rw [sizeLine_eq]; decide, _, .cons r1 (.cons r3 .nil), IsTup.new _ _⟩
theorem de_twoT {k : Nat} {p1 p3 : Pos} (ha : DE X T a S (.tuple [d1, d2, d3])) : DE X T (.Subscript a (.Slice none none (some (.Constant (.int 2) k p1)) p3) pos) S (.tuple [d1, d3]) :=
  pe_of (pe_twoT ha) fun σ H Q ⟨O0, H0, os, r, k⟩ => ⟨O0, H0, os, r, fun x H1 g1 h1 => by
    cases h1 with
    | tup q1 q2 =>
      cases q2 with
      | cons z1 q2 =>
      cases q2 with
      | cons z2 q2 =>
      cases q2 with
      | cons z3 q2 =>
      cases q2
      exact ⟨_, _, _, _, rfl, SqT.of (fzl q1), fun p hp => k _ _ (g1.trans ((r.gr g1).ec.new hp)) (dq_newT (r.gr g1).ec hp (.cons z1 (.cons z3 .nil)))⟩⟩
end
end DL

namespace EV
open PySem PySem.Spec PyProof.Rows L2 DL
local macro_rules | `(tactic| walk_at "fr") => `(tactic| (repeat (first | exact LeL.nil | apply LeL.frz | apply LeL.keep)))
local macro_rules | `(tactic| walk_at "le") => `(tactic| (repeat (first | exact LeL.nil | apply LeL.keep | apply LeL.frz | apply LeL.drop)))
local macro_rules | `(tactic| walk_at "sz") => `(tactic| first | assumption | omega | (rw [sizeLine_eq]; omega) | (rw [sizeLine_eq]; simp; done) | (rw [sizeLine_eq]; simp; omega) | (simp; done) | (simp; omega))
local macro_rules | `(tactic| walk_at "num") => `(tactic| first | assumption | decide | omega | (constructor <;> omega) | (simp; omega) | (constructor <;> (simp; omega)) | (constructor <;> (simp; done)))
local macro_rules | `(tactic| walk_at "at") => `(tactic| first | rfl | assumption | (exact atI_nat (by assumption)) | (exact atI_nat (by simp; done)))
local macro_rules | `(tactic| walk_at "ix") => `(tactic| first | exact ix_t (by walk_at "at") | exact ix_l (by walk_at "at") | exact ix_s (by walk_at "sz") (by walk_at "at"))
local macro_rules | `(tactic| walk_at "ob.Add") => `(tactic| first | exact ob_add | exact ob_n (obn_cat (by walk_at "sz")) | exact ob_catT (by walk_at "sz") | exact ob_adds (by walk_at "sz"))
local macro_rules | `(tactic| walk_at "ob.Sub") => `(tactic| exact ob_sub)
local macro_rules | `(tactic| walk_at "ob.Mult") => `(tactic| first | exact ob_mul (.inl ⟨by decide, by decide⟩) | exact ob_mul (.inr ⟨by decide, by decide⟩) | exact ob_mulW (by assumption) | exact ob_mul (by walk_at "num") | exact ob_n (obn_rep (by walk_at "num") (by walk_at "sz")))
local macro_rules | `(tactic| walk_at "ob.FloorDiv") => `(tactic| first | exact ob_div ⟨by decide, by decide⟩ | exact ob_divW ⟨by decide, by decide⟩ | exact ob_div (by walk_at "num"))
local macro_rules | `(tactic| walk_at "ob.Pow") => `(tactic| exact ob_pow ⟨by decide, by decide, by decide⟩)
local macro_rules | `(tactic| walk_at "ob.Mod") => `(tactic| exact ob_mod (by walk_at "num"))
local macro_rules | `(tactic| walk_at "ob") => `(tactic| first | walk_at "ob.Add" | walk_at "ob.Sub" | walk_at "ob.Mult" | walk_at "ob.FloorDiv" | walk_at "ob.Mod")
local macro_rules | `(tactic| walk_at "obn.Add") => `(tactic| exact obn_cat (by walk_at "sz"))
local macro_rules | `(tactic| walk_at "obn.Mult") => `(tactic| exact obn_rep (by walk_at "num") (by walk_at "sz"))
local macro_rules | `(tactic| walk_at "dep") => `(tactic| first | assumption | decide | (simp [PyData.depth, PyData.depthAll]; done) | (simp [PyData.depth, PyData.depthAll]; omega) | exact Nat.le_trans (Nat.min_le_left _ _) (by walk_at "dpt") | exact Nat.le_trans (Nat.min_le_right _ _) (by walk_at "dpt"))
local macro_rules | `(tactic| walk_at "dpt") => `(tactic| first | exact dp_ints _ | exact dp_intsT _ | exact dp_upTo _ | (simp [PyData.depth, PyData.depthAll]; done))
local macro_rules | `(tactic| walk_at "hu8") => `(tactic| exact hu8 (by assumption))
local macro_rules | `(tactic| walk_at "kdp") => `(tactic| first | assumption | decide)
local macro_rules | `(tactic| walk_at "hu1") => `(tactic| exact hu1 (by assumption))
local macro_rules | `(tactic| walk_at "hu") => `(tactic| exact hu100 (by assumption))
local macro_rules | `(tactic| walk_at "cb.Lt") => `(tactic| exact cb_lt)
local macro_rules | `(tactic| walk_at "cb.LtE") => `(tactic| exact cb_le)
local macro_rules | `(tactic| walk_at "cb.Gt") => `(tactic| exact cb_gt)
local macro_rules | `(tactic| walk_at "cb.GtE") => `(tactic| exact cb_ge)
local macro_rules | `(tactic| walk_at "cb.Is") => `(tactic| exact cb_is)
local macro_rules | `(tactic| walk_at "cb.IsNot") => `(tactic| exact cb_isnot)
local macro_rules | `(tactic| walk_at "cb.Eq") => `(tactic| first | exact cb_eqI (by walk_at "hu") | exact cb_eqS (by walk_at "hu") | exact cb_eq (by walk_at "hu") (by walk_at "dep"))
local macro_rules | `(tactic| walk_at "cb.NotEq") => `(tactic| first | exact cb_neI (by walk_at "hu") | exact cb_neS (by walk_at "hu") | exact cb_ne (by walk_at "hu") (by walk_at "dep"))
local macro_rules | `(tactic| walk_at "cb.In") => `(tactic| first | exact cb_inL (by walk_at "hu") (by walk_at "dep") | exact cb_inT (by walk_at "hu") (by walk_at "dep"))
local macro_rules | `(tactic| walk_at "cb.NotIn") => `(tactic| first | exact cb_niL (by walk_at "hu") (by walk_at "dep") | exact cb_niT (by walk_at "hu") (by walk_at "dep"))
local macro_rules | `(tactic| walk_at "cb") => `(tactic| first | walk_at "cb.Lt" | walk_at "cb.LtE" | walk_at "cb.Gt" | walk_at "cb.GtE" | walk_at "cb.Is" | walk_at "cb.IsNot" | walk_at "cb.Eq" | walk_at "cb.NotEq" | walk_at "cb.In" | walk_at "cb.NotIn")
local macro_rules | `(tactic| walk_at "len") => `(tactic| first | exact LenD.list _ | exact LenD.tup _ | exact LenD.str _ (by walk_at "sz"))
local macro_rules | `(tactic| walk_at "emb") => `(tactic| first | rfl | (simp; done) | (simp [DL.upTo]; done))
local macro_rules | `(tactic| walk_at "elt") => `(tactic| first | rfl | assumption | (simp; done))
local macro_rules | `(tactic| walk_at "rel") => `(tactic| first | assumption | omega | (simp; done))
local macro_rules | `(tactic| walk_at "blk") => `(tactic| first | rfl | with_unfolding_all rfl)
local macro_rules | `(tactic| walk_at "lt") => `(tactic| first | decide | (simp; done))
local macro_rules | `(tactic| walk_at "free1") => `(tactic| first | exact .inl rfl | exact .inr ⟨_, rfl⟩)
local macro_rules | `(tactic| walk_at "free") => `(tactic| (repeat (first | exact trivial | refine ⟨by walk_at "free1", ?_⟩)))
def topS (i : Nat) : Stmt := PySem.Challenge.pw_evenlanes_k31_whole_in_any_order.main.body.getD i (.Pass ⟨0, 0, 0, 0⟩)
structure Tx (K : Fr) (mg : Str → Option Value) where
  b_ValueError : mg "ValueError" = none
  b_abs : mg "abs" = none
  b_all : mg "all" = none
  b_bool : mg "bool" = none
  b_dict : mg "dict" = none
  b_enumerate : mg "enumerate" = none
  b_int : mg "int" = none
  b_isinstance : mg "isinstance" = none
  b_len : mg "len" = none
  b_list : mg "list" = none
  b_max : mg "max" = none
  b_min : mg "min" = none
  b_range : mg "range" = none
  b_sorted : mg "sorted" = none
  b_str : mg "str" = none
  b_sum : mg "sum" = none
  b_tuple : mg "tuple" = none
  b_zip : mg "zip" = none
  c_MOST_INPUTS : ∃ t, mg "MOST_INPUTS" = some (.int 4 t)
  c_MOST_SPLITTERS : ∃ t, mg "MOST_SPLITTERS" = some (.int 12 t)
  c_MOST_OUTS : ∃ t, mg "MOST_OUTS" = some (.int 8 t)
  c_MOST_THINGS : ∃ t, mg "MOST_THINGS" = some (.int 2000 t)
  fd_is_count : FuncData
  fn_is_count : FunD K "is_count" "is_count" (defArgs (topS 6)) (defBody (topS 6)) (defScope (topS 6)) [] [] (He.ga K "is_count") fd_is_count
  g_is_count : mg "is_count" = some (.ref (He.ga K "is_count"))
  fd_divisor : FuncData
  fn_divisor : FunD K "divisor" "divisor" (defArgs (topS 7)) (defBody (topS 7)) (defScope (topS 7)) [] [] (He.ga K "divisor") fd_divisor
  g_divisor : mg "divisor" = some (.ref (He.ga K "divisor"))
  fd_fraction : FuncData
  fn_fraction : FunD K "fraction" "fraction" (defArgs (topS 8)) (defBody (topS 8)) (defScope (topS 8)) [] [] (He.ga K "fraction") fd_fraction
  g_fraction : mg "fraction" = some (.ref (He.ga K "fraction"))
  fd_plus : FuncData
  fn_plus : FunD K "plus" "plus" (defArgs (topS 9)) (defBody (topS 9)) (defScope (topS 9)) [] [] (He.ga K "plus") fd_plus
  g_plus : mg "plus" = some (.ref (He.ga K "plus"))
  fd_less : FuncData
  fn_less : FunD K "less" "less" (defArgs (topS 10)) (defBody (topS 10)) (defScope (topS 10)) [] [] (He.ga K "less") fd_less
  g_less : mg "less" = some (.ref (He.ga K "less"))
  fd_times : FuncData
  fn_times : FunD K "times" "times" (defArgs (topS 11)) (defBody (topS 11)) (defScope (topS 11)) [] [] (He.ga K "times") fd_times
  g_times : mg "times" = some (.ref (He.ga K "times"))
  fd_parted : FuncData
  fn_parted : FunD K "parted" "parted" (defArgs (topS 12)) (defBody (topS 12)) (defScope (topS 12)) [] [] (He.ga K "parted") fd_parted
  g_parted : mg "parted" = some (.ref (He.ga K "parted"))
  fd_solved : FuncData
  fn_solved : FunD K "solved" "solved" (defArgs (topS 13)) (defBody (topS 13)) (defScope (topS 13)) [] [] (He.ga K "solved") fd_solved
  g_solved : mg "solved" = some (.ref (He.ga K "solved"))
  fd_is_goal : FuncData
  fn_is_goal : FunD K "is_goal" "is_goal" (defArgs (topS 18)) (defBody (topS 18)) (defScope (topS 18)) [] [] (He.ga K "is_goal") fd_is_goal
  g_is_goal : mg "is_goal" = some (.ref (He.ga K "is_goal"))
  fd_goals_of : FuncData
  fn_goals_of : FunD K "goals_of" "goals_of" (defArgs (topS 19)) (defBody (topS 19)) (defScope (topS 19)) [] [] (He.ga K "goals_of") fd_goals_of
  g_goals_of : mg "goals_of" = some (.ref (He.ga K "goals_of"))
  fd_are_parts : FuncData
  fn_are_parts : FunD K "are_parts" "are_parts" (defArgs (topS 20)) (defBody (topS 20)) (defScope (topS 20)) [] [] (He.ga K "are_parts") fd_are_parts
  g_are_parts : mg "are_parts" = some (.ref (He.ga K "are_parts"))
  fd_outs_of : FuncData
  fn_outs_of : FunD K "outs_of" "outs_of" (defArgs (topS 21)) (defBody (topS 21)) (defScope (topS 21)) [] [] (He.ga K "outs_of") fd_outs_of
  g_outs_of : mg "outs_of" = some (.ref (He.ga K "outs_of"))
  fd_leads_out : FuncData
  fn_leads_out : FunD K "leads_out" "leads_out" (defArgs (topS 22)) (defBody (topS 22)) (defScope (topS 22)) [] [] (He.ga K "leads_out") fd_leads_out
  g_leads_out : mg "leads_out" = some (.ref (He.ga K "leads_out"))
  fd_is_web : FuncData
  fn_is_web : FunD K "is_web" "is_web" (defArgs (topS 23)) (defBody (topS 23)) (defScope (topS 23)) [] [] (He.ga K "is_web") fd_is_web
  g_is_web : mg "is_web" = some (.ref (He.ga K "is_web"))
  fd_need_web : FuncData
  fn_need_web : FunD K "need_web" "need_web" (defArgs (topS 24)) (defBody (topS 24)) (defScope (topS 24)) [] [] (He.ga K "need_web") fd_need_web
  g_need_web : mg "need_web" = some (.ref (He.ga K "need_web"))
  fd_need_turns : FuncData
  fn_need_turns : FunD K "need_turns" "need_turns" (defArgs (topS 27)) (defBody (topS 27)) (defScope (topS 27)) [] [] (He.ga K "need_turns") fd_need_turns
  g_need_turns : mg "need_turns" = some (.ref (He.ga K "need_turns"))
  fd_need_input : FuncData
  fn_need_input : FunD K "need_input" "need_input" (defArgs (topS 28)) (defBody (topS 28)) (defScope (topS 28)) [] [] (He.ga K "need_input") fd_need_input
  g_need_input : mg "need_input" = some (.ref (He.ga K "need_input"))
  fd_way_of : FuncData
  fn_way_of : FunD K "way_of" "way_of" (defArgs (topS 29)) (defBody (topS 29)) (defScope (topS 29)) [] [] (He.ga K "way_of") fd_way_of
  g_way_of : mg "way_of" = some (.ref (He.ga K "way_of"))
  fd_way : FuncData
  fn_way : FunD K "way" "way" (defArgs (topS 30)) (defBody (topS 30)) (defScope (topS 30)) [] [] (He.ga K "way") fd_way
  g_way : mg "way" = some (.ref (He.ga K "way"))
  fd_led : FuncData
  fn_led : FunD K "led" "led" (defArgs (topS 31)) (defBody (topS 31)) (defScope (topS 31)) [] [] (He.ga K "led") fd_led
  g_led : mg "led" = some (.ref (He.ga K "led"))
  fd_counted : FuncData
  fn_counted : FunD K "counted" "counted" (defArgs (topS 32)) (defBody (topS 32)) (defScope (topS 32)) [] [] (He.ga K "counted") fd_counted
  g_counted : mg "counted" = some (.ref (He.ga K "counted"))
  fd_first_again : FuncData
  fn_first_again : FunD K "first_again" "first_again" (defArgs (topS 33)) (defBody (topS 33)) (defScope (topS 33)) [] [] (He.ga K "first_again") fd_first_again
  g_first_again : mg "first_again" = some (.ref (He.ga K "first_again"))
  fd_parts_of : FuncData
  fn_parts_of : FunD K "parts_of" "parts_of" (defArgs (topS 35)) (defBody (topS 35)) (defScope (topS 35)) [] [] (He.ga K "parts_of") fd_parts_of
  g_parts_of : mg "parts_of" = some (.ref (He.ga K "parts_of"))
  fd_through_of : FuncData
  fn_through_of : FunD K "through_of" "through_of" (defArgs (topS 36)) (defBody (topS 36)) (defScope (topS 36)) [] [] (He.ga K "through_of") fd_through_of
  g_through_of : mg "through_of" = some (.ref (He.ga K "through_of"))
  fd_belts_of : FuncData
  fn_belts_of : FunD K "belts_of" "belts_of" (defArgs (topS 37)) (defBody (topS 37)) (defScope (topS 37)) [] [] (He.ga K "belts_of") fd_belts_of
  g_belts_of : mg "belts_of" = some (.ref (He.ga K "belts_of"))
  fd_outs_by : FuncData
  fn_outs_by : FunD K "outs_by" "outs_by" (defArgs (topS 38)) (defBody (topS 38)) (defScope (topS 38)) [] [] (He.ga K "outs_by") fd_outs_by
  g_outs_by : mg "outs_by" = some (.ref (He.ga K "outs_by"))
  fd_shares_of : FuncData
  fn_shares_of : FunD K "shares_of" "shares_of" (defArgs (topS 39)) (defBody (topS 39)) (defScope (topS 39)) [] [] (He.ga K "shares_of") fd_shares_of
  g_shares_of : mg "shares_of" = some (.ref (He.ga K "shares_of"))
  fd_shares : FuncData
  fn_shares : FunD K "shares" "shares" (defArgs (topS 40)) (defBody (topS 40)) (defScope (topS 40)) [] [] (He.ga K "shares") fd_shares
  g_shares : mg "shares" = some (.ref (He.ga K "shares"))
  fd__law_cell : FuncData
  fn__law_cell : FunD K "_law_cell" "_law_cell" (defArgs (topS 42)) (defBody (topS 42)) (defScope (topS 42)) [] [] (He.ga K "_law_cell") fd__law_cell
  g__law_cell : mg "_law_cell" = some (.ref (He.ga K "_law_cell"))
  fd__law_drawn : FuncData
  fn__law_drawn : FunD K "_law_drawn" "_law_drawn" (defArgs (topS 43)) (defBody (topS 43)) (defScope (topS 43)) [] [] (He.ga K "_law_drawn") fd__law_drawn
  g__law_drawn : mg "_law_drawn" = some (.ref (He.ga K "_law_drawn"))
  fd__law_web : FuncData
  fn__law_web : FunD K "_law_web" "_law_web" (defArgs (topS 44)) (defBody (topS 44)) (defScope (topS 44)) [] [] (He.ga K "_law_web") fd__law_web
  g__law_web : mg "_law_web" = some (.ref (He.ga K "_law_web"))
  fd__law_goals : FuncData
  fn__law_goals : FunD K "_law_goals" "_law_goals" (defArgs (topS 45)) (defBody (topS 45)) (defScope (topS 45)) [] [] (He.ga K "_law_goals") fd__law_goals
  g__law_goals : mg "_law_goals" = some (.ref (He.ga K "_law_goals"))
  fd__law_is_web : FuncData
  fn__law_is_web : FunD K "_law_is_web" "_law_is_web" (defArgs (topS 46)) (defBody (topS 46)) (defScope (topS 46)) [] [] (He.ga K "_law_is_web") fd__law_is_web
  g__law_is_web : mg "_law_is_web" = some (.ref (He.ga K "_law_is_web"))
  fd__law_right_web : FuncData
  fn__law_right_web : FunD K "_law_right_web" "_law_right_web" (defArgs (topS 47)) (defBody (topS 47)) (defScope (topS 47)) [] [] (He.ga K "_law_right_web") fd__law_right_web
  g__law_right_web : mg "_law_right_web" = some (.ref (He.ga K "_law_right_web"))
  fd_law : FuncData
  fn_law : FunD K "law" "law" (defArgs (topS 48)) (defBody (topS 48)) (defScope (topS 48)) [] [] (He.ga K "law") fd_law
  g_law : mg "law" = some (.ref (He.ga K "law"))
  x_BadWeb : ExcX K mg "BadWeb"
  m_BadWeb : PySem.W.exmOne K (.ref (He.ga K "BadWeb")) (.ref (He.ga K "LaneError")) = some true
  x_BadNumber : ExcX K mg "BadNumber"
  m_BadNumber : PySem.W.exmOne K (.ref (He.ga K "BadNumber")) (.ref (He.ga K "LaneError")) = some true
  x_BadTurns : ExcX K mg "BadTurns"
  m_BadTurns : PySem.W.exmOne K (.ref (He.ga K "BadTurns")) (.ref (He.ga K "LaneError")) = some true
  g_LaneError : mg "LaneError" = some (.ref (He.ga K "LaneError"))

/-! ### webs as data -/
structure Goal where
  out : Bool
  num : Nat
  deriving DecidableEq
abbrev OG := Option Goal
def goalD (g : Goal) : PD := .tuple [.str (if g.out then "out" else "split"), .int g.num]
def ogD : OG → PD
  | none => .none
  | some g => goalD g
def pairD (p : OG × OG) : PD := .tuple [ogD p.1, ogD p.2]
structure Web where
  ins : List Goal
  prs : List (OG × OG)
  deriving DecidableEq
def webD (w : Web) : PD := .tuple [.tuple (w.ins.map goalD), .tuple (w.prs.map pairD)]
def there (p : OG × OG) : List Goal := [p.1, p.2].filterMap id
def goalsOf (w : Web) : List Goal := w.ins ++ (w.prs.map there).flatten
/-! ### is_count -/
def isCount (d : PD) (lo hi : Int) : Bool := match d with
  | .int i => decide (lo ≤ i) && decide (i ≤ hi)
  | _ => false
theorem int_of {d : PD} (h1 : isiD d "int" = true) (h2 : (!isiD d "bool") = true) : ∃ i, d = .int i := by
  cases d <;> first | exact ⟨_, rfl⟩ | (simp [isiD, tyD] at h1 h2)
def R_is_count : List PD → PD → Prop := fun ds r => ∃ d lo hi, ds = [d, .int lo, .int hi] ∧ r = .bool (isCount d lo hi)
theorem rel_is_count {d : PD} {lo hi : Int} : R_is_count [d, .int lo, .int hi] (.bool (isCount d lo hi)) := ⟨d, lo, hi, rfl, rfl⟩
theorem len_is_count {ds : List PD} {r : PD} : R_is_count ds r → ds.length = 3 := by rintro ⟨_, _, _, rfl, _⟩; rfl
theorem sc_is_count : FnScope ["thing", "low", "high"] ["thing", "low", "high"] (defScope (topS 6)) := ⟨rfl, rfl, rfl, by decide +kernel, rfl, by decide +kernel, by decide +kernel⟩
theorem bi_is_count {K : Fr} {mg : Str → Option Value} (G : Tx K mg) : Binds K G.fd_is_count ["thing", "low", "high"] [] := G.fn_is_count.bindsN fun _ _ _ _ _ _ us hl => match us, hl with | [_, _, _], _ => rfl
theorem ok_is_count {P : Program} {w : World} {K : Fr} {mg : Str → Option Value} {base : Heap} {T : Tb} (G : Tx K mg) : FnOk P w K mg base CX0 1 (He.ga K "is_count") G.fd_is_count ["thing", "low", "high"] (spF T R_is_count) := by
  have nd := sc_is_count.nd
  refine fn_ok G.fn_is_count sc_is_count (fun ds d h => by have h' := len_is_count h; rw [h']; decide) fun ds d h cd A outer s H E hr => ?_
  obtain ⟨d, lo, hi, rfl, rfl⟩ := h
  refine dss_one (ds_ret (d := .bool (isCount d lo hi)) ?_ rfl)
  refine de_to (de_and (de_isi (G.b_isinstance) G.b_int (de_nm 0) boot_int (by decide)) (fun hk => de_and (k' := isCount d lo hi) (de_not (de_isi (G.b_isinstance) G.b_bool (de_nm 0) boot_bool (by decide))) (fun hk2 => de_and1 ?_))) ?_
  · obtain ⟨i, rfl⟩ := int_of hk hk2
    exact (de_chain (de_nm 1) (de_nm 0) (de_nm 2) (by walk_at "cb.LtE") (by walk_at "cb.LtE"))
  · cases d <;> simp [isiD, tyD, isCount]
/-! ### is_goal -/
def lenT (d : PD) : Int := match d with
  | .tuple ds => (ds.length : Nat)
  | _ => 0
def fstT (d : PD) : PD := match d with
  | .tuple (a :: _) => a
  | _ => .none
def isGoalD (t : PD) (n : Int) : Bool := match t with
  | .tuple [.str s, d] => if s = "out" then isCount d 0 7 else decide (s = "split") && isCount d 0 (n - 1)
  | _ => false
theorem tup_of {d : PD} (h : isiD d "tuple" = true) : ∃ ds, d = .tuple ds := by
  cases d <;> first | exact ⟨_, rfl⟩ | (simp [isiD, tyD] at h)
theorem str_of {d : PD} (h : isiD d "str" = true) : ∃ s, d = .str s := by
  cases d <;> first | exact ⟨_, rfl⟩ | (simp [isiD, tyD] at h)
theorem dec_true {p : Prop} [Decidable p] (h : (!decide p) = false) : p := by simpa using h
theorem two_of {α : Type} {l : List α} (h : l.length = 2) : ∃ a b, l = [a, b] := by
  match l, h with
  | [a, b], _ => exact ⟨a, b, rfl⟩
theorem two_int {α : Type} {l : List α} (h : (decide (((l.length : Nat) : Int) = 2)) = true) : ∃ a b, l = [a, b] := two_of (by have := of_decide_eq_true h; omega)
def R_is_goal : List PD → PD → Prop := fun ds r => ∃ d n, ds = [d, .int n] ∧ r = .bool (isGoalD d n)
theorem rel_is_goal {d : PD} {n : Int} : R_is_goal [d, .int n] (.bool (isGoalD d n)) := ⟨d, n, rfl, rfl⟩
theorem len_is_goal {ds : List PD} {r : PD} : R_is_goal ds r → ds.length = 2 := by rintro ⟨_, _, rfl, _⟩; rfl
theorem sc_is_goal : FnScope ["thing", "splitters"] ["thing", "splitters"] (defScope (topS 18)) := ⟨rfl, rfl, rfl, by decide +kernel, rfl, by decide +kernel, by decide +kernel⟩
theorem bi_is_goal {K : Fr} {mg : Str → Option Value} (G : Tx K mg) : Binds K G.fd_is_goal ["thing", "splitters"] [] := G.fn_is_goal.bindsN fun _ _ _ _ _ _ us hl => match us, hl with | [_, _], _ => rfl
theorem ok_is_goal {P : Program} {w : World} {K : Fr} {mg : Str → Option Value} {base : Heap} {T : Tb} (G : Tx K mg) : FnOk P w K mg base CX0 2 (He.ga K "is_goal") G.fd_is_goal ["thing", "splitters"] (spF T R_is_goal) := by
  have nd := sc_is_goal.nd
  refine fn_ok G.fn_is_goal sc_is_goal (fun ds d h => by have h' := len_is_goal h; rw [h']; decide) fun ds d h cd A outer s H E hr => ?_
  obtain ⟨d, n, rfl, rfl⟩ := h
  refine dss_guard (k := !isiD d "tuple" || (!decide (lenT d = 2) || !isiD (fstT d) "str")) ?_ (fun hk => ?_) (fun hk => ?_)
  · refine dt_w (dw_or (dt_not (dt_val (de_isi (G.b_isinstance) G.b_tuple (de_nm 0) boot_tuple (by decide)))) (fun hk => dw_or (k := !decide (lenT d = 2)) (k' := !isiD (fstT d) "str") ?_ (fun hk2 => dw_or1 ?_)))
    · obtain ⟨ds, rfl⟩ := tup_of (by simpa using hk)
      exact (dt_cmp (de_len (G.b_len) (de_nm 0) (by walk_at "len")) de_int (by walk_at "cb.NotEq"))
    · obtain ⟨ds, rfl⟩ := tup_of (by simpa using hk)
      obtain ⟨a, b, rfl⟩ := two_of (l := ds) (by have := dec_true hk2; simp only [lenT] at this; omega)
      exact (dt_not (dt_val (de_isi (G.b_isinstance) G.b_str (de_ix (de_nm 0) de_int (by walk_at "ix")) boot_str (by decide))))
  · refine dss_one (ds_ret de_bool ?_)
    show PyData.bool false = _
    congr 1
    cases d with
    | tuple ds =>
      match ds with
      | [] => rfl
      | [a] => cases a <;> rfl
      | [a, b] =>
        cases a <;> first | rfl | (simp [isiD, tyD, lenT, fstT] at hk)
      | a :: b :: c :: r => cases a <;> rfl
    | _ => rfl
  · simp only [Bool.or_eq_false_iff, Bool.not_eq_false', decide_eq_true_eq] at hk
    obtain ⟨ds, rfl⟩ := tup_of hk.1
    obtain ⟨a, b, rfl⟩ := two_of (l := ds) (by have := hk.2.1; simp only [lenT] at this; omega)
    obtain ⟨s, rfl⟩ := str_of (show isiD a "str" = true from hk.2.2)
    refine dss_guard (k := decide (s = "out")) (dt_cmp (de_ix (de_nm 0) de_int (by walk_at "ix")) de_str (by walk_at "cb.Eq")) (fun hk => ?_) (fun hk => ?_)
    · exact dss_one (ds_ret (de_to (de_call (ok_is_count G) (hr.mono (by decide)) G.g_is_count G.fn_is_count.kp (bi_is_count G) (da_cons (de_ix (de_nm 0) de_int (by walk_at "ix")) (da_cons de_int (da_cons (de_bin (de_gint G.c_MOST_OUTS) de_int (by walk_at "ob.Sub")) da_nil))) (by first | exact rel_is_count | exact rel_is_count (by assumption) | exact rel_is_count (by walk_at "rel") | assumption)) (by simp at hk; simp [isGoalD, hk, rets])) rfl)
    · refine dss_one (ds_ret (d := .bool (decide (s = "split") && isCount b 0 (n - 1))) ?_ (by simp at hk; simp [isGoalD, hk, rets]))
      refine de_to (de_and (de_cmp (de_ix (de_nm 0) de_int (by walk_at "ix")) de_str (by walk_at "cb.Eq")) (fun hk => de_and1 (de_call (ok_is_count G) (hr.mono (by decide)) G.g_is_count G.fn_is_count.kp (bi_is_count G) (da_cons (de_ix (de_nm 0) de_int (by walk_at "ix")) (da_cons de_int (da_cons (de_bin (de_nm 1) de_int (by walk_at "ob.Sub")) da_nil))) (by first | exact rel_is_count | exact rel_is_count (by assumption) | exact rel_is_count (by walk_at "rel") | assumption)))) rfl
/-! ### goals_of -/
def Small (w : Web) : Prop := w.ins.length ≤ 1000 ∧ w.prs.length ≤ 1000
def R_goals_of : List PD → PD → Prop := fun ds d => ∃ w : Web, Small w ∧ ds = [webD w] ∧ d = .list ((goalsOf w).map goalD)
theorem rel_goals_of {w : Web} (h : Small w) : R_goals_of [webD w] (.list ((goalsOf w).map goalD)) := ⟨w, h, rfl, rfl⟩
theorem len_goals_of {ds : List PD} {r : PD} : R_goals_of ds r → ds.length = 1 := by rintro ⟨_, _, rfl, _⟩; rfl
def goalsTo (w : Web) (i : Nat) : List Goal := w.ins ++ ((w.prs.take i).map there).flatten
theorem there_D (p : OG × OG) : (([p.1, p.2].filter fun o => !isNo (ogD o)).map ogD) = (there p).map goalD := by
  obtain ⟨a, b⟩ := p
  cases a <;> cases b <;> rfl
theorem there_len (p : OG × OG) : (there p).length ≤ 2 := by
  obtain ⟨a, b⟩ := p
  cases a <;> cases b <;> simp [there]
theorem goalsTo_succ {w : Web} {i : Nat} {z : OG × OG} (h : w.prs[i]? = some z) : goalsTo w (i + 1) = goalsTo w i ++ there z := by
  unfold goalsTo
  rw [List.take_add_one, h]
  simp
theorem flat_len {α β : Type} (f : α → List β) (n : Nat) (h : ∀ x, (f x).length ≤ n) : ∀ l : List α, ((l.map f).flatten).length ≤ n * l.length
  | [] => by simp
  | x :: l => by
    have := flat_len f n h l
    have := h x
    simp only [List.map_cons, List.flatten_cons, List.length_append, List.length_cons, Nat.mul_add]
    omega
theorem goalsTo_len (w : Web) (i : Nat) (h : Small w) : (goalsTo w i).length ≤ 3000 := by
  have := flat_len there 2 there_len (w.prs.take i)
  have := h.1
  have := h.2
  unfold goalsTo
  rw [List.length_append]
  have : (w.prs.take i).length ≤ w.prs.length := by rw [List.length_take]; omega
  omega
theorem goalsTo_all (w : Web) : goalsTo w w.prs.length = goalsOf w := by simp [goalsTo, goalsOf]
theorem sc_goals_of : FnScope ["web", "found", "pair", "goal"] ["web"] (defScope (topS 19)) := ⟨rfl, rfl, rfl, by decide +kernel, rfl, by decide +kernel, by decide +kernel⟩
theorem bi_goals_of {K : Fr} {mg : Str → Option Value} (G : Tx K mg) : Binds K G.fd_goals_of ["web"] [] := G.fn_goals_of.bindsN fun _ _ _ _ _ _ us hl => match us, hl with | [_], _ => rfl
theorem ok_goals_of {P : Program} {w : World} {K : Fr} {mg : Str → Option Value} {base : Heap} {T : Tb} (G : Tx K mg) : FnOk P w K mg base CX0 1 (He.ga K "goals_of") G.fd_goals_of ["web"] (spF T R_goals_of) := by
  have nd := sc_goals_of.nd
  refine fn_ok G.fn_goals_of sc_goals_of (fun ds d h => by have h' := len_goals_of h; rw [h']; decide) fun ds d h cd A outer s H E hr => ?_
  obtain ⟨w, hw, rfl, rfl⟩ := h
  dsimp only [enter]
  refine dss_then (ds_asgN 1 (by first | exact dn_listT G.b_list (de_ix (de_nm 0) de_int (by walk_at "ix")) | exact dn_listL G.b_list (de_ix (de_nm 0) de_int (by walk_at "ix"))) (by rfl) (by walk_at "lt") nd) ?_
  dsimp only [List.set]
  refine dss_then (ds_forS (fun i => [dat (webD w), own ((goalsTo w i).map goalD), un, un]) (fun _ => True) (by first | exact di_tup (de_ix (de_nm 0) de_int (by walk_at "ix")) | exact di_list (de_ix (de_nm 0) de_int (by walk_at "ix"))) (LeL.le (.keep (.keepE (by simp [goalsTo]) (by walk_at "le")))) trivial (fun i z hz _ => ⟨(dg_nm 2 nd (by walk_at "free1")), ?_⟩) (fun _ => rfl) PassesOwn.never rfl) ?_
  · dsimp only [List.set]
    have hg : ((goalsTo w i).map goalD).length ≤ 3000 := by simpa using goalsTo_len w i hw
    have ht : ((there z).map goalD).length ≤ 2 := by simpa using there_len z
    refine dss_one (ds_extend 1 (de_to (de_dn (dn_lc (xs := ([z.1, z.2])) (emb := (ogD)) (f := (fun o => !isNo (ogD o))) (g := (ogD)) (own' := [("goal", 3)]) rfl nd (dic_to (dic_of (by first | exact di_tup (de_nm 2) | exact di_list (de_nm 2))) (by walk_at "emb")) (by walk_at "blk") (by walk_at "free") (by decide) (by walk_at "sz") (fun z hz _ _ _ _ _ => (dg_nm 3 nd (by walk_at "free1"))) (fun z hz _ _ _ _ _ => dts_one (dt_to (dt_cmp (de_nm 3) de_none (by walk_at "cb.IsNot")) (by walk_at "elt"))) (fun z hz hk _ _ _ _ _ => (de_to (de_nm 3) (by walk_at "elt"))))) (congrArg PyData.list (there_D z))) rfl ⟨LeL.le ?_, trivial⟩ (by rw [sizeLine_eq]; omega))
    dsimp only [List.set]
    exact .keep (.keepE (by rw [goalsTo_succ hz, List.map_append]) (by walk_at "le"))
  · refine dss_le (le_fr 1 rfl) (dss_one (ds_ret (de_nm 1) (by simp [goalsTo_all, rets])))
/-! ### are_parts -/
def allTup (d : PD) : Bool := match d with
  | .tuple ds => ds.all fun z => isiD z "tuple"
  | _ => true
def okG (n : Int) (x : PD) : Bool := isNo x || isGoalD x n
def isNone2 (d : PD) : Bool := match d with
  | .tuple [x, y] => isNo x && isNo y
  | _ => false
def pairOkD (n : Int) (p : PD) : Bool := match p with
  | .tuple [x, y] => !(isNo x && isNo y) && [x, y].all (okG n)
  | _ => false
def partsD (d : PD) : Bool := match d with
  | .tuple [.tuple a, .tuple b] => (decide (1 ≤ (a.length : Nat)) && decide (a.length ≤ 4) && decide (b.length ≤ 12)) && a.all (fun z => isGoalD z (b.length : Nat)) && b.all (pairOkD (b.length : Nat))
  | _ => false
def R_are_parts : List PD → PD → Prop := fun ds r => ∃ d, ds = [d] ∧ r = .bool (partsD d)
theorem rel_are_parts {d : PD} : R_are_parts [d] (.bool (partsD d)) := ⟨d, rfl, rfl⟩
theorem len_are_parts {ds : List PD} {r : PD} : R_are_parts ds r → ds.length = 1 := by rintro ⟨_, rfl, _⟩; rfl
theorem eqv_none2 (x y : PD) : PyData.eqv (.tuple [x, y]) (.tuple [.none, .none]) = (isNo x && isNo y) := by
  have e : ∀ z : PD, PyData.eqv z .none = isNo z := by intro z; cases z <;> rfl
  simp only [PyData.eqv, PyData.eqvAll, e, Bool.and_true]
theorem sc_are_parts : FnScope ["thing", "part", "inputs", "splitters", "goal", "pair"] ["thing"] (defScope (topS 20)) := ⟨rfl, rfl, rfl, by decide +kernel, rfl, by decide +kernel, by decide +kernel⟩
theorem bi_are_parts {K : Fr} {mg : Str → Option Value} (G : Tx K mg) : Binds K G.fd_are_parts ["thing"] [] := G.fn_are_parts.bindsN fun _ _ _ _ _ _ us hl => match us, hl with | [_], _ => rfl
theorem ok_are_parts {P : Program} {w : World} {K : Fr} {mg : Str → Option Value} {base : Heap} {T : Tb} (G : Tx K mg) : FnOk P w K mg base CX0 3 (He.ga K "are_parts") G.fd_are_parts ["thing"] (spF T R_are_parts) := by
  have nd := sc_are_parts.nd
  refine fn_ok G.fn_are_parts sc_are_parts (fun ds d h => by have h' := len_are_parts h; rw [h']; decide) fun ds d h cd A outer s H E hr => ?_
  obtain ⟨d, rfl, rfl⟩ := h
  dsimp only [enter]
  refine dss_guard (k := !isiD d "tuple" || (!decide (lenT d = 2) || !allTup d)) ?_ (fun hk => ?_) (fun hk => ?_)
  · refine dt_w (dw_or (dt_not (dt_val (de_isi (G.b_isinstance) G.b_tuple (de_nm 0) boot_tuple (by decide)))) (fun hk => dw_or (k := !decide (lenT d = 2)) (k' := !allTup d) ?_ (fun hk2 => dw_or1 ?_)))
    · obtain ⟨ds, rfl⟩ := tup_of (by simpa using hk)
      exact (dt_cmp (de_len (G.b_len) (de_nm 0) (by walk_at "len")) de_int (by walk_at "cb.NotEq"))
    · obtain ⟨ds, rfl⟩ := tup_of (by simpa using hk)
      obtain ⟨a, b, rfl⟩ := two_of (l := ds) (by have := dec_true hk2; simp only [lenT] at this; omega)
      exact dt_not (dt_val (de_allC G.b_all rfl (de_dn (dn_lc0 (xs := ([a, b])) (emb := (id)) (g := (fun z => .bool (isiD z "tuple"))) (own' := [("part", 1)]) rfl nd (dic_to (dic_of (by first | exact di_tup (de_nm 0) | exact di_list (de_nm 0))) (by walk_at "emb")) (by walk_at "blk") (by walk_at "free") (by decide) (by walk_at "sz") (fun z hz _ _ _ _ _ => (dg_nm 1 nd (by walk_at "free1"))) (fun z hz _ _ _ _ _ => (de_to (de_isi (G.b_isinstance) G.b_tuple (de_nm 1) boot_tuple (by decide)) (by walk_at "elt")))))))
  · refine dss_one (ds_ret de_bool ?_)
    show PyData.bool false = _
    congr 1
    cases d with
    | tuple ds =>
      match ds with
      | [] => rfl
      | [a] => cases a <;> rfl
      | [a, b] => cases a <;> cases b <;> first | rfl | (simp [isiD, tyD, lenT, allTup] at hk)
      | a :: b :: c :: r => cases a <;> cases b <;> rfl
    | _ => rfl
  · simp only [Bool.or_eq_false_iff, Bool.not_eq_false', decide_eq_true_eq] at hk
    obtain ⟨ds, rfl⟩ := tup_of hk.1
    obtain ⟨x, y, rfl⟩ := two_of (l := ds) (by have := hk.2.1; simp only [lenT] at this; omega)
    have ha := hk.2.2
    simp only [allTup, List.all_cons, List.all_nil, Bool.and_true, Bool.and_eq_true] at ha
    obtain ⟨a, rfl⟩ := tup_of ha.1
    obtain ⟨b, rfl⟩ := tup_of ha.2
    refine dss_then (ds_asgG (de_nm 0) (dg_tup rfl (dgs_cons (dg_nm 2 nd (by walk_at "free1")) (dgs_cons (dg_nm 3 nd (by walk_at "free1")) dgs_nil))) (by rfl)) ?_
    dsimp only [List.set]
    refine dss_guard (dt_w (dw_or (dt_not (dt_chain de_int (de_len (G.b_len) (de_nm 2) (by walk_at "len")) (de_gint G.c_MOST_INPUTS) (by walk_at "cb.LtE") (by walk_at "cb.LtE"))) (fun hk => (dw_or1 (dt_cmp (de_len (G.b_len) (de_nm 3) (by walk_at "len")) (de_gint G.c_MOST_SPLITTERS) (by walk_at "cb.Gt")))))) (fun hk => ?_) (fun hk => ?_)
    · refine dss_one (ds_ret de_bool ?_)
      show PyData.bool false = PyData.bool (partsD _)
      congr 1
      simp only [Bool.or_eq_true, Bool.not_eq_true', Bool.and_eq_false_iff, decide_eq_false_iff_not, decide_eq_true_eq] at hk
      have e : (decide (1 ≤ (a.length : Nat)) && decide (a.length ≤ 4) && decide (b.length ≤ 12)) = false := by
        simp only [Bool.and_eq_false_iff, decide_eq_false_iff_not]
        omega
      simp only [partsD, e, Bool.false_and]
    · simp only [Bool.or_eq_false_iff, Bool.not_eq_false', Bool.and_eq_true, decide_eq_true_eq, decide_eq_false_iff_not] at hk
      have e : (decide (1 ≤ (a.length : Nat)) && decide (a.length ≤ 4) && decide (b.length ≤ 12)) = true := by
        simp only [Bool.and_eq_true, decide_eq_true_eq]
        omega
      have hzA : a.length ≤ 1000000 := by omega
      refine dss_guard (dt_not (dt_val (de_allC G.b_all rfl (de_dn (dn_lc0 (xs := (a)) (emb := (id)) (g := (fun z => .bool (isGoalD z (b.length : Nat)))) (own' := [("goal", 4)]) rfl nd (dic_to (dic_of (by first | exact di_tup (de_nm 2) | exact di_list (de_nm 2))) (by walk_at "emb")) (by walk_at "blk") (by walk_at "free") (by decide) (by walk_at "sz") (fun z hz _ _ _ _ _ => (dg_nm 4 nd (by walk_at "free1"))) (fun z hz _ _ _ _ _ => (de_to (de_call (ok_is_goal G) (hr.mono (by decide)) G.g_is_goal G.fn_is_goal.kp (bi_is_goal G) (da_cons (de_nm 4) (da_cons (de_len (G.b_len) (de_nm 3) (by walk_at "len")) da_nil)) (by first | exact rel_is_goal | exact rel_is_goal (by assumption) | exact rel_is_goal (by walk_at "rel") | assumption)) (by walk_at "elt")))))))) (fun hk2 => ?_) (fun hk2 => ?_)
      · refine dss_one (ds_ret de_bool ?_)
        show PyData.bool false = PyData.bool (partsD _)
        congr 1
        simp only [Bool.not_eq_true'] at hk2
        simp only [partsD, e, hk2, Bool.and_false, Bool.false_and]
      · simp only [Bool.not_eq_false'] at hk2
        refine dss_cons (fun S' => S' = [dat (.tuple [.tuple a, .tuple b]), un, dat (.tuple a), dat (.tuple b), un, un] ∧ b.all (pairOkD (b.length : Nat)) = true) (ds_forS (xs := b) (emb := id) (fun i => [dat (.tuple [.tuple a, .tuple b]), un, dat (.tuple a), dat (.tuple b), un, un]) (fun i => (b.take i).all (pairOkD (b.length : Nat)) = true) (di_to (by first | exact di_tup (de_nm 3) | exact di_list (de_nm 3)) (by simp)) (LeL.le (by walk_at "le")) (by simp) (fun i z hz hc => ⟨(dg_nm 5 nd (by walk_at "free1")), ?_⟩) (fun hc => ⟨rfl, by rwa [List.take_length] at hc⟩) PassesOwn.never rfl) ?_
        · dsimp only [List.set, id]
          have bad : pairOkD (b.length : Nat) z = false → PyData.bool false = PyData.bool (partsD (.tuple [.tuple a, .tuple b])) := fun hz2 => by
            have hall : b.all (pairOkD (b.length : Nat)) = false := by
              rw [List.all_eq_false]
              exact ⟨z, List.mem_of_getElem? hz, by simp [hz2]⟩
            simp only [partsD, hall, Bool.and_false]
          refine dss_guard (k := !isiD z "tuple" || (!decide (lenT z = 2) || isNone2 z)) ?_ (fun hk => ?_) (fun hk => ?_)
          · refine dt_w (dw_or (dt_not (dt_val (de_isi (G.b_isinstance) G.b_tuple (de_nm 5) boot_tuple (by decide)))) (fun hk => dw_or (k := !decide (lenT z = 2)) (k' := isNone2 z) ?_ (fun hk2 => dw_or1 ?_)))
            · obtain ⟨ds, rfl⟩ := tup_of (by simpa using hk)
              exact (dt_cmp (de_len (G.b_len) (de_nm 5) (by walk_at "len")) de_int (by walk_at "cb.NotEq"))
            · obtain ⟨ds, rfl⟩ := tup_of (by simpa using hk)
              obtain ⟨x, y, rfl⟩ := two_of (l := ds) (by have := dec_true hk2; simp only [lenT] at this; omega)
              exact dt_to (dt_cmp (de_nm 5) (de_tup (da_cons de_none (da_cons de_none da_nil))) (by walk_at "cb.Eq")) (eqv_none2 x y)
          · refine dss_one (ds_ret de_bool (bad ?_))
            cases z with
            | tuple ds =>
              match ds with
              | [] => rfl
              | [x] => rfl
              | [x, y] =>
                have : (isNo x && isNo y) = true := by simpa [isiD, tyD, lenT, isNone2] using hk
                simp [pairOkD, this]
              | x :: y :: c :: r => rfl
            | _ => rfl
          · simp only [Bool.or_eq_false_iff, Bool.not_eq_false', decide_eq_true_eq] at hk
            obtain ⟨ds, rfl⟩ := tup_of hk.1
            obtain ⟨x, y, rfl⟩ := two_of (l := ds) (by have := hk.2.1; simp only [lenT] at this; omega)
            have hn2 : (isNo x && isNo y) = false := hk.2.2
            refine dss_guard (dt_not (dt_val (de_allC G.b_all rfl (de_dn (dn_lc0 (xs := ([x, y])) (emb := (id)) (g := (fun z => .bool (okG (b.length : Nat) z))) (own' := [("goal", 4)]) rfl nd (dic_to (dic_of (by first | exact di_tup (de_nm 5) | exact di_list (de_nm 5))) (by walk_at "emb")) (by walk_at "blk") (by walk_at "free") (by decide) (by walk_at "sz") (fun z hz _ _ _ _ _ => (dg_nm 4 nd (by walk_at "free1"))) (fun z hz _ _ _ _ _ => (de_to (de_or (de_cmp (de_nm 4) de_none (by walk_at "cb.Is")) (fun hk => (de_and1 (de_call (ok_is_goal G) (hr.mono (by decide)) G.g_is_goal G.fn_is_goal.kp (bi_is_goal G) (da_cons (de_nm 4) (da_cons (de_len (G.b_len) (de_nm 3) (by walk_at "len")) da_nil)) (by first | exact rel_is_goal | exact rel_is_goal (by assumption) | exact rel_is_goal (by walk_at "rel") | assumption))))) (by walk_at "elt")))))))) (fun hk3 => ?_) (fun hk3 => ?_)
            · simp only [Bool.not_eq_true'] at hk3
              exact dss_one (ds_ret de_bool (bad (by simp only [pairOkD, hk3, Bool.and_false])))
            · simp only [Bool.not_eq_false'] at hk3
              refine dss_nil ⟨LeL.le (by walk_at "le"), ?_⟩
              rw [List.take_add_one, hz, List.all_append, hc]
              simp only [Option.toList_some, List.all_cons, List.all_nil, pairOkD, hn2, hk3, Bool.not_false, Bool.and_true]
        · rintro _ ⟨rfl, hall⟩
          refine dss_one (ds_ret de_bool ?_)
          show PyData.bool true = PyData.bool (partsD _)
          simp only [partsD, e, hk2, hall, Bool.and_self]
/-! ### from data to webs -/
def bndG (n : Nat) (g : Goal) : Prop := if g.out then g.num ≤ 7 else g.num < n
structure Parts (w : Web) : Prop where
  ins : 1 ≤ w.ins.length ∧ w.ins.length ≤ 4
  prs : w.prs.length ≤ 12
  gi : ∀ g ∈ w.ins, bndG w.prs.length g
  some : ∀ p ∈ w.prs, p ≠ (none, none)
  gp : ∀ p ∈ w.prs, ∀ g ∈ there p, bndG w.prs.length g
theorem Parts.small {w : Web} (h : Parts w) : Small w := ⟨by have := h.ins; omega, by have := h.prs; omega⟩
theorem isCount_eq {d : PD} {lo hi : Int} (h : isCount d lo hi = true) : ∃ i, d = .int i ∧ lo ≤ i ∧ i ≤ hi := by
  cases d <;> simp [isCount] at h
  exact ⟨_, rfl, h⟩
theorem isGoal_of {d : PD} {n : Nat} (h : isGoalD d n = true) : ∃ g, d = goalD g ∧ bndG n g := by
  unfold isGoalD at h
  split at h
  · rename_i s e
    split at h
    · rename_i hs
      obtain ⟨i, rfl, h1, h2⟩ := isCount_eq h
      obtain ⟨m, rfl⟩ := Int.eq_ofNat_of_zero_le h1
      exact ⟨⟨true, m⟩, by simp [goalD, hs], by simp [bndG]; omega⟩
    · rename_i hs
      simp only [Bool.and_eq_true, decide_eq_true_eq] at h
      obtain ⟨i, rfl, h1, h2⟩ := isCount_eq h.2
      obtain ⟨m, rfl⟩ := Int.eq_ofNat_of_zero_le h1
      exact ⟨⟨false, m⟩, by simp [goalD, h.1], by simp [bndG]; omega⟩
  · cases h
theorem goal_is {g : Goal} {n : Nat} (h : bndG n g) : isGoalD (goalD g) n = true := by
  obtain ⟨o, m⟩ := g
  cases o
  · simp [bndG] at h
    have e : ¬ ((Str.ofString "split") = (Str.ofString "out")) := by decide
    simp [isGoalD, goalD, e, isCount]
    omega
  · simp [bndG] at h
    simp [isGoalD, goalD, isCount]
    omega
theorem pairOk_of {d : PD} {n : Nat} (h : pairOkD n d = true) : ∃ p : OG × OG, d = pairD p ∧ p ≠ (none, none) ∧ ∀ g ∈ there p, bndG n g := by
  unfold pairOkD at h
  split at h
  · rename_i x y
    simp only [List.all_cons, List.all_nil, Bool.and_true, Bool.and_eq_true, Bool.not_eq_true'] at h
    have f : ∀ z : PD, okG n z = true → ∃ o : OG, z = ogD o ∧ ∀ g, o = some g → bndG n g := fun z hz => by
      unfold okG at hz
      cases hn : isNo z with
      | true =>
        refine ⟨none, ?_, fun g e => by cases e⟩
        cases z <;> first | rfl | cases hn
      | false =>
        rw [hn, Bool.false_or] at hz
        obtain ⟨g, e, b⟩ := isGoal_of hz
        exact ⟨some g, e, fun g' e' => by cases e'; exact b⟩
    obtain ⟨o1, rfl, b1⟩ := f x h.2.1
    obtain ⟨o2, rfl, b2⟩ := f y h.2.2
    refine ⟨(o1, o2), rfl, fun e => ?_, fun g hg => ?_⟩
    · cases e; simp [ogD, isNo] at h
    · cases o1 <;> cases o2 <;> simp [there] at hg
      · exact b2 g (by rw [hg])
      · exact b1 g (by rw [hg])
      · rcases hg with rfl | rfl
        · exact b1 _ rfl
        · exact b2 _ rfl
  · cases h
theorem pair_is {p : OG × OG} {n : Nat} (h : p ≠ (none, none)) (b : ∀ g ∈ there p, bndG n g) : pairOkD n (pairD p) = true := by
  obtain ⟨o1, o2⟩ := p
  have f : ∀ o : OG, (∀ g, o = some g → bndG n g) → okG n (ogD o) = true := fun o ho => by
    cases o with
    | none => rfl
    | some g => simp only [okG, ogD, goal_is (ho g rfl), Bool.or_true]
  have f1 := f o1 (fun g e => b g (by subst e; cases o2 <;> simp [there]))
  have f2 := f o2 (fun g e => b g (by subst e; cases o1 <;> simp [there]))
  have hn : (isNo (ogD o1) && isNo (ogD o2)) = false := by
    cases o1 <;> cases o2 <;> first | exact absurd rfl h | rfl
  simp only [pairOkD, pairD, hn, List.all_cons, List.all_nil, f1, f2, Bool.and_true, Bool.not_false]
theorem all_of {α : Type} {f : PD → Bool} {g : α → PD} {P : α → Prop} (h : ∀ d, f d = true → ∃ x, d = g x ∧ P x) : ∀ l : List PD, l.all f = true → ∃ xs : List α, l = xs.map g ∧ ∀ x ∈ xs, P x
  | [], _ => ⟨[], rfl, by simp⟩
  | d :: l, q => by
    rw [List.all_cons, Bool.and_eq_true] at q
    obtain ⟨x, rfl, p⟩ := h d q.1
    obtain ⟨xs, rfl, ps⟩ := all_of h l q.2
    exact ⟨x :: xs, rfl, by simpa using ⟨p, ps⟩⟩
theorem parts_of {d : PD} (h : partsD d = true) : ∃ w, d = webD w ∧ Parts w := by
  unfold partsD at h
  split at h
  · rename_i a b
    simp only [Bool.and_eq_true, decide_eq_true_eq] at h
    obtain ⟨ins, rfl, hi⟩ := all_of (fun d => isGoal_of (n := b.length)) a h.1.2
    obtain ⟨prs, rfl, hp⟩ := all_of (fun d => pairOk_of (n := b.length)) b h.2
    rw [List.length_map] at h hp hi
    exact ⟨⟨ins, prs⟩, rfl, ⟨by simpa using h.1.1.1, by simpa using h.1.1.2, hi, fun p hq => (hp p hq).1, fun p hq => (hp p hq).2⟩⟩
  · cases h
theorem parts_is {w : Web} (h : Parts w) : partsD (webD w) = true := by
  simp only [webD, partsD, List.length_map, Bool.and_eq_true, decide_eq_true_eq, List.all_map, List.all_eq_true, Function.comp_def]
  exact ⟨⟨⟨h.ins, h.prs⟩, fun g hg => goal_is (h.gi g hg)⟩, fun p hp => pair_is (h.some p hp) (h.gp p hp)⟩
theorem goalD_inj {g g' : Goal} (h : goalD g = goalD g') : g = g' := by
  obtain ⟨o, m⟩ := g
  obtain ⟨o', m'⟩ := g'
  simp only [goalD, PyData.tuple.injEq, List.cons.injEq, PyData.str.injEq, PyData.int.injEq, and_true] at h
  have h2 : m = m' := by omega
  have h1 := h.1
  cases o <;> cases o'
  · rw [h2]
  · exact absurd (show Str.ofString "split" = Str.ofString "out" from h1) (by decide)
  · exact absurd (show Str.ofString "out" = Str.ofString "split" from h1) (by decide)
  · rw [h2]
theorem ogD_inj {o o' : OG} (h : ogD o = ogD o') : o = o' := by
  cases o <;> cases o' <;> first | rfl | (simp [ogD, goalD] at h; done) | (exact congrArg some (goalD_inj h))
theorem map_inj {α β : Type} {f : α → β} (hf : ∀ a b, f a = f b → a = b) : ∀ {l m : List α}, l.map f = m.map f → l = m
  | [], [], _ => rfl
  | [], _ :: _, h => by simp at h
  | _ :: _, [], h => by simp at h
  | a :: l, b :: m, h => by
    simp only [List.map_cons, List.cons.injEq] at h
    rw [hf a b h.1, map_inj hf h.2]
theorem pairD_inj {p q : OG × OG} (h : pairD p = pairD q) : p = q := by
  obtain ⟨a, b⟩ := p
  obtain ⟨c, d⟩ := q
  simp only [pairD, PyData.tuple.injEq, List.cons.injEq, and_true] at h
  rw [ogD_inj h.1, ogD_inj h.2]
theorem webD_inj {w v : Web} (h : webD w = webD v) : w = v := by
  obtain ⟨a, b⟩ := w
  obtain ⟨c, d⟩ := v
  simp only [webD, PyData.tuple.injEq, List.cons.injEq, and_true] at h
  have e1 := map_inj (fun _ _ => goalD_inj) h.1
  have e2 := map_inj (fun _ _ => pairD_inj) h.2
  rw [e1, e2]

theorem out_eq (g : Goal) : decide ((if g.out then Str.ofString "out" else Str.ofString "split") = Str.ofString "out") = g.out := by
  cases h : g.out <;> simp <;> decide
local macro_rules | `(tactic| walk_at "elt") => `(tactic| exact out_eq _)
/-! ### outs_of -/
def nOuts (w : Web) : Nat := ((goalsOf w).filter fun g => g.out).length
theorem goalsOf_len {w : Web} (h : Small w) : (goalsOf w).length ≤ 3000 := by
  have := goalsTo_len w w.prs.length h
  rwa [goalsTo_all] at this
def R_outs_of : List PD → PD → Prop := fun ds r => ∃ w : Web, Small w ∧ ds = [webD w] ∧ r = .int (nOuts w : Nat)
theorem rel_outs_of {w : Web} (h : Small w) : R_outs_of [webD w] (.int (nOuts w : Nat)) := ⟨w, h, rfl, rfl⟩
theorem len_outs_of {ds : List PD} {r : PD} : R_outs_of ds r → ds.length = 1 := by rintro ⟨_, _, rfl, _⟩; rfl
theorem sc_outs_of : FnScope ["web", "goal"] ["web"] (defScope (topS 21)) := ⟨rfl, rfl, rfl, by decide +kernel, rfl, by decide +kernel, by decide +kernel⟩
theorem bi_outs_of {K : Fr} {mg : Str → Option Value} (G : Tx K mg) : Binds K G.fd_outs_of ["web"] [] := G.fn_outs_of.bindsN fun _ _ _ _ _ _ us hl => match us, hl with | [_], _ => rfl
theorem ok_outs_of {P : Program} {w : World} {K : Fr} {mg : Str → Option Value} {base : Heap} {T : Tb} (G : Tx K mg) : FnOk P w K mg base CX0 2 (He.ga K "outs_of") G.fd_outs_of ["web"] (spF T R_outs_of) := by
  have nd := sc_outs_of.nd
  refine fn_ok G.fn_outs_of sc_outs_of (fun ds d h => by have h' := len_outs_of h; rw [h']; decide) fun ds d h cd A outer s H E hr => ?_
  obtain ⟨w, hw, rfl, rfl⟩ := h
  dsimp only [enter]
  have hl := goalsOf_len hw
  refine dss_one (ds_ret (de_to (de_len G.b_len (de_dn (dn_lc (xs := (goalsOf w)) (emb := (goalD)) (f := (fun g => g.out)) (g := (goalD)) (own' := [("goal", 1)]) rfl nd (dic_to (dic_of (by first | exact di_tup (de_call (ok_goals_of G) (hr.mono (by decide)) G.g_goals_of G.fn_goals_of.kp (bi_goals_of G) (da_cons (de_nm 0) da_nil) (by first | exact rel_goals_of | exact rel_goals_of (by assumption) | exact rel_goals_of (by walk_at "rel") | assumption)) | exact di_list (de_call (ok_goals_of G) (hr.mono (by decide)) G.g_goals_of G.fn_goals_of.kp (bi_goals_of G) (da_cons (de_nm 0) da_nil) (by first | exact rel_goals_of | exact rel_goals_of (by assumption) | exact rel_goals_of (by walk_at "rel") | assumption)))) (by walk_at "emb")) (by walk_at "blk") (by walk_at "free") (by decide) (by walk_at "sz") (fun z hz _ _ _ _ _ => (dg_nm 1 nd (by walk_at "free1"))) (fun z hz _ _ _ _ _ => dts_one (dt_to (dt_cmp (de_ix (de_nm 1) de_int (by walk_at "ix")) de_str (by walk_at "cb.Eq")) (by walk_at "elt"))) (fun z hz hk _ _ _ _ _ => (de_to (de_nm 1) (by walk_at "elt"))))) (LenD.list _)) (by simp [nOuts])) rfl)
/-! ### leads_out -/
def insN (fk : List Nat) (n : Nat) : List Nat := if n ∈ fk then fk else fk ++ [n]
def ldG (fk : List Nat) : OG → Bool
  | none => false
  | some g => g.out || decide (g.num ∈ fk)
def ldS (n : Nat) (fk : List Nat) (o : OG) : List Nat := if ldG fk o then insN fk n else fk
def ldP (fk : List Nat) (n : Nat) (p : OG × OG) : List Nat := ldS n (ldS n fk p.1) p.2
def ldR (prs : List (OG × OG)) (fk : List Nat) : Nat → List Nat
  | 0 => fk
  | i + 1 => ldP (ldR prs fk i) i (prs.getD i (none, none))
def ldN (w : Web) : Nat → List Nat
  | 0 => []
  | t + 1 => ldR w.prs (ldN w t) w.prs.length
def ldAll (w : Web) : List Nat := ldN w (w.prs.length + 1)
def fd (fk : List Nat) : List (Key × PD) := fk.map fun n => (.inl (n : Nat), .bool true)
theorem fd_any (fk : List Nat) (n : Nat) : ((fd fk).any fun kv => decide (kv.1 = (.inl (n : Int) : Key))) = decide (n ∈ fk) := by
  induction fk with
  | nil => rfl
  | cons m fk ih =>
    simp only [fd, List.map_cons, List.any_cons] at ih ⊢
    rw [ih]
    by_cases e : m = n
    · subst e; simp
    · have e1 : ¬ ((Sum.inl (m : Int) : Key) = Sum.inl (n : Int)) := fun z => e (by injection z with z; omega)
      have e2 : ¬ n = m := fun z => e z.symm
      simp [e1, e2]
theorem fd_lk (fk : List Nat) (n : Nat) : (lk (fd fk) (.inl (n : Int))).isSome = decide (n ∈ fk) := by
  rw [← fd_any]
  generalize fd fk = l
  induction l with
  | nil => rfl
  | cons p l ih =>
    by_cases e : p.1 = (.inl (n : Int) : Key)
    · simp [lk, e]
    · simp only [lk, List.find?_cons, e, decide_false, List.any_cons, Bool.false_or] at ih ⊢
      exact ih
theorem fd_pt (fk : List Nat) (n : Nat) : pt (fd fk) (.inl (n : Int)) (.bool true) = fd (insN fk n) := by
  unfold pt insN
  rw [fd_any]
  by_cases h : n ∈ fk
  · simp only [h, decide_true, if_true]
    unfold fd
    rw [List.map_map]
    refine List.map_congr_left fun m _ => ?_
    simp only [Function.comp_def]
    split <;> rfl
  · simp [h, fd]
theorem insN_len (fk : List Nat) (n : Nat) : (insN fk n).length ≤ fk.length + 1 := by unfold insN; split <;> simp
theorem insN_nd {fk : List Nat} (n : Nat) (h : fk.Nodup) : (insN fk n).Nodup := by
  unfold insN
  split
  · exact h
  · rename_i q
    rw [List.nodup_append]
    exact ⟨h, by simp, fun a ha b hb => by simp at hb; subst hb; exact fun e => q (e ▸ ha)⟩
/-- what is found is numbers of splitters, each once -/
def LdOk (n : Nat) (fk : List Nat) : Prop := fk.Nodup ∧ ∀ m ∈ fk, m < n
theorem LdOk.ins {n m : Nat} {fk : List Nat} (h : LdOk n fk) (hm : m < n) : LdOk n (insN fk m) := ⟨insN_nd m h.1, fun k hk => by
  unfold insN at hk
  split at hk
  · exact h.2 k hk
  · rcases List.mem_append.mp hk with q | q
    · exact h.2 k q
    · simp at q; omega⟩
theorem LdOk.s {n m : Nat} {fk : List Nat} (o : OG) (h : LdOk n fk) (hm : m < n) : LdOk n (ldS m fk o) := by
  unfold ldS
  split
  · exact h.ins hm
  · exact h
theorem LdOk.r {n : Nat} {fk : List Nat} {prs : List (OG × OG)} (h : LdOk n fk) : ∀ i, i ≤ n → LdOk n (ldR prs fk i)
  | 0, _ => h
  | i + 1, hi => ((h.r i (by omega)).s _ (by omega)).s _ (by omega)
theorem LdOk.n (w : Web) : ∀ t, LdOk w.prs.length (ldN w t)
  | 0 => ⟨List.nodup_nil, by simp [ldN]⟩
  | t + 1 => (LdOk.n w t).r _ (Nat.le_refl _)
theorem nd_len : ∀ {n : Nat} {l : List Nat}, l.Nodup → (∀ m ∈ l, m < n) → l.length ≤ n := fun {n l} h q => by
  have := List.Nodup.length_le_of_subset (l₁ := l) (l₂ := List.range n) h fun m hm => List.mem_range.mpr (q m hm)
  simpa using this
theorem LdOk.len {n : Nat} {fk : List Nat} (h : LdOk n fk) : fk.length ≤ n := nd_len h.1 h.2
def R_leads_out : List PD → SV → Prop := fun ds s => ∃ w : Web, Small w ∧ ds = [webD w] ∧ s = odK (fd (ldAll w))
theorem rel_leads_out {w : Web} (h : Small w) : R_leads_out [webD w] (odK (fd (ldAll w))) := ⟨w, h, rfl, rfl⟩
theorem len_leads_out {ds : List PD} {r : SV} : R_leads_out ds r → ds.length = 1 := by rintro ⟨_, _, rfl, _⟩; rfl
theorem num_eq (g : Goal) : PyData.int (g.num : Nat) = kD (.inl (g.num : Nat)) := rfl
theorem sc_leads_out : FnScope ["web", "found", "turn", "number", "pair", "goal"] ["web"] (defScope (topS 22)) := ⟨rfl, rfl, rfl, by decide +kernel, rfl, by decide +kernel, by decide +kernel⟩
theorem bi_leads_out {K : Fr} {mg : Str → Option Value} (G : Tx K mg) : Binds K G.fd_leads_out ["web"] [] := G.fn_leads_out.bindsN fun _ _ _ _ _ _ us hl => match us, hl with | [_], _ => rfl
theorem ok_leads_out {P : Program} {w : World} {K : Fr} {mg : Str → Option Value} {base : Heap} {T : Tb} (G : Tx K mg) : FnOk P w K mg base CX0 1 (He.ga K "leads_out") G.fd_leads_out ["web"] (spV T R_leads_out) := by
  have nd := sc_leads_out.nd
  refine fn_okV G.fn_leads_out sc_leads_out (fun ds d h => by have h' := len_leads_out h; rw [h']; decide) fun ds d h cd A outer s H E hr => ?_
  obtain ⟨w, hw, rfl, rfl⟩ := h
  dsimp only [enter]
  have hn := hw.2
  refine dss_then (ds_asgV 1 dv_dictK rfl (by walk_at "lt") nd) ?_
  dsimp only [List.set]
  refine dss_then (ds_forS (xs := List.range (w.prs.length + 1)) (emb := fun i => .int (i : Nat)) (fun t => [dat (webD w), odK (fd (ldN w t)), un, un, un, un]) (fun _ => True) (di_to (di_range (da_cons (de_bin (de_len (G.b_len) (de_ix (de_nm 0) de_int (by walk_at "ix")) (by walk_at "len")) de_int (by walk_at "ob.Add")) da_nil) G.b_range (by walk_at "num")) (by simp [DL.upTo])) (LeL.le (by walk_at "le")) trivial (fun t z hz _ => ⟨(dg_nm 2 nd (by walk_at "free1")), ?_⟩) (fun _ => rfl) PassesOwn.never rfl) ?_
  · dsimp only [List.set]
    refine dss_one (ds_forS (xs := List.range w.prs.length) (emb := fun i => .tuple [.int (i : Nat), pairD (w.prs.getD i (none, none))]) (fun i => [dat (webD w), odK (fd (ldR w.prs (ldN w t) i)), un, un, un, un]) (fun _ => True) (di_to (ds := enumD (w.prs.map pairD)) (di_enum (k := true) (da_cons (de_ix (de_nm 0) de_int (by walk_at "ix")) da_nil) G.b_enumerate) ?_) (LeL.le (by walk_at "le")) trivial (fun i z hz _ => ⟨(dg_tup rfl (dgs_cons (dg_nm 3 nd (by walk_at "free1")) (dgs_cons (dg_nm 4 nd (by walk_at "free1")) dgs_nil))), ?_⟩) (fun _ => ⟨LeL.le (.keep (.keepE (by simp [ldN]) (by walk_at "le"))), trivial⟩) PassesOwn.never rfl)
    · unfold enumD
      rw [List.length_map]
      refine List.map_congr_left fun i hi => ?_
      have hi' := List.mem_range.mp hi
      rw [getD_some (show (w.prs.map pairD)[i]? = some (pairD (w.prs.getD i (none, none))) by simp [hi'])]
    · dsimp only [List.set]
      have hzi : z = i := by
        have := List.getElem?_eq_some_iff.mp hz
        obtain ⟨h1, h2⟩ := this
        rw [← h2]; simp
      subst hzi
      have hzn : z < w.prs.length := by
        have h1 := (List.getElem?_eq_some_iff.mp hz).1
        simpa using h1
      have ok1 := (LdOk.n w t).r (prs := w.prs) z (by omega)
      refine dss_one (ds_forS (xs := [(w.prs.getD z (none, none)).1, (w.prs.getD z (none, none)).2]) (emb := ogD) (fun j => [dat (webD w), odK (fd (([(w.prs.getD z (none, none)).1, (w.prs.getD z (none, none)).2].take j).foldl (ldS z) (ldR w.prs (ldN w t) z))), un, dat (.int (z : Nat)), un, un]) (fun _ => True) (by first | exact di_tup (de_nm 4) | exact di_list (de_nm 4)) (LeL.le (by walk_at "le")) trivial (fun j o hj _ => ⟨(dg_nm 5 nd (by walk_at "free1")), ?_⟩) (fun _ => ⟨LeL.le (.keep (.keepE rfl (by walk_at "le"))), trivial⟩) PassesOwn.never rfl)
      dsimp only [List.set]
      have ok2 : LdOk w.prs.length (([(w.prs.getD z (none, none)).1, (w.prs.getD z (none, none)).2].take j).foldl (ldS z) (ldR w.prs (ldN w t) z)) := by
        generalize ([(w.prs.getD z (none, none)).1, (w.prs.getD z (none, none)).2].take j) = l
        generalize ldR w.prs (ldN w t) z = fk at ok1
        induction l generalizing fk with
        | nil => exact ok1
        | cons o l ih => exact ih _ (ok1.s o hzn)
      have step : ([(w.prs.getD z (none, none)).1, (w.prs.getD z (none, none)).2].take (j + 1)).foldl (ldS z) (ldR w.prs (ldN w t) z) = ldS z (([(w.prs.getD z (none, none)).1, (w.prs.getD z (none, none)).2].take j).foldl (ldS z) (ldR w.prs (ldN w t) z)) o := by
        rw [List.take_add_one, hj, List.foldl_append]; rfl
      generalize (([(w.prs.getD z (none, none)).1, (w.prs.getD z (none, none)).2].take j).foldl (ldS z) (ldR w.prs (ldN w t) z)) = fk at *
      have hfl := ok2.len
      refine dss_one (ds_if (k := ldG fk o) ?_ (fun hk => ?_) (fun hk => ?_))
      · cases o with
        | none => exact dt_w (dw_and (k' := false) (k := false) (dt_cmp (de_nm 5) de_none (by walk_at "cb.IsNot")) (fun hk => by cases hk))
        | some g =>
          refine dt_to (dt_w (dw_and (k := true) (dt_cmp (de_nm 5) de_none (by walk_at "cb.IsNot")) (fun hk => dw_and1 (dt_w (dw_or (dt_cmp (de_ix (de_nm 5) de_int (by walk_at "ix")) de_str (by walk_at "cb.Eq")) (fun hk => (dw_or1 (dt_inK (k := .inl _) 1 (by walk_at "hu1") (de_ix (de_nm 5) de_int (by walk_at "ix")))))))))) ?_
          rw [fd_lk, out_eq]; rfl
      · refine dss_one (ds_putK (k := .inl (z : Nat)) 1 (by walk_at "hu1") (de_nm 3) de_bool ⟨LeL.le (.keep (.keepE ?_ (by walk_at "le"))), trivial⟩ ?_)
        · rw [step, fd_pt]; simp [ldS, hk]
        · rw [sizeLine_eq]; simp [fd]; omega
      · refine dss_nil ⟨LeL.le (.keep (.keepE ?_ (by walk_at "le"))), trivial⟩
        rw [step]; simp [ldS, hk]
  · refine dss_one (ds_retV (s := odK (fd (ldAll w))) 1 rfl odK_ref (by simp [ldAll]))

theorem noB_goal (g : Goal) : noB (goalD g) = true := rfl
theorem dp_goal (g : Goal) : (goalD g).depth ≤ 64 := by simp [goalD, PyData.depth, PyData.depthAll]
theorem split_eq (g : Goal) (i : Nat) : PyData.eqv (goalD g) (.tuple [.str "split", .int (i : Nat)]) = decide (g = ⟨false, i⟩) := eqv_emb noB_goal (fun _ _ => goalD_inj) g ⟨false, i⟩
local macro_rules | `(tactic| walk_at "elt") => `(tactic| first | exact out_eq _ | exact split_eq _ _)
local macro_rules | `(tactic| walk_at "dpt") => `(tactic| exact dp_goal _)
/-! ### is_web -/
def outNs (w : Web) : List Int := ((goalsOf w).filter fun g => g.out).map fun g => (g.num : Int)
def outsOf (w : Web) : List Int := sortI (outNs w)
def cnt (w : Web) (i : Nat) : Nat := ((goalsOf w).filter fun g => decide (g = ⟨false, i⟩)).length
def cnts (w : Web) : List Int := (List.range w.prs.length).map fun i => (cnt w i : Int)
def in12 (c : Int) : Bool := inD (.int c) [.int 1, .int 2]
def webB (w : Web) : Bool := (!(decide (outsOf w = []) || !decide (outsOf w = upI (outsOf w).length))) && ((cnts w).all in12 && decide (((fd (ldAll w)).length : Int) = w.prs.length))
structure IsWeb (w : Web) : Prop where
  parts : Parts w
  ok : webB w = true
def R_is_web : List PD → PD → Prop := fun ds r => ∃ d, ds = [d] ∧ ((partsD d = false ∧ r = .bool false) ∨ ∃ w, d = webD w ∧ Parts w ∧ r = .bool (webB w))
theorem len_is_web {ds : List PD} {r : PD} : R_is_web ds r → ds.length = 1 := by rintro ⟨_, rfl, _⟩; rfl
local macro_rules | `(tactic| walk_at "emb") => `(tactic| (simp [cnts, List.map_map, Function.comp_def]; done))
theorem sc_is_web : FnScope ["thing", "goals", "outs", "goal", "counts", "number", "count"] ["thing"] (defScope (topS 23)) := ⟨rfl, rfl, rfl, by decide +kernel, rfl, by decide +kernel, by decide +kernel⟩
theorem bi_is_web {K : Fr} {mg : Str → Option Value} (G : Tx K mg) : Binds K G.fd_is_web ["thing"] [] := G.fn_is_web.bindsN fun _ _ _ _ _ _ us hl => match us, hl with | [_], _ => rfl
theorem ok_is_web {P : Program} {w : World} {K : Fr} {mg : Str → Option Value} {base : Heap} {T : Tb} (G : Tx K mg) : FnOk P w K mg base CX0 4 (He.ga K "is_web") G.fd_is_web ["thing"] (spF T R_is_web) := by
  have nd := sc_is_web.nd
  refine fn_ok G.fn_is_web sc_is_web (fun ds d h => by have h' := len_is_web h; rw [h']; decide) fun ds d h cd A outer s H E hr => ?_
  obtain ⟨d, rfl, hd⟩ := h
  dsimp only [enter]
  refine dss_guard (k := !partsD d) (dt_not (dt_val (de_call (ok_are_parts G) (hr.mono (by decide)) G.g_are_parts G.fn_are_parts.kp (bi_are_parts G) (da_cons (de_nm 0) da_nil) (by first | exact rel_are_parts | exact rel_are_parts (by assumption) | exact rel_are_parts (by walk_at "rel") | assumption)))) (fun hk => ?_) (fun hk => ?_)
  · simp only [Bool.not_eq_true'] at hk
    rcases hd with ⟨h1, h2⟩ | ⟨w, rfl, hp, _⟩
    · exact dss_one (ds_ret de_bool h2.symm)
    · rw [parts_is hp] at hk; cases hk
  · simp only [Bool.not_eq_false'] at hk
    rcases hd with ⟨h1, h2⟩ | ⟨w, rfl, hp, rfl⟩
    · rw [hk] at h1; cases h1
    · have hw := hp.small
      have hn := hw.2
      have hl := goalsOf_len hw
      refine dss_then (ds_asg 1 (de_call (ok_goals_of G) (hr.mono (by decide)) G.g_goals_of G.fn_goals_of.kp (bi_goals_of G) (da_cons (de_nm 0) da_nil) (by first | exact rel_goals_of | exact rel_goals_of (by assumption) | exact rel_goals_of (by walk_at "rel") | assumption)) (by rfl) nd) ?_
      dsimp only [List.set]
      refine dss_then (ds_asg 2 (de_dn (dn_sortI (ns := outNs w) G.b_sorted (de_to (de_dn (dn_lc (xs := (goalsOf w)) (emb := (goalD)) (f := (fun g => g.out)) (g := (fun g => .int (g.num : Nat))) (own' := [("goal", 3)]) rfl nd (dic_to (dic_of (by first | exact di_tup (de_nm 1) | exact di_list (de_nm 1))) (by walk_at "emb")) (by walk_at "blk") (by walk_at "free") (by decide) (by walk_at "sz") (fun z hz _ _ _ _ _ => (dg_nm 3 nd (by walk_at "free1"))) (fun z hz _ _ _ _ _ => dts_one (dt_to (dt_cmp (de_ix (de_nm 3) de_int (by walk_at "ix")) de_str (by walk_at "cb.Eq")) (by walk_at "elt"))) (fun z hz hk _ _ _ _ _ => (de_to (de_ix (de_nm 3) de_int (by walk_at "ix")) (by walk_at "elt"))))) (by simp [outNs, List.map_map, Function.comp_def])))) rfl nd) ?_
      dsimp only [List.set]
      have hls : (outsOf w).length ≤ 3000 := by
        have h1 : (outsOf w).length = (outNs w).length := (List.mergeSort_perm _ _).length_eq
        have h2 : (outNs w).length ≤ (goalsOf w).length := by simp [outNs]; exact List.length_filter_le _ _
        omega
      change DSs _ _ _ _ [dat (webD w), dat (.list ((goalsOf w).map goalD)), dat (.list ((outsOf w).map .int)), un, un, un, un] _
      refine dss_guard (k := decide (outsOf w = []) || !decide (outsOf w = upI (outsOf w).length)) (dt_w (dw_or (dt_to (dt_cmp (de_nm 2) (de_dn (dn_lst da_nil)) (by walk_at "cb.Eq")) (eqv_embL noB_int int_inj (outsOf w) [])) (fun hk => dw_or1 (dt_to (dt_cmp (de_nm 2) (de_dn (dn_listR G.b_list G.b_range rfl (de_len (G.b_len) (de_nm 2) (by walk_at "len")) (by walk_at "num"))) (by walk_at "cb.NotEq")) ?_)))) (fun hk => ?_) (fun hk => ?_)
      · rw [show ((((outsOf w).map PyData.int).length : Nat) : Int).toNat = (outsOf w).length by simp, upTo_eq, eqv_embL noB_int int_inj]
      · refine dss_one (ds_ret de_bool ?_)
        show PyData.bool false = _
        simp [webB, hk]
      · refine dss_then (ds_asgLc0 (xs := (List.range w.prs.length)) (emb := (fun i => .int (i : Nat))) (g := (fun i => .int (cnt w i : Nat))) (own' := [("number", 5)]) 4 rfl nd (dic_to (dic_of (di_range (da_cons (de_len (G.b_len) (de_ix (de_nm 0) de_int (by walk_at "ix")) (by walk_at "len")) da_nil) G.b_range (by walk_at "num"))) (by walk_at "emb")) (by walk_at "blk") (by walk_at "free") (by decide) (by walk_at "sz") (fun z hz _ _ _ _ _ => (dg_nm 5 nd (by walk_at "free1"))) (fun z hz _ _ _ _ _ => (?_)) (by rfl) (by walk_at "lt")) ?_
        · exact de_to (de_len G.b_len (de_dn (dn_lc (xs := (goalsOf w)) (emb := (goalD)) (f := (fun g => decide (g = ⟨false, z⟩))) (g := (goalD)) (own' := [("goal", 3)]) rfl nd (dic_to (dic_of (by first | exact di_tup (de_nm 1) | exact di_list (de_nm 1))) (by walk_at "emb")) (by walk_at "blk") (by walk_at "free") (by decide) (by walk_at "sz") (fun z hz _ _ _ _ _ => (dg_nm 3 nd (by walk_at "free1"))) (fun z hz _ _ _ _ _ => dts_one (dt_to (dt_cmp (de_nm 3) (de_tup (da_cons de_str (da_cons (de_nm 5) da_nil))) (by walk_at "cb.Eq")) (by walk_at "elt"))) (fun z hz hk _ _ _ _ _ => (de_to (de_nm 3) (by walk_at "elt"))))) (LenD.list _)) (by simp [cnt])
        · dsimp only [List.set]
          have hlc : (cnts w).length ≤ 1000000 := by simp [cnts]; omega
          refine dss_one (ds_ret (d := .bool (webB w)) (de_to (de_and (k := (cnts w).all in12) (de_allC (l := cnts w) (h := in12) G.b_all rfl (de_dn (dn_lc0 (xs := (cnts w)) (emb := (PyData.int)) (g := (fun c => .bool (in12 c))) (own' := [("count", 6)]) rfl nd (dic_to (dic_of (by first | exact di_tup (de_nm 4) | exact di_list (de_nm 4))) (by walk_at "emb")) (by walk_at "blk") (by walk_at "free") (by decide) (by walk_at "sz") (fun z hz _ _ _ _ _ => (dg_nm 6 nd (by walk_at "free1"))) (fun z hz _ _ _ _ _ => (de_to (de_cmp (de_nm 6) (de_tup (da_cons de_int (da_cons de_int da_nil))) (by walk_at "cb.In")) (by walk_at "elt")))))) (fun hk2 => de_and1 (de_cmp (de_lenKV G.b_len (dv_call (ok_leads_out G) (hr.mono (by decide)) G.g_leads_out G.fn_leads_out.kp (bi_leads_out G) (da_cons (de_nm 0) da_nil) (rel_leads_out hw))) (de_len (G.b_len) (de_ix (de_nm 0) de_int (by walk_at "ix")) (by walk_at "len")) (by walk_at "cb")))) ?_) rfl)
          simp [webB, hk]
/-! ### need_web -/
def badD (d : PD) : Prop := ∀ w, d = webD w → ¬ IsWeb w
def R_need_web (K : Fr) : List PD → Rs → Prop := fun ds r => ∃ d, ds = [d] ∧ ((∃ w, d = webD w ∧ IsWeb w ∧ r = .ok .none) ∨ (badD d ∧ r = .no (.ref (He.ga K "BadWeb"))))
theorem rel_need_web {K : Fr} {w : Web} (h : IsWeb w) : R_need_web K [webD w] (.ok .none) := ⟨_, rfl, .inl ⟨w, rfl, h, rfl⟩⟩
theorem rel_need_web_bad {K : Fr} {d : PD} (h : badD d) : R_need_web K [d] (.no (.ref (He.ga K "BadWeb"))) := ⟨_, rfl, .inr ⟨h, rfl⟩⟩
theorem len_need_web {K : Fr} {ds : List PD} {r : Rs} : R_need_web K ds r → ds.length = 1 := by rintro ⟨_, rfl, _⟩; rfl
theorem sc_need_web : FnScope ["web"] ["web"] (defScope (topS 24)) := ⟨rfl, rfl, rfl, by decide +kernel, rfl, by decide +kernel, by decide +kernel⟩
theorem bi_need_web {K : Fr} {mg : Str → Option Value} (G : Tx K mg) : Binds K G.fd_need_web ["web"] [] := G.fn_need_web.bindsN fun _ _ _ _ _ _ us hl => match us, hl with | [_], _ => rfl
theorem ok_need_web {P : Program} {w : World} {K : Fr} {mg : Str → Option Value} {base : Heap} {T : Tb} (G : Tx K mg) : FnOk P w K mg base (L2N.CX P w) 5 (He.ga K "need_web") G.fd_need_web ["web"] (spX T (R_need_web K)) := by
  have nd := sc_need_web.nd
  refine fn_okX G.fn_need_web sc_need_web (fun ds d h => by have h' := len_need_web h; rw [h']; decide) fun ds d h cd A outer s H E hr => ?_
  obtain ⟨x, rfl, hd⟩ := h
  dsimp only [enter]
  have tk := L2N.takes_of (X := bodyXX P w K mg base ["web"] "need_web" (defScope (topS 24)) (He.ga K "need_web") cd A outer s H E) rfl rfl rfl rfl
  rcases hd with ⟨v, rfl, hv, rfl⟩ | ⟨hb, rfl⟩
  · refine dss_one (ds_if (k := false) (dt_not (dt_val (de_call (d := .bool true) (ok_is_web G) (hr.mono (by decide)) G.g_is_web G.fn_is_web.kp (bi_is_web G) (da_cons (de_nm 0) da_nil) ⟨_, rfl, .inr ⟨v, rfl, hv.parts, by rw [hv.ok]⟩⟩))) (fun h => by cases h) (fun _ => dss_nil rfl))
  · refine dss_one (ds_if (k := true) (dt_not (dt_val (de_call (d := .bool false) (ok_is_web G) (hr.mono (by decide)) G.g_is_web G.fn_is_web.kp (bi_is_web G) (da_cons (de_nm 0) da_nil) ⟨_, rfl, ?_⟩))) (fun _ => dss_one (ds_raise rfl tk G.x_BadWeb rfl)) (fun h => by cases h))
    cases hp : partsD x with
    | false => exact .inl ⟨rfl, rfl⟩
    | true =>
      obtain ⟨v, rfl, hv⟩ := parts_of hp
      refine .inr ⟨v, rfl, hv, ?_⟩
      cases hw : webB v with
      | true => exact absurd ⟨hv, hw⟩ (hb v rfl)
      | false => rfl

/-! ### the law's cells and draws -/
def cellI (ns : List Int) (k : Nat) : Int := if ns = [] then (k : Int) * 7919 else ns.getD (k % ns.length) 0 + ((k / ns.length : Nat) : Int) * 104729
def R__law_cell : List Int → List PD → PD → Prop := fun ns ds r => ∃ k : Nat, ns.length ≤ 63 ∧ ds = [.int (k : Nat)] ∧ r = .int (cellI ns k)
theorem rel__law_cell {ns : List Int} {k : Nat} (h : ns.length ≤ 63) : R__law_cell ns [.int (k : Nat)] (.int (cellI ns k)) := ⟨k, h, rfl, rfl⟩
theorem len__law_cell {ns : List Int} {ds : List PD} {r : PD} : R__law_cell ns ds r → ds.length = 1 := by rintro ⟨_, _, rfl, _⟩; rfl
theorem sc__law_cell : FnScope ["_law_script", "_law_k"] ["_law_script", "_law_k"] (defScope (topS 42)) := ⟨rfl, rfl, rfl, by decide +kernel, rfl, by decide +kernel, by decide +kernel⟩
theorem bi__law_cell {K : Fr} {mg : Str → Option Value} (G : Tx K mg) : Binds K G.fd__law_cell ["_law_script", "_law_k"] [] := G.fn__law_cell.bindsN fun _ _ _ _ _ _ us hl => match us, hl with | [_, _], _ => rfl
theorem ok__law_cell {P : Program} {w : World} {K : Fr} {mg : Str → Option Value} {base : Heap} {T : Tb} (G : Tx K mg) : FnOk P w K mg base CX0 1 (He.ga K "_law_cell") G.fd__law_cell ["_law_script", "_law_k"] (spSc T K R__law_cell) := by
  have nd := sc__law_cell.nd
  refine fn_okSc G.fn__law_cell sc__law_cell (fun ns ds d h => by have h' := len__law_cell h; rw [h']; decide) fun scrA ns ds d h cd A outer s H E hr => ?_
  obtain ⟨k, hl, rfl, rfl⟩ := h
  dsimp only [enter]
  refine dss_guard (k := decide (ns = [])) (dt_scrNil 0 (hu100 hr)) (fun hk => ?_) (fun hk => ?_)
  · have e : ns = [] := of_decide_eq_true hk
    exact dss_one (ds_ret (de_bin (de_nm 1) de_int (by walk_at "ob.Mult")) (by simp [cellI, e, rets]))
  · have e : ns ≠ [] := of_decide_eq_false hk
    have hp : 0 < ns.length := List.length_pos_iff.mpr e
    have h0 : (0 : Int) < (ns.length : Nat) := by omega
    have hm : (k : Int) % (ns.length : Nat) = ((k % ns.length : Nat) : Int) := by simp
    have hd : (k : Int).fdiv (ns.length : Nat) = ((k / ns.length : Nat) : Int) := by
      rw [Int.fdiv_eq_ediv_of_nonneg _ (by omega)]; simp
    have hc : CDivN (k : Int) (ns.length : Nat) := ⟨by omega, by simp; omega⟩
    have hlt := Nat.mod_lt k hp
    have ha : atI ns ((k : Int) % (ns.length : Nat)) = some (ns.getD (k % ns.length) 0) := by
      rw [hm]
      refine atI_nat ?_
      rw [List.getD_eq_getElem?_getD, List.getElem?_eq_getElem hlt]; rfl
    refine dss_one (ds_ret (de_to (de_bin (de_scrIx 0 (de_bin (de_nm 1) (de_scrLen 0 G.b_len) (by walk_at "ob.Mod")) ha) (de_bin (de_bin (de_nm 1) (de_scrLen 0 G.b_len) (by walk_at "ob.FloorDiv")) de_int (by walk_at "ob.Mult")) (by walk_at "ob.Add")) (by rw [hd])) (by simp [cellI, e, rets]))
@[irreducible] def drawnI (c k : Int) : Int :=
  let a := (c * 6364136223846793005 + (k + 1) * 1442695040888963407) % 340282366920938463463374607431768211507
  let b := a * a % 340282366920938463463374607431768211297
  let d := (b % 18446744073709551557 + 1) * (b / 18446744073709551557 + 1) * b
  d % 340282366920938463463374607431768211507
theorem drawn_nn (c k : Int) : 0 ≤ drawnI c k := by unfold drawnI; exact Int.emod_nonneg _ (by decide)
theorem drawn_lt (c k : Int) : drawnI c k < 340282366920938463463374607431768211507 := by unfold drawnI; exact Int.emod_lt_of_pos _ (by decide)
def R__law_drawn : List PD → PD → Prop := fun ds r => ∃ c k : Int, ds = [.int c, .int k] ∧ r = .int (drawnI c k)
theorem rel__law_drawn {c k : Int} : R__law_drawn [.int c, .int k] (.int (drawnI c k)) := ⟨c, k, rfl, rfl⟩
theorem len__law_drawn {ds : List PD} {r : PD} : R__law_drawn ds r → ds.length = 2 := by rintro ⟨_, _, rfl, _⟩; rfl
theorem nat_lt {i : Int} {n : Nat} (h0 : 0 ≤ i) (h : i < (n : Int)) : i.natAbs < n := by omega
theorem sc__law_drawn : FnScope ["_law_cell_here", "_law_k", "_law_more"] ["_law_cell_here", "_law_k"] (defScope (topS 43)) := ⟨rfl, rfl, rfl, by decide +kernel, rfl, by decide +kernel, by decide +kernel⟩
theorem bi__law_drawn {K : Fr} {mg : Str → Option Value} (G : Tx K mg) : Binds K G.fd__law_drawn ["_law_cell_here", "_law_k"] [] := G.fn__law_drawn.bindsN fun _ _ _ _ _ _ us hl => match us, hl with | [_, _], _ => rfl
theorem ok__law_drawn {P : Program} {w : World} {K : Fr} {mg : Str → Option Value} {base : Heap} {T : Tb} (G : Tx K mg) : FnOk P w K mg base CX0 1 (He.ga K "_law_drawn") G.fd__law_drawn ["_law_cell_here", "_law_k"] (spF T R__law_drawn) := by
  have nd := sc__law_drawn.nd
  refine fn_ok G.fn__law_drawn sc__law_drawn (fun ds d h => by have h' := len__law_drawn h; rw [h']; decide) fun ds d h cd A outer s H E hr => ?_
  obtain ⟨c, k, rfl, rfl⟩ := h
  dsimp only [enter]
  refine dss_then (ds_asg 2 (de_bin (de_bin (de_bin (de_nm 0) de_int (by walk_at "ob.Mult")) (de_bin (de_bin (de_nm 1) de_int (by walk_at "ob.Add")) de_int (by walk_at "ob.Mult")) (by walk_at "ob.Add")) de_int (by walk_at "ob.Mod")) (by rfl) nd) ?_
  dsimp only [List.set]
  generalize ha : (c * 6364136223846793005 + (k + 1) * 1442695040888963407) % 340282366920938463463374607431768211507 = a
  have a0 : 0 ≤ a := ha ▸ Int.emod_nonneg _ (by decide)
  have a1 : a < 340282366920938463463374607431768211507 := ha ▸ Int.emod_lt_of_pos _ (by decide)
  have an : a.natAbs < 2 ^ 129 := nat_lt a0 (Int.lt_trans a1 (by decide))
  have m1 : CMulW a a := wide_mul an an (by decide) (by decide) (by decide)
  refine dss_then (ds_asg 2 (de_bin (de_bin (de_nm 2) (de_nm 2) (by walk_at "ob.Mult")) de_int (by walk_at "ob.Mod")) (by rfl) nd) ?_
  dsimp only [List.set]
  generalize hb : a * a % 340282366920938463463374607431768211297 = b
  have b0 : 0 ≤ b := hb ▸ Int.emod_nonneg _ (by decide)
  have b1 : b < 340282366920938463463374607431768211297 := hb ▸ Int.emod_lt_of_pos _ (by decide)
  have bn : b.natAbs < 2 ^ 129 := nat_lt b0 (Int.lt_trans b1 (by decide))
  have q1 : 0 ≤ b % 18446744073709551557 := Int.emod_nonneg _ (by decide)
  have q2 : b % 18446744073709551557 < 18446744073709551557 := Int.emod_lt_of_pos _ (by decide)
  have q3 : 0 ≤ b / 18446744073709551557 := Int.ediv_nonneg b0 (by decide)
  have q4 : b / 18446744073709551557 < 2 ^ 65 := by omega
  have m2 : CMulW (b % 18446744073709551557 + 1) (b / 18446744073709551557 + 1) := wide_mul (a := 128) (b := 128) (nat_lt (by omega) (by omega)) (nat_lt (by omega) (by omega)) (by decide) (by decide) (by decide)
  have m3 : CMulW ((b % 18446744073709551557 + 1) * (b / 18446744073709551557 + 1)) b := wide_mul (a := 256) (b := 129) (wide_lt (a := 128) (b := 128) (nat_lt (by omega) (by omega)) (nat_lt (by omega) (by omega))) bn (by decide) (by decide) (by decide)
  have dv : CDivW b 18446744073709551557 := ⟨by decide, by decide⟩
  refine dss_then (ds_asg 2 (de_bin (dr := .int ((b % 18446744073709551557 + 1) * (b / 18446744073709551557 + 1) * b)) (de_bin (dr := .int ((b % 18446744073709551557 + 1) * (b / 18446744073709551557 + 1))) (de_bin (de_bin (de_nm 2) de_int (by walk_at "ob.Mod")) de_int (by walk_at "ob.Add")) (de_bin (de_bin (dr := .int (b / 18446744073709551557)) (de_nm 2) de_int (ob_divW dv)) de_int (by walk_at "ob")) (ob_mulW m2)) (de_nm 2) (ob_mulW m3)) (by rfl) nd) ?_
  dsimp only [List.set]
  exact dss_one (ds_ret (de_bin (de_nm 2) de_int (by walk_at "ob.Mod")) (by simp only [rets, drawnI, ha, hb]))

/-! ### the law's webs -/
theorem any_map {κ α β : Type} [DecidableEq κ] (f : α → β) (l : List (κ × α)) (k : κ) : ((l.map fun p => (p.1, f p.2)).any fun kv => decide (kv.1 = k)) = l.any fun kv => decide (kv.1 = k) := by
  rw [List.any_map]; rfl
theorem pt_map {κ α β : Type} [DecidableEq κ] (f : α → β) (l : List (κ × α)) (k : κ) (v : α) : pt (l.map fun p => (p.1, f p.2)) k (f v) = (pt l k v).map fun p => (p.1, f p.2) := by
  unfold pt
  rw [any_map]
  split
  · rw [List.map_map, List.map_map]
    refine List.map_congr_left fun p _ => ?_
    simp only [Function.comp_def]
    split <;> rfl
  · simp
theorem lk_map {κ α β : Type} [DecidableEq κ] (f : α → β) (k : κ) : ∀ l : List (κ × α), lk (l.map fun p => (p.1, f p.2)) k = (lk l k).map f
  | [] => rfl
  | p :: l => by
    have ih := lk_map f k l
    by_cases e : p.1 = k
    · simp [lk, e]
    · simp only [lk, List.map_cons, List.find?_cons, e, decide_false] at ih ⊢
      exact ih
inductive Fre where
  | inp (n : Nat)
  | side (n s : Nat)
def freK : Fre → List NestedKey
  | .inp n => [.text "in", .num (n : Nat)]
  | .side n s => [.num (n : Nat), .num (s : Nat)]
def freD : Fre → PD
  | .inp n => .tuple [.str "in", .int (n : Nat)]
  | .side n s => .tuple [.int (n : Nat), .int (s : Nat)]
theorem freD_eq (f : Fre) : freD f = (NestedKey.tup (freK f)).data := by cases f <;> simp [NestedKey.data, NestedKey.datas, freD, freK]
theorem freK_dep (f : Fre) : (NestedKey.tup (freK f)).depth ≤ 8 := by cases f <;> simp [NestedKey.depth, NestedKey.depthAll, freK]
theorem noB_fre (f : Fre) : noB (freD f) = true := by cases f <;> rfl
theorem dp_fre (f : Fre) : (freD f).depth ≤ 64 := by cases f <;> simp [freD, PyData.depth, PyData.depthAll]
def ldW (l : List (NestedKey × Goal)) : List (NestedKey × PD) := l.map fun p => (p.1, goalD p.2)
def usW (l : List (Key × Int)) : List (Key × PD) := l.map fun p => (p.1, .int p.2)
def stW (P : Program) (w : World) (more most : Int) (nI nS : Nat) (fr : List Fre) (ld : List (NestedKey × Goal)) (us : List (Key × Int)) (s5 s8 s13 : SV) : AS :=
  [dat (.int more), dat (.int most), dat (.int nI), dat (.int nS), own (fr.map freD), s5, odN P w (ldW ld), odK (usW us), s8, un, un, un, un, s13, un, un, un]
structure LWeb where
  ins : List OG
  prs : List (OG × OG)
def lwD (v : LWeb) : PD := .tuple [.tuple (v.ins.map ogD), .tuple (v.prs.map pairD)]
def Pre__law_web : List PD → Prop := fun ds => ∃ more most : Int, 0 ≤ more ∧ 0 ≤ most ∧ most ≤ 12 ∧ ds = [.int more, .int most]
def Post__law_web : List PD → PD → Prop := fun ds d => ∃ v : LWeb, d = lwD v ∧ 1 ≤ v.ins.length ∧ v.ins.length ≤ 4 ∧ v.prs.length ≤ 12 ∧ ∃ (x : PD) (most : Int), ds = [x, .int most] ∧ (v.prs.length : Int) ≤ most
theorem len__law_web {ds : List PD} : Pre__law_web ds → ds.length = 2 := by rintro ⟨_, _, _, _, _, rfl⟩; rfl
theorem mod_nat (i : Int) {n : Nat} (h : 0 < n) : ∃ m : Nat, i % (n : Int) = (m : Nat) ∧ m < n := by
  have h1 := Int.emod_nonneg i (show (n : Int) ≠ 0 by omega)
  have h2 := Int.emod_lt_of_pos i (show (0 : Int) < n by omega)
  exact ⟨(i % (n : Int)).toNat, by omega, by omega⟩
/-- before the i-th splitter is laid -/
structure W1 (i : Nat) (fr : List Fre) (ld : List (NestedKey × Goal)) (us : List (Key × Int)) : Prop where
  pos : 1 ≤ fr.length
  top : fr.length ≤ 4 + 2 * i
  ll : ld.length ≤ 2 * i
  ul : us.length ≤ 2 * i
  has : ∀ m, m < i → ∃ c, lk us (.inl (m : Nat)) = some c
theorem lk_usW {us : List (Key × Int)} {k : Key} {c : Int} (h : lk us k = some c) : lk (usW us) k = some (.int c) := by
  unfold usW; rw [lk_map (f := PyData.int), h]; rfl
theorem pt_usW (us : List (Key × Int)) (k : Key) (c : Int) : pt (usW us) k (.int c) = usW (pt us k c) := pt_map (f := PyData.int) us k c
theorem pt_ldW (ld : List (NestedKey × Goal)) (k : NestedKey) (g : Goal) : pt (ldW ld) k (goalD g) = ldW (pt ld k g) := pt_map (f := goalD) ld k g
theorem sides_of (i : Int) : ∃ l : List Nat, (l = [0, 1] ∨ l = [0] ∨ l = [1]) ∧ atI [PyData.list [.int 0, .int 1], .list [.int 0, .int 1], .list [.int 0, .int 1], .list [.int 0], .list [.int 1]] (i % 5) = some (.list (l.map fun s => .int (s : Nat))) := by
  obtain ⟨m, e, h⟩ := mod_nat i (n := 5) (by decide)
  rw [show ((5 : Nat) : Int) = 5 by rfl] at e
  rw [e]
  have : m = 0 ∨ m = 1 ∨ m = 2 ∨ m = 3 ∨ m = 4 := by omega
  rcases this with rfl | rfl | rfl | rfl | rfl
  · exact ⟨[0, 1], .inl rfl, rfl⟩
  · exact ⟨[0, 1], .inl rfl, rfl⟩
  · exact ⟨[0, 1], .inl rfl, rfl⟩
  · exact ⟨[0], .inr (.inl rfl), rfl⟩
  · exact ⟨[1], .inr (.inr rfl), rfl⟩
theorem erase_map {α β : Type} (f : α → β) : ∀ (l : List α) (n : Nat), (l.map f).eraseIdx n = (l.eraseIdx n).map f
  | [], _ => rfl
  | _ :: _, 0 => rfl
  | x :: l, n + 1 => by simp [erase_map f l n]
theorem lk_pt_has {α : Type} {l : List (Key × α)} {k j : Key} {v : α} (h : ∃ c, lk l j = some c) : ∃ c, lk (pt l k v) j = some c := by
  obtain ⟨c, h⟩ := h
  rw [lk_pt]
  split
  · exact ⟨v, rfl⟩
  · exact ⟨c, h⟩
/-- .. within the i-th: t belts are led to it -/
structure W2 (i t : Nat) (f0 fr : List Fre) (ld : List (NestedKey × Goal)) (us : List (Key × Int)) : Prop where
  len : fr.length + t = f0.length
  ll : ld.length ≤ 2 * i + t
  ul : us.length ≤ 2 * i + t
  has : ∀ m, m < i → ∃ c, lk us (.inl (m : Nat)) = some c
  own : 0 < t → ∃ c, lk us (.inl (i : Nat)) = some c
theorem place_of (fr : List Fre) (f : Fre) (h : f ∈ fr) : ∃ j, SeqAt.dataPlace (fr.map freD) (freD f) = some j ∧ j < fr.length := by
  have hs : (SeqAt.dataPlace (fr.map freD) (freD f)).isSome := by
    unfold SeqAt.dataPlace
    rw [List.findIdx?_isSome]
    rw [List.any_map, List.any_eq_true]
    exact ⟨f, h, by simp only [Function.comp_def]; exact (eqv_noB _ _ (noB_fre f) (noB_fre f)).mpr rfl⟩
  obtain ⟨j, hj⟩ := Option.isSome_iff_exists.mp hs
  refine ⟨j, hj, ?_⟩
  obtain ⟨h1, _⟩ := List.findIdx?_eq_some_iff_getElem.mp hj
  simpa using h1
/-- behind the laying -/
structure W3 (nS : Nat) (n : Nat) (fr : List Fre) (ld : List (NestedKey × Goal)) (us : List (Key × Int)) : Prop where
  pos : 1 ≤ fr.length
  top : fr.length ≤ 28
  ll : ld.length ≤ 24 + n
  ul : us.length ≤ 24 + n
  has : ∀ m, m < nS → ∃ c, lk us (.inl (m : Nat)) = some c
def popAt (more : Int) (i : Nat) (l : List Fre) : Nat := ((drawnI more (70 + (i : Int))).fdiv 16 % (l.length : Nat)).toNat
def popTo (more : Int) (fr : List Fre) : Nat → List Fre
  | 0 => fr
  | i + 1 => (popTo more fr i).eraseIdx (popAt more i (popTo more fr i))
def popG (more : Int) (fr : List Fre) (i : Nat) : Fre := (popTo more fr i).getD (popAt more i (popTo more fr i)) (.inp 0)
theorem popAt_lt (more : Int) (i : Nat) {l : List Fre} (h : 0 < l.length) : popAt more i l < l.length ∧ (drawnI more (70 + (i : Int))).fdiv 16 % (l.length : Nat) = (popAt more i l : Nat) := by
  obtain ⟨m, e, hm⟩ := mod_nat ((drawnI more (70 + (i : Int))).fdiv 16) h
  unfold popAt
  rw [e]
  exact ⟨by simpa using hm, by simp⟩
theorem popTo_len (more : Int) (fr : List Fre) : ∀ i, i ≤ fr.length → (popTo more fr i).length = fr.length - i
  | 0, _ => rfl
  | i + 1, h => by
    have ih := popTo_len more fr i (by omega)
    unfold popTo
    rw [List.length_eraseIdx_of_lt (popAt_lt more i (by omega)).1, ih]
    omega
def stX (P : Program) (w : World) (more most : Int) (nI nS : Nat) (ld : List (NestedKey × Goal)) (s15 s16 : SV) : AS :=
  [dat (.int more), dat (.int most), dat (.int nI), dat (.int nS), un, un, odN P w (ldW ld), un, un, un, un, un, un, un, un, s15, s16]
theorem getG_eq (ld : List (NestedKey × Goal)) (k : NestedKey) : (lk (ldW ld) k).getD .none = ogD (lk ld k) := by
  unfold ldW
  rw [lk_map]
  cases lk ld k <;> rfl
theorem two_five (i : Int) : ∃ p : Int, 0 < p ∧ atI [PyData.int 2, .int 5] (i % 2) = some (.int p) := by
  obtain ⟨m, e, h⟩ := mod_nat i (n := 2) (by decide)
  rw [show ((2 : Nat) : Int) = 2 by rfl] at e
  rw [e]
  have : m = 0 ∨ m = 1 := by omega
  rcases this with rfl | rfl
  · exact ⟨2, by decide, rfl⟩
  · exact ⟨5, by decide, rfl⟩

theorem des_to {X : Cx} {T : Tb} {e : Expr} {S S' S'' : AS} {d : PD} (h : DES X T e S d S') (q : S' = S'') : DES X T e S d S'' := q ▸ h
theorem sc__law_web : FnScope ["_law_more", "_law_most", "_law_inputs", "_law_splitters", "_law_free", "_law_number", "_law_leads", "_law_used", "_law_here", "_law_turn", "_law_own", "_law_sides", "_law_side", "_law_j", "_law_goal", "_law_order", "_law_pairs"] ["_law_more", "_law_most"] (defScope (topS 44)) := ⟨rfl, rfl, rfl, by decide +kernel, rfl, by decide +kernel, by decide +kernel⟩
theorem bi__law_web {K : Fr} {mg : Str → Option Value} (G : Tx K mg) : Binds K G.fd__law_web ["_law_more", "_law_most"] [] := G.fn__law_web.bindsN fun _ _ _ _ _ _ us hl => match us, hl with | [_, _], _ => rfl
theorem ok__law_web {P : Program} {w : World} {K : Fr} {mg : Str → Option Value} {base : Heap} {T : Tb} (G : Tx K mg) : FnOk P w K mg base CX0 2 (He.ga K "_law_web") G.fd__law_web ["_law_more", "_law_most"] (spE T Pre__law_web Post__law_web) := by
  have nd := sc__law_web.nd
  refine fn_okE G.fn__law_web sc__law_web (fun ds h => by have h' := len__law_web h; rw [h']; decide) fun ds h cd A outer s H E hr => ?_
  obtain ⟨more, most, hm0, hq0, hq1, rfl⟩ := h
  dsimp only [enter]
  have hmost : (0 : Int) < most + 1 := by omega
  obtain ⟨nI, eI, hI⟩ : ∃ n : Nat, 1 + more.fdiv 16 % 4 = (n : Nat) ∧ (1 ≤ n ∧ n ≤ 4) := by
    have h1 := Int.emod_nonneg (more.fdiv 16) (show (4 : Int) ≠ 0 by decide)
    have h2 := Int.emod_lt_of_pos (more.fdiv 16) (show (0 : Int) < 4 by decide)
    exact ⟨(1 + more.fdiv 16 % 4).toNat, by omega, by omega⟩
  obtain ⟨nS, eS, hS, hSm⟩ : ∃ n : Nat, more.fdiv 64 % (most + 1) = (n : Nat) ∧ n ≤ 12 ∧ (n : Int) ≤ most := by
    have h1 := Int.emod_nonneg (more.fdiv 64) (show most + 1 ≠ 0 by omega)
    have h2 := Int.emod_lt_of_pos (more.fdiv 64) hmost
    exact ⟨(more.fdiv 64 % (most + 1)).toNat, by omega, by omega, by omega⟩
  refine dss_then (ds_parV 2 3 (dva_cons (dv_e (de_bin de_int (de_bin (de_bin (de_nm 0) de_int (by walk_at "ob.FloorDiv")) de_int (by walk_at "ob.Mod")) (by walk_at "ob.Add"))) (dva_cons (dv_e (de_bin (de_bin (de_nm 0) de_int (by walk_at "ob.FloorDiv")) (de_bin (de_nm 1) de_int (by walk_at "ob.Add")) (by walk_at "ob.Mod"))) dva_nil)) (by rfl) rfl nd (by decide) (by walk_at "lt") (by walk_at "lt")) ?_
  dsimp only [List.set]
  rw [eI, eS]
  refine dss_then (ds_asgN 4 (dn_lc0 (xs := (List.range nI)) (emb := (fun i => .int (i : Nat))) (g := (fun i => freD (.inp i))) (own' := [("_law_number", 5)]) rfl nd (dic_to (dic_of (di_range (da_cons (de_nm 2) da_nil) G.b_range (by walk_at "num"))) (by walk_at "emb")) (by walk_at "blk") (by walk_at "free") (by decide) (by walk_at "sz") (fun z hz _ _ _ _ _ => (dg_nm 5 nd (by walk_at "free1"))) (fun z hz _ _ _ _ _ => (de_to (de_tup (da_cons de_str (da_cons (de_nm 5) da_nil))) (by walk_at "elt")))) (by rfl) (by walk_at "lt") nd) ?_
  dsimp only [List.set]
  refine dss_then (ds_unpV 6 7 (dva_cons dv_dictN (dva_cons dv_dictK dva_nil)) (by rfl) rfl nd (by walk_at "lt") (by walk_at "lt")) ?_
  dsimp only [List.set]
  refine dss_cons (fun S' => ∃ fr ld us, S' = stW P w more most nI nS fr ld us un un un ∧ W1 nS fr ld us) (ds_for (xs := List.range nS) (emb := fun i => .int (i : Nat)) (js := [5]) (S2 := fun i z S' => S'.set 5 (dat (.int (z : Nat)))) (fun i S' => ∃ fr ld us, S' = stW P w more most nI nS fr ld us un un un ∧ W1 i fr ld us) (di_to (di_range (da_cons (de_nm 3) da_nil) G.b_range (by walk_at "num")) (by simp [DL.upTo])) ⟨(List.range nI).map .inp, [], [], by unfold stW ldW usW; rw [List.map_map]; rfl, ⟨by simp; omega, by simp; omega, by simp, by simp, fun m h => by omega⟩⟩ ?_ ?_ PassesOwn.never rfl) ?_
  · rintro i z S' hz ⟨fr, ld, us, rfl, hw⟩
    have hzi : z = i := by
      obtain ⟨h1, h2⟩ := List.getElem?_eq_some_iff.mp hz
      rw [← h2]; simp
    subst hzi
    have hzn : z < nS := by
      have h1 := (List.getElem?_eq_some_iff.mp hz).1
      simpa using h1
    refine ⟨(dg_nm 5 nd (by walk_at "free1")), ?_⟩
    refine dss_then (ds_asg 8 (de_call (ok__law_drawn G) (hr.mono (by decide)) G.g__law_drawn G.fn__law_drawn.kp (bi__law_drawn G) (da_cons (de_nm 0) (da_cons (de_nm 5) da_nil)) (by first | exact rel__law_drawn | exact rel__law_drawn (by assumption) | exact rel__law_drawn (by walk_at "rel") | assumption)) (by rfl) nd) ?_
    dsimp only [stW, List.set]
    generalize drawnI more z = here
    have htop := hw.top
    obtain ⟨c, ec, hc⟩ : ∃ c : Nat, (1 + (if (decide (here.fdiv 16 % 3 = 0) && decide ((1 : Int) < ((fr.map freD).length : Nat))) = true then 1 else 0) : Int) = (c : Nat) ∧ (c = 1 ∨ (c = 2 ∧ 1 < fr.length)) := by
      by_cases hcase : (decide (here.fdiv 16 % 3 = 0) && decide ((1 : Int) < ((fr.map freD).length : Nat))) = true
      · rw [if_pos hcase]
        simp only [Bool.and_eq_true, decide_eq_true_eq, List.length_map] at hcase
        exact ⟨2, rfl, .inr ⟨rfl, by omega⟩⟩
      · rw [if_neg hcase]
        exact ⟨1, rfl, .inl rfl⟩
    refine dss_cons (fun S' => ∃ fr' ld' us', S' = stW P w more most nI nS fr' ld' us' (dat (.int (z : Nat))) (dat (.int here)) un ∧ W2 z c fr fr' ld' us') (ds_for (xs := List.range c) (emb := fun i => .int (i : Nat)) (js := [9]) (S2 := fun i z S' => S'.set 9 (dat (.int (z : Nat)))) (fun t S' => ∃ fr' ld' us', S' = stW P w more most nI nS fr' ld' us' (dat (.int (z : Nat))) (dat (.int here)) un ∧ W2 z t fr fr' ld' us') (di_to (di_range (da_cons (de_to (de_bin de_int (de_intb (G.b_int) (de_and (de_cmp (de_bin (de_bin (de_nm 8) de_int (by walk_at "ob.FloorDiv")) de_int (by walk_at "ob.Mod")) de_int (by walk_at "cb.Eq")) (fun hk => (de_and1 (de_cmp (de_le (LeL.le (by walk_at "fr")) rfl (de_len (G.b_len) (de_nm 4) (by walk_at "len"))) de_int (by walk_at "cb.Gt")))))) (by walk_at "ob.Add")) (congrArg PyData.int ec)) da_nil) G.b_range (by rcases hc with h | ⟨h, _⟩ <;> subst h <;> decide)) (by simp [DL.upTo])) ⟨fr, ld, us, rfl, ⟨rfl, hw.ll, hw.ul, hw.has, fun h => by omega⟩⟩ ?_ ?_ PassesOwn.never rfl) ?_
    · rintro t t' S' ht ⟨fr', ld', us', rfl, hw2⟩
      have hti : t' = t := by
        obtain ⟨h1, h2⟩ := List.getElem?_eq_some_iff.mp ht
        rw [← h2]; simp
      subst hti
      have htc : t' < c := by
        have h1 := (List.getElem?_eq_some_iff.mp ht).1
        simpa using h1
      refine ⟨(dg_nm 9 nd (by walk_at "free1")), ?_⟩
      dsimp only [stW, List.set]
      have hpos1 : 0 < fr'.length := by
        have := hw2.len
        have := hw.pos
        omega
      have hlen2 := hw2.len
      obtain ⟨m, em, hm⟩ := mod_nat ((drawnI here t').fdiv 16) (n := (fr'.map freD).length) (by simpa using hpos1)
      have hpos : (0 : Int) < ((fr'.map freD).length : Nat) := by simpa using hpos1
      have hm' : m < fr'.length := by simpa using hm
      have hget : (fr'.map freD)[m]? = some (freD fr'[m]) := by simp [hm']
      generalize fr'[m] = f at hget
      have hll := hw2.ll
      have hul := hw2.ul
      refine dss_then (ds_asgS 10 (des_popA 4 (n := m) (de_to (de_bin (de_bin (de_call (ok__law_drawn G) (hr.mono (by decide)) G.g__law_drawn G.fn__law_drawn.kp (bi__law_drawn G) (da_cons (de_nm 8) (da_cons (de_nm 9) da_nil)) (by first | exact rel__law_drawn | exact rel__law_drawn (by assumption) | exact rel__law_drawn (by walk_at "rel") | assumption)) de_int (by walk_at "ob.FloorDiv")) (de_le (LeL.le (by walk_at "fr")) rfl (de_len (G.b_len) (de_nm 4) (by walk_at "len"))) (by walk_at "ob.Mod")) (congrArg PyData.int em)) rfl hget (by simp; omega)) rfl nd) ?_
      dsimp only [List.set]
      refine dss_then (ds_putN (kvs := ldW ld') 6 (hu8 hr) (de_to (de_nm 10) (freD_eq f)) (de_to (de_tup (da_cons de_str (da_cons (de_nm 5) da_nil))) (show _ = goalD ⟨false, z⟩ from rfl)) (freK_dep f) rfl (by rw [sizeLine_eq]; simp [ldW]; omega)) ?_
      dsimp only [List.set]
      refine dss_then (ds_putK (kvs := usW us') (k := .inl (z : Nat)) 7 (hu1 hr) (de_nm 5) (de_bin (de_nm 9) de_int (by walk_at "ob.Add")) rfl (by rw [sizeLine_eq]; simp [usW]; omega)) ?_
      dsimp only [List.set]
      refine dss_le (S' := stW P w more most nI nS (fr'.eraseIdx m) (pt ld' (.tup (freK f)) ⟨false, z⟩) (pt us' (.inl (z : Nat)) ((t' : Nat) + 1)) (dat (.int (z : Nat))) (dat (.int here)) un) (LeL.le (.keep (.keep (.keep (.keep (.keepE (by rw [erase_map]) (.keep (.keepE (by rw [← pt_ldW]; rfl) (.keepE (by rw [← pt_usW]) (by walk_at "le")))))))))) (dss_nil ⟨_, _, _, rfl, ⟨?_, ?_, ?_, ?_, ?_⟩⟩)
      · rw [List.length_eraseIdx_of_lt hm']; omega
      · have := length_pt ld' (.tup (freK f)) (⟨false, z⟩ : Goal); omega
      · have := length_pt us' (.inl (z : Nat)) ((t' : Nat) + 1 : Int); omega
      · exact fun j hj => lk_pt_has (hw2.has j hj)
      · exact fun _ => ⟨_, by rw [lk_pt, if_pos rfl]⟩
    · rintro S' ⟨fr', ld', us', rfl, hw2⟩
      rw [List.length_range] at hw2
      exact ⟨fr', ld', us', rfl, hw2⟩
    · rintro _ ⟨fr', ld', us', rfl, hw2⟩
      dsimp only [stW]
      obtain ⟨l, hl, hat⟩ := sides_of (here.fdiv 64)
      have hll : 1 ≤ l.length ∧ l.length ≤ 2 := by rcases hl with rfl | rfl | rfl <;> simp
      have hlen2 := hw2.len
      refine dss_then (ds_asg 11 (de_ix (de_dn (dn_lst (da_cons (de_dn (dn_lst (da_cons de_int (da_cons de_int da_nil)))) (da_cons (de_dn (dn_lst (da_cons de_int (da_cons de_int da_nil)))) (da_cons (de_dn (dn_lst (da_cons de_int (da_cons de_int da_nil)))) (da_cons (de_dn (dn_lst (da_cons de_int da_nil))) (da_cons (de_dn (dn_lst (da_cons de_int da_nil))) da_nil))))))) (de_bin (de_bin (de_nm 8) de_int (by walk_at "ob.FloorDiv")) de_int (by walk_at "ob.Mod")) (ix_l hat)) rfl nd) ?_
      dsimp only [List.set]
      refine dss_then (ds_extend 4 (de_to (de_dn (dn_lc0 (xs := (l)) (emb := (fun s => .int (s : Nat))) (g := (fun s => freD (.side z s))) (own' := [("_law_side", 12)]) rfl nd (dic_to (dic_of (by first | exact di_tup (de_nm 11) | exact di_list (de_nm 11))) (by walk_at "emb")) (by walk_at "blk") (by walk_at "free") (by decide) (by walk_at "sz") (fun z hz _ _ _ _ _ => (dg_nm 12 nd (by walk_at "free1"))) (fun z hz _ _ _ _ _ => (de_to (de_tup (da_cons (de_nm 5) (da_cons (de_nm 12) da_nil))) (by walk_at "elt"))))) (show _ = PyData.list (l.map fun s => freD (.side z s)) from rfl)) rfl rfl (by rw [sizeLine_eq]; simp; omega)) ?_
      dsimp only [List.set]
      refine dss_le (S' := stW P w more most nI nS (fr' ++ l.map fun s => .side z s) ld' us' un un un) (LeL.le (.keep (.keep (.keep (.keep (.keepE (by rw [List.map_append, List.map_map]; rfl) (by walk_at "le"))))))) (dss_nil ⟨_, _, _, rfl, ⟨?_, ?_, ?_, ?_, ?_⟩⟩)
      · simp; omega
      · rw [List.length_append, List.length_map]; omega
      · have := hw2.ll; rcases hc with h | ⟨h, _⟩ <;> omega
      · have := hw2.ul; rcases hc with h | ⟨h, _⟩ <;> omega
      · intro m hm
        by_cases e : m = z
        · subst e; exact hw2.own (by rcases hc with h | ⟨h, _⟩ <;> omega)
        · exact hw2.has m (by omega)
  · rintro S' ⟨fr, ld, us, rfl, hw⟩
    rw [List.length_range] at hw
    exact ⟨fr, ld, us, rfl, hw⟩
  · rintro _ ⟨fr, ld, us, rfl, hw⟩
    have hw3 : W3 nS 0 fr ld us := ⟨hw.pos, by have := hw.top; omega, by have := hw.ll; omega, by have := hw.ul; omega, hw.has⟩
    clear hw
    refine dss_cons (fun S' => ∃ fr ld us, S' = stW P w more most nI nS fr ld us un un un ∧ W3 nS nS fr ld us) (ds_for (xs := List.range nS) (emb := fun i => .int (i : Nat)) (js := [13]) (S2 := fun i z S' => S'.set 13 (dat (.int (z : Nat)))) (fun i S' => ∃ fr ld us, S' = stW P w more most nI nS fr ld us un un un ∧ W3 nS i fr ld us) (di_to (di_range (da_cons (de_nm 3) da_nil) G.b_range (by walk_at "num")) (by simp [DL.upTo])) ⟨fr, ld, us, rfl, hw3⟩ ?_ ?_ PassesOwn.never rfl) ?_
    · clear hw3
      rintro i z S' hz ⟨fr, ld, us, rfl, hw⟩
      have hzi : z = i := by
        obtain ⟨h1, h2⟩ := List.getElem?_eq_some_iff.mp hz
        rw [← h2]; simp
      subst hzi
      have hzn : z < nS := by
        have h1 := (List.getElem?_eq_some_iff.mp hz).1
        simpa using h1
      refine ⟨(dg_nm 13 nd (by walk_at "free1")), ?_⟩
      refine dss_then (ds_asg 8 (de_call (ok__law_drawn G) (hr.mono (by decide)) G.g__law_drawn G.fn__law_drawn.kp (bi__law_drawn G) (da_cons (de_nm 0) (da_cons (de_bin de_int (de_nm 13) (by walk_at "ob.Add")) da_nil)) (by first | exact rel__law_drawn | exact rel__law_drawn (by assumption) | exact rel__law_drawn (by walk_at "rel") | assumption)) (by rfl) nd) ?_
      dsimp only [stW, List.set]
      generalize drawnI more (40 + (z : Int)) = here
      have hp := hw.pos
      have htp := hw.top
      have hll := hw.ll
      have hul := hw.ul
      obtain ⟨m, em, hm⟩ := mod_nat (here.fdiv 16) (n := (fr.map freD).length) (by simp; omega)
      have hpos : (0 : Int) < ((fr.map freD).length : Nat) := by simp; omega
      have hm' : m < fr.length := by simpa using hm
      have hat : atI (fr.map freD) (here.fdiv 16 % ((fr.map freD).length : Nat)) = some (freD fr[m]) := by
        rw [em]
        exact atI_nat (by simp [hm'])
      have hmem : fr[m] ∈ fr := List.getElem_mem hm'
      generalize fr[m] = f at hat hmem
      obtain ⟨g, eg, hg⟩ := mod_nat (here.fdiv 1024) (n := nS) (by omega)
      have hposS : (0 : Int) < (nS : Nat) := by omega
      refine dss_then (ds_parV 10 14 (dva_cons (dv_e (de_ixO 4 (de_bin (de_bin (de_nm 8) de_int (by walk_at "ob.FloorDiv")) (de_le (LeL.le (by walk_at "fr")) rfl (de_len (G.b_len) (de_nm 4) (by walk_at "len"))) (by walk_at "ob.Mod")) (by walk_at "at"))) (dva_cons (dv_e (de_bin (de_bin (de_nm 8) de_int (by walk_at "ob.FloorDiv")) (de_nm 3) (by walk_at "ob.Mod"))) dva_nil)) (by rfl) rfl nd (by decide) (by walk_at "lt") (by walk_at "lt")) ?_
      dsimp only [List.set]
      rw [eg]
      obtain ⟨cg, hcg⟩ := hw.has g hg
      have hcg' := lk_usW hcg
      obtain ⟨p, hp0, hpat⟩ := two_five more
      have stay : ∀ E0 : En, E0.nx = (fun S' => ∃ fr ld us, S' = stW P w more most nI nS fr ld us un un un ∧ W3 nS (z + 1) fr ld us) → DSs (bodyX P w K mg base ["_law_more", "_law_most", "_law_inputs", "_law_splitters", "_law_free", "_law_number", "_law_leads", "_law_used", "_law_here", "_law_turn", "_law_own", "_law_sides", "_law_side", "_law_j", "_law_goal", "_law_order", "_law_pairs"] "_law_web" (defScope (topS 44)) (He.ga K "_law_web") cd A outer s H E) T E [] [dat (.int more), dat (.int most), dat (.int nI), dat (.int nS), own (fr.map freD), un, odN P w (ldW ld), odK (usW us), dat (.int here), un, dat (freD f), un, un, dat (.int (z : Nat)), dat (.int (g : Nat)), un, un] E0 := fun E0 e0 => dss_le (S' := stW P w more most nI nS fr ld us un un un) (LeL.le (by walk_at "le")) (dss_nil (by rw [e0]; exact ⟨fr, ld, us, rfl, ⟨hw.pos, hw.top, by omega, by omega, hw.has⟩⟩))
      cases f with
      | inp n => exact dss_one (ds_if (k := false) (dt_w (dw_and (k := false) (k' := false) (dt_to (dt_cmp (de_ix (de_nm 10) de_int (by walk_at "ix")) de_str (by walk_at "cb.NotEq")) (by decide)) (fun h => by cases h))) (fun h => by cases h) (fun _ => stay _ rfl))
      | side n s =>
        refine dss_one (ds_if (dt_le (LeL.le (by walk_at "fr")) (dt_w (dw_and (dt_cmp (de_ix (de_nm 10) de_int (by walk_at "ix")) de_str (by walk_at "cb.NotEq")) (fun hk => (dw_and (dt_cmp (de_getK (k := .inl _) 7 (by walk_at "hu1") (de_nm 14) (by assumption)) de_int (by walk_at "cb.Eq")) (fun hk => (dw_and (dt_cmp (de_len (G.b_len) (de_nm 4) (by walk_at "len")) de_int (by walk_at "cb.Gt")) (fun hk => (dw_and1 (dt_cmp (de_bin (de_nm 8) (de_ix (de_dn (dn_lst (da_cons de_int (da_cons de_int da_nil)))) (de_bin (de_nm 0) de_int (by walk_at "ob.Mod")) (by walk_at "ix")) (by walk_at "ob.Mod")) de_int (by walk_at "cb.Eq"))))))))))) (fun hk => ?_) (fun _ => stay _ rfl))
        simp only [Bool.and_eq_true, decide_eq_true_eq, List.length_map] at hk
        have hbig := hk.2.2.1
        obtain ⟨jj, hj, hjl⟩ := place_of fr (.side n s) hmem
        refine dss_then (ds_exprS (des_remove 4 (hu100 hr) (de_nm 10) rfl hj (Nat.le_trans (Nat.min_le_right _ _) (dp_fre _))) rfl) ?_
        dsimp only [List.set]
        refine dss_then (ds_putN (kvs := ldW ld) 6 (hu8 hr) (de_to (de_nm 10) (freD_eq (.side n s))) (de_to (de_tup (da_cons de_str (da_cons (de_nm 14) da_nil))) (show _ = goalD ⟨false, g⟩ from rfl)) (freK_dep (.side n s)) rfl (by rw [sizeLine_eq]; simp [ldW]; omega)) ?_
        dsimp only [List.set]
        refine dss_then (ds_putK (kvs := usW us) (k := .inl (g : Nat)) 7 (hu1 hr) (de_nm 14) de_int rfl (by rw [sizeLine_eq]; simp [usW]; omega)) ?_
        dsimp only [List.set]
        refine dss_le (S' := stW P w more most nI nS (fr.eraseIdx jj) (pt ld (.tup (freK (.side n s))) ⟨false, g⟩) (pt us (.inl (g : Nat)) 2) un un un) (LeL.le (.keep (.keep (.keep (.keep (.keepE (by rw [erase_map]) (.keep (.keepE (by rw [← pt_ldW]; rfl) (.keepE (by rw [← pt_usW]) (by walk_at "le")))))))))) (dss_nil ⟨_, _, _, rfl, ⟨?_, ?_, ?_, ?_, ?_⟩⟩)
        · rw [List.length_eraseIdx_of_lt hjl]; omega
        · rw [List.length_eraseIdx_of_lt hjl]; omega
        · have := length_pt ld (.tup (freK (.side n s))) (⟨false, g⟩ : Goal); omega
        · have := length_pt us (.inl (g : Nat)) (2 : Int); omega
        · exact fun j hj => lk_pt_has (hw.has j hj)
    · rintro S' ⟨fr, ld, us, rfl, hw⟩
      rw [List.length_range] at hw
      exact ⟨fr, ld, us, rfl, hw⟩
    · clear hw3
      rintro _ ⟨fr, ld, us, rfl, hw⟩
      refine dss_cons (fun S' => ∃ fr, S' = stW P w more most nI nS fr ld us un un un ∧ fr.length ≤ 28) (ds_while (fun m S' => ∃ fr, S' = stW P w more most nI nS fr ld us un un un ∧ fr.length ≤ 28 ∧ m = fr.length) fr.length ⟨fr, rfl, hw.top, rfl⟩ (fun m _ => decide (8 < m)) ?_ PassesOwn.never) ?_
      · rintro m S' ⟨fr, rfl, hl, rfl⟩
        refine ⟨dt_to (dt_le (LeL.le (by walk_at "fr")) (dt_cmp (de_len (G.b_len) (de_nm 4) (by walk_at "len")) de_int (by walk_at "cb.Gt"))) (by simp; omega), fun hk => ?_, fun _ => ⟨fr, rfl, hl⟩⟩
        have hk' : 8 < fr.length := of_decide_eq_true hk
        dsimp only [stW]
        have hget : (fr.map freD)[(fr.map freD).length - 1]? = some (freD (fr[fr.length - 1]'(by omega))) := by simp; exact ⟨_, List.getElem?_eq_getElem (by omega), rfl⟩
        refine dss_one (ds_exprS (des_pop 4 rfl hget) ⟨fr.length - 1, by omega, fr.dropLast, ?_, by simp; omega, by simp⟩)
        dsimp only [List.set, stW]
        rw [List.map_dropLast]
      · rintro _ ⟨fr, rfl, hl⟩
        have hll := hw.ll
        have hn28 : (fr.length : Int) < 2 ^ 62 ∧ -(2 ^ 62) ≤ (fr.length : Int) := by omega
        refine dss_then (ds_asgLcS (xs := List.range fr.length) (emb := fun i => .int (i : Nat)) (Sf := fun i => stW P w more most nI nS (popTo more fr i) ld us un un un) (gd := fun i => freD (popG more fr i)) (js := [13]) (own' := [("_law_j", 13)]) (S2 := fun i z => (stW P w more most nI nS (popTo more fr i) ld us un un un).set 13 (dat (.int (z : Nat)))) (S3 := fun i z => (stW P w more most nI nS (popTo more fr (i + 1)) ld us un un un).set 13 (dat (.int (z : Nat)))) 15 rfl nd (di_to (di_range (da_cons (de_to (de_le (LeL.le (by walk_at "fr")) rfl (de_len (G.b_len) (de_nm 4) (by walk_at "len"))) (show _ = PyData.int (fr.length : Nat) by simp)) da_nil) G.b_range hn28) (by simp [DL.upTo])) rfl (by walk_at "blk") (by walk_at "free") (by decide) (by simp; omega) (fun i z hz _ _ _ _ _ => ?_) (fun i z hz _ _ _ _ _ => ?_) (fun i z hz => rfl) rfl (by simp [stW])) ?_
        · dsimp only [stW, wipeS, List.set, List.map]
          exact (dg_nm 13 nd (by walk_at "free1"))
        · have hzi : z = i := by
            obtain ⟨h1, h2⟩ := List.getElem?_eq_some_iff.mp hz
            rw [← h2]; simp
          subst hzi
          have hzn : z < fr.length := by
            have h1 := (List.getElem?_eq_some_iff.mp hz).1
            simpa using h1
          have hlen := popTo_len more fr z (by omega)
          obtain ⟨q1, q2⟩ := popAt_lt more z (l := popTo more fr z) (by omega)
          have hpos : (0 : Int) < (((popTo more fr z).map freD).length : Nat) := by simp; omega
          dsimp only [stW, List.set]
          have hget : ((popTo more fr z).map freD)[popAt more z (popTo more fr z)]? = some (freD (popG more fr z)) := by
            unfold popG
            rw [List.getElem?_map, List.getD_eq_getElem?_getD, List.getElem?_eq_getElem q1]; rfl
          refine des_to (des_popA 4 (n := popAt more z (popTo more fr z)) (de_to (da := .int ((drawnI more (70 + (z : Int))).fdiv 16 % (((popTo more fr z).map freD).length : Nat))) ?_ (by simp only [List.length_map]; rw [q2])) rfl hget (by simp; omega)) ?_
          · exact (de_bin (de_bin (de_call (ok__law_drawn G) (hr.mono (by decide)) G.g__law_drawn G.fn__law_drawn.kp (bi__law_drawn G) (da_cons (de_nm 0) (da_cons (de_bin de_int (de_nm 13) (by walk_at "ob.Add")) da_nil)) (by first | exact rel__law_drawn | exact rel__law_drawn (by assumption) | exact rel__law_drawn (by walk_at "rel") | assumption)) de_int (by walk_at "ob.FloorDiv")) (de_le (LeL.le (by walk_at "fr")) rfl (de_len (G.b_len) (de_nm 4) (by walk_at "len"))) (by walk_at "ob.Mod"))
          · dsimp only [List.set]
            rw [erase_map]; rfl
        · dsimp only [stW, wipeS, List.set, List.map]
          rw [List.length_range]
          refine dss_le (S' := stX P w more most nI nS ld (dat (.list ((List.range fr.length).map fun i => freD (popG more fr i)))) un) (LeL.le (by walk_at "le")) ?_
          have hle : fr.length ≤ 28 := hl
          generalize fr.length = N at hle
          generalize popG more fr = g
          refine dss_cons (fun S' => ∃ ld' : List (NestedKey × Goal), S' = stX P w more most nI nS ld' (dat (.list ((List.range N).map fun i => freD (g i)))) un) (ds_for (xs := List.range N) (emb := fun i => .tuple [.int (i : Nat), freD (g i)]) (js := [5, 10]) (S2 := fun i z S' => (S'.set 5 (dat (.int (z : Nat)))).set 10 (dat (freD (g z)))) (fun i S' => ∃ ld', S' = stX P w more most nI nS ld' (dat (.list ((List.range N).map fun i => freD (g i)))) un ∧ ld'.length ≤ 24 + nS + i) (di_to (ds := enumD ((List.range N).map fun i => freD (g i))) (di_enum (k := false) (da_cons (de_nm 15) da_nil) G.b_enumerate) ?_) ⟨ld, rfl, by omega⟩ ?_ ?_ PassesOwn.never rfl) ?_
          · unfold enumD
            rw [List.length_map, List.length_range]
            refine List.map_congr_left fun i hi => ?_
            have hi' := List.mem_range.mp hi
            rw [getD_some (show ((List.range N).map fun i => freD (g i))[i]? = some (freD (g i)) by simp [hi'])]
          · rintro i z S' hz ⟨ld', rfl, hl'⟩
            have hzN : z < N := by
              have := List.mem_of_getElem? hz
              simpa using this
            have hiN : i < N := by
              have h1 := (List.getElem?_eq_some_iff.mp hz).1
              simpa using h1
            refine ⟨(dg_tup rfl (dgs_cons (dg_nm 5 nd (by walk_at "free1")) (dgs_cons (dg_nm 10 nd (by walk_at "free1")) dgs_nil))), ?_⟩
            dsimp only [stX, List.set]
            refine dss_then (ds_putN (kvs := ldW ld') 6 (hu8 hr) (de_to (de_nm 10) (freD_eq (g z))) (de_to (de_tup (da_cons de_str (da_cons (de_nm 5) da_nil))) (show _ = goalD ⟨true, z⟩ from rfl)) (freK_dep (g z)) rfl (by rw [sizeLine_eq]; simp [ldW]; omega)) ?_
            dsimp only [List.set]
            refine dss_le (S' := stX P w more most nI nS (pt ld' (.tup (freK (g z))) ⟨true, z⟩) (dat (.list ((List.range N).map fun i => freD (g i)))) un) (LeL.le (.keep (.keep (.keep (.keep (.keep (.drop (.keepE (by rw [← pt_ldW]; rfl) (by walk_at "le"))))))))) (dss_nil ⟨_, rfl, ?_⟩)
            have := length_pt ld' (.tup (freK (g z))) (⟨true, z⟩ : Goal)
            omega
          · rintro S' ⟨ld', rfl, _⟩
            exact ⟨ld', rfl⟩
          · rintro _ ⟨ld', rfl⟩
            have hnS : (nS : Int) < 2 ^ 62 ∧ -(2 ^ 62) ≤ (nS : Int) := by omega
            clear hn28
            dsimp only [stX]
            refine dss_then (ds_asgLc0 (xs := (List.range nS)) (emb := (fun i => .int (i : Nat))) (g := (fun i => pairD (lk ld' (.tup (freK (.side i 0))), lk ld' (.tup (freK (.side i 1)))))) (own' := [("_law_number", 5)]) 16 rfl nd (dic_to (dic_of (di_range (da_cons (de_nm 3) da_nil) G.b_range (by walk_at "num"))) (by walk_at "emb")) (by walk_at "blk") (by walk_at "free") (by decide) (by walk_at "sz") (fun z hz _ _ _ _ _ => (dg_nm 5 nd (by walk_at "free1"))) (fun z hz _ _ _ _ _ => (?_)) (by rfl) (by walk_at "lt")) ?_
            · refine de_to (de_tup (da_cons (de_getN (ks := freK (.side z 0)) 6 (hu8 hr) (de_to (de_tup (da_cons (de_nm 5) (da_cons de_int da_nil))) (freD_eq (.side z 0))) de_none (freK_dep (.side z 0))) (da_cons (de_getN (ks := freK (.side z 1)) 6 (hu8 hr) (de_to (de_tup (da_cons (de_nm 5) (da_cons de_int da_nil))) (freD_eq (.side z 1))) de_none (freK_dep (.side z 1))) da_nil))) ?_
              rw [getG_eq, getG_eq]; rfl
            · dsimp only [List.set]
              clear hnS
              have hnI : (nI : Int) < 2 ^ 62 ∧ -(2 ^ 62) ≤ (nI : Int) := by omega
              refine dss_one (ds_ret (d := lwD ⟨(List.range nI).map fun i => lk ld' (.tup (freK (.inp i))), (List.range nS).map fun i => (lk ld' (.tup (freK (.side i 0))), lk ld' (.tup (freK (.side i 1))))⟩) (de_to (de_tup (da_cons (de_tupleL G.b_tuple (de_dn (dn_lc0 (xs := (List.range nI)) (emb := (fun i => .int (i : Nat))) (g := (fun i => ogD (lk ld' (.tup (freK (.inp i)))))) (own' := [("_law_number", 5)]) rfl nd (dic_to (dic_of (di_range (da_cons (de_nm 2) da_nil) G.b_range (by walk_at "num"))) (by walk_at "emb")) (by walk_at "blk") (by walk_at "free") (by decide) (by walk_at "sz") (fun z hz _ _ _ _ _ => (dg_nm 5 nd (by walk_at "free1"))) (fun z hz _ _ _ _ _ => (?_))))) (da_cons (de_tupleL G.b_tuple (de_nm 16)) da_nil))) ?_) ⟨_, rfl, by simp; omega, by simp; omega, by simp; omega, _, most, rfl, by simp; omega⟩)
              · refine de_to (de_getN (ks := freK (.inp z)) 6 (hu8 hr) (de_to (de_tup (da_cons de_str (da_cons (de_nm 5) da_nil))) (freD_eq (.inp z))) de_none (freK_dep (.inp z))) ?_
                rw [getG_eq]
              · simp only [lwD, List.map_map]; rfl

/-! ### the law's look at webs -/
theorem noB_og (o : OG) : noB (ogD o) = true := by cases o <;> rfl
theorem noB_pair (p : OG × OG) : noB (pairD p) = true := by
  obtain ⟨a, b⟩ := p
  cases a <;> cases b <;> rfl
theorem dp_og (o : OG) : (ogD o).depth ≤ 64 := by cases o <;> simp [ogD, goalD, PyData.depth, PyData.depthAll]
def lgoals (v : LWeb) : List OG := v.ins ++ ((v.prs.map there).flatten).map some
def lgoalsTo (v : LWeb) (i : Nat) : List OG := v.ins ++ (((v.prs.take i).map there).flatten).map some
structure LSmall (v : LWeb) : Prop where
  ins : v.ins.length ≤ 100
  prs : v.prs.length ≤ 100
theorem lgoalsTo_len {v : LWeb} (h : LSmall v) (i : Nat) : (lgoalsTo v i).length ≤ 300 := by
  have h1 := flat_len there 2 there_len (v.prs.take i)
  have h2 : (v.prs.take i).length ≤ v.prs.length := by rw [List.length_take]; omega
  have := h.ins
  have := h.prs
  unfold lgoalsTo
  rw [List.length_append, List.length_map]
  omega
theorem lgoalsTo_succ {v : LWeb} {i : Nat} {z : OG × OG} (h : v.prs[i]? = some z) : lgoalsTo v (i + 1) = lgoalsTo v i ++ (there z).map some := by
  unfold lgoalsTo
  rw [List.take_add_one, h]
  simp
theorem lgoalsTo_all (v : LWeb) : lgoalsTo v v.prs.length = lgoals v := by simp [lgoalsTo, lgoals]
/-- goals of whatever has the shape of a web -/
def gD (ins : List PD) (prs : List (PD × PD)) : PD := .tuple [.tuple ins, .tuple (prs.map fun p => .tuple [p.1, p.2])]
def gpp (p : PD × PD) : List PD := [p.1, p.2].filter fun d => !isNo d
def gTo (ins : List PD) (prs : List (PD × PD)) (i : Nat) : List PD := ins ++ ((prs.take i).map gpp).flatten
theorem gpp_len (p : PD × PD) : (gpp p).length ≤ 2 := List.length_filter_le _ _
theorem gTo_len {ins : List PD} {prs : List (PD × PD)} (h1 : ins.length ≤ 100) (h2 : prs.length ≤ 100) (i : Nat) : (gTo ins prs i).length ≤ 300 := by
  have h3 := flat_len gpp 2 gpp_len (prs.take i)
  have h4 : (prs.take i).length ≤ prs.length := by rw [List.length_take]; omega
  unfold gTo
  rw [List.length_append]
  omega
theorem gTo_succ {ins : List PD} {prs : List (PD × PD)} {i : Nat} {z : PD × PD} (h : prs[i]? = some z) : gTo ins prs (i + 1) = gTo ins prs i ++ gpp z := by
  unfold gTo
  rw [List.take_add_one, h]
  simp
def R__law_goals : List PD → PD → Prop := fun ds d => ∃ (ins : List PD) (prs : List (PD × PD)), ins.length ≤ 100 ∧ prs.length ≤ 100 ∧ ds = [gD ins prs] ∧ d = .list (gTo ins prs prs.length)
def oo (p : OG × OG) : PD × PD := (ogD p.1, ogD p.2)
theorem lwD_g (v : LWeb) : lwD v = gD (v.ins.map ogD) (v.prs.map oo) := by
  simp only [lwD, gD, List.map_map]; rfl
theorem gpp_og (p : OG × OG) : gpp (oo p) = ((there p).map some).map ogD := by
  obtain ⟨a, b⟩ := p
  cases a <;> cases b <;> rfl
theorem flat_map2 {α β γ : Type} (f : β → γ) (g : α → List β) : ∀ l : List α, ((l.map g).flatten).map f = (l.map fun x => (g x).map f).flatten
  | [] => rfl
  | x :: l => by simp [flat_map2 f g l]
theorem gTo_og (v : LWeb) : gTo (v.ins.map ogD) (v.prs.map oo) (v.prs.map oo).length = (lgoals v).map ogD := by
  unfold gTo lgoals
  rw [List.take_length, List.map_append, flat_map2, flat_map2]
  congr 2
  rw [List.map_map]
  exact List.map_congr_left fun p _ => gpp_og p
theorem rel__law_goals {v : LWeb} (h : LSmall v) : R__law_goals [lwD v] (.list ((lgoals v).map ogD)) := ⟨v.ins.map ogD, v.prs.map oo, by simpa using h.ins, by simpa using h.prs, by rw [lwD_g], by rw [gTo_og]⟩
theorem len__law_goals {ds : List PD} {r : PD} : R__law_goals ds r → ds.length = 1 := by rintro ⟨_, _, _, _, rfl, _⟩; rfl
theorem sc__law_goals : FnScope ["_law_web_here", "_law_found", "_law_pair", "_law_goal"] ["_law_web_here"] (defScope (topS 45)) := ⟨rfl, rfl, rfl, by decide +kernel, rfl, by decide +kernel, by decide +kernel⟩
theorem bi__law_goals {K : Fr} {mg : Str → Option Value} (G : Tx K mg) : Binds K G.fd__law_goals ["_law_web_here"] [] := G.fn__law_goals.bindsN fun _ _ _ _ _ _ us hl => match us, hl with | [_], _ => rfl
theorem ok__law_goals {P : Program} {w : World} {K : Fr} {mg : Str → Option Value} {base : Heap} {T : Tb} (G : Tx K mg) : FnOk P w K mg base CX0 1 (He.ga K "_law_goals") G.fd__law_goals ["_law_web_here"] (spF T R__law_goals) := by
  have nd := sc__law_goals.nd
  refine fn_ok G.fn__law_goals sc__law_goals (fun ds d h => by have h' := len__law_goals h; rw [h']; decide) fun ds d h cd A outer s H E hr => ?_
  obtain ⟨ins, prs, h1, h2, rfl, rfl⟩ := h
  dsimp only [enter]
  refine dss_then (ds_asgN 1 (by first | exact dn_listT G.b_list (de_ix (de_nm 0) de_int (by walk_at "ix")) | exact dn_listL G.b_list (de_ix (de_nm 0) de_int (by walk_at "ix"))) (by rfl) (by walk_at "lt") nd) ?_
  dsimp only [List.set]
  refine dss_then (ds_forS (xs := prs) (emb := fun p => .tuple [p.1, p.2]) (fun i => [dat (gD ins prs), own (gTo ins prs i), un, un]) (fun _ => True) (by first | exact di_tup (de_ix (de_nm 0) de_int (by walk_at "ix")) | exact di_list (de_ix (de_nm 0) de_int (by walk_at "ix"))) (LeL.le (.keep (.keepE (congrArg own (by simp [gTo])) (by walk_at "le")))) trivial (fun i z hz _ => ⟨(dg_nm 2 nd (by walk_at "free1")), ?_⟩) (fun _ => rfl) PassesOwn.never rfl) ?_
  · dsimp only [List.set]
    have hg := gTo_len h1 h2 i
    have ht := gpp_len z
    refine dss_one (ds_extend 1 (de_to (de_dn (dn_lc (xs := ([z.1, z.2])) (emb := (id)) (f := (fun d => !isNo d)) (g := (id)) (own' := [("_law_goal", 3)]) rfl nd (dic_to (dic_of (by first | exact di_tup (de_nm 2) | exact di_list (de_nm 2))) (by walk_at "emb")) (by walk_at "blk") (by walk_at "free") (by decide) (by walk_at "sz") (fun z hz _ _ _ _ _ => (dg_nm 3 nd (by walk_at "free1"))) (fun z hz _ _ _ _ _ => dts_one (dt_to (dt_cmp (de_nm 3) de_none (by walk_at "cb.IsNot")) (by walk_at "elt"))) (fun z hz hk _ _ _ _ _ => (de_to (de_nm 3) (by walk_at "elt"))))) (show _ = PyData.list (gpp z) by simp [gpp])) rfl ⟨LeL.le ?_, trivial⟩ (by rw [sizeLine_eq]; omega))
    dsimp only [List.set]
    exact .keep (.keepE (congrArg own (gTo_succ hz).symm) (by walk_at "le"))
  · refine dss_le (le_fr 1 rfl) (dss_one (ds_ret (de_nm 1) rfl))
def lofW (w : Web) : LWeb := ⟨w.ins.map some, w.prs⟩
theorem lofW_D (w : Web) : lwD (lofW w) = webD w := by simp only [lwD, lofW, webD, List.map_map]; rfl
theorem lgoals_of (w : Web) : lgoals (lofW w) = (goalsOf w).map some := by simp [lgoals, lofW, goalsOf]
def pee (w : Web) (left : List Nat) (i : Nat) : Bool := (there (w.prs.getD i (none, none))).any fun g => g.out || !decide (g.num ∈ left)
def leftN (w : Web) : Nat → List Nat
  | 0 => List.range w.prs.length
  | t + 1 => (leftN w t).filter fun i => !pee w (leftN w t) i
def G1 (v : LWeb) : Bool := decide (none ∈ lgoals v) || (decide ((none, none) ∈ v.prs) || (decide (12 < v.prs.length) || !(decide (1 ≤ v.ins.length) && decide (v.ins.length ≤ 4))))
def G2 (w : Web) : Bool := decide (outsOf w = []) || (!decide (outsOf w = upI (outsOf w).length) || decide (8 < (outsOf w).length))
def G3 (w : Web) : Bool := (List.range w.prs.length).any fun i => !in12 (cnt w i)
def G4 (w : Web) : Bool := decide (leftN w w.prs.length = []) && !((goalsOf w).any fun g => !g.out && decide (w.prs.length ≤ g.num))
def lawB (v : LWeb) (r : Bool) : Prop := (G1 v = true ∧ r = false) ∨ (G1 v = false ∧ ∃ w, v = lofW w ∧ r = (!G2 w && (!G3 w && G4 w)))
theorem allsome : ∀ {l : List OG}, none ∉ l → ∃ m : List Goal, l = m.map some
  | [], _ => ⟨[], rfl⟩
  | none :: l, h => absurd List.mem_cons_self h
  | some g :: l, h => by
    obtain ⟨m, rfl⟩ := allsome (l := l) fun z => h (List.mem_cons_of_mem _ z)
    exact ⟨g :: m, rfl⟩
theorem G1_web {v : LWeb} (h : G1 v = false) : ∃ w, v = lofW w := by
  simp only [G1, Bool.or_eq_false_iff, decide_eq_false_iff_not] at h
  obtain ⟨m, hm⟩ := allsome (l := v.ins) fun z => h.1 (List.mem_append_left _ z)
  obtain ⟨a, b⟩ := v
  exact ⟨⟨m, b⟩, by simp only [lofW]; simp only at hm; rw [hm]⟩
def R__law_is_web : List PD → PD → Prop := fun ds r => ∃ (v : LWeb) (b : Bool), LSmall v ∧ ds = [lwD v] ∧ lawB v b ∧ r = .bool b
theorem len__law_is_web {ds : List PD} {r : PD} : R__law_is_web ds r → ds.length = 1 := by rintro ⟨_, _, _, rfl, _⟩; rfl
theorem eqv_nil {l : List PD} : PyData.eqv (.list l) (.list []) = l.isEmpty := by cases l <;> rfl
theorem leftN_lt (w : Web) : ∀ t, ∀ i ∈ leftN w t, i < w.prs.length
  | 0, i, h => by simpa [leftN] using h
  | t + 1, i, h => leftN_lt w t i (List.mem_filter.mp h).1
theorem leftN_len (w : Web) : ∀ t, (leftN w t).length ≤ w.prs.length
  | 0 => by simp [leftN]
  | t + 1 => Nat.le_trans (List.length_filter_le _ _) (leftN_len w t)
theorem nat_inj (a b : Nat) (h : PyData.int (a : Nat) = PyData.int (b : Nat)) : a = b := by injection h with h; omega
theorem noB_nat (a : Nat) : noB (PyData.int (a : Nat)) = true := rfl
theorem cnt_eq (w : Web) (i : Nat) : (((goalsOf w).map goalD).countP fun y => PyData.eqv y (.tuple [.str "split", .int (i : Nat)])) = cnt w i := by
  rw [List.countP_map, List.countP_eq_length_filter]
  unfold cnt
  congr 2
  funext g
  exact split_eq g i
theorem filt_not {l m : List Nat} (p : Nat → Bool) (h : ∀ i ∈ l, i ∈ m ↔ p i = true) : l.filter (fun i => !decide (i ∈ m)) = l.filter fun i => !p i := by
  refine List.filter_congr fun i hi => ?_
  cases q : p i with
  | true => simp [(h i hi).mpr q]
  | false =>
    have : i ∉ m := fun z => by rw [(h i hi).mp z] at q; cases q
    simp [this]
theorem spl_eq (g : Goal) : decide ((if g.out then Str.ofString "out" else Str.ofString "split") = Str.ofString "split") = !g.out := by
  cases h : g.out <;> simp <;> decide
theorem ni_left (n : Nat) (l : List Nat) : (!inD (.int (n : Nat)) (l.map fun i => .int (i : Nat))) = !decide (n ∈ l) := by
  rw [inD_emb (f := fun i : Nat => PyData.int (i : Nat)) noB_nat nat_inj n l]
local macro_rules | `(tactic| walk_at "elt") => `(tactic| first | exact out_eq _ | exact split_eq _ _ | (rw [cnt_eq]; rfl) | exact ni_left _ _ | (rw [out_eq, ni_left]) | (rw [spl_eq]; simp; done))
theorem sc__law_is_web : FnScope ["_law_web_here", "_law_goals_here", "_law_ends_here", "_law_goal", "_law_own", "_law_left", "_law_turn", "_law_some", "_law_ends", "_law_beyond"] ["_law_web_here"] (defScope (topS 46)) := ⟨rfl, rfl, rfl, by decide +kernel, rfl, by decide +kernel, by decide +kernel⟩
theorem bi__law_is_web {K : Fr} {mg : Str → Option Value} (G : Tx K mg) : Binds K G.fd__law_is_web ["_law_web_here"] [] := G.fn__law_is_web.bindsN fun _ _ _ _ _ _ us hl => match us, hl with | [_], _ => rfl
theorem ok__law_is_web {P : Program} {w : World} {K : Fr} {mg : Str → Option Value} {base : Heap} {T : Tb} (G : Tx K mg) : FnOk P w K mg base CX0 2 (He.ga K "_law_is_web") G.fd__law_is_web ["_law_web_here"] (spF T R__law_is_web) := by
  have nd := sc__law_is_web.nd
  refine fn_ok G.fn__law_is_web sc__law_is_web (fun ds d h => by have h' := len__law_is_web h; rw [h']; decide) fun ds d h cd A outer s H E hr => ?_
  obtain ⟨v, b, hv, rfl, hb, rfl⟩ := h
  dsimp only [enter]
  have hi100 := hv.ins
  have hp100 := hv.prs
  have hlg : (lgoals v).length ≤ 300 := by have := lgoalsTo_len hv v.prs.length; rwa [lgoalsTo_all] at this
  refine dss_then (ds_asg 1 (de_call (ok__law_goals G) (hr.mono (by decide)) G.g__law_goals G.fn__law_goals.kp (bi__law_goals G) (da_cons (de_nm 0) da_nil) (rel__law_goals hv)) rfl nd) ?_
  dsimp only [List.set]
  refine dss_guard (k := G1 v) (dt_w (dw_or (dt_to (dt_cmp de_none (de_nm 1) (by walk_at "cb.In")) ((inD_emb noB_og (fun _ _ => ogD_inj) none (lgoals v)).trans (decide_eq_decide.mpr Iff.rfl))) (fun _ => dw_or (k := decide ((none, none) ∈ v.prs)) (dt_to (dt_cmp (de_tup (da_cons de_none (da_cons de_none da_nil))) (de_ix (de_nm 0) de_int (by walk_at "ix")) (by walk_at "cb.In")) ((inD_emb noB_pair (fun _ _ => pairD_inj) (none, none) v.prs).trans (decide_eq_decide.mpr Iff.rfl))) (fun _ => dw_or (k := decide (12 < v.prs.length)) (dt_to (dt_cmp (de_len (G.b_len) (de_ix (de_nm 0) de_int (by walk_at "ix")) (by walk_at "len")) de_int (by walk_at "cb.Gt")) ?_) (fun _ => dw_or1 (dt_to (y := !(decide (1 ≤ v.ins.length) && decide (v.ins.length ≤ 4))) (dt_not (dt_chain de_int (de_len (G.b_len) (de_ix (de_nm 0) de_int (by walk_at "ix")) (by walk_at "len")) de_int (by walk_at "cb.LtE") (by walk_at "cb.LtE"))) ?_)))))) (fun hk => ?_) (fun hk => ?_)
  · simp only [List.length_map]; exact decide_eq_decide.mpr (by omega)
  · simp only [List.length_map]; congr 2 <;> exact decide_eq_decide.mpr (by omega)
  · rcases hb with ⟨_, rfl⟩ | ⟨h1, _⟩
    · exact dss_one (ds_ret de_bool rfl)
    · rw [hk] at h1; cases h1
  · rcases hb with ⟨h1, _⟩ | ⟨_, w, rfl, rfl⟩
    · rw [hk] at h1; cases h1
    · rw [lofW_D, lgoals_of, List.map_map, show (ogD ∘ some) = goalD from rfl]
      have hl : (goalsOf w).length ≤ 300 := by rw [lgoals_of, List.length_map] at hlg; exact hlg
      have hpr : w.prs.length ≤ 100 := hp100
      refine dss_then (ds_asg 2 (de_dn (dn_sortI (ns := outNs w) G.b_sorted (de_to (de_dn (dn_lc (xs := (goalsOf w)) (emb := (goalD)) (f := (fun g => g.out)) (g := (fun g => .int (g.num : Nat))) (own' := [("_law_goal", 3)]) rfl nd (dic_to (dic_of (by first | exact di_tup (de_nm 1) | exact di_list (de_nm 1))) (by walk_at "emb")) (by walk_at "blk") (by walk_at "free") (by decide) (by walk_at "sz") (fun z hz _ _ _ _ _ => (dg_nm 3 nd (by walk_at "free1"))) (fun z hz _ _ _ _ _ => dts_one (dt_to (dt_cmp (de_ix (de_nm 3) de_int (by walk_at "ix")) de_str (by walk_at "cb.Eq")) (by walk_at "elt"))) (fun z hz hk _ _ _ _ _ => (de_to (de_ix (de_nm 3) de_int (by walk_at "ix")) (by walk_at "elt"))))) (by simp [outNs, List.map_map, Function.comp_def])))) rfl nd) ?_
      dsimp only [List.set]
      have hls : (outsOf w).length ≤ 300 := by
        have h1 : (outsOf w).length = (outNs w).length := (List.mergeSort_perm _ _).length_eq
        have h2 : (outNs w).length ≤ (goalsOf w).length := by simp [outNs]; exact List.length_filter_le _ _
        omega
      change DSs _ _ _ _ [dat (webD w), dat (.list ((goalsOf w).map goalD)), dat (.list ((outsOf w).map .int)), un, un, un, un, un, un, un] _
      refine dss_guard (k := G2 w) (dt_w (dw_or (dt_to (dt_cmp (de_nm 2) (de_dn (dn_lst da_nil)) (by walk_at "cb.Eq")) (eqv_embL noB_int int_inj (outsOf w) [])) (fun hk => dw_or (k := !decide (outsOf w = upI (outsOf w).length)) (dt_to (dt_cmp (de_nm 2) (de_dn (dn_listR G.b_list G.b_range rfl (de_len (G.b_len) (de_nm 2) (by walk_at "len")) (by walk_at "num"))) (by walk_at "cb.NotEq")) ?_) (fun _ => dw_or1 (dt_to (y := decide (8 < (outsOf w).length)) (dt_cmp (de_len (G.b_len) (de_nm 2) (by walk_at "len")) de_int (by walk_at "cb.Gt")) ?_))))) (fun hk => ?_) (fun hk2 => ?_)
      · rw [show ((((outsOf w).map PyData.int).length : Nat) : Int).toNat = (outsOf w).length by simp, upTo_eq, eqv_embL noB_int int_inj]
      · simp only [List.length_map]; exact decide_eq_decide.mpr (by omega)
      · exact dss_one (ds_ret de_bool (by simp [hk, rets]))
      · refine dss_guard (k := G3 w) (dt_to (dt_cmp (de_dn (dn_lc (xs := (List.range w.prs.length)) (emb := (fun i => .int (i : Nat))) (f := (fun i => !in12 (cnt w i))) (g := (fun _ => .int 1)) (own' := [("_law_own", 4)]) rfl nd (dic_to (dic_of (di_range (da_cons (de_len (G.b_len) (de_ix (de_nm 0) de_int (by walk_at "ix")) (by walk_at "len")) da_nil) G.b_range (by walk_at "num"))) (by walk_at "emb")) (by walk_at "blk") (by walk_at "free") (by decide) (by walk_at "sz") (fun z hz _ _ _ _ _ => (dg_nm 4 nd (by walk_at "free1"))) (fun z hz _ _ _ _ _ => dts_one (dt_to (dt_cmp (de_countD (by walk_at "hu") (de_nm 1) (de_tup (da_cons de_str (da_cons (de_nm 4) da_nil))) (by walk_at "dep")) (de_tup (da_cons de_int (da_cons de_int da_nil))) (by walk_at "cb.NotIn")) (by walk_at "elt"))) (fun z hz hk _ _ _ _ _ => (de_to de_int (by walk_at "elt"))))) (de_dn (dn_lst da_nil)) (by walk_at "cb.NotEq")) ?_) (fun hk => ?_) (fun hk3 => ?_)
        · rw [eqv_nil]
          simp only [G3]
          induction List.range w.prs.length with
          | nil => rfl
          | cons x l ih =>
            simp only [List.filter_cons, List.any_cons]
            cases h : in12 (cnt w x) <;> simp_all
        · exact dss_one (ds_ret de_bool (by simp [hk, rets]))
        · refine dss_then (ds_asg 5 (de_to (de_dn (dn_listR G.b_list G.b_range rfl (de_len (G.b_len) (de_ix (de_nm 0) de_int (by walk_at "ix")) (by walk_at "len")) (by walk_at "num"))) (show _ = PyData.list ((leftN w 0).map fun i => .int (i : Nat)) by simp [DL.upTo, leftN])) rfl nd) ?_
          dsimp only [List.set]
          refine dss_then (ds_forS (xs := List.range w.prs.length) (emb := fun i => .int (i : Nat)) (fun t => [dat (webD w), dat (.list ((goalsOf w).map goalD)), dat (.list ((outsOf w).map .int)), un, un, dat (.list ((leftN w t).map fun i => .int (i : Nat))), un, un, un, un]) (fun _ => True) (di_to (di_range (da_cons (de_len (G.b_len) (de_ix (de_nm 0) de_int (by walk_at "ix")) (by walk_at "len")) da_nil) G.b_range (by walk_at "num")) (by simp [DL.upTo])) (LeL.le (by walk_at "le")) trivial (fun t tz _ _ => ⟨(dg_nm 6 nd (by walk_at "free1")), ?_⟩) (fun _ => rfl) PassesOwn.never rfl) ?_
          · dsimp only [List.set]
            have hln := leftN_len w t
            have hlt := leftN_lt w t
            refine dss_then (ds_asgN 7 (dn_lst da_nil) (by rfl) (by walk_at "lt") nd) ?_
            dsimp only [List.set]
            refine dss_then (ds_forS (xs := leftN w t) (emb := fun i => .int (i : Nat)) (fun i => [dat (webD w), dat (.list ((goalsOf w).map goalD)), dat (.list ((outsOf w).map .int)), un, un, dat (.list ((leftN w t).map fun i => .int (i : Nat))), un, own ((((leftN w t).take i).filter (pee w (leftN w t))).map fun i => .int (i : Nat)), un, un]) (fun _ => True) (by first | exact di_tup (de_nm 5) | exact di_list (de_nm 5)) (LeL.le (by walk_at "le")) trivial (fun i z hz _ => ⟨(dg_nm 4 nd (by walk_at "free1")), ?_⟩) (fun _ => rfl) PassesOwn.never rfl) ?_
            · dsimp only [List.set]
              have hzn := hlt z (List.mem_of_getElem? hz)
              have hat : atI (w.prs.map pairD) (z : Nat) = some (pairD (w.prs.getD z (none, none))) := atI_nat (by simp [hzn])
              generalize hp : w.prs.getD z (none, none) = p at hat
              have hth := there_len p
              refine dss_then (ds_asgLc (xs := [p.1, p.2]) (emb := ogD) (f := fun o => !isNo (ogD o)) (g := ogD) (own' := [("_law_goal", 3)]) 8 rfl nd (dic_to (dic_of (di_tup (ds := [ogD p.1, ogD p.2]) (de_to (de_ix (de_ix (de_nm 0) de_int (by walk_at "ix")) (de_nm 4) (by walk_at "ix")) rfl))) rfl) (by walk_at "blk") (by walk_at "free") (by decide) (by walk_at "sz") (fun z hz _ _ _ _ _ => (dg_nm 3 nd (by walk_at "free1"))) (fun z hz _ _ _ _ _ => dts_one (dt_to (dt_cmp (de_nm 3) de_none (by walk_at "cb.IsNot")) rfl)) (fun z hz hk _ _ _ _ _ => (de_nm 3)) rfl (by walk_at "lt")) ?_
              dsimp only [List.set]
              rw [there_D]
              have hpee : pee w (leftN w t) z = (there p).any fun g => g.out || !decide (g.num ∈ leftN w t) := by simp only [pee, hp]
              have hflen : (((leftN w t).take i).filter (pee w (leftN w t))).length ≤ 100 := by
                have h1 := List.length_filter_le (pee w (leftN w t)) ((leftN w t).take i)
                rw [List.length_take] at h1
                omega
              have hstep : (((leftN w t).take (i + 1)).filter (pee w (leftN w t))) = (((leftN w t).take i).filter (pee w (leftN w t))) ++ if pee w (leftN w t) z = true then [z] else [] := by
                rw [List.take_add_one, hz, List.filter_append]
                cases q : pee w (leftN w t) z <;> simp [q]
              refine dss_one (ds_if (k := pee w (leftN w t) z) (dt_to (dt_cmp (de_dn (dn_lc (xs := (there p)) (emb := (goalD)) (f := (fun g => g.out || !decide (g.num ∈ leftN w t))) (g := (fun _ => .int 1)) (own' := [("_law_goal", 3)]) rfl nd (dic_to (dic_of (by first | exact di_tup (de_nm 8) | exact di_list (de_nm 8))) (by walk_at "emb")) (by walk_at "blk") (by walk_at "free") (by decide) (by walk_at "sz") (fun z hz _ _ _ _ _ => (dg_nm 3 nd (by walk_at "free1"))) (fun z hz _ _ _ _ _ => dts_one (dt_to (dt_w (dw_or (dt_cmp (de_ix (de_nm 3) de_int (by walk_at "ix")) de_str (by walk_at "cb.Eq")) (fun hk => (dw_or1 (dt_cmp (de_ix (de_nm 3) de_int (by walk_at "ix")) (de_nm 5) (by walk_at "cb.NotIn")))))) (by walk_at "elt"))) (fun z hz hk _ _ _ _ _ => (de_to de_int (by walk_at "elt"))))) (de_dn (dn_lst da_nil)) (by walk_at "cb.NotEq")) ?_) (fun hk => ?_) (fun hk => ?_))
              · rw [eqv_nil, hpee]
                induction there p with
                | nil => rfl
                | cons x l ih =>
                  simp only [List.filter_cons, List.any_cons]
                  cases h : (x.out || !decide (x.num ∈ leftN w t)) <;> simp_all
              · refine dss_one (ds_append 7 (de_nm 4) rfl ⟨LeL.le ?_, trivial⟩ (by rw [sizeLine_eq]; simp; omega))
                dsimp only [List.set]
                exact .keep (.keep (.keep (.drop (.drop (.keep (.keep (.keepE (by rw [hstep, if_pos hk]; simp) (by walk_at "le"))))))))
              · refine dss_nil ⟨LeL.le ?_, trivial⟩
                exact .keep (.keep (.keep (.drop (.drop (.keep (.keep (.keepE (by rw [hstep, hk]; simp) (by walk_at "le"))))))))
            · refine dss_le (le_fr 7 rfl) ?_
              dsimp only [List.set]
              rw [List.take_length]
              refine dss_one (ds_asg 5 (de_to (de_dn (dn_lc (xs := (leftN w t)) (emb := (fun i => .int (i : Nat))) (f := (fun i => !decide (i ∈ (leftN w t).filter (pee w (leftN w t))))) (g := (fun i => .int (i : Nat))) (own' := [("_law_own", 4)]) rfl nd (dic_to (dic_of (by first | exact di_tup (de_nm 5) | exact di_list (de_nm 5))) (by walk_at "emb")) (by walk_at "blk") (by walk_at "free") (by decide) (by walk_at "sz") (fun z hz _ _ _ _ _ => (dg_nm 4 nd (by walk_at "free1"))) (fun z hz _ _ _ _ _ => dts_one (dt_to (dt_cmp (de_nm 4) (de_nm 7) (by walk_at "cb.NotIn")) (by walk_at "elt"))) (fun z hz hk _ _ _ _ _ => (de_to (de_nm 4) (by walk_at "elt"))))) (show _ = PyData.list ((leftN w (t + 1)).map fun i => .int (i : Nat)) from ?_)) ⟨LeL.le (by walk_at "le"), trivial⟩ nd)
              rw [filt_not (pee w (leftN w t)) fun i hi => by simp [hi]]
              rfl
          · rw [List.length_range]
            refine dss_then (ds_asgLc (xs := (goalsOf w)) (emb := (goalD)) (f := (fun g => !g.out && decide (w.prs.length ≤ g.num))) (g := (goalD)) (own' := [("_law_goal", 3)]) 9 rfl nd (dic_to (dic_of (by first | exact di_tup (de_nm 1) | exact di_list (de_nm 1))) (by walk_at "emb")) (by walk_at "blk") (by walk_at "free") (by decide) (by walk_at "sz") (fun z hz _ _ _ _ _ => (dg_nm 3 nd (by walk_at "free1"))) (fun z hz _ _ _ _ _ => dts_one (dt_to (dt_w (dw_and (dt_cmp (de_ix (de_nm 3) de_int (by walk_at "ix")) de_str (by walk_at "cb.Eq")) (fun hk => (dw_and1 (dt_cmp (de_ix (de_nm 3) de_int (by walk_at "ix")) (de_len (G.b_len) (de_ix (de_nm 0) de_int (by walk_at "ix")) (by walk_at "len")) (by walk_at "cb.GtE")))))) (by walk_at "elt"))) (fun z hz hk _ _ _ _ _ => (de_to (de_nm 3) (by walk_at "elt"))) (by rfl) (by walk_at "lt")) ?_
            dsimp only [List.set]
            refine dss_one (ds_ret (de_to (de_and (k := decide (leftN w w.prs.length = [])) (de_to (de_cmp (de_nm 5) (de_dn (dn_lst da_nil)) (by walk_at "cb.Eq")) ?_) (fun _ => de_and1 (de_cmp (de_nm 9) (de_dn (dn_lst da_nil)) (by walk_at "cb.Eq")))) ?_) rfl)
            · rw [eqv_nil]; cases leftN w w.prs.length <;> rfl
            · rw [eqv_nil, hk2, hk3]
              congr 1
              simp only [Bool.not_false, Bool.true_and, G4]
              congr 1
              induction goalsOf w with
              | nil => rfl
              | cons x l ih =>
                simp only [List.filter_cons, List.any_cons]
                cases h : (!x.out && decide (w.prs.length ≤ x.num)) <;> simp_all

/-! ### what the law takes for a web is one -/
theorem mem_there {p : OG × OG} {g : Goal} : g ∈ there p ↔ p.1 = some g ∨ p.2 = some g := by
  obtain ⟨a, b⟩ := p
  cases a <;> cases b <;> simp [there, eq_comm]
def prAt (w : Web) (i : Nat) : OG × OG := w.prs.getD i (none, none)
def Closed (w : Web) (fk : List Nat) (i : Nat) : Prop := ∀ j, j < i → ∀ o, (o = (prAt w j).1 ∨ o = (prAt w j).2) → ldG fk o = true → j ∈ fk
theorem insN_in {fk : List Nat} {n : Nat} (h : n ∈ fk) : insN fk n = fk := by simp [insN, h]
theorem ldS_cases (n : Nat) (fk : List Nat) (o : OG) : (ldS n fk o = fk ∧ (ldG fk o = true → n ∈ fk)) ∨ fk.length < (ldS n fk o).length := by
  unfold ldS
  by_cases h : ldG fk o = true
  · rw [if_pos h]
    by_cases m : n ∈ fk
    · exact .inl ⟨insN_in m, fun _ => m⟩
    · exact .inr (by simp [insN, m])
  · rw [if_neg h]
    exact .inl ⟨rfl, fun z => absurd z h⟩
theorem ldP_cases (n : Nat) (fk : List Nat) (p : OG × OG) : (ldP fk n p = fk ∧ ∀ o, (o = p.1 ∨ o = p.2) → ldG fk o = true → n ∈ fk) ∨ fk.length < (ldP fk n p).length := by
  unfold ldP
  rcases ldS_cases n fk p.1 with ⟨h1, h2⟩ | h1
  · rw [h1]
    rcases ldS_cases n fk p.2 with ⟨h3, h4⟩ | h3
    · exact .inl ⟨h3, fun o ho hg => by
        rcases ho with rfl | rfl
        · exact h2 hg
        · exact h4 hg⟩
    · exact .inr h3
  · refine .inr ?_
    rcases ldS_cases n (ldS n fk p.1) p.2 with ⟨h3, _⟩ | h3
    · rw [h3]; exact h1
    · omega
theorem ldR_cases (w : Web) (fk : List Nat) : ∀ i, (ldR w.prs fk i = fk ∧ Closed w fk i) ∨ fk.length < (ldR w.prs fk i).length
  | 0 => .inl ⟨rfl, fun j h => by omega⟩
  | i + 1 => by
    unfold ldR
    rcases ldR_cases w fk i with ⟨h1, h2⟩ | h1
    · rw [h1]
      rcases ldP_cases i fk (prAt w i) with ⟨h3, h4⟩ | h3
      · refine .inl ⟨h3, fun j hj o ho hg => ?_⟩
        by_cases e : j = i
        · subst e; exact h4 o ho hg
        · exact h2 j (by omega) o ho hg
      · exact .inr h3
    · refine .inr ?_
      rcases ldP_cases i (ldR w.prs fk i) (prAt w i) with ⟨h3, _⟩ | h3
      · exact h3.symm ▸ h1
      · exact Nat.lt_trans h1 h3
theorem ldR_closed (w : Web) (fk : List Nat) (h : Closed w fk w.prs.length) : ∀ i, i ≤ w.prs.length → ldR w.prs fk i = fk
  | 0, _ => rfl
  | i + 1, hi => by
    unfold ldR
    rw [ldR_closed w fk h i (by omega)]
    have s : ∀ o, (o = (prAt w i).1 ∨ o = (prAt w i).2) → ldS i fk o = fk := fun o ho => by
      unfold ldS
      by_cases q : ldG fk o = true
      · rw [if_pos q, insN_in (h i (by omega) o ho q)]
      · rw [if_neg q]
    show ldS i (ldS i fk (prAt w i).1) (prAt w i).2 = fk
    rw [s _ (.inl rfl), s _ (.inr rfl)]
theorem ldN_closed (w : Web) : ∀ t, Closed w (ldN w t) w.prs.length ∨ t ≤ (ldN w t).length
  | 0 => .inr (Nat.zero_le _)
  | t + 1 => by
    show Closed w (ldR w.prs (ldN w t) w.prs.length) w.prs.length ∨ t + 1 ≤ (ldR w.prs (ldN w t) w.prs.length).length
    rcases ldN_closed w t with h | h
    · rw [ldR_closed w _ h _ (Nat.le_refl _)]; exact .inl h
    · rcases ldR_cases w (ldN w t) w.prs.length with ⟨h1, h2⟩ | h1
      · rw [h1]; exact .inl h2
      · exact .inr (by omega)
theorem ldAll_closed (w : Web) : Closed w (ldAll w) w.prs.length := by
  rcases ldN_closed w (w.prs.length + 1) with h | h
  · exact h
  · have := (LdOk.n w (w.prs.length + 1)).len
    omega
theorem ldAll_full {w : Web} : (ldAll w).length = w.prs.length ↔ ∀ i, i < w.prs.length → i ∈ ldAll w := by
  have ok := LdOk.n w (w.prs.length + 1)
  constructor
  · intro h i hi
    by_cases m : i ∈ ldAll w
    · exact m
    · have q := List.Nodup.length_le_of_subset (l₁ := i :: ldAll w) (l₂ := List.range w.prs.length) (List.nodup_cons.mpr ⟨m, ok.1⟩) (fun j hj => by
        rcases List.mem_cons.mp hj with e | hj
        · rw [e]; exact List.mem_range.mpr hi
        · exact List.mem_range.mpr (ok.2 j hj))
      rw [List.length_cons, List.length_range, h] at q
      omega
  · intro h
    have q := List.Nodup.length_le_of_subset (l₁ := List.range w.prs.length) (l₂ := ldAll w) List.nodup_range (fun j hj => h j (List.mem_range.mp hj))
    have := ok.len
    rw [List.length_range] at q
    exact Nat.le_antisymm this q
theorem goal_mem_ins {w : Web} {g : Goal} (h : g ∈ w.ins) : g ∈ goalsOf w := List.mem_append_left _ h
theorem goal_mem_prs {w : Web} {p : OG × OG} {g : Goal} (hp : p ∈ w.prs) (h : g ∈ there p) : g ∈ goalsOf w := List.mem_append_right _ (List.mem_flatten.mpr ⟨there p, List.mem_map.mpr ⟨p, hp, rfl⟩, h⟩)
theorem prAt_mem {w : Web} {i : Nat} (h : i < w.prs.length) : prAt w i ∈ w.prs := by
  unfold prAt
  rw [List.getD_eq_getElem?_getD, List.getElem?_eq_getElem h]
  exact List.getElem_mem h
theorem peeled {w : Web} (hb : ∀ g ∈ goalsOf w, g.out = false → g.num < w.prs.length) : ∀ t i, i < w.prs.length → i ∉ leftN w t → i ∈ ldAll w
  | 0, i, hi, h => absurd (by simpa [leftN] using hi) h
  | t + 1, i, hi, h => by
    by_cases m : i ∈ leftN w t
    · have hp : pee w (leftN w t) i = true := by
        cases q : pee w (leftN w t) i with
        | true => rfl
        | false => exact absurd (List.mem_filter.mpr ⟨m, by simp [q]⟩) h
      unfold pee at hp
      obtain ⟨g, hg, hc⟩ := List.any_eq_true.mp hp
      have hg' : g ∈ there (prAt w i) := hg
      refine ldAll_closed w i hi (some g) ((mem_there.mp hg').imp Eq.symm Eq.symm) ?_
      simp only [Bool.or_eq_true, Bool.not_eq_true', decide_eq_false_iff_not] at hc
      simp only [ldG, Bool.or_eq_true, decide_eq_true_eq]
      rcases hc with hc | hc
      · exact .inl hc
      · cases ho : g.out with
        | true => exact .inl rfl
        | false => exact .inr (peeled hb t g.num (hb g (goal_mem_prs (prAt_mem hi) hg') ho) hc)
    · exact peeled hb t i hi m
theorem out_num {w : Web} (h : outsOf w = upI (outsOf w).length) {g : Goal} (hg : g ∈ goalsOf w) (ho : g.out = true) : g.num < (outsOf w).length := by
  have m : (g.num : Int) ∈ outsOf w := (List.mergeSort_perm _ _).symm.subset (List.mem_map.mpr ⟨g, List.mem_filter.mpr ⟨hg, ho⟩, rfl⟩)
  rw [h] at m
  obtain ⟨j, hj, e⟩ := List.mem_map.mp m
  have := List.mem_range.mp hj
  omega
theorem web_of_law {v : LWeb} (h : lawB v true) : ∃ w, v = lofW w ∧ IsWeb w := by
  rcases h with ⟨_, h⟩ | ⟨h1, w, rfl, h2⟩
  · cases h
  · have h2 := h2.symm
    simp only [Bool.and_eq_true, Bool.not_eq_true'] at h2
    obtain ⟨g2, g3, g4⟩ := h2
    simp only [G1, Bool.or_eq_false_iff] at h1
    obtain ⟨_, a2, a3, a4⟩ := h1
    have a2 : (none, none) ∉ w.prs := of_decide_eq_false a2
    have a3 : ¬ 12 < w.prs.length := of_decide_eq_false a3
    simp only [lofW, Bool.not_eq_false', Bool.and_eq_true, decide_eq_true_eq, List.length_map] at a4
    simp only [G2, Bool.or_eq_false_iff, decide_eq_false_iff_not, Bool.not_eq_false', decide_eq_true_eq] at g2
    simp only [G4, Bool.and_eq_true, decide_eq_true_eq, Bool.not_eq_true'] at g4
    have hb : ∀ g ∈ goalsOf w, g.out = false → g.num < w.prs.length := fun g hg ho => by
      have := List.any_eq_false.mp g4.2 g hg
      simp [ho] at this
      omega
    have bnd : ∀ g ∈ goalsOf w, bndG w.prs.length g := fun g hg => by
      unfold bndG
      cases ho : g.out with
      | true =>
        have := out_num g2.2.1 hg ho
        simp; omega
      | false => simpa using hb g hg ho
    refine ⟨w, rfl, ⟨⟨by omega, by omega, fun g hg => bnd g (goal_mem_ins hg), fun p hp e => a2 (e ▸ hp), fun p hp g hg => bnd g (goal_mem_prs hp hg)⟩, ?_⟩⟩
    have full := ldAll_full.mpr fun i hi => peeled hb w.prs.length i hi (by rw [g4.1]; simp)
    have hc : (cnts w).all in12 = true := by
      rw [List.all_eq_true]
      intro c hcm
      obtain ⟨i, hi, rfl⟩ := List.mem_map.mp hcm
      have := List.any_eq_false.mp g3 i hi
      simpa using this
    have hl : ((fd (ldAll w)).length : Int) = w.prs.length := by simp [fd, full]
    simp only [webB, hc, hl, g2.1, ← g2.2.1, decide_true, decide_false, Bool.not_true, Bool.or_false, Bool.not_false, Bool.and_self]
/-! ### _law_right_web -/
def Pre__law_right_web : List PD → Prop := fun ds => ∃ more most : Int, 0 ≤ most ∧ most ≤ 12 ∧ ds = [.int more, .int most]
def Post__law_right_web : List PD → PD → Prop := fun ds d => ∃ w, d = webD w ∧ IsWeb w ∧ ∃ (x : PD) (most : Int), ds = [x, .int most] ∧ (w.prs.length : Int) ≤ most
theorem len__law_right_web {ds : List PD} : Pre__law_right_web ds → ds.length = 2 := by rintro ⟨_, _, _, _, rfl⟩; rfl
def loneW : Web := ⟨[⟨true, 0⟩], []⟩
theorem lone_ok : IsWeb loneW := by
  refine ⟨⟨by decide, by decide, fun g hg => ?_, fun p hp => by simp [loneW] at hp, fun p hp => by simp [loneW] at hp⟩, ?_⟩
  · simp [loneW] at hg; subst hg; simp [bndG]
  · have e : outsOf loneW = [0] := by
      unfold outsOf
      have : outNs loneW = [0] := rfl
      rw [this]; simp [sortI]
    have e2 : webB loneW = (!(decide (outsOf loneW = []) || !decide (outsOf loneW = upI (outsOf loneW).length)) && ((cnts loneW).all in12 && decide (((fd (ldAll loneW)).length : Int) = loneW.prs.length))) := rfl
    rw [e2, e]; rfl
theorem sc__law_right_web : FnScope ["_law_more", "_law_most", "_law_turn", "_law_web_here"] ["_law_more", "_law_most"] (defScope (topS 47)) := ⟨rfl, rfl, rfl, by decide +kernel, rfl, by decide +kernel, by decide +kernel⟩
theorem bi__law_right_web {K : Fr} {mg : Str → Option Value} (G : Tx K mg) : Binds K G.fd__law_right_web ["_law_more", "_law_most"] [] := G.fn__law_right_web.bindsN fun _ _ _ _ _ _ us hl => match us, hl with | [_, _], _ => rfl
theorem ok__law_right_web {P : Program} {w : World} {K : Fr} {mg : Str → Option Value} {base : Heap} {T : Tb} (G : Tx K mg) : FnOk P w K mg base CX0 3 (He.ga K "_law_right_web") G.fd__law_right_web ["_law_more", "_law_most"] (spE T Pre__law_right_web Post__law_right_web) := by
  have nd := sc__law_right_web.nd
  refine fn_okE G.fn__law_right_web sc__law_right_web (fun ds h => by have h' := len__law_right_web h; rw [h']; decide) fun ds h cd A outer s H E hr => ?_
  obtain ⟨more, most, hq0, hq1, rfl⟩ := h
  dsimp only [enter]
  refine dss_then (ds_forS (xs := List.range 40) (emb := fun i => .int (i : Nat)) (fun t => [dat (.int more), dat (.int most), un, un]) (fun _ => True) (di_to (di_range (da_cons de_int da_nil) G.b_range (by walk_at "num")) (by simp [DL.upTo])) (LeL.le (by walk_at "le")) trivial (fun t tz _ _ => ⟨(dg_nm 2 nd (by walk_at "free1")), ?_⟩) (fun _ => rfl) PassesOwn.never rfl) ?_
  · dsimp only [List.set]
    refine dss_cons (fun S' => ∃ v : LWeb, (1 ≤ v.ins.length ∧ v.ins.length ≤ 4 ∧ v.prs.length ≤ 12 ∧ (v.prs.length : Int) ≤ most) ∧ S' = [dat (.int more), dat (.int most), dat (.int (tz : Nat)), dat (lwD v)]) (ds_asgE 3 (dx_callE (ok__law_web G) (hr.mono (by decide)) G.g__law_web G.fn__law_web.kp (bi__law_web G) (da_cons (de_call (ok__law_drawn G) (hr.mono (by decide)) G.g__law_drawn G.fn__law_drawn.kp (bi__law_drawn G) (da_cons (de_nm 0) (da_cons (de_bin de_int (de_nm 2) (by walk_at "ob.Add")) da_nil)) (by first | exact rel__law_drawn | exact rel__law_drawn (by assumption) | exact rel__law_drawn (by walk_at "rel") | assumption)) (da_cons (de_nm 1) da_nil)) ⟨_, most, drawn_nn _ _, hq0, hq1, rfl⟩) (fun d hq => by obtain ⟨v, e, h1, h2, h3, x, mo, h4, h5⟩ := hq; simp only [List.cons.injEq, PyData.int.injEq, and_true] at h4; exact ⟨v, ⟨h1, h2, h3, by rw [h4.2]; exact h5⟩, by rw [e]; rfl⟩) nd) ?_
    rintro _ ⟨v, hh, rfl⟩
    have hsm : LSmall v := ⟨by omega, by omega⟩
    obtain ⟨b, hb⟩ : ∃ b, lawB v b := by
      cases h1 : G1 v with
      | true => exact ⟨false, .inl ⟨h1, rfl⟩⟩
      | false =>
        obtain ⟨w, rfl⟩ := G1_web h1
        exact ⟨_, .inr ⟨h1, w, rfl, rfl⟩⟩
    refine dss_one (ds_if (k := b) (dt_val (de_call (d := .bool b) (ok__law_is_web G) (hr.mono (by decide)) G.g__law_is_web G.fn__law_is_web.kp (bi__law_is_web G) (da_cons (de_nm 3) da_nil) ⟨v, b, hsm, rfl, hb, rfl⟩)) (fun hk => ?_) (fun _ => dss_nil ⟨LeL.le (by walk_at "le"), trivial⟩))
    subst hk
    obtain ⟨w, rfl, hw⟩ := web_of_law hb
    exact dss_one (ds_ret (de_nm 3) ⟨w, lofW_D w, hw, _, most, rfl, by simpa [lofW] using hh.2.2.2⟩)
  · exact dss_one (ds_ret (de_to (de_tup (da_cons (de_tup (da_cons (de_tup (da_cons de_str (da_cons de_int da_nil))) da_nil)) (da_cons (de_tup da_nil) da_nil))) (show _ = webD loneW from rfl)) ⟨loneW, rfl, lone_ok, _, most, rfl, by simpa [loneW] using hq0⟩)

/-! ### ways end -/
def sideG (p : OG × OG) (t : Nat) : OG := if t = 0 then p.1 else p.2
def nextG (w : Web) (ts : List Nat) (i : Nat) : Goal := ((sideG (prAt w i) (ts.getD i 0)).or (sideG (prAt w i) (1 - ts.getD i 0))).getD ⟨true, 0⟩
def nextT (ts : List Nat) (i : Nat) : List Nat := ts.set i (1 - ts.getD i 0)
/-- from the goal g on: the splitters, the out, the turns behind -/
inductive Way (w : Web) : List Nat → Goal → List Nat → Nat → List Nat → Prop
  | out {ts : List Nat} {g : Goal} : g.out = true → Way w ts g [] g.num ts
  | step {ts ts' : List Nat} {g : Goal} {f : List Nat} {o : Nat} : g.out = false → Way w (nextT ts g.num) (nextG w ts g.num) f o ts' → Way w ts g (g.num :: f) o ts'
theorem Way.uniq {w : Web} {ts ts1 ts2 : List Nat} {g : Goal} {f1 f2 : List Nat} {o1 o2 : Nat} (a : Way w ts g f1 o1 ts1) : Way w ts g f2 o2 ts2 → f1 = f2 ∧ o1 = o2 ∧ ts1 = ts2 := by
  induction a generalizing f2 o2 ts2 with
  | out h => intro b; cases b with
    | out _ => exact ⟨rfl, rfl, rfl⟩
    | step h2 _ => rw [h] at h2; cases h2
  | step h _ ih => intro b; cases b with
    | out h2 => rw [h] at h2; cases h2
    | step _ b =>
      obtain ⟨e1, e2, e3⟩ := ih b
      exact ⟨by rw [e1], e2, e3⟩
structure TurnsOk (w : Web) (ts : List Nat) : Prop where
  len : ts.length = w.prs.length
  bit : ∀ t ∈ ts, t ≤ 1
theorem TurnsOk.get {w : Web} {ts : List Nat} (h : TurnsOk w ts) (i : Nat) : ts.getD i 0 ≤ 1 := by
  rw [List.getD_eq_getElem?_getD]
  cases q : ts[i]? with
  | none => simp
  | some t => exact h.bit t (List.mem_of_getElem? q)
theorem TurnsOk.next {w : Web} {ts : List Nat} (h : TurnsOk w ts) (i : Nat) : TurnsOk w (nextT ts i) := ⟨by simp [nextT, h.len], fun t ht => by
  rcases List.mem_or_eq_of_mem_set ht with q | q
  · exact h.bit t q
  · omega⟩
/-! the order in which splitters are found to lead out -/
def LdOrd (w : Web) (fk : List Nat) : Prop := ∀ i ∈ fk, ∃ s, s ≤ 1 ∧ ∃ g, sideG (prAt w i) s = some g ∧ (g.out = true ∨ (g.num ∈ fk ∧ fk.idxOf g.num < fk.idxOf i))
theorem idx_app {fk : List Nat} {n i : Nat} (h : i ∈ fk) : (fk ++ [n]).idxOf i = fk.idxOf i := by
  rw [List.idxOf_append, if_pos h]
theorem idx_new {fk : List Nat} {n : Nat} (h : n ∉ fk) : (fk ++ [n]).idxOf n = fk.length := by
  rw [List.idxOf_append, if_neg h]; simp
theorem LdOrd.s {w : Web} {fk : List Nat} (h : LdOrd w fk) (n : Nat) (s : Nat) (hs : s ≤ 1) : LdOrd w (ldS n fk (sideG (prAt w n) s)) := by
  unfold ldS
  split
  · rename_i hg
    unfold insN
    split
    · exact h
    · rename_i hn
      intro i hi
      rcases List.mem_append.mp hi with hi | hi
      · obtain ⟨s', h1, g, h2, h3⟩ := h i hi
        refine ⟨s', h1, g, h2, h3.imp id fun ⟨a, b⟩ => ⟨List.mem_append_left _ a, ?_⟩⟩
        rw [idx_app a, idx_app hi]; exact b
      · rw [List.mem_singleton] at hi
        subst hi
        cases q : sideG (prAt w i) s with
        | none => rw [q] at hg; cases hg
        | some g =>
          rw [q] at hg
          simp only [ldG, Bool.or_eq_true, decide_eq_true_eq] at hg
          refine ⟨s, hs, g, q, hg.imp id fun a => ⟨List.mem_append_left _ a, ?_⟩⟩
          rw [idx_app a, idx_new hn]
          exact List.idxOf_lt_length_of_mem a
  · exact h
theorem LdOrd.r {w : Web} {fk : List Nat} (h : LdOrd w fk) : ∀ i, LdOrd w (ldR w.prs fk i)
  | 0 => h
  | i + 1 => (((h.r i).s i 0 (by omega)).s i 1 (by omega))
theorem LdOrd.n (w : Web) : ∀ t, LdOrd w (ldN w t)
  | 0 => fun i h => by simp [ldN] at h
  | t + 1 => (LdOrd.n w t).r _
/-! the potential -/
def cw (n k : Nat) : Nat := 3 ^ (n - k)
def ww (n : Nat) : Nat → Nat
  | 0 => 0
  | k + 1 => ww n k + cw n (k + 1) + 1
theorem ww_mono (n : Nat) : ∀ {j k : Nat}, j ≤ k → ww n j ≤ ww n k := by
  intro j k h
  induction h with
  | refl => exact Nat.le_refl _
  | step _ ih => exact Nat.le_trans ih (by show ww n _ ≤ ww n _ + cw n _ + 1; omega)
theorem ww_good (n : Nat) {j k : Nat} (h : j < k) : ww n j + cw n k < ww n k := by
  obtain ⟨k, rfl⟩ : ∃ m, k = m + 1 := ⟨k - 1, by omega⟩
  have := ww_mono n (show j ≤ k by omega)
  show _ < ww n k + cw n (k + 1) + 1
  omega
theorem ww_top (n : Nat) : ∀ d k, k + d = n → ww n n + d + 1 ≤ ww n k + cw n k + d * 0 + (d + 0) ∨ ww n n < ww n k + cw n k := by
  intro d
  induction d with
  | zero =>
    intro k h
    have : k = n := by omega
    subst this
    right
    simp [cw]
  | succ d ih =>
    intro k h
    right
    have h3 : cw n k = 3 * cw n (k + 1) := by
      unfold cw
      rw [show n - k = (n - (k + 1)) + 1 by omega, Nat.pow_succ]; omega
    have hw : ww n (k + 1) = ww n k + cw n (k + 1) + 1 := rfl
    have hp : 1 ≤ cw n (k + 1) := Nat.one_le_pow _ _ (by omega)
    rcases ih (k + 1) (by omega) with q | q <;> omega
theorem ww_bad (n : Nat) {k : Nat} (h : k ≤ n) : ww n n < ww n k + cw n k := by
  have hp : 1 ≤ cw n k := Nat.one_le_pow _ _ (by omega)
  rcases ww_top n (n - k) k (by omega) with q | q <;> omega
def posI (w : Web) (i : Nat) : Nat := (ldAll w).idxOf i + 1
def posG (w : Web) (g : Goal) : Nat := if g.out = true then 0 else posI w g.num
def leadsB (w : Web) (i : Nat) (o : OG) : Bool := match o with
  | none => false
  | some g => decide (posG w g < posI w i)
def goodS (w : Web) (i : Nat) : Nat := if leadsB w i (prAt w i).1 = true then 0 else 1
theorem IsWeb.full {w : Web} (h : IsWeb w) {i : Nat} (hi : i < w.prs.length) : i ∈ ldAll w := by
  have := h.ok
  simp only [webB, Bool.and_eq_true, decide_eq_true_eq] at this
  have q := this.2.2
  exact ldAll_full.mp (by simp [fd] at q; omega) i hi
theorem posI_le {w : Web} (h : IsWeb w) {i : Nat} (hi : i < w.prs.length) : 1 ≤ posI w i ∧ posI w i ≤ w.prs.length := by
  have h1 := List.idxOf_lt_length_of_mem (h.full hi)
  have h2 := (LdOk.n w (w.prs.length + 1)).len
  have h3 : (ldAll w).length ≤ w.prs.length := h2
  unfold posI
  omega
theorem goodS_le (w : Web) (i : Nat) : goodS w i ≤ 1 := by unfold goodS; split <;> omega
theorem good_ok {w : Web} (h : IsWeb w) {i : Nat} (hi : i < w.prs.length) : ∃ g, sideG (prAt w i) (goodS w i) = some g ∧ posG w g < posI w i := by
  have hm := h.full hi
  obtain ⟨s, hs, g, hg, hc⟩ := LdOrd.n w (w.prs.length + 1) i hm
  have hlt : posG w g < posI w i := by
    unfold posG
    rcases hc with ho | ⟨_, hc⟩
    · rw [if_pos ho]; exact Nat.succ_pos _
    · split
      · exact Nat.succ_pos _
      · exact Nat.succ_lt_succ hc
  by_cases hl : leadsB w i (prAt w i).1 = true
  · have e : goodS w i = 0 := by simp [goodS, hl]
    rw [e]
    cases q : (prAt w i).1 with
    | none => rw [q] at hl; cases hl
    | some g' =>
      rw [q] at hl
      exact ⟨g', by simp [sideG, q], by simpa [leadsB] using hl⟩
  · have e : goodS w i = 1 := by simp [goodS, hl]
    rw [e]
    have : s = 1 := by
      by_cases e0 : s = 0
      · subst e0
        simp only [sideG, if_true] at hg
        rw [hg] at hl
        exact absurd (by simpa [leadsB] using hlt) hl
      · omega
    subst this
    exact ⟨g, hg, hlt⟩
theorem sum_upd {f g : Nat → Nat} {i : Nat} (h : ∀ j, j ≠ i → f j = g j) : ∀ {n : Nat}, i < n → ((List.range n).map f).sum + g i = ((List.range n).map g).sum + f i
  | n + 1, hi => by
    rw [List.range_succ, List.map_append, List.map_append, List.sum_append, List.sum_append]
    simp only [List.map_cons, List.map_nil, List.sum_cons, List.sum_nil, Nat.add_zero]
    by_cases e : i = n
    · subst e
      have : (List.range i).map f = (List.range i).map g := List.map_congr_left fun j hj => h j (by have := List.mem_range.mp hj; omega)
      rw [this]; omega
    · have ih := sum_upd h (show i < n by omega)
      have := h n (fun z => e z.symm)
      omega
def badC (w : Web) (ts : List Nat) (i : Nat) : Nat := if ts.getD i 0 = goodS w i then 0 else cw w.prs.length (posI w i)
def phi (w : Web) (ts : List Nat) (g : Goal) : Nat := ww w.prs.length (posG w g) + ((List.range w.prs.length).map (badC w ts)).sum
theorem nextT_get {ts : List Nat} {i : Nat} (hi : i < ts.length) (j : Nat) : (nextT ts i).getD j 0 = if j = i then 1 - ts.getD i 0 else ts.getD j 0 := by
  unfold nextT
  rw [List.getD_eq_getElem?_getD, List.getElem?_set]
  by_cases e : i = j
  · subst e; simp [hi]
  · have e' : ¬ j = i := fun z => e z.symm
    simp [e, e', List.getD_eq_getElem?_getD]
theorem nextG_mem {w : Web} {ts : List Nat} {i : Nat} (hi : i < w.prs.length) (ht : ts.getD i 0 ≤ 1) (h : IsWeb w) : nextG w ts i ∈ there (prAt w i) := by
  have hne := h.parts.some _ (prAt_mem hi)
  unfold nextG
  have : ts.getD i 0 = 0 ∨ ts.getD i 0 = 1 := by omega
  generalize prAt w i = p at *
  obtain ⟨a, b⟩ := p
  rcases this with e | e <;> rw [e] <;> cases a <;> cases b <;> first | exact absurd rfl hne | simp [sideG, there]
theorem posG_le {w : Web} (h : IsWeb w) {g : Goal} (hg : bndG w.prs.length g) : posG w g ≤ w.prs.length := by
  unfold posG
  split
  · omega
  · rename_i ho
    simp [bndG, ho] at hg
    exact (posI_le h hg).2
theorem phi_down {w : Web} (h : IsWeb w) {ts : List Nat} (t : TurnsOk w ts) {g : Goal} (ho : g.out = false) (hg : g.num < w.prs.length) : phi w (nextT ts g.num) (nextG w ts g.num) < phi w ts g := by
  have hi := hg
  have hp := posI_le h hi
  have eg : posG w g = posI w g.num := by simp [posG, ho]
  have hlt : g.num < ts.length := by rw [t.len]; exact hi
  have hb := t.get g.num
  have hgd := goodS_le w g.num
  have su := sum_upd (f := badC w (nextT ts g.num)) (g := badC w ts) (i := g.num) (fun j hj => by simp only [badC, nextT_get hlt, if_neg hj]) hi
  have e1 : badC w (nextT ts g.num) g.num = if 1 - ts.getD g.num 0 = goodS w g.num then 0 else cw w.prs.length (posI w g.num) := by
    simp only [badC, nextT_get hlt, if_true]
  unfold phi
  rw [eg]
  by_cases hc : ts.getD g.num 0 = goodS w g.num
  · obtain ⟨g', h1, h2⟩ := good_ok h hi
    have en : nextG w ts g.num = g' := by simp only [nextG, hc, h1, Option.some_or, Option.getD_some]
    have e2 : badC w ts g.num = 0 := by simp only [badC, if_pos hc]
    rw [if_neg (by omega)] at e1
    have := ww_good w.prs.length h2
    rw [en]
    omega
  · have e2 : badC w ts g.num = cw w.prs.length (posI w g.num) := by simp only [badC, if_neg hc]
    rw [if_pos (by omega)] at e1
    have hm := nextG_mem hi hb h
    have hbn := posG_le h (h.parts.gp _ (prAt_mem hi) _ hm)
    have h1 := ww_mono w.prs.length hbn
    have h2 := ww_bad w.prs.length hp.2
    omega
theorem way_ex {w : Web} (h : IsWeb w) : ∀ (m : Nat) (ts : List Nat) (g : Goal), phi w ts g ≤ m → TurnsOk w ts → g ∈ goalsOf w → ∃ f o ts', Way w ts g f o ts' ∧ f.length ≤ m ∧ TurnsOk w ts' ∧ (⟨true, o⟩ : Goal) ∈ goalsOf w ∧ ∀ i ∈ f, i < w.prs.length := by
  intro m
  induction m with
  | zero =>
    intro ts g hm t hg
    cases ho : g.out with
    | true => exact ⟨[], g.num, ts, .out ho, Nat.le_refl _, t, by obtain ⟨a, b⟩ := g; simp only at ho; subst ho; exact hg, by simp⟩
    | false =>
      have hb : bndG w.prs.length g := by
        rcases List.mem_append.mp hg with q | q
        · exact h.parts.gi g q
        · obtain ⟨l, hl, hgl⟩ := List.mem_flatten.mp q
          obtain ⟨p, hp, rfl⟩ := List.mem_map.mp hl
          exact h.parts.gp p hp g hgl
      have := phi_down h t ho (by simpa [bndG, ho] using hb)
      omega
  | succ m ih =>
    intro ts g hm t hg
    cases ho : g.out with
    | true => exact ⟨[], g.num, ts, .out ho, Nat.zero_le _, t, by obtain ⟨a, b⟩ := g; simp only at ho; subst ho; exact hg, by simp⟩
    | false =>
      have hb : bndG w.prs.length g := by
        rcases List.mem_append.mp hg with q | q
        · exact h.parts.gi g q
        · obtain ⟨l, hl, hgl⟩ := List.mem_flatten.mp q
          obtain ⟨p, hp, rfl⟩ := List.mem_map.mp hl
          exact h.parts.gp p hp g hgl
      have hn : g.num < w.prs.length := by simpa [bndG, ho] using hb
      have := phi_down h t ho hn
      obtain ⟨f, o, ts', h1, h2, h3, h4, h5⟩ := ih (nextT ts g.num) (nextG w ts g.num) (by omega) (t.next _) (goal_mem_prs (prAt_mem hn) (nextG_mem hn (t.get _) h))
      exact ⟨g.num :: f, o, ts', .step ho h1, by simp; omega, h3, h4, fun i hi => by
        rcases List.mem_cons.mp hi with e | hi
        · rw [e]; exact hn
        · exact h5 i hi⟩
theorem cw_le {n k : Nat} (hn : n ≤ 12) (hk : 1 ≤ k) : cw n k ≤ 177147 := by
  unfold cw
  exact Nat.le_trans (Nat.pow_le_pow_right (by omega) (show n - k ≤ 11 by omega)) (by decide)
theorem ww_le {n : Nat} (hn : n ≤ 12) : ∀ k, ww n k ≤ 177148 * k
  | 0 => by simp [ww]
  | k + 1 => by
    have := ww_le hn k
    have := cw_le hn (show 1 ≤ k + 1 by omega)
    show ww n k + cw n (k + 1) + 1 ≤ _
    omega
theorem sum_le {f : Nat → Nat} {c : Nat} : ∀ {l : List Nat}, (∀ i ∈ l, f i ≤ c) → (l.map f).sum ≤ c * l.length
  | [], _ => by simp
  | x :: l, h => by
    have h1 := h x List.mem_cons_self
    have h2 := sum_le (l := l) fun i hi => h i (List.mem_cons_of_mem _ hi)
    simp only [List.map_cons, List.sum_cons, List.length_cons, Nat.mul_add]
    omega
theorem phi_le {w : Web} (h : IsWeb w) {ts : List Nat} {g : Goal} (hg : bndG w.prs.length g) : phi w ts g ≤ 5000000 := by
  have hn := h.parts.prs
  have h1 := ww_le hn (posG w g)
  have h2 := posG_le h hg
  have h3 := sum_le (f := badC w ts) (c := 177147) (l := List.range w.prs.length) fun i hi => by
    have hi' := List.mem_range.mp hi
    unfold badC
    split
    · omega
    · exact cw_le hn (posI_le h hi').1
  rw [List.length_range] at h3
  unfold phi
  omega
theorem bnd_of {w : Web} (h : IsWeb w) {g : Goal} (hg : g ∈ goalsOf w) : bndG w.prs.length g := by
  rcases List.mem_append.mp hg with q | q
  · exact h.parts.gi g q
  · obtain ⟨l, hl, hgl⟩ := List.mem_flatten.mp q
    obtain ⟨p, hp, rfl⟩ := List.mem_map.mp hl
    exact h.parts.gp p hp g hgl
/-- from each goal of a web, whatever the turns, there is a way to an out -/
theorem way_all {w : Web} (h : IsWeb w) {ts : List Nat} (t : TurnsOk w ts) {g : Goal} (hg : g ∈ goalsOf w) : ∃ f o ts', Way w ts g f o ts' ∧ f.length ≤ 5000000 ∧ TurnsOk w ts' ∧ (⟨true, o⟩ : Goal) ∈ goalsOf w ∧ ∀ i ∈ f, i < w.prs.length :=
  way_ex h 5000000 ts g (phi_le h (bnd_of h hg)) t hg

/-! ### things on their ways -/
def natD (i : Nat) : PD := .int (i : Nat)
theorem spl_eq2 (g : Goal) : decide ((if g.out then Str.ofString "out" else Str.ofString "split") = Str.ofString "split") = !g.out := by
  cases h : g.out <;> simp <;> decide
theorem side_at (p : OG × OG) {t : Nat} (h : t ≤ 1) : atI [ogD p.1, ogD p.2] (t : Nat) = some (ogD (sideG p t)) := by
  have : t = 0 ∨ t = 1 := by omega
  rcases this with rfl | rfl <;> rfl
theorem next_D {w : Web} (h : IsWeb w) {ts : List Nat} {i : Nat} (hi : i < w.prs.length) (ht : ts.getD i 0 ≤ 1) :
    (if (!isNo (ogD (sideG (prAt w i) (ts.getD i 0)))) = true then ogD (sideG (prAt w i) (ts.getD i 0)) else ogD (sideG (prAt w i) (1 - ts.getD i 0))) = goalD (nextG w ts i) := by
  have hne := h.parts.some _ (prAt_mem hi)
  unfold nextG
  have : ts.getD i 0 = 0 ∨ ts.getD i 0 = 1 := by omega
  generalize prAt w i = p at *
  obtain ⟨a, b⟩ := p
  rcases this with e | e <;> rw [e] <;> cases a <;> cases b <;> first | exact absurd rfl hne | rfl
def R_way_of : List PD → PD → Prop := fun ds r => ∃ (w : Web) (ts : List Nat) (k : Nat) (g : Goal) (f : List Nat) (o : Nat) (ts' : List Nat), IsWeb w ∧ TurnsOk w ts ∧ w.ins[k]? = some g ∧ Way w ts g f o ts' ∧ f.length ≤ 5000000 ∧ ds = [webD w, .tuple (ts.map natD), natD k] ∧ r = .tuple [.list (f.map natD), natD o, .tuple (ts'.map natD)]
theorem len_way_of {ds : List PD} {r : PD} : R_way_of ds r → ds.length = 3 := by rintro ⟨_, _, _, _, _, _, _, _, _, _, _, _, rfl, _⟩; rfl
theorem Way.inr {w : Web} (h : IsWeb w) {ts ts' : List Nat} {g : Goal} {f : List Nat} {o : Nat} (a : Way w ts g f o ts') (t : TurnsOk w ts) (hg : g ∈ goalsOf w) : TurnsOk w ts' ∧ (⟨true, o⟩ : Goal) ∈ goalsOf w := by
  obtain ⟨f2, o2, ts2, h1, h2, h3, h4, _⟩ := way_all h t hg
  obtain ⟨_, rfl, rfl⟩ := a.uniq h1
  exact ⟨h3, h4⟩
theorem sc_way_of : FnScope ["web", "turns", "number", "goal", "found", "own", "pair"] ["web", "turns", "number"] (defScope (topS 29)) := ⟨rfl, rfl, rfl, by decide +kernel, rfl, by decide +kernel, by decide +kernel⟩
theorem bi_way_of {K : Fr} {mg : Str → Option Value} (G : Tx K mg) : Binds K G.fd_way_of ["web", "turns", "number"] [] := G.fn_way_of.bindsN fun _ _ _ _ _ _ us hl => match us, hl with | [_, _, _], _ => rfl
theorem ok_way_of {P : Program} {w : World} {K : Fr} {mg : Str → Option Value} {base : Heap} {T : Tb} (G : Tx K mg) : FnOk P w K mg base CX0 1 (He.ga K "way_of") G.fd_way_of ["web", "turns", "number"] (spF T R_way_of) := by
  have nd := sc_way_of.nd
  refine fn_ok G.fn_way_of sc_way_of (fun ds d h => by have h' := len_way_of h; rw [h']; decide) fun ds d h cd A outer s H E hr => ?_
  obtain ⟨w, ts, k, g, f, o, ts', hw, ht, hk, hway, hf, rfl, rfl⟩ := h
  dsimp only [enter]
  have hg0 : g ∈ goalsOf w := goal_mem_ins (List.mem_of_getElem? hk)
  have hat0 : atI (w.ins.map goalD) (k : Nat) = some (goalD g) := atI_nat (by rw [List.getElem?_map, hk]; rfl)
  refine dss_then (ds_parV3 1 3 4 (dva_cons (dv_n (dn_listT G.b_list (de_nm 1))) (dva_cons (dv_e (de_ix (de_ix (de_nm 0) de_int (ix_t rfl)) (de_nm 2) (ix_t hat0))) (dva_cons (dv_n (dn_lst da_nil)) dva_nil))) rfl rfl nd (by decide) (by decide) (by decide) (by walk_at "lt") (by walk_at "lt") (by walk_at "lt")) ?_
  dsimp only [List.set]
  refine dss_cons (fun S' => ∃ g1, (⟨true, o⟩ : Goal) = g1 ∧ S' = [dat (webD w), own (ts'.map natD), dat (natD k), dat (goalD g1), own (f.map natD), un, un]) (ds_while (fun m S' => ∃ ts1 g1 f0 f1, f = f0 ++ f1 ∧ Way w ts1 g1 f1 o ts' ∧ m = f1.length ∧ TurnsOk w ts1 ∧ g1 ∈ goalsOf w ∧ S' = [dat (webD w), own (ts1.map natD), dat (natD k), dat (goalD g1), own (f0.map natD), un, un]) f.length ⟨ts, g, [], f, rfl, hway, rfl, ht, hg0, rfl⟩ (fun m _ => decide (m ≠ 0)) ?_ PassesOwn.never) ?_
  · rintro m S' ⟨ts1, g1, f0, f1, hfe, hw1, rfl, ht1, hg1, rfl⟩
    have hout : (!g1.out) = decide (f1.length ≠ 0) := by
      cases hw1 with
      | out h => simp [h]
      | step h _ => simp [h]
    refine ⟨dt_to (dt_cmp (de_ix (de_nm 3) de_int (by walk_at "ix")) de_str (by walk_at "cb.Eq")) (by rw [spl_eq2]; exact hout), fun hc => ?_, fun hc => ?_⟩
    · have hbn := bnd_of hw hg1
      cases hw1 with
      | out h => simp at hc
      | step ho hw2 =>
        rename_i f2
        have hi : g1.num < w.prs.length := by simpa [bndG, ho] using hbn
        have hlt : g1.num < ts1.length := by rw [ht1.len]; exact hi
        have hb := ht1.get g1.num
        have hflen : f0.length + (f2.length + 1) ≤ 5000000 := by rw [hfe] at hf; simpa using hf
        have hT : atI (ts1.map natD) (g1.num : Nat) = some (natD (ts1.getD g1.num 0)) := atI_nat (by rw [List.getElem?_map, List.getD_eq_getElem?_getD, List.getElem?_eq_getElem hlt]; rfl)
        have hP : atI (w.prs.map pairD) (g1.num : Nat) = some (pairD (prAt w g1.num)) := atI_nat (by simp [prAt, hi])
        have hn := next_D hw hi hb
        have hA := side_at (prAt w g1.num) hb
        have hB : atI [ogD (prAt w g1.num).1, ogD (prAt w g1.num).2] (1 - ((ts1.getD g1.num 0 : Nat) : Int)) = some (ogD (sideG (prAt w g1.num) (1 - ts1.getD g1.num 0))) := by
          have := side_at (prAt w g1.num) (show 1 - ts1.getD g1.num 0 ≤ 1 by omega)
          rwa [show ((1 - ts1.getD g1.num 0 : Nat) : Int) = 1 - ((ts1.getD g1.num 0 : Nat) : Int) by omega] at this
        have hmem := nextG_mem hi hb hw
        have eset : (ts1.map natD).set g1.num (.int (1 - ((ts1.getD g1.num 0 : Nat) : Int))) = (nextT ts1 g1.num).map natD := by
          unfold nextT
          rw [List.map_set]
          congr 1
          simp only [natD]
          congr 1
          omega
        have hix : ixN (ts1.map natD).length (g1.num : Nat) = some g1.num := by
          simp [ixN, hlt]
        refine dss_then (ds_asg 5 (de_ix (de_nm 3) de_int (by walk_at "ix")) (by rfl) nd) ?_
        dsimp only [List.set]
        refine dss_then (ds_append 4 (de_nm 5) rfl rfl (by rw [sizeLine_eq]; simp; omega)) ?_
        dsimp only [List.set]
        refine dss_then (ds_asg 6 (de_ix (de_ix (de_nm 0) de_int (by walk_at "ix")) (de_nm 5) (ix_t hP)) rfl nd) ?_
        dsimp only [List.set]
        refine dss_then (ds_asg 3 (de_to (de_ite (k := !isNo (ogD (sideG (prAt w g1.num) (ts1.getD g1.num 0)))) (da := ogD (sideG (prAt w g1.num) (ts1.getD g1.num 0))) (db := ogD (sideG (prAt w g1.num) (1 - ts1.getD g1.num 0))) (dt_cmp (de_ix (de_nm 6) (de_ixO 1 (de_nm 5) hT) (ix_t hA)) de_none cb_isnot) (fun _ => de_ix (de_nm 6) (de_ixO 1 (de_nm 5) hT) (ix_t hA)) (fun _ => de_ix (de_nm 6) (de_bin de_int (de_ixO 1 (de_nm 5) hT) ob_sub) (ix_t hB))) hn) rfl nd) ?_
        dsimp only [List.set]
        refine dss_then (ds_setO 1 (de_nm 5) (de_bin de_int (de_ixO 1 (de_nm 5) hT) ob_sub) rfl hix rfl) ?_
        dsimp only [List.set]
        rw [eset]
        refine dss_le (S' := [dat (webD w), own ((nextT ts1 g1.num).map natD), dat (natD k), dat (goalD (nextG w ts1 g1.num)), own ((f0 ++ [g1.num]).map natD), un, un]) (LeL.le (.keep (.keep (.keep (.keep (.keepE (by rw [List.map_append]; rfl) (by walk_at "le"))))))) (dss_nil ⟨f2.length, by simp, nextT ts1 g1.num, nextG w ts1 g1.num, f0 ++ [g1.num], f2, by rw [hfe]; simp, hw2, rfl, ht1.next _, goal_mem_prs (prAt_mem hi) hmem, rfl⟩)
    · cases hw1 with
      | step h _ => simp at hc
      | out h =>
        refine ⟨g1, by obtain ⟨a, b⟩ := g1; simp only at h; rw [h], ?_⟩
        rw [hfe, List.append_nil]
  · rintro _ ⟨g1, rfl, rfl⟩
    refine dss_le (S' := [dat (webD w), dat (.list (ts'.map natD)), dat (natD k), dat (goalD ⟨true, o⟩), dat (.list (f.map natD)), un, un]) (LeL.le (by walk_at "le")) ?_
    exact dss_one (ds_ret (de_to (de_tup (da_cons (de_nm 4) (da_cons (de_ix (de_nm 3) de_int (by walk_at "ix")) (da_cons (de_tupleL G.b_tuple (de_nm 1)) da_nil)))) rfl) rfl)
/-! ### need_turns, need_input -/
/-- turns that are none: no tuple, or one of another length -/
def badT (w : Web) (d : PD) : Prop := ∀ xs, d = .tuple xs → xs.length ≠ w.prs.length
def R_need_turns (K : Fr) : List PD → Rs → Prop := fun ds r => ∃ (w : Web) (d : PD), ds = [webD w, d] ∧ ((∃ ts, d = .tuple (ts.map natD) ∧ TurnsOk w ts ∧ w.prs.length ≤ 100 ∧ r = .ok .none) ∨ (badT w d ∧ r = .no (.ref (He.ga K "BadTurns"))))
theorem rel_need_turns_bad {K : Fr} {w : Web} {d : PD} (h : badT w d) : R_need_turns K [webD w, d] (.no (.ref (He.ga K "BadTurns"))) := ⟨w, d, rfl, .inr ⟨h, rfl⟩⟩
theorem rel_need_turns {K : Fr} {w : Web} {ts : List Nat} (h : TurnsOk w ts) (hp : w.prs.length ≤ 100) : R_need_turns K [webD w, .tuple (ts.map natD)] (.ok .none) := ⟨w, _, rfl, .inl ⟨ts, rfl, h, hp, rfl⟩⟩
theorem len_need_turns {K : Fr} {ds : List PD} {r : Rs} : R_need_turns K ds r → ds.length = 2 := by rintro ⟨_, _, rfl, _⟩; rfl
theorem sc_need_turns : FnScope ["web", "turns", "one"] ["web", "turns"] (defScope (topS 27)) := ⟨rfl, rfl, rfl, by decide +kernel, rfl, by decide +kernel, by decide +kernel⟩
theorem bi_need_turns {K : Fr} {mg : Str → Option Value} (G : Tx K mg) : Binds K G.fd_need_turns ["web", "turns"] [] := G.fn_need_turns.bindsN fun _ _ _ _ _ _ us hl => match us, hl with | [_, _], _ => rfl
theorem ok_need_turns {P : Program} {w : World} {K : Fr} {mg : Str → Option Value} {base : Heap} {T : Tb} (G : Tx K mg) : FnOk P w K mg base (L2N.CX P w) 2 (He.ga K "need_turns") G.fd_need_turns ["web", "turns"] (spX T (R_need_turns K)) := by
  have nd := sc_need_turns.nd
  refine fn_okX G.fn_need_turns sc_need_turns (fun ds d h => by have h' := len_need_turns h; rw [h']; decide) fun ds d h cd A outer s H E hr => ?_
  have tk := L2N.takes_of (X := bodyXX P w K mg base ["web", "turns", "one"] "need_turns" (defScope (topS 27)) (He.ga K "need_turns") cd A outer s H E) rfl rfl rfl rfl
  obtain ⟨v, x, rfl, hd⟩ := h
  dsimp only [enter]
  rcases hd with ⟨ts, rfl, ht, hp, rfl⟩ | ⟨hb, rfl⟩
  · have hl := ht.len
    have hlt : ts.length ≤ 100 := by omega
    refine dss_one (ds_if (k := false) (dt_to (dt_w (dw_or (dt_not (dt_val (de_isi (G.b_isinstance) G.b_tuple (de_nm 1) boot_tuple (by decide)))) (fun _ => dw_or (dt_cmp (de_len (G.b_len) (de_nm 1) (by walk_at "len")) (de_len (G.b_len) (de_ix (de_nm 0) de_int (by walk_at "ix")) (by walk_at "len")) (by walk_at "cb.NotEq")) (fun _ => dw_or1 (dt_not (dt_val (de_allC G.b_all rfl (de_dn (dn_lc0 (xs := (ts)) (emb := (natD)) (g := (fun t => .bool (isCount (natD t) 0 1))) (own' := [("one", 2)]) rfl nd (dic_to (dic_of (by first | exact di_tup (de_nm 1) | exact di_list (de_nm 1))) (by walk_at "emb")) (by walk_at "blk") (by walk_at "free") (by decide) (by walk_at "sz") (fun z hz _ _ _ _ _ => (dg_nm 2 nd (by walk_at "free1"))) (fun z hz _ _ _ _ _ => (de_to (de_call (ok_is_count G) (hr.mono (by decide)) G.g_is_count G.fn_is_count.kp (bi_is_count G) (da_cons (de_nm 2) (da_cons de_int (da_cons de_int da_nil))) (by first | exact rel_is_count | exact rel_is_count (by assumption) | exact rel_is_count (by walk_at "rel") | assumption)) (by walk_at "elt")))))))))))) ?_) (fun h => by cases h) (fun _ => dss_nil rfl))
    have ha : ts.all (fun t => isCount (natD t) 0 1) = true := by
      rw [List.all_eq_true]
      intro t htm
      have := ht.bit t htm
      simp [natD, isCount]; omega
    simp [isiD, tyD, hl, ha]
  · refine dss_one (ds_if (k := true) (dt_to (x := true) ?_ rfl) (fun _ => dss_one (ds_raise rfl tk G.x_BadTurns rfl)) (fun h => by cases h))
    by_cases q : ∃ xs, x = .tuple xs
    · obtain ⟨xs, rfl⟩ := q
      have hn := hb xs rfl
      exact dt_w (dw_or (k := false) (k' := true) (dt_to (dt_not (dt_val (de_isi (G.b_isinstance) G.b_tuple (de_nm 1) boot_tuple (by decide)))) rfl) (fun _ => dw_or (k := true) (k' := true) (dt_to (dt_cmp (de_len (G.b_len) (de_nm 1) (by walk_at "len")) (de_len (G.b_len) (de_ix (de_nm 0) de_int (by walk_at "ix")) (by walk_at "len")) (by walk_at "cb.NotEq")) (by simp; omega)) (fun hk => by cases hk)))
    · have hn : (!isiD x "tuple") = true := by
        cases x with
        | tuple xs => exact absurd ⟨xs, rfl⟩ q
        | _ => rfl
      exact dt_w (dw_or (k := true) (k' := true) (dt_to (dt_not (dt_val (de_isi (G.b_isinstance) G.b_tuple (de_nm 1) boot_tuple (by decide)))) hn) (fun hk => by cases hk))
def R_need_input (K : Fr) : List PD → Rs → Prop := fun ds r => ∃ (w : Web) (d : PD), ds = [webD w, d] ∧ ((isCount d 0 ((w.ins.length : Nat) - 1 : Int) = true ∧ r = .ok .none) ∨ (isCount d 0 ((w.ins.length : Nat) - 1 : Int) = false ∧ r = .no (.ref (He.ga K "BadNumber"))))
theorem rel_need_input {K : Fr} {w : Web} {k : Nat} (h : k < w.ins.length) : R_need_input K [webD w, natD k] (.ok .none) := ⟨w, _, rfl, .inl ⟨by simp [natD, isCount]; omega, rfl⟩⟩
theorem rel_need_input_bad {K : Fr} {w : Web} {d : PD} (h : isCount d 0 ((w.ins.length : Nat) - 1 : Int) = false) : R_need_input K [webD w, d] (.no (.ref (He.ga K "BadNumber"))) := ⟨w, _, rfl, .inr ⟨h, rfl⟩⟩
theorem len_need_input {K : Fr} {ds : List PD} {r : Rs} : R_need_input K ds r → ds.length = 2 := by rintro ⟨_, _, rfl, _⟩; rfl
theorem sc_need_input : FnScope ["web", "number"] ["web", "number"] (defScope (topS 28)) := ⟨rfl, rfl, rfl, by decide +kernel, rfl, by decide +kernel, by decide +kernel⟩
theorem bi_need_input {K : Fr} {mg : Str → Option Value} (G : Tx K mg) : Binds K G.fd_need_input ["web", "number"] [] := G.fn_need_input.bindsN fun _ _ _ _ _ _ us hl => match us, hl with | [_, _], _ => rfl
theorem ok_need_input {P : Program} {w : World} {K : Fr} {mg : Str → Option Value} {base : Heap} {T : Tb} (G : Tx K mg) : FnOk P w K mg base (L2N.CX P w) 2 (He.ga K "need_input") G.fd_need_input ["web", "number"] (spX T (R_need_input K)) := by
  have nd := sc_need_input.nd
  refine fn_okX G.fn_need_input sc_need_input (fun ds d h => by have h' := len_need_input h; rw [h']; decide) fun ds d h cd A outer s H E hr => ?_
  have tk := L2N.takes_of (X := bodyXX P w K mg base ["web", "number"] "need_input" (defScope (topS 28)) (He.ga K "need_input") cd A outer s H E) rfl rfl rfl rfl
  obtain ⟨w, x, rfl, hd⟩ := h
  dsimp only [enter]
  rcases hd with ⟨hc, rfl⟩ | ⟨hc, rfl⟩
  · exact dss_one (ds_if (k := false) (dt_to (dt_not (dt_val (de_call (ok_is_count G) (hr.mono (by decide)) G.g_is_count G.fn_is_count.kp (bi_is_count G) (da_cons (de_nm 1) (da_cons de_int (da_cons (de_bin (de_len (G.b_len) (de_ix (de_nm 0) de_int (by walk_at "ix")) (by walk_at "len")) de_int (by walk_at "ob.Sub")) da_nil))) (by first | exact rel_is_count | exact rel_is_count (by assumption) | exact rel_is_count (by walk_at "rel") | assumption)))) (by simpa using hc)) (fun h => by cases h) (fun _ => dss_nil rfl))
  · exact dss_one (ds_if (k := true) (dt_to (dt_not (dt_val (de_call (ok_is_count G) (hr.mono (by decide)) G.g_is_count G.fn_is_count.kp (bi_is_count G) (da_cons (de_nm 1) (da_cons de_int (da_cons (de_bin (de_len (G.b_len) (de_ix (de_nm 0) de_int (by walk_at "ix")) (by walk_at "len")) de_int (by walk_at "ob.Sub")) da_nil))) (by first | exact rel_is_count | exact rel_is_count (by assumption) | exact rel_is_count (by walk_at "rel") | assumption)))) (by simpa using hc)) (fun _ => dss_one (ds_raise rfl tk G.x_BadNumber rfl)) (fun h => by cases h))
theorem nat_dec (a b : Nat) : decide ((a : Int) = (b : Int)) = decide (a = b) := by
  rw [decide_eq_decide]; omega

/-! ### webs told otherwise; sides exchanged -/
/-! ### what a web is, told otherwise -/
inductive Reach (w : Web) : Nat → Prop
  | out {i : Nat} {g : Goal} : g ∈ there (prAt w i) → g.out = true → Reach w i
  | step {i : Nat} {g : Goal} : g ∈ there (prAt w i) → g.out = false → Reach w g.num → Reach w i
def outN (w : Web) : List Nat := ((goalsOf w).filter fun g => g.out).map fun g => g.num
structure WebC (w : Web) : Prop where
  parts : Parts w
  out1 : 1 ≤ nOuts w
  outs : (outN w).Perm (List.range (nOuts w))
  cnts : ∀ i, i < w.prs.length → cnt w i = 1 ∨ cnt w i = 2
  reach : ∀ i, i < w.prs.length → Reach w i
theorem reach_lt {w : Web} {i : Nat} (h : Reach w i) : i < w.prs.length := by
  have k : ∀ g, g ∈ there (prAt w i) → i < w.prs.length := fun g hg => by
    by_cases q : i < w.prs.length
    · exact q
    · have e : prAt w i = (none, none) := by simp [prAt, List.getD_eq_getElem?_getD, List.getElem?_eq_none (Nat.le_of_not_lt q)]
      rw [e] at hg
      simp [there] at hg
  cases h with
  | out h _ => exact k _ h
  | step h _ _ => exact k _ h
theorem nOuts_eq (w : Web) : (outN w).length = nOuts w := by simp [outN, nOuts]
theorem WebC.bnd {w : Web} (h : WebC w) {g : Goal} (hg : g ∈ goalsOf w) : bndG w.prs.length g := by
  rcases List.mem_append.mp hg with q | q
  · exact h.parts.gi g q
  · obtain ⟨l, hl, hg⟩ := List.mem_flatten.mp q
    obtain ⟨p, hp, rfl⟩ := List.mem_map.mp hl
    exact h.parts.gp p hp g hg
theorem WebC.out_lt {w : Web} (h : WebC w) {g : Goal} (hg : g ∈ goalsOf w) (ho : g.out = true) : g.num < nOuts w := by
  have m : g.num ∈ outN w := List.mem_map.mpr ⟨g, List.mem_filter.mpr ⟨hg, ho⟩, rfl⟩
  exact List.mem_range.mp (h.outs.subset m)
theorem WebC.nOuts_le {w : Web} (h : WebC w) : nOuts w ≤ 8 := by
  have m : nOuts w - 1 ∈ outN w := h.outs.symm.subset (List.mem_range.mpr (by have := h.out1; omega))
  obtain ⟨g, hg, e⟩ := List.mem_map.mp m
  obtain ⟨hg, ho⟩ := List.mem_filter.mp hg
  have := h.bnd hg
  simp only [bndG, ho, if_true] at this
  omega
theorem cnt_count (w : Web) (i : Nat) : cnt w i = (goalsOf w).count ⟨false, i⟩ := by
  unfold cnt
  rw [List.count, List.countP_eq_length_filter]
  congr 1
/-- of the same goals in another turn -/
theorem perm_facts {w v : Web} (h : (goalsOf w).Perm (goalsOf v)) : nOuts w = nOuts v ∧ (outN w).Perm (outN v) ∧ ∀ i, cnt w i = cnt v i := by
  refine ⟨(h.filter _).length_eq, (h.filter _).map _, fun i => ?_⟩
  rw [cnt_count, cnt_count, h.count_eq]
theorem flat_perm {α β : Type} {f g : α → List β} : ∀ {l : List α}, (∀ x ∈ l, (f x).Perm (g x)) → ((l.map f).flatten).Perm ((l.map g).flatten)
  | [], _ => .refl _
  | x :: l, h => by
    simp only [List.map_cons, List.flatten_cons]
    exact (h x List.mem_cons_self).append (flat_perm fun y hy => h y (List.mem_cons_of_mem _ hy))
theorem flat_map {α β γ : Type} (f : β → γ) (g : α → List β) : ∀ l : List α, ((l.map g).flatten).map f = (l.map fun x => (g x).map f).flatten
  | [] => rfl
  | x :: l => by simp [flat_map f g l]
theorem in12_iff (c : Int) : in12 c = decide (c = 1 ∨ c = 2) := by
  have := inD_emb (f := PyData.int) noB_int int_inj c [1, 2]
  unfold in12
  refine Eq.trans this ?_
  simp
theorem outNs_eq (w : Web) : outNs w = (outN w).map fun n : Nat => (n : Int) := by simp [outNs, outN, List.map_map, Function.comp_def]
theorem outsOf_len (w : Web) : (outsOf w).length = nOuts w := by
  rw [← nOuts_eq]
  refine (List.mergeSort_perm _ _).length_eq.trans ?_
  rw [outNs_eq, List.length_map]
theorem upI_sorted (n : Nat) : (upI n).Pairwise fun a b => decide (a ≤ b) = true := by
  unfold upI
  rw [List.pairwise_map]
  exact (List.pairwise_lt_range).imp fun h => by simp; omega
theorem sorted_up {ns : List Int} {n : Nat} (h : ns.Perm (upI n)) : sortI ns = upI n := by
  refine List.Perm.eq_of_pairwise (le := fun a b => decide (a ≤ b) = true) (fun a b _ _ h1 h2 => by simp at h1 h2; omega) ?_ (upI_sorted n) ((List.mergeSort_perm _ _).trans h)
  exact List.pairwise_mergeSort (fun a b c h1 h2 => by simp at *; omega) (fun a b => by simp; omega) _
theorem IsWeb.c {w : Web} (h : IsWeb w) : WebC w := by
  have ho := h.ok
  simp only [webB, Bool.and_eq_true, Bool.not_eq_true', Bool.or_eq_false_iff, decide_eq_false_iff_not, Bool.not_eq_false', decide_eq_true_eq] at ho
  obtain ⟨⟨h1, h2⟩, h3, h4⟩ := ho
  rw [outsOf_len] at h2
  have h5 : (outNs w).Perm (upI (nOuts w)) := by
    have := (List.mergeSort_perm (outNs w) (fun a b => decide (a ≤ b))).symm
    exact this.trans (.of_eq h2)
  refine ⟨h.parts, ?_, ?_, fun i hi => ?_, ?_⟩
  · have := outsOf_len w
    cases q : outsOf w with
    | nil => exact absurd q h1
    | cons a l => rw [q] at this; simp at this; omega
  · have h6 := h5.map Int.toNat
    rw [outNs_eq] at h6
    simp only [upI, List.map_map] at h6
    have e : ∀ l : List Nat, l.map (Int.toNat ∘ fun n : Nat => (n : Int)) = l := fun l => (List.map_congr_left (g := id) fun x _ => by simp).trans (List.map_id l)
    rw [e, e] at h6
    exact h6
  · have := List.all_eq_true.mp h3 (cnt w i : Int) (List.mem_map.mpr ⟨i, List.mem_range.mpr hi, rfl⟩)
    rw [in12_iff, decide_eq_true_eq] at this
    omega
  · have k : ∀ m i, posI w i ≤ m → i < w.prs.length → Reach w i := by
      intro m
      induction m with
      | zero => intro i hm hi; have := (posI_le h hi).1; omega
      | succ m ih =>
        intro i hm hi
        obtain ⟨g, hg, hl⟩ := good_ok h hi
        have hgs : g ∈ there (prAt w i) := mem_there.mpr (by unfold sideG at hg; split at hg; exact .inl hg; exact .inr hg)
        cases q : g.out with
        | true => exact .out hgs q
        | false =>
          have b := bnd_of h (goal_mem_prs (prAt_mem hi) hgs)
          simp only [bndG, q, Bool.false_eq_true, if_false] at b
          simp only [posG, q, Bool.false_eq_true, if_false] at hl
          exact .step hgs q (ih g.num (by omega) b)
    exact fun i hi => k _ i (Nat.le_refl _) hi
theorem WebC.w {w : Web} (h : WebC w) : IsWeb w := by
  refine ⟨h.parts, ?_⟩
  have h5 : (outNs w).Perm (upI (nOuts w)) := by
    rw [outNs_eq]; exact h.outs.map _
  have h2 : outsOf w = upI (nOuts w) := sorted_up h5
  have h1 : outsOf w ≠ [] := fun e => by have := outsOf_len w; rw [e] at this; simp at this; have := h.out1; omega
  have h3 : (EV.cnts w).all in12 = true := by
    rw [List.all_eq_true]
    intro c hc
    obtain ⟨i, hi, rfl⟩ := List.mem_map.mp hc
    rw [in12_iff, decide_eq_true_eq]
    have := h.cnts i (List.mem_range.mp hi)
    omega
  have h4 : (ldAll w).length = w.prs.length := ldAll_full.mpr fun i hi => by
    have r := h.reach i hi
    clear hi
    induction r with
    | @out i g h1 h2 =>
      have hi := reach_lt (.out h1 h2)
      exact ldAll_closed w i hi (some g) ((mem_there.mp h1).imp Eq.symm Eq.symm) (by simp [ldG, h2])
    | @step i g h1 h2 h3 ih =>
      have hi := reach_lt (.step h1 h2 h3)
      exact ldAll_closed w i hi (some g) ((mem_there.mp h1).imp Eq.symm Eq.symm) (by simp [ldG, ih])
  have h6 : outsOf w = upI (outsOf w).length := by rw [outsOf_len]; exact h2
  have h7 : ((fd (ldAll w)).length : Int) = w.prs.length := by simp [fd, h4]
  simp only [webB, h1, ← h6, h3, h7, decide_true, decide_false, Bool.not_true, Bool.or_false, Bool.not_false, Bool.and_self]
instance bndG_dec (n : Nat) (g : Goal) : Decidable (bndG n g) := by unfold bndG; infer_instance
theorem web_mk {w : Web} (p : Parts w) (o1 : 1 ≤ nOuts w) (o : (outN w).Perm (List.range (nOuts w))) (c : ∀ i, i < w.prs.length → cnt w i = 1 ∨ cnt w i = 2) (l : (ldAll w).length = w.prs.length) : IsWeb w := by
  have h5 : (outNs w).Perm (upI (nOuts w)) := by
    rw [outNs_eq]; exact o.map _
  have h2 : outsOf w = upI (nOuts w) := sorted_up h5
  have h1 : outsOf w ≠ [] := fun e => by have := outsOf_len w; rw [e] at this; simp at this; omega
  have h3 : (EV.cnts w).all in12 = true := by
    rw [List.all_eq_true]
    intro x hc
    obtain ⟨i, hi, rfl⟩ := List.mem_map.mp hc
    rw [in12_iff, decide_eq_true_eq]
    have := c i (List.mem_range.mp hi)
    omega
  have h6 : outsOf w = upI (outsOf w).length := by rw [outsOf_len]; exact h2
  have h7 : ((fd (ldAll w)).length : Int) = w.prs.length := by simp [fd, l]
  refine ⟨p, ?_⟩
  simp only [webB, h1, ← h6, h3, h7, decide_true, decide_false, Bool.not_true, Bool.or_false, Bool.not_false, Bool.and_self]
def partsB (w : Web) : Bool := decide (1 ≤ w.ins.length ∧ w.ins.length ≤ 4) && (decide (w.prs.length ≤ 12) && (decide (∀ g ∈ w.ins, bndG w.prs.length g) && (decide (∀ p ∈ w.prs, p ≠ (none, none)) && decide (∀ p ∈ w.prs, ∀ g ∈ there p, bndG w.prs.length g))))
def webQ (w : Web) : Bool := partsB w && (decide (1 ≤ nOuts w) && ((outN w).isPerm (List.range (nOuts w)) && ((List.range w.prs.length).all (fun i => decide (cnt w i = 1 ∨ cnt w i = 2)) && decide ((ldAll w).length = w.prs.length))))
theorem web_q {w : Web} (h : webQ w = true) : IsWeb w := by
  simp only [webQ, partsB, Bool.and_eq_true, decide_eq_true_eq, List.all_eq_true, List.mem_range, List.isPerm_iff] at h
  obtain ⟨⟨a1, a2, a3, a4, a5⟩, b1, b2, b3, b4⟩ := h
  exact web_mk ⟨a1, a2, a3, a4, a5⟩ b1 b2 b3 b4
/-- things from the inputs ks, one behind the other -/
inductive Led (w : Web) : List Nat → List Nat → List Nat → List Nat → Prop
  | nil {ts : List Nat} : Led w ts [] [] ts
  | cons {ts ts1 ts' : List Nat} {k : Nat} {g : Goal} {f : List Nat} {o : Nat} {ks os : List Nat} : w.ins[k]? = some g → Way w ts g f o ts1 → Led w ts1 ks os ts' → Led w ts (k :: ks) (o :: os) ts'
theorem Led.len {w : Web} {ts ks os ts' : List Nat} (a : Led w ts ks os ts') : os.length = ks.length := by
  induction a with
  | nil => rfl
  | cons _ _ _ ih => simp [ih]
theorem led_all {w : Web} (h : IsWeb w) : ∀ (ks : List Nat) {ts : List Nat}, TurnsOk w ts → (∀ k ∈ ks, k < w.ins.length) → ∃ os ts', Led w ts ks os ts' ∧ TurnsOk w ts' ∧ ∀ o ∈ os, (⟨true, o⟩ : Goal) ∈ goalsOf w
  | [], ts, t, _ => ⟨[], ts, .nil, t, by simp⟩
  | k :: ks, ts, t, hk => by
    have hk0 := hk k List.mem_cons_self
    have hg : w.ins[k]? = some w.ins[k] := List.getElem?_eq_getElem hk0
    obtain ⟨f, o, ts1, h1, _, h3, h4, _⟩ := way_all h t (goal_mem_ins (List.mem_of_getElem? hg))
    obtain ⟨os, ts', h5, h6, h7⟩ := led_all h ks h3 fun j hj => hk j (List.mem_cons_of_mem _ hj)
    exact ⟨o :: os, ts', .cons hg h1 h5, h6, fun z hz => by
      rcases List.mem_cons.mp hz with e | hz
      · rw [e]; exact h4
      · exact h7 z hz⟩
theorem Led.uniq {w : Web} {ts ks os ts' : List Nat} (a : Led w ts ks os ts') : ∀ {os2 ts2 : List Nat}, Led w ts ks os2 ts2 → os = os2 ∧ ts' = ts2 := by
  induction a with
  | nil => intro os2 ts2 b; cases b; exact ⟨rfl, rfl⟩
  | cons h1 h2 _ ih =>
    intro os2 ts2 b
    cases b with
    | cons g1 g2 g3 =>
      rw [h1] at g1
      cases g1
      obtain ⟨_, rfl, rfl⟩ := h2.uniq g2
      obtain ⟨rfl, rfl⟩ := ih g3
      exact ⟨rfl, rfl⟩
/-! ### sides exchanged -/
def exP (p : OG × OG) : OG × OG := (p.2, p.1)
def exW (w : Web) : Web := ⟨w.ins, w.prs.map exP⟩
theorem there_ex (p : OG × OG) : (there (exP p)).Perm (there p) := by
  obtain ⟨a, b⟩ := p
  cases a <;> cases b <;> simp [there, exP] <;> exact .swap _ _ _
theorem exW_goals (w : Web) : (goalsOf (exW w)).Perm (goalsOf w) := by
  refine .append_left _ ?_
  simp only [exW, List.map_map]
  exact flat_perm fun p _ => there_ex p
theorem exW_at (w : Web) (i : Nat) : prAt (exW w) i = exP (prAt w i) := by
  simp only [prAt, exW, List.getD_eq_getElem?_getD, List.getElem?_map]
  cases w.prs[i]? <;> rfl
theorem Reach.ex {w : Web} {i : Nat} (h : Reach w i) : Reach (exW w) i := by
  induction h with
  | out h1 h2 => exact .out (by rw [exW_at]; exact (there_ex _).symm.subset h1) h2
  | step h1 h2 _ ih => exact .step (by rw [exW_at]; exact (there_ex _).symm.subset h1) h2 ih
theorem WebC.ex {w : Web} (h : WebC w) : WebC (exW w) := by
  obtain ⟨e1, e2, e3⟩ := perm_facts (exW_goals w)
  have hl : (exW w).prs.length = w.prs.length := by simp [exW]
  refine ⟨⟨h.parts.ins, by rw [hl]; exact h.parts.prs, fun g hg => by rw [hl]; exact h.parts.gi g hg, fun p hp => ?_, fun p hp g hg => ?_⟩, by rw [e1]; exact h.out1, by rw [e1]; exact e2.trans h.outs, fun i hi => ?_, fun i hi => ?_⟩
  · obtain ⟨q, hq, rfl⟩ := List.mem_map.mp hp
    intro e
    refine h.parts.some q hq ?_
    obtain ⟨a, b⟩ := q
    simp only [exP, Prod.mk.injEq] at e ⊢
    exact ⟨e.2, e.1⟩
  · obtain ⟨q, hq, rfl⟩ := List.mem_map.mp hp
    rw [hl]
    exact h.parts.gp q hq g ((there_ex q).subset hg)
  · rw [e3]; exact h.cnts i (by rwa [hl] at hi)
  · exact (h.reach i (by rwa [hl] at hi)).ex
def flipT (ts : List Nat) : List Nat := ts.map fun t => 1 - t
theorem flip_get {ts : List Nat} {i : Nat} (hi : i < ts.length) : (flipT ts).getD i 0 = 1 - ts.getD i 0 := by
  simp [flipT, List.getD_eq_getElem?_getD, List.getElem?_map, List.getElem?_eq_getElem hi]
theorem flip_next {ts : List Nat} {i : Nat} (hi : i < ts.length) (hb : ts.getD i 0 ≤ 1) : nextT (flipT ts) i = flipT (nextT ts i) := by
  unfold nextT
  rw [flip_get hi]
  simp only [flipT, List.map_set]
theorem side_ex (p : OG × OG) {t : Nat} (h : t ≤ 1) : sideG (exP p) (1 - t) = sideG p t := by
  have : t = 0 ∨ t = 1 := by omega
  rcases this with rfl | rfl <;> rfl
theorem side_ex' (p : OG × OG) {t : Nat} (h : t ≤ 1) : sideG (exP p) t = sideG p (1 - t) := by
  have : t = 0 ∨ t = 1 := by omega
  rcases this with rfl | rfl <;> rfl
theorem next_ex {w : Web} {ts : List Nat} {i : Nat} (hi : i < ts.length) (hb : ts.getD i 0 ≤ 1) : nextG (exW w) (flipT ts) i = nextG w ts i := by
  unfold nextG
  rw [flip_get hi, exW_at, side_ex _ hb, show 1 - (1 - ts.getD i 0) = ts.getD i 0 by omega, side_ex' _ hb]
theorem nextG_in {w : Web} (h : Parts w) {ts : List Nat} {i : Nat} (hi : i < w.prs.length) (ht : ts.getD i 0 ≤ 1) : nextG w ts i ∈ there (prAt w i) := by
  have hne := h.some _ (prAt_mem hi)
  unfold nextG
  rw [mem_there]
  have : ts.getD i 0 = 0 ∨ ts.getD i 0 = 1 := by omega
  generalize prAt w i = p at *
  obtain ⟨a, b⟩ := p
  rcases this with e | e <;> rw [e] <;> cases a <;> cases b <;> simp_all [sideG]
theorem Way.ex {w : Web} (h : WebC w) {ts ts' : List Nat} {g : Goal} {f : List Nat} {o : Nat} (a : Way w ts g f o ts') : TurnsOk w ts → g ∈ goalsOf w → Way (exW w) (flipT ts) g f o (flipT ts') := by
  induction a with
  | out ho => intro _ _; exact .out ho
  | @step ts ts' g f o ho _ ih =>
    intro t hg
    have hb := h.bnd hg
    simp only [bndG, ho, Bool.false_eq_true, if_false] at hb
    have hi : g.num < ts.length := by rw [t.len]; exact hb
    have := ih (t.next _) (goal_mem_prs (prAt_mem hb) (nextG_in h.parts hb (t.get _)))
    refine .step ho ?_
    rw [flip_next hi (t.get _), next_ex hi (t.get _)]
    exact this
theorem Way.tok {w : Web} (h : WebC w) {ts ts' : List Nat} {g : Goal} {f : List Nat} {o : Nat} (a : Way w ts g f o ts') : TurnsOk w ts → g ∈ goalsOf w → TurnsOk w ts' ∧ (⟨true, o⟩ : Goal) ∈ goalsOf w := by
  induction a with
  | @out ts g ho => intro t hg; exact ⟨t, by obtain ⟨a, b⟩ := g; simp only at ho; subst ho; exact hg⟩
  | @step ts ts' g f o ho _ ih =>
    intro t hg
    have hb := h.bnd hg
    simp only [bndG, ho, Bool.false_eq_true, if_false] at hb
    exact ih (t.next _) (goal_mem_prs (prAt_mem hb) (nextG_in h.parts hb (t.get _)))
theorem Led.ex {w : Web} (h : WebC w) {ts ts' ks os : List Nat} (a : Led w ts ks os ts') : TurnsOk w ts → Led (exW w) (flipT ts) ks os (flipT ts') := by
  induction a with
  | nil => intro _; exact .nil
  | cons h1 h2 _ ih =>
    intro t
    have hg := goal_mem_ins (List.mem_of_getElem? h1)
    exact .cons h1 (h2.ex h t hg) (ih (h2.tok h t hg).1)

/-! ### things from one input, one behind the other -/
open Classical in
noncomputable def nxT (w : Web) (g : Goal) (ts : List Nat) : List Nat := if h : ∃ (ts' f : List Nat) (o : Nat), Way w ts g f o ts' then h.choose else ts
open Classical in
noncomputable def nxO (w : Web) (g : Goal) (ts : List Nat) : Nat := if h : ∃ (o : Nat) (f ts' : List Nat), Way w ts g f o ts' then h.choose else 0
theorem nxT_eq {w : Web} {g : Goal} {ts ts' f : List Nat} {o : Nat} (a : Way w ts g f o ts') : nxT w g ts = ts' := by
  have h : ∃ (ts' f : List Nat) (o : Nat), Way w ts g f o ts' := ⟨ts', f, o, a⟩
  unfold nxT
  rw [dif_pos h]
  obtain ⟨f2, o2, b⟩ := h.choose_spec
  exact (b.uniq a).2.2
theorem nxO_eq {w : Web} {g : Goal} {ts ts' f : List Nat} {o : Nat} (a : Way w ts g f o ts') : nxO w g ts = o := by
  have h : ∃ (o : Nat) (f ts' : List Nat), Way w ts g f o ts' := ⟨o, f, ts', a⟩
  unfold nxO
  rw [dif_pos h]
  obtain ⟨f2, o2, b⟩ := h.choose_spec
  exact (b.uniq a).2.1
theorem nx_way {w : Web} (h : IsWeb w) {ts : List Nat} (t : TurnsOk w ts) {g : Goal} (hg : g ∈ goalsOf w) : ∃ f, Way w ts g f (nxO w g ts) (nxT w g ts) ∧ f.length ≤ 5000000 ∧ TurnsOk w (nxT w g ts) ∧ (⟨true, nxO w g ts⟩ : Goal) ∈ goalsOf w := by
  obtain ⟨f, o, ts', h1, h2, h3, h4, _⟩ := way_all h t hg
  rw [nxT_eq h1, nxO_eq h1]
  exact ⟨f, h1, h2, h3, h4⟩
noncomputable def sq (w : Web) (g : Goal) (ts : List Nat) : Nat → List Nat
  | 0 => ts
  | m + 1 => nxT w g (sq w g ts m)
theorem sq_ok {w : Web} (h : IsWeb w) {ts : List Nat} (t : TurnsOk w ts) {g : Goal} (hg : g ∈ goalsOf w) : ∀ m, TurnsOk w (sq w g ts m)
  | 0 => t
  | m + 1 => by
    obtain ⟨f, _, _, h3, _⟩ := nx_way h (sq_ok h t hg m) hg
    exact h3
def allT : Nat → List (List Nat)
  | 0 => [[]]
  | n + 1 => (allT n).map (0 :: ·) ++ (allT n).map (1 :: ·)
theorem allT_len : ∀ n, (allT n).length = 2 ^ n
  | 0 => rfl
  | n + 1 => by simp [allT, allT_len n, Nat.pow_succ]; omega
theorem allT_mem : ∀ {ts : List Nat}, (∀ t ∈ ts, t ≤ 1) → ts ∈ allT ts.length
  | [], _ => by simp [allT]
  | t :: ts, h => by
    have ih := allT_mem fun x hx => h x (List.mem_cons_of_mem _ hx)
    have ht := h t List.mem_cons_self
    simp only [List.length_cons, allT, List.mem_append, List.mem_map]
    have : t = 0 ∨ t = 1 := by omega
    rcases this with rfl | rfl
    · exact .inl ⟨ts, ih, rfl⟩
    · exact .inr ⟨ts, ih, rfl⟩
theorem turns_few {w : Web} (h : w.prs.length ≤ 12) {l : List (List Nat)} (hn : l.Nodup) (hl : ∀ t ∈ l, TurnsOk w t) : l.length ≤ 4096 := by
  have := List.Nodup.length_le_of_subset (l₁ := l) (l₂ := allT w.prs.length) hn fun t ht => by
    have k := hl t ht
    rw [← k.len]
    exact allT_mem k.bit
  rw [allT_len] at this
  exact Nat.le_trans this (Nat.pow_le_pow_right (by decide) h)
/-- what was seen ahead of the i-th look -/
noncomputable def seenL (w : Web) (g : Goal) (ts : List Nat) (i : Nat) : List (List Nat) := (List.range i).map fun j => sq w g ts (j + 1)
theorem seenL_succ (w : Web) (g : Goal) (ts : List Nat) (i : Nat) : seenL w g ts (i + 1) = seenL w g ts i ++ [sq w g ts (i + 1)] := by simp [seenL, List.range_succ]
theorem seenL_mem {w : Web} {g : Goal} {ts : List Nat} {i : Nat} {t : List Nat} : t ∈ seenL w g ts i ↔ ∃ j, j < i ∧ t = sq w g ts (j + 1) := by
  simp [seenL, eq_comm]
/-- M looks, and their end: as at first after so many, or never -/
structure RunA (w : Web) (g : Goal) (ts : List Nat) (r : Option Nat) (M : Nat) : Prop where
  new : ∀ i, i < M → sq w g ts (i + 1) ∉ seenL w g ts i
  few : M ≤ 4097
  no : ∀ i, 1 ≤ i → i < M → sq w g ts i ≠ ts
  fin : match r with
    | some m => M = m ∧ 1 ≤ m ∧ sq w g ts m = ts
    | none => sq w g ts (M + 1) ∈ seenL w g ts M ∧ (1 ≤ M → sq w g ts M ≠ ts)
theorem runA_ex {w : Web} (h : IsWeb w) {ts : List Nat} (t : TurnsOk w ts) {g : Goal} (hg : g ∈ goalsOf w) : ∀ (d i : Nat), i + d = 4097 → (seenL w g ts i).Nodup → (∀ j, j < i → sq w g ts (j + 1) ∉ seenL w g ts j) → (∀ j, 1 ≤ j → j ≤ i → sq w g ts j ≠ ts) → ∃ r M, RunA w g ts r M
  | 0, i, hi, hn, _, _ => by
    have := turns_few h.parts.prs hn fun x hx => by
      obtain ⟨j, _, rfl⟩ := seenL_mem.mp hx
      exact sq_ok h t hg _
    simp [seenL] at this
    omega
  | d + 1, i, hi, hn, hnew, hno => by
    by_cases q : sq w g ts (i + 1) ∈ seenL w g ts i
    · exact ⟨none, i, hnew, by omega, fun j h1 h2 => hno j h1 (by omega), q, fun h1 => hno i h1 (Nat.le_refl _)⟩
    · have hnew' : ∀ j, j < i + 1 → sq w g ts (j + 1) ∉ seenL w g ts j := fun j hj => by
        by_cases e : j = i
        · rw [e]; exact q
        · exact hnew j (by omega)
      by_cases e : sq w g ts (i + 1) = ts
      · exact ⟨some (i + 1), i + 1, hnew', by omega, fun j h1 h2 => hno j h1 (by omega), rfl, by omega, e⟩
      · refine runA_ex h t hg d (i + 1) (by omega) ?_ hnew' fun j h1 h2 => ?_
        · rw [seenL_succ, List.nodup_append]
          exact ⟨hn, by simp, fun a ha b hb => by simp at hb; subst hb; exact fun e => q (e ▸ ha)⟩
        · by_cases e2 : j = i + 1
          · rw [e2]; exact e
          · exact hno j h1 (by omega)
theorem runA {w : Web} (h : IsWeb w) {ts : List Nat} (t : TurnsOk w ts) {g : Goal} (hg : g ∈ goalsOf w) : ∃ r M, RunA w g ts r M :=
  runA_ex h t hg 4097 0 (by omega) (by simp [seenL]) (fun j hj => by omega) (fun j h1 h2 => by omega)
/-- of a run that goes on for ever the looks of one who looks at the first turns, too -/
theorem RunA.all {w : Web} {g : Goal} {ts : List Nat} {r : Option Nat} {M : Nat} (a : RunA w g ts r M) {i : Nat} (hi : i < M ∨ (r = none ∧ i = M)) : sq w g ts i ∉ (List.range i).map (sq w g ts) := by
  intro hm
  obtain ⟨j, hj, e⟩ := List.mem_map.mp hm
  have hj := List.mem_range.mp hj
  cases i with
  | zero => omega
  | succ i =>
    have hne : sq w g ts (i + 1) ≠ ts := by
      rcases hi with hi | ⟨rfl, hi⟩
      · exact a.no _ (by omega) hi
      · subst hi
        exact a.fin.2 (by omega)
    cases j with
    | zero => exact hne e.symm
    | succ j => exact a.new i (by omega) (seenL_mem.mpr ⟨j, by omega, e.symm⟩)
noncomputable def totA (ro : Option Nat) (M : Nat) : Nat := match ro with
  | some m => m
  | none => M + 1
theorem zeros_ok (w : Web) : TurnsOk w (List.replicate w.prs.length 0) := ⟨by simp, fun t ht => by rw [List.eq_of_mem_replicate ht]; omega⟩
theorem rep_one {α : Type} (m : Nat) (d : α) : (List.replicate m [d]).flatten = List.replicate m d := by
  induction m with
  | zero => rfl
  | succ m ih => rw [List.replicate_succ, List.flatten_cons, ih]; rfl
theorem zerosD (n : Nat) : PyData.tuple (List.replicate ((n : Nat) : Int).toNat [PyData.int 0]).flatten = .tuple ((List.replicate n 0).map natD) := by
  rw [rep_one, List.map_replicate]; simp [natD]

/-! ### way, led, counted -/
/-- web, turns and input asked for in their order -/
def needs3 (K : Fr) (x y z : PD) (r : Rs) (P : Web → List Nat → Nat → Prop) : Prop := (badD x ∧ r = .no (.ref (He.ga K "BadWeb"))) ∨ ∃ w, x = webD w ∧ IsWeb w ∧ ((badT w y ∧ r = .no (.ref (He.ga K "BadTurns"))) ∨ ∃ ts : List Nat, y = .tuple (ts.map natD) ∧ TurnsOk w ts ∧ ((isCount z 0 ((w.ins.length : Nat) - 1 : Int) = false ∧ r = .no (.ref (He.ga K "BadNumber"))) ∨ ∃ k, z = natD k ∧ P w ts k))
def R_way (K : Fr) : List PD → Rs → Prop := fun ds r => ∃ x y z, ds = [x, y, z] ∧ needs3 K x y z r fun w ts k => ∃ (g : Goal) (f : List Nat) (o : Nat) (ts' : List Nat), w.ins[k]? = some g ∧ Way w ts g f o ts' ∧ f.length ≤ 5000000 ∧ r = .ok (.tuple [.list (f.map natD), natD o, .tuple (ts'.map natD)])
theorem len_way {K : Fr} {ds : List PD} {r : Rs} : R_way K ds r → ds.length = 3 := by rintro ⟨_, _, _, rfl, _⟩; rfl
theorem rel_way {K : Fr} {w : Web} {ts : List Nat} {k : Nat} {g : Goal} {f : List Nat} {o : Nat} {ts' : List Nat} (hw : IsWeb w) (ht : TurnsOk w ts) (hk : w.ins[k]? = some g) (hy : Way w ts g f o ts') (hf : f.length ≤ 5000000) : R_way K [webD w, .tuple (ts.map natD), natD k] (.ok (.tuple [.list (f.map natD), natD o, .tuple (ts'.map natD)])) :=
  ⟨_, _, _, rfl, .inr ⟨w, rfl, hw, .inr ⟨ts, rfl, ht, .inr ⟨k, rfl, g, f, o, ts', hk, hy, hf, rfl⟩⟩⟩⟩
theorem sc_way : FnScope ["web", "turns", "number"] ["web", "turns", "number"] (defScope (topS 30)) := ⟨rfl, rfl, rfl, by decide +kernel, rfl, by decide +kernel, by decide +kernel⟩
theorem bi_way {K : Fr} {mg : Str → Option Value} (G : Tx K mg) : Binds K G.fd_way ["web", "turns", "number"] [] := G.fn_way.bindsN fun _ _ _ _ _ _ us hl => match us, hl with | [_, _, _], _ => rfl
theorem ok_way {P : Program} {w : World} {K : Fr} {mg : Str → Option Value} {base : Heap} {T : Tb} (G : Tx K mg) : FnOk P w K mg base (L2N.CX P w) 6 (He.ga K "way") G.fd_way ["web", "turns", "number"] (spX T (R_way K)) := by
  have nd := sc_way.nd
  refine fn_okX G.fn_way sc_way (fun ds d h => by have h' := len_way h; rw [h']; decide) fun ds d h cd A outer s H E hr => ?_
  have tk := L2N.takes_of (X := bodyXX P w K mg base ["web", "turns", "number"] "way" (defScope (topS 30)) (He.ga K "way") cd A outer s H E) rfl rfl rfl rfl
  obtain ⟨x, y, z, rfl, hd⟩ := h
  dsimp only [enter]
  rcases hd with ⟨hb, rfl⟩ | ⟨v, rfl, hv, hd⟩
  · exact (dss_cons (fun _ => False) (ds_exprX (dx_call (ok_need_web G) (hr.mono (by decide)) G.g_need_web G.fn_need_web.kp (bi_need_web G) (L2N.passes_call tk fun _ _ _ _ h => h) (da_cons (de_nm 0) da_nil) (rel_need_web_bad hb)) (fun d e => by cases e) (fun c e => by cases e; rfl) rfl) (fun _ h => h.elim))
  have hp := hv.parts.prs
  refine dss_then (ds_expr (de_callX (ok_need_web G) (hr.mono (by decide)) G.g_need_web G.fn_need_web.kp (bi_need_web G) (da_cons (de_nm 0) da_nil) (rel_need_web hv)) rfl) ?_
  rcases hd with ⟨hb, rfl⟩ | ⟨ts, rfl, ht, hd⟩
  · exact (dss_cons (fun _ => False) (ds_exprX (dx_call (ok_need_turns G) (hr.mono (by decide)) G.g_need_turns G.fn_need_turns.kp (bi_need_turns G) (L2N.passes_call tk fun _ _ _ _ h => h) (da_cons (de_nm 0) (da_cons (de_nm 1) da_nil)) (rel_need_turns_bad hb)) (fun d e => by cases e) (fun c e => by cases e; rfl) rfl) (fun _ h => h.elim))
  refine dss_then (ds_expr (de_callX (ok_need_turns G) (hr.mono (by decide)) G.g_need_turns G.fn_need_turns.kp (bi_need_turns G) (da_cons (de_nm 0) (da_cons (de_nm 1) da_nil)) (rel_need_turns ht (by omega))) rfl) ?_
  rcases hd with ⟨hb, rfl⟩ | ⟨k, rfl, g, f, o, ts', hk, hway, hf, rfl⟩
  · exact (dss_cons (fun _ => False) (ds_exprX (dx_call (ok_need_input G) (hr.mono (by decide)) G.g_need_input G.fn_need_input.kp (bi_need_input G) (L2N.passes_call tk fun _ _ _ _ h => h) (da_cons (de_nm 0) (da_cons (de_nm 2) da_nil)) (rel_need_input_bad hb)) (fun d e => by cases e) (fun c e => by cases e; rfl) rfl) (fun _ h => h.elim))
  have hkl : k < v.ins.length := (List.getElem?_eq_some_iff.mp hk).1
  refine dss_then (ds_expr (de_callX (ok_need_input G) (hr.mono (by decide)) G.g_need_input G.fn_need_input.kp (bi_need_input G) (da_cons (de_nm 0) (da_cons (de_nm 2) da_nil)) (rel_need_input hkl)) rfl) ?_
  exact dss_one (ds_ret (de_call (ok_way_of G) (hr.mono (by decide)) G.g_way_of G.fn_way_of.kp (bi_way_of G) (da_cons (de_nm 0) (da_cons (de_nm 1) (da_cons (de_nm 2) da_nil))) ⟨v, ts, k, g, f, o, ts', hv, ht, hk, hway, hf, rfl, rfl⟩) rfl)
/-- inputs that are none: no list, one too long, or one with a thing that is no input -/
def badI (w : Web) (d : PD) : Prop := ∀ xs, d = .list xs → 2000 < xs.length ∨ ∃ z ∈ xs, isCount z 0 ((w.ins.length : Nat) - 1 : Int) = false
def needsL (K : Fr) (x y z : PD) (r : Rs) (P : Web → List Nat → List Nat → List Nat → List Nat → Prop) : Prop := (badD x ∧ r = .no (.ref (He.ga K "BadWeb"))) ∨ ∃ w, x = webD w ∧ IsWeb w ∧ ((badT w y ∧ r = .no (.ref (He.ga K "BadTurns"))) ∨ ∃ ts : List Nat, y = .tuple (ts.map natD) ∧ TurnsOk w ts ∧ ((badI w z ∧ r = .no (.ref (He.ga K "BadNumber"))) ∨ ∃ ks os ts' : List Nat, z = .list (ks.map natD) ∧ ks.length ≤ 2000 ∧ (∀ k ∈ ks, k < w.ins.length) ∧ Led w ts ks os ts' ∧ P w ts ks os ts'))
def R_led (K : Fr) : List PD → Rs → Prop := fun ds r => ∃ x y z, ds = [x, y, z] ∧ needsL K x y z r fun _ _ _ os ts' => r = .ok (.tuple [.list (os.map natD), .tuple (ts'.map natD)])
theorem len_led {K : Fr} {ds : List PD} {r : Rs} : R_led K ds r → ds.length = 3 := by rintro ⟨_, _, _, rfl, _⟩; rfl
theorem rel_led {K : Fr} {w : Web} {ts ks os ts' : List Nat} (h : IsWeb w) (t : TurnsOk w ts) (hl : ks.length ≤ 2000) (hk : ∀ k ∈ ks, k < w.ins.length) (a : Led w ts ks os ts') : R_led K [webD w, .tuple (ts.map natD), .list (ks.map natD)] (.ok (.tuple [.list (os.map natD), .tuple (ts'.map natD)])) :=
  ⟨_, _, _, rfl, .inr ⟨w, rfl, h, .inr ⟨ts, rfl, t, .inr ⟨ks, os, ts', rfl, hl, hk, a, rfl⟩⟩⟩⟩
theorem rel_led_bad {K : Fr} {w : Web} {ts : List Nat} {d : PD} (h : IsWeb w) (t : TurnsOk w ts) (b : badI w d) : R_led K [webD w, .tuple (ts.map natD), d] (.no (.ref (He.ga K "BadNumber"))) :=
  ⟨_, _, _, rfl, .inr ⟨w, rfl, h, .inr ⟨ts, rfl, t, .inl ⟨b, rfl⟩⟩⟩⟩
theorem sc_led : FnScope ["web", "turns", "inputs", "number", "found", "steps", "own"] ["web", "turns", "inputs"] (defScope (topS 31)) := ⟨rfl, rfl, rfl, by decide +kernel, rfl, by decide +kernel, by decide +kernel⟩
theorem bi_led {K : Fr} {mg : Str → Option Value} (G : Tx K mg) : Binds K G.fd_led ["web", "turns", "inputs"] [] := G.fn_led.bindsN fun _ _ _ _ _ _ us hl => match us, hl with | [_, _, _], _ => rfl
theorem ok_led {P : Program} {w : World} {K : Fr} {mg : Str → Option Value} {base : Heap} {T : Tb} (G : Tx K mg) : FnOk P w K mg base (L2N.CX P w) 6 (He.ga K "led") G.fd_led ["web", "turns", "inputs"] (spX T (R_led K)) := by
  have nd := sc_led.nd
  refine fn_okX G.fn_led sc_led (fun ds d h => by have h' := len_led h; rw [h']; decide) fun ds d h cd A outer s H E hr => ?_
  have po := passes_of (X := bodyXX P w K mg base ["web", "turns", "inputs", "number", "found", "steps", "own"] "led" (defScope (topS 31)) (He.ga K "led") cd A outer s H E) rfl
  have tk := L2N.takes_of (X := bodyXX P w K mg base ["web", "turns", "inputs", "number", "found", "steps", "own"] "led" (defScope (topS 31)) (He.ga K "led") cd A outer s H E) rfl rfl rfl rfl
  obtain ⟨x, y, z, rfl, hd⟩ := h
  dsimp only [enter]
  rcases hd with ⟨hb, rfl⟩ | ⟨w, rfl, hw, hd⟩
  · exact (dss_cons (fun _ => False) (ds_exprX (dx_call (ok_need_web G) (hr.mono (by decide)) G.g_need_web G.fn_need_web.kp (bi_need_web G) (L2N.passes_call tk fun _ _ _ _ h => h) (da_cons (de_nm 0) da_nil) (rel_need_web_bad hb)) (fun d e => by cases e) (fun c e => by cases e; rfl) rfl) (fun _ h => h.elim))
  have hp := hw.parts.prs
  refine dss_then (ds_expr (de_callX (ok_need_web G) (hr.mono (by decide)) G.g_need_web G.fn_need_web.kp (bi_need_web G) (da_cons (de_nm 0) da_nil) (rel_need_web hw)) rfl) ?_
  rcases hd with ⟨hb, rfl⟩ | ⟨ts, rfl, ht, hd⟩
  · exact (dss_cons (fun _ => False) (ds_exprX (dx_call (ok_need_turns G) (hr.mono (by decide)) G.g_need_turns G.fn_need_turns.kp (bi_need_turns G) (L2N.passes_call tk fun _ _ _ _ h => h) (da_cons (de_nm 0) (da_cons (de_nm 1) da_nil)) (rel_need_turns_bad hb)) (fun d e => by cases e) (fun c e => by cases e; rfl) rfl) (fun _ h => h.elim))
  refine dss_then (ds_expr (de_callX (ok_need_turns G) (hr.mono (by decide)) G.g_need_turns G.fn_need_turns.kp (bi_need_turns G) (da_cons (de_nm 0) (da_cons (de_nm 1) da_nil)) (rel_need_turns ht (by omega))) rfl) ?_
  rcases hd with ⟨hb, rfl⟩ | ⟨ks, os, ts', rfl, hkl, hks, hled, rfl⟩
  · by_cases q : ∃ xs, z = .list xs
    · obtain ⟨xs, rfl⟩ := q
      by_cases hl : 2000 < xs.length
      · exact dss_cons (fun _ => False) (ds_if (k := true) (dt_w (dw_or (k := false) (k' := true) (dt_to (dt_not (dt_val (de_isi (G.b_isinstance) G.b_list (de_nm 2) boot_list (by decide)))) rfl) (fun _ => dw_or1 (dt_to (dt_cmp (de_len (G.b_len) (de_nm 2) (by walk_at "len")) (de_gint G.c_MOST_THINGS) (by walk_at "cb.Gt")) (by simp; omega))))) (fun _ => dss_one (ds_raise rfl tk G.x_BadNumber rfl)) (fun h => by cases h)) (fun _ h => h.elim)
      · refine dss_guard (k := false) (dt_w (dw_or (k := false) (k' := false) (dt_to (dt_not (dt_val (de_isi (G.b_isinstance) G.b_list (de_nm 2) boot_list (by decide)))) rfl) (fun _ => dw_or1 (dt_to (dt_cmp (de_len (G.b_len) (de_nm 2) (by walk_at "len")) (de_gint G.c_MOST_THINGS) (by walk_at "cb.Gt")) (by simp; omega))))) (fun hk => by cases hk) (fun _ => ?_)
        refine dss_cons (fun _ => False) (ds_forS (xs := xs) (emb := id) (fun i => [dat (webD w), dat (.tuple (ts.map natD)), dat (.list xs), un, un, un, un]) (fun i => ∀ j, j < i → ∀ z, xs[j]? = some z → isCount z 0 ((w.ins.length : Nat) - 1 : Int) = true) (di_to (by first | exact di_tup (de_nm 2) | exact di_list (de_nm 2)) (by rw [List.map_id])) (LeL.le (by walk_at "le")) (fun j hj => by omega) (fun i z hz hin => ⟨(dg_nm 3 nd (by walk_at "free1")), ?_⟩) (fun hin => ?_) po rfl) (fun _ h => h.elim)
        · dsimp only [List.set, id]
          cases hc : isCount z 0 ((w.ins.length : Nat) - 1 : Int) with
          | false => exact (dss_cons (fun _ => False) (ds_exprX (dx_call (ok_need_input G) (hr.mono (by decide)) G.g_need_input G.fn_need_input.kp (bi_need_input G) (L2N.passes_call tk fun _ _ _ _ h => h) (da_cons (de_nm 0) (da_cons (de_nm 3) da_nil)) (rel_need_input_bad hc)) (fun d e => by cases e) (fun c e => by cases e; rfl) rfl) (fun _ h => h.elim))
          | true =>
            refine dss_then (ds_expr (de_callX (ok_need_input G) (hr.mono (by decide)) G.g_need_input G.fn_need_input.kp (bi_need_input G) (da_cons (de_nm 0) (da_cons (de_nm 3) da_nil)) ⟨w, _, rfl, .inl ⟨hc, rfl⟩⟩) rfl) ?_
            exact dss_nil ⟨LeL.le (by walk_at "le"), fun j hj z' hz' => by
              by_cases e : j = i
              · subst e
                rw [hz] at hz'
                cases hz'
                exact hc
              · exact hin j (by omega) z' hz'⟩
        · obtain h1 | ⟨z, hz, hc⟩ := hb xs rfl
          · omega
          · obtain ⟨j, hj, e⟩ := List.mem_iff_getElem.mp hz
            have := hin j hj z (by rw [List.getElem?_eq_getElem hj, e])
            rw [hc] at this
            cases this
    · have hn : (!isiD z "list") = true := by
        cases z with
        | list xs => exact absurd ⟨xs, rfl⟩ q
        | _ => rfl
      exact dss_cons (fun _ => False) (ds_if (k := true) (dt_w (dw_or (k := true) (k' := true) (dt_to (dt_not (dt_val (de_isi (G.b_isinstance) G.b_list (de_nm 2) boot_list (by decide)))) hn) (fun hk => by cases hk))) (fun _ => dss_one (ds_raise rfl tk G.x_BadNumber rfl)) (fun h => by cases h)) (fun _ h => h.elim)
  have hlen := hled.len
  refine dss_guard (k := false) (dt_to (dt_w (dw_or (dt_not (dt_val (de_isi (G.b_isinstance) G.b_list (de_nm 2) boot_list (by decide)))) (fun hk => (dw_or1 (dt_cmp (de_len (G.b_len) (de_nm 2) (by walk_at "len")) (de_gint G.c_MOST_THINGS) (by walk_at "cb.Gt")))))) (by simp [isiD, tyD]; omega)) (fun h => by cases h) (fun _ => ?_)
  refine dss_then (ds_forS (xs := ks) (emb := natD) (fun i => [dat (webD w), dat (.tuple (ts.map natD)), dat (.list (ks.map natD)), un, un, un, un]) (fun _ => True) (by first | exact di_tup (de_nm 2) | exact di_list (de_nm 2)) (LeL.le (by walk_at "le")) trivial (fun i z hz _ => ⟨(dg_nm 3 nd (by walk_at "free1")), ?_⟩) (fun _ => rfl) po rfl) ?_
  · dsimp only [List.set]
    refine dss_then (ds_expr (de_callX (ok_need_input G) (hr.mono (by decide)) G.g_need_input G.fn_need_input.kp (bi_need_input G) (da_cons (de_nm 0) (da_cons (de_nm 3) da_nil)) (rel_need_input (hks z (List.mem_of_getElem? hz)))) rfl) ?_
    exact dss_nil ⟨LeL.le (by walk_at "le"), trivial⟩
  · refine dss_then (ds_asgN 4 (dn_lst da_nil) (by rfl) (by walk_at "lt") nd) ?_
    dsimp only [List.set]
    refine dss_cons (fun S' => S' = [dat (webD w), dat (.tuple (ts'.map natD)), dat (.list (ks.map natD)), un, own (os.map natD), un, un]) (ds_for (xs := ks) (emb := natD) (js := [3]) (S2 := fun i z S' => S'.set 3 (dat (natD z))) (fun i S' => ∃ ts1 o0 o1, os = o0 ++ o1 ∧ Led w ts1 (ks.drop i) o1 ts' ∧ TurnsOk w ts1 ∧ S' = [dat (webD w), dat (.tuple (ts1.map natD)), dat (.list (ks.map natD)), un, own (o0.map natD), un, un]) (by first | exact di_tup (de_nm 2) | exact di_list (de_nm 2)) ⟨ts, [], os, rfl, by simpa using hled, ht, rfl⟩ ?_ ?_ po rfl) ?_
    · rintro i z S' hz ⟨ts1, o0, o1, he, hl1, ht1, rfl⟩
      refine ⟨(dg_nm 3 nd (by walk_at "free1")), ?_⟩
      dsimp only [List.set]
      have hd : ks.drop i = z :: ks.drop (i + 1) := by
        have h1 := (List.getElem?_eq_some_iff.mp hz)
        obtain ⟨h2, h3⟩ := h1
        rw [List.drop_eq_getElem_cons h2, h3]
      rw [hd] at hl1
      cases hl1 with
      | cons g1 g2 g3 =>
        rename_i ts2 g f o o2
        obtain ⟨f', o', ts3, q1, q2, q3, q4, _⟩ := way_all hw ht1 (goal_mem_ins (List.mem_of_getElem? g1))
        obtain ⟨rfl, rfl, rfl⟩ := g2.uniq q1
        have hol : o0.length ≤ 2000 := by rw [he] at hlen; simp at hlen; omega
        refine dss_then (ds_asgG (de_call (ok_way_of G) (hr.mono (by decide)) G.g_way_of G.fn_way_of.kp (bi_way_of G) (da_cons (de_nm 0) (da_cons (de_nm 1) (da_cons (de_nm 3) da_nil))) ⟨w, ts1, z, g, f, o, ts2, hw, ht1, g1, g2, q2, rfl, rfl⟩) (dg_tup rfl (dgs_cons (dg_nm 5 nd (by walk_at "free1")) (dgs_cons (dg_nm 6 nd (by walk_at "free1")) (dgs_cons (dg_nm 1 nd (by walk_at "free1")) dgs_nil)))) rfl) ?_
        dsimp only [List.set]
        refine dss_then (ds_append 4 (de_nm 6) rfl (by rfl) (by walk_at "sz")) ?_
        dsimp only [List.set]
        exact dss_le (S' := [dat (webD w), dat (.tuple (ts2.map natD)), dat (.list (ks.map natD)), un, own ((o0 ++ [o]).map natD), un, un]) (LeL.le (.keep (.keep (.keep (.drop (.keepE (by simp) (by walk_at "le"))))))) (dss_nil ⟨ts2, o0 ++ [o], o2, by rw [he]; simp, g3, q3, rfl⟩)
    · rintro S' ⟨ts1, o0, o1, he, hl1, ht1, rfl⟩
      rw [List.drop_length] at hl1
      cases hl1
      rw [he, List.append_nil]
    · rintro _ rfl
      exact dss_le (le_fr 4 rfl) (dss_one (ds_ret (de_tup (da_cons (de_nm 4) (da_cons (de_nm 1) da_nil))) rfl))

def countsOf (m : Nat) (os : List Nat) : List Nat := (List.range m).map fun n => (os.filter fun o => decide (o = n)).length
def R_counted (K : Fr) : List PD → Rs → Prop := fun ds r => ∃ x y z, ds = [x, y, z] ∧ needsL K x y z r fun w _ _ os ts' => r = .ok (.tuple [.list ((countsOf (nOuts w) os).map natD), .tuple (ts'.map natD)])
theorem len_counted {K : Fr} {ds : List PD} {r : Rs} : R_counted K ds r → ds.length = 3 := by rintro ⟨_, _, _, rfl, _⟩; rfl
theorem rel_counted {K : Fr} {w : Web} {ts ks os ts' : List Nat} (h : IsWeb w) (t : TurnsOk w ts) (hl : ks.length ≤ 2000) (hk : ∀ k ∈ ks, k < w.ins.length) (a : Led w ts ks os ts') : R_counted K [webD w, .tuple (ts.map natD), .list (ks.map natD)] (.ok (.tuple [.list ((countsOf (nOuts w) os).map natD), .tuple (ts'.map natD)])) :=
  ⟨_, _, _, rfl, .inr ⟨w, rfl, h, .inr ⟨ts, rfl, t, .inr ⟨ks, os, ts', rfl, hl, hk, a, rfl⟩⟩⟩⟩
local macro_rules | `(tactic| walk_at "elt") => `(tactic| exact nat_dec _ _)
theorem sc_counted : FnScope ["web", "turns", "inputs", "found", "later", "own", "number"] ["web", "turns", "inputs"] (defScope (topS 32)) := ⟨rfl, rfl, rfl, by decide +kernel, rfl, by decide +kernel, by decide +kernel⟩
theorem bi_counted {K : Fr} {mg : Str → Option Value} (G : Tx K mg) : Binds K G.fd_counted ["web", "turns", "inputs"] [] := G.fn_counted.bindsN fun _ _ _ _ _ _ us hl => match us, hl with | [_, _, _], _ => rfl
theorem ok_counted {P : Program} {w : World} {K : Fr} {mg : Str → Option Value} {base : Heap} {T : Tb} (G : Tx K mg) : FnOk P w K mg base (L2N.CX P w) 7 (He.ga K "counted") G.fd_counted ["web", "turns", "inputs"] (spX T (R_counted K)) := by
  have nd := sc_counted.nd
  refine fn_okX G.fn_counted sc_counted (fun ds d h => by have h' := len_counted h; rw [h']; decide) fun ds d h cd A outer s H E hr => ?_
  have tk := L2N.takes_of (X := bodyXX P w K mg base ["web", "turns", "inputs", "found", "later", "own", "number"] "counted" (defScope (topS 32)) (He.ga K "counted") cd A outer s H E) rfl rfl rfl rfl
  obtain ⟨x, y, z, rfl, hd⟩ := h
  dsimp only [enter]
  rcases hd with ⟨hb, rfl⟩ | ⟨w, rfl, hw, hd⟩
  · exact (dss_cons (fun _ => False) (ds_asgGX (S2 := []) (js := []) (dx_call (ok_led G) (hr.mono (by decide)) G.g_led G.fn_led.kp (bi_led G) (L2N.passes_call tk fun _ _ _ _ h => h) (da_cons (de_nm 0) (da_cons (de_nm 1) (da_cons (de_nm 2) da_nil))) ⟨_, _, _, rfl, .inl ⟨hb, rfl⟩⟩) (fun d e => by cases e) (fun d e => by cases e) (fun c e => by cases e; rfl) rfl) (fun _ h => h.elim))
  rcases hd with ⟨hb, rfl⟩ | ⟨ts, rfl, ht, hd⟩
  · exact (dss_cons (fun _ => False) (ds_asgGX (S2 := []) (js := []) (dx_call (ok_led G) (hr.mono (by decide)) G.g_led G.fn_led.kp (bi_led G) (L2N.passes_call tk fun _ _ _ _ h => h) (da_cons (de_nm 0) (da_cons (de_nm 1) (da_cons (de_nm 2) da_nil))) ⟨_, _, _, rfl, .inr ⟨w, rfl, hw, .inl ⟨hb, rfl⟩⟩⟩) (fun d e => by cases e) (fun d e => by cases e) (fun c e => by cases e; rfl) rfl) (fun _ h => h.elim))
  rcases hd with ⟨hb, rfl⟩ | ⟨ks, os, ts', rfl, hkl, hks, hled, rfl⟩
  · exact (dss_cons (fun _ => False) (ds_asgGX (S2 := []) (js := []) (dx_call (ok_led G) (hr.mono (by decide)) G.g_led G.fn_led.kp (bi_led G) (L2N.passes_call tk fun _ _ _ _ h => h) (da_cons (de_nm 0) (da_cons (de_nm 1) (da_cons (de_nm 2) da_nil))) (rel_led_bad hw ht hb)) (fun d e => by cases e) (fun d e => by cases e) (fun c e => by cases e; rfl) rfl) (fun _ h => h.elim))
  have hlen := hled.len
  have hol : os.length ≤ 1000000 := by omega
  have hno : nOuts w ≤ 8 := hw.c.nOuts_le
  have hsm := hw.parts.small
  refine dss_then (ds_asgG (de_callX (ok_led G) (hr.mono (by decide)) G.g_led G.fn_led.kp (bi_led G) (da_cons (de_nm 0) (da_cons (de_nm 1) (da_cons (de_nm 2) da_nil))) (rel_led hw ht hkl hks hled)) (dg_tup rfl (dgs_cons (dg_nm 3 nd (by walk_at "free1")) (dgs_cons (dg_nm 4 nd (by walk_at "free1")) dgs_nil))) rfl) ?_
  dsimp only [List.set]
  refine dss_one (ds_ret (de_to (de_tup (da_cons (de_dn (dn_lc0 (xs := (List.range (nOuts w))) (emb := (natD)) (g := (fun n => natD (os.filter fun o => decide (o = n)).length)) (own' := [("number", 6)]) rfl nd (dic_to (dic_of (di_range (da_cons (de_call (ok_outs_of G) (hr.mono (by decide)) G.g_outs_of G.fn_outs_of.kp (bi_outs_of G) (da_cons (de_nm 0) da_nil) (by first | exact rel_outs_of | exact rel_outs_of (by assumption) | exact rel_outs_of (by walk_at "rel") | assumption)) da_nil) G.b_range (by walk_at "num"))) (by walk_at "emb")) (by walk_at "blk") (by walk_at "free") (by decide) (by walk_at "sz") (fun z hz _ _ _ _ _ => (dg_nm 6 nd (by walk_at "free1"))) (fun z hz _ _ _ _ _ => (?_)))) (da_cons (de_nm 4) da_nil))) ?_) rfl)
  · exact de_to (de_len G.b_len (de_dn (dn_lc (xs := (os)) (emb := (natD)) (f := (fun o => decide (o = z))) (g := (natD)) (own' := [("own", 5)]) rfl nd (dic_to (dic_of (by first | exact di_tup (de_nm 3) | exact di_list (de_nm 3))) (by walk_at "emb")) (by walk_at "blk") (by walk_at "free") (by decide) (by walk_at "sz") (fun z hz _ _ _ _ _ => (dg_nm 5 nd (by walk_at "free1"))) (fun z hz _ _ _ _ _ => dts_one (dt_to (dt_cmp (de_nm 5) (de_nm 6) (by walk_at "cb.Eq")) (by walk_at "elt"))) (fun z hz hk _ _ _ _ _ => (de_to (de_nm 5) (by walk_at "elt"))))) (LenD.list _)) (by simp [natD])
  · simp [countsOf, List.map_map, Function.comp_def]

/-! ### after how many things turns are as at first -/
def tsK (ts : List Nat) : List NestedKey := ts.map fun t => .num (t : Nat)
theorem tsK_data (ts : List Nat) : PyData.tuple (ts.map natD) = (NestedKey.tup (tsK ts)).data := by
  have : ∀ ts : List Nat, ts.map natD = NestedKey.datas (tsK ts) := fun ts => by
    induction ts with
    | nil => rfl
    | cons t ts ih => simp only [List.map_cons, tsK, NestedKey.datas, ih]; rfl
  simp only [NestedKey.data, this]
theorem tsK_dep (ts : List Nat) : (NestedKey.tup (tsK ts)).depth ≤ 8 := by
  have : ∀ ts : List Nat, NestedKey.depthAll (tsK ts) ≤ 1 := fun ts => by
    induction ts with
    | nil => simp [tsK, NestedKey.depthAll]
    | cons t ts ih =>
      simp only [tsK, List.map_cons, NestedKey.depthAll] at ih ⊢
      have : (NestedKey.num (t : Nat)).depth ≤ 1 := by simp [NestedKey.depth]
      omega
  have := this ts
  simp only [NestedKey.depth]
  omega
theorem tsK_inj {ts us : List Nat} (h : NestedKey.tup (tsK ts) = NestedKey.tup (tsK us)) : ts = us := by
  have h : tsK ts = tsK us := by injection h
  exact map_inj (f := fun t : Nat => NestedKey.num (t : Nat)) (fun a b e => by injection e with e; omega) h
def seenK (l : List (List Nat)) : List (NestedKey × PD) := l.map fun ts => (.tup (tsK ts), .bool true)
theorem seenK_lk (l : List (List Nat)) (ts : List Nat) : (lk (seenK l) (.tup (tsK ts))).isSome = decide (ts ∈ l) := by
  induction l with
  | nil => rfl
  | cons u l ih =>
    by_cases e : u = ts
    · subst e; simp [seenK, lk]
    · have e1 : ¬ (NestedKey.tup (tsK u) = NestedKey.tup (tsK ts)) := fun z => e (tsK_inj z)
      have e2 : ¬ ts = u := fun z => e z.symm
      simp only [seenK, lk, List.map_cons, List.find?_cons, e1, decide_false, List.mem_cons, e2, false_or] at ih ⊢
      exact ih
theorem seenK_pt {l : List (List Nat)} {ts : List Nat} (h : ts ∉ l) : pt (seenK l) (.tup (tsK ts)) (.bool true) = seenK (l ++ [ts]) := by
  have h2 : ((seenK l).any fun kv => decide (kv.1 = NestedKey.tup (tsK ts))) = false := by
    rw [List.any_eq_false]
    intro p hp
    obtain ⟨u, hu, rfl⟩ := List.mem_map.mp hp
    simp only [decide_eq_true_eq]
    intro z
    exact h (tsK_inj z ▸ hu)
  unfold pt
  rw [h2]
  simp [seenK]
theorem dp_turns (ts : List Nat) : (PyData.tuple (ts.map natD)).depth ≤ 64 := by
  have := depth_map (f := natD) (n := 1) (l := ts) (fun x => by simp [natD, PyData.depth])
  simp only [PyData.depth]; omega
theorem eqv_turns (ts us : List Nat) : PyData.eqv (.tuple (ts.map natD)) (.tuple (us.map natD)) = decide (ts = us) := eqv_embT (f := natD) (fun _ => rfl) (fun a b h => by simp only [natD, PyData.int.injEq] at h; omega) ts us
theorem ins_getD {w : Web} {k : Nat} (h : k < w.ins.length) : w.ins[k]? = some (w.ins.getD k ⟨true, 0⟩) := by rw [List.getD_eq_getElem?_getD, List.getElem?_eq_getElem h]; rfl
def natO : Option Nat → PD
  | none => .none
  | some m => natD m
/-- web, turns and input asked for in their order -/
def needs3A (K : Fr) (x y z : PD) (r : Rs) (P : Web → List Nat → Nat → Prop) : Prop := (badD x ∧ r = .no (.ref (He.ga K "BadWeb"))) ∨ ∃ w, x = webD w ∧ IsWeb w ∧ ((badT w y ∧ r = .no (.ref (He.ga K "BadTurns"))) ∨ ∃ ts : List Nat, y = .tuple (ts.map natD) ∧ TurnsOk w ts ∧ ((isCount z 0 ((w.ins.length : Nat) - 1 : Int) = false ∧ r = .no (.ref (He.ga K "BadNumber"))) ∨ ∃ k, z = natD k ∧ P w ts k))
def R_first_again (K : Fr) : List PD → Rs → Prop := fun ds r => ∃ x y z, ds = [x, y, z] ∧ needs3A K x y z r fun w ts k => ∃ (g : Goal) (ro : Option Nat) (M : Nat), w.ins[k]? = some g ∧ RunA w g ts ro M ∧ r = .ok (natO ro)
theorem len_first_again {K : Fr} {ds : List PD} {r : Rs} : R_first_again K ds r → ds.length = 3 := by rintro ⟨_, _, _, rfl, _⟩; rfl
theorem rel_first_again {K : Fr} {w : Web} {ts : List Nat} {k : Nat} {g : Goal} {ro : Option Nat} {M : Nat} (h : IsWeb w) (t : TurnsOk w ts) (hk : w.ins[k]? = some g) (a : RunA w g ts ro M) : R_first_again K [webD w, .tuple (ts.map natD), natD k] (.ok (natO ro)) :=
  ⟨_, _, _, rfl, .inr ⟨w, rfl, h, .inr ⟨ts, rfl, t, .inr ⟨k, rfl, g, ro, M, hk, a, rfl⟩⟩⟩⟩
theorem rel_way_of {w : Web} {ts : List Nat} {k : Nat} {g : Goal} (h : IsWeb w) (t : TurnsOk w ts) (hk : w.ins[k]? = some g) : ∃ f : List Nat, R_way_of [webD w, .tuple (ts.map natD), natD k] (.tuple [.list (f.map natD), natD (nxO w g ts), .tuple ((nxT w g ts).map natD)]) := by
  obtain ⟨f, h1, h2, _⟩ := nx_way h t (goal_mem_ins (List.mem_of_getElem? hk))
  exact ⟨f, w, ts, k, g, f, _, _, h, t, hk, h1, h2, rfl, rfl⟩
theorem sc_first_again : FnScope ["web", "turns", "number", "now", "seen"] ["web", "turns", "number"] (defScope (topS 33)) := ⟨rfl, rfl, rfl, by decide +kernel, rfl, by decide +kernel, by decide +kernel⟩
theorem bi_first_again {K : Fr} {mg : Str → Option Value} (G : Tx K mg) : Binds K G.fd_first_again ["web", "turns", "number"] [] := G.fn_first_again.bindsN fun _ _ _ _ _ _ us hl => match us, hl with | [_, _, _], _ => rfl
theorem ok_first_again {P : Program} {w : World} {K : Fr} {mg : Str → Option Value} {base : Heap} {T : Tb} (G : Tx K mg) : FnOk P w K mg base (L2N.CX P w) 6 (He.ga K "first_again") G.fd_first_again ["web", "turns", "number"] (spX T (R_first_again K)) := by
  have nd := sc_first_again.nd
  refine fn_okX G.fn_first_again sc_first_again (fun ds d h => by have h' := len_first_again h; rw [h']; decide) fun ds d h cd A outer s H E hr => ?_
  have po := passes_of (X := bodyXX P w K mg base ["web", "turns", "number", "now", "seen"] "first_again" (defScope (topS 33)) (He.ga K "first_again") cd A outer s H E) rfl
  have tk := L2N.takes_of (X := bodyXX P w K mg base ["web", "turns", "number", "now", "seen"] "first_again" (defScope (topS 33)) (He.ga K "first_again") cd A outer s H E) rfl rfl rfl rfl
  obtain ⟨x, y, z, rfl, hd⟩ := h
  dsimp only [enter]
  rcases hd with ⟨hb, rfl⟩ | ⟨v, rfl, hw, hd⟩
  · exact (dss_cons (fun _ => False) (ds_exprX (dx_call (ok_need_web G) (hr.mono (by decide)) G.g_need_web G.fn_need_web.kp (bi_need_web G) (L2N.passes_call tk fun _ _ _ _ h => h) (da_cons (de_nm 0) da_nil) (rel_need_web_bad hb)) (fun d e => by cases e) (fun c e => by cases e; rfl) rfl) (fun _ h => h.elim))
  have hp := hw.parts.prs
  refine dss_then (ds_expr (de_callX (ok_need_web G) (hr.mono (by decide)) G.g_need_web G.fn_need_web.kp (bi_need_web G) (da_cons (de_nm 0) da_nil) (rel_need_web hw)) rfl) ?_
  rcases hd with ⟨hb, rfl⟩ | ⟨ts, rfl, ht, hd⟩
  · exact (dss_cons (fun _ => False) (ds_exprX (dx_call (ok_need_turns G) (hr.mono (by decide)) G.g_need_turns G.fn_need_turns.kp (bi_need_turns G) (L2N.passes_call tk fun _ _ _ _ h => h) (da_cons (de_nm 0) (da_cons (de_nm 1) da_nil)) (rel_need_turns_bad hb)) (fun d e => by cases e) (fun c e => by cases e; rfl) rfl) (fun _ h => h.elim))
  refine dss_then (ds_expr (de_callX (ok_need_turns G) (hr.mono (by decide)) G.g_need_turns G.fn_need_turns.kp (bi_need_turns G) (da_cons (de_nm 0) (da_cons (de_nm 1) da_nil)) (rel_need_turns ht (by omega))) rfl) ?_
  rcases hd with ⟨hb, rfl⟩ | ⟨k, rfl, g, ro, M, hk, ra, rfl⟩
  · exact (dss_cons (fun _ => False) (ds_exprX (dx_call (ok_need_input G) (hr.mono (by decide)) G.g_need_input G.fn_need_input.kp (bi_need_input G) (L2N.passes_call tk fun _ _ _ _ h => h) (da_cons (de_nm 0) (da_cons (de_nm 2) da_nil)) (rel_need_input_bad hb)) (fun d e => by cases e) (fun c e => by cases e; rfl) rfl) (fun _ h => h.elim))
  have hg := goal_mem_ins (List.mem_of_getElem? hk)
  have hkl : k < v.ins.length := (List.getElem?_eq_some_iff.mp hk).1
  refine dss_then (ds_expr (de_callX (ok_need_input G) (hr.mono (by decide)) G.g_need_input G.fn_need_input.kp (bi_need_input G) (da_cons (de_nm 0) (da_cons (de_nm 2) da_nil)) (rel_need_input hkl)) rfl) ?_
  obtain ⟨f0, hf0⟩ := rel_way_of hw ht hk
  refine dss_then (ds_parV 3 4 (dva_cons (dv_e (de_ix (de_call (ok_way_of G) (hr.mono (by decide)) G.g_way_of G.fn_way_of.kp (bi_way_of G) (da_cons (de_nm 0) (da_cons (de_nm 1) (da_cons (de_nm 2) da_nil))) hf0) de_int (ix_t rfl))) (dva_cons dv_dictN dva_nil)) rfl rfl nd (by decide) (by walk_at "lt") (by walk_at "lt")) ?_
  dsimp only [List.set]
  refine dss_cons (fun _ => ro = none) (ds_while (fun m S' => ∃ i, i + m = M ∧ (ro = none ∨ i < M) ∧ S' = [dat (webD v), dat (.tuple (ts.map natD)), dat (natD k), dat (.tuple ((sq v g ts (i + 1)).map natD)), odN P w (seenK (seenL v g ts i))]) M ⟨0, by omega, ?_, rfl⟩ (fun m _ => decide (m ≠ 0)) ?_ po) ?_
  · cases ro with
    | none => exact .inl rfl
    | some m => exact .inr (by have := ra.fin; omega)
  · rintro m S' ⟨i, him, hin, rfl⟩
    have hq1 := sq_ok hw ht hg (i + 1)
    refine ⟨dt_to (dt_niN (ks := tsK (sq v g ts (i + 1))) 4 (hu8 hr) (de_to (de_nm 3) (tsK_data _)) (tsK_dep _)) ?_, fun hc => ?_, fun hc => ?_⟩
    · rw [seenK_lk]
      by_cases q : m = 0
      · have hi : i = M := by omega
        rcases hin with rfl | hin
        · have := ra.fin.1
          rw [← hi] at this
          simp [q, this]
        · omega
      · have := ra.new i (by omega)
        simp [q, this]
    · have hm : m ≠ 0 := of_decide_eq_true hc
      have hi : i < M := by omega
      have hnew := ra.new i hi
      have hfew := ra.few
      refine dss_then (ds_putN (kvs := seenK (seenL v g ts i)) (ks := tsK (sq v g ts (i + 1))) 4 (hu8 hr) (de_to (de_nm 3) (tsK_data _)) de_bool (tsK_dep _) rfl (by rw [sizeLine_eq]; simp [seenK, seenL]; omega)) ?_
      dsimp only [List.set]
      rw [seenK_pt hnew, ← seenL_succ]
      refine dss_guard (k := decide (sq v g ts (i + 1) = ts)) (dt_to (dt_cmp (de_nm 3) (de_nm 1) (cb_eq (hu100 hr) (Nat.le_trans (Nat.min_le_left _ _) (dp_turns _)))) (eqv_turns _ _)) (fun hk2 => ?_) (fun hk2 => ?_)
      · have e : sq v g ts (i + 1) = ts := of_decide_eq_true hk2
        refine dss_one (ds_ret (de_lenN (kvs := seenK (seenL v g ts (i + 1))) 4 G.b_len) ?_)
        have hM : i + 1 = M := by
          by_cases q : i + 1 < M
          · exact absurd e (ra.no (i + 1) (by omega) q)
          · omega
        cases ro with
        | none => exact absurd e (hM ▸ ra.fin.2 (by omega))
        | some m2 =>
          have := ra.fin.1
          simp [retsX, natO, natD, seenK, seenL, ← this, ← hM]
      · have e : sq v g ts (i + 1) ≠ ts := of_decide_eq_false hk2
        obtain ⟨f1, hf1⟩ := rel_way_of hw hq1 hk
        refine dss_one (ds_asg 3 (de_ix (de_call (ok_way_of G) (hr.mono (by decide)) G.g_way_of G.fn_way_of.kp (bi_way_of G) (da_cons (de_nm 0) (da_cons (de_nm 3) (da_cons (de_nm 2) da_nil))) hf1) de_int (ix_t rfl)) ⟨m - 1, by omega, i + 1, by omega, ?_, rfl⟩ nd)
        rcases hin with h1 | h1
        · exact .inl h1
        · cases ro with
          | none => exact .inl rfl
          | some m2 =>
            have h2 := ra.fin
            by_cases q : i + 1 < M
            · exact .inr q
            · have : i + 1 = m2 := by omega
              exact absurd (this ▸ h2.2.2) e
    · have hm : m = 0 := by simpa using hc
      rcases hin with h1 | h1
      · exact h1
      · omega
  · rintro S' rfl
    exact dss_one (ds_ret de_none rfl)

/-! ### sums of fractions; elimination -/
def sm : Nat → (Nat → Rat) → Rat
  | 0, _ => 0
  | n + 1, f => sm n f + f n
theorem sm_congr {f g : Nat → Rat} : ∀ {n : Nat}, (∀ i, i < n → f i = g i) → sm n f = sm n g
  | 0, _ => rfl
  | n + 1, h => by
    show sm n f + f n = sm n g + g n
    rw [sm_congr fun i hi => h i (by omega), h n (by omega)]
theorem sm_add (f g : Nat → Rat) : ∀ n : Nat, sm n (fun i => f i + g i) = sm n f + sm n g
  | 0 => by show (0 : Rat) = 0 + 0; grind
  | n + 1 => by
    have := sm_add f g n
    simp only [sm, this]; grind
theorem sm_sub (f g : Nat → Rat) : ∀ n : Nat, sm n (fun i => f i - g i) = sm n f - sm n g
  | 0 => by show (0 : Rat) = 0 - 0; grind
  | n + 1 => by
    have := sm_sub f g n
    simp only [sm, this]; grind
theorem sm_mul (c : Rat) (f : Nat → Rat) : ∀ n : Nat, sm n (fun i => c * f i) = c * sm n f
  | 0 => by show (0 : Rat) = c * 0; grind
  | n + 1 => by
    have := sm_mul c f n
    simp only [sm, this]; grind
theorem sm_mul' (c : Rat) (f : Nat → Rat) (n : Nat) : sm n (fun i => f i * c) = sm n f * c := by
  rw [sm_congr (g := fun i => c * f i) fun i _ => by grind, sm_mul]; grind
theorem sm_zero : ∀ n : Nat, sm n (fun _ => 0) = 0
  | 0 => rfl
  | n + 1 => by simp only [sm, sm_zero n]; grind
theorem sm_eq0 {f : Nat → Rat} {n : Nat} (h : ∀ i, i < n → f i = 0) : sm n f = 0 := (sm_congr h).trans (sm_zero n)
theorem sm_le {f g : Nat → Rat} : ∀ {n : Nat}, (∀ i, i < n → f i ≤ g i) → sm n f ≤ sm n g
  | 0, _ => Rat.le_refl
  | n + 1, h => by
    have h1 := sm_le (n := n) fun i hi => h i (by omega)
    have h2 := h n (by omega)
    simp only [sm]; grind
theorem sm_nn {f : Nat → Rat} {n : Nat} (h : ∀ i, i < n → 0 ≤ f i) : 0 ≤ sm n f := by
  have := sm_le (f := fun _ => 0) h
  rwa [sm_zero] at this
theorem sm_pos {f : Nat → Rat} : ∀ {n : Nat}, (∀ i, i < n → 0 ≤ f i) → (∃ i, i < n ∧ 0 < f i) → 0 < sm n f
  | 0, _, ⟨i, hi, _⟩ => by omega
  | n + 1, h, ⟨i, hi, hp⟩ => by
    have hn := h n (by omega)
    have h0 := sm_nn (n := n) fun i hi => h i (by omega)
    simp only [sm]
    by_cases e : i = n
    · subst e; grind
    · have := sm_pos (n := n) (fun i hi => h i (by omega)) ⟨i, by omega, hp⟩
      grind
theorem sm_swap (f : Nat → Nat → Rat) (m : Nat) : ∀ n : Nat, sm n (fun i => sm m (f i)) = sm m (fun j => sm n fun i => f i j)
  | 0 => (sm_zero m).symm
  | n + 1 => by
    simp only [sm]
    rw [sm_swap f m n, ← sm_add]
/-- one term apart -/
theorem sm_one (f : Nat → Rat) {t : Nat} : ∀ {n : Nat}, t < n → sm n f = f t + sm n (fun i => if i = t then 0 else f i)
  | 0, h => by omega
  | n + 1, h => by
    simp only [sm]
    by_cases e : n = t
    · subst e
      rw [if_pos rfl, sm_congr (f := fun i => if i = n then 0 else f i) (g := f) fun i hi => by simp; omega]
      grind
    · rw [if_neg e, sm_one f (show t < n by omega)]; grind
theorem sm_single (f : Nat → Rat) {t n : Nat} (h : t < n) (z : ∀ i, i < n → i ≠ t → f i = 0) : sm n f = f t := by
  rw [sm_one f h, sm_eq0 fun i hi => by
    split
    · rfl
    · rename_i q; exact z i hi q]
  grind
abbrev Mx := Nat → Nat → Rat
/-- one step of the elimination, at t -/
def elimF (t : Nat) (M : Mx) : Mx := fun i j => if i = t then M t j / M t t else M i j - M i t * (M t j / M t t)
def elimN (M : Mx) : Nat → Mx
  | 0 => M
  | t + 1 => elimF t (elimN M t)
/-- x is what the rows of M, their last numbers behind, come to -/
def Sol (n : Nat) (M : Mx) (x : Nat → Rat) : Prop := ∀ i, i < n → sm n (fun j => M i j * x j) = M i n
theorem Sol.elim {n t : Nat} {M : Mx} {x : Nat → Rat} (ht : t < n) (hp : M t t ≠ 0) : Sol n (elimF t M) x ↔ Sol n M x := by
  have row : ∀ i, i ≠ t → sm n (fun j => elimF t M i j * x j) = sm n (fun j => M i j * x j) - M i t / M t t * sm n (fun j => M t j * x j) := fun i hi => by
    rw [← sm_mul, ← sm_sub]
    refine sm_congr fun j _ => ?_
    simp only [elimF, if_neg hi]; grind
  have rowt : sm n (fun j => elimF t M t j * x j) = sm n (fun j => M t j * x j) / M t t := by
    rw [show sm n (fun j => M t j * x j) / M t t = (M t t)⁻¹ * sm n (fun j => M t j * x j) by grind, ← sm_mul]
    refine sm_congr fun j _ => ?_
    simp only [elimF, if_pos]; grind
  have et : elimF t M t n = M t n / M t t := by simp [elimF]
  have ei : ∀ i, i ≠ t → elimF t M i n = M i n - M i t * (M t n / M t t) := fun i hi => by simp [elimF, hi]
  constructor
  · intro h
    have h0 := h t ht
    rw [rowt, et] at h0
    have h1 : sm n (fun j => M t j * x j) = M t n := by grind
    intro i hi
    by_cases e : i = t
    · subst e; exact h1
    · have := h i hi
      rw [row i e, ei i e, h1] at this
      grind
  · intro h i hi
    by_cases e : i = t
    · subst e
      rw [rowt, et, h i hi]
    · rw [row i e, ei i e, h t ht, h i hi]; grind
/-- columns left of t are done -/
def DoneC (n t : Nat) (M : Mx) : Prop := ∀ i j, i < n → j < t → M i j = if i = j then 1 else 0
theorem DoneC.elim {n t : Nat} {M : Mx} (h : DoneC n t M) (ht : t < n) (hp : M t t ≠ 0) : DoneC n (t + 1) (elimF t M) := fun i j hi hj => by
  unfold elimF
  by_cases e : j = t
  · subst e
    by_cases e2 : i = j
    · subst e2; rw [if_pos rfl, if_pos rfl]; grind
    · rw [if_neg e2, if_neg e2]; grind
  · have hj2 : j < t := by omega
    have z : M t j = 0 := by rw [h t j ht hj2, if_neg (by omega)]
    have hij := h i j hi hj2
    by_cases e2 : i = t
    · subst e2; rw [if_pos rfl, z, if_neg (by omega)]; grind
    · rw [if_neg e2, z, hij]; grind
/-- from t on: nothing above 0 beside the diagonal, that at most 1, columns, weighed by v, above 0 -/
structure Gd (n : Nat) (v : Nat → Rat) (t : Nat) (M : Mx) : Prop where
  off : ∀ i j, t ≤ i → i < n → t ≤ j → j < n → i ≠ j → M i j ≤ 0
  dg : ∀ j, t ≤ j → j < n → M j j ≤ 1
  col : ∀ j, t ≤ j → j < n → 0 < sm n (fun i => if t ≤ i then v i * M i j else 0)
section
variable {n t : Nat} {v : Nat → Rat} {M : Mx}
theorem Gd.piv (h : Gd n v t M) (hv : ∀ i, i < n → 0 < v i) (ht : t < n) : 0 < M t t := by
  have h1 := h.col t (Nat.le_refl _) ht
  rw [sm_one _ ht, if_pos (Nat.le_refl _)] at h1
  have h2 : sm n (fun i => if i = t then 0 else if t ≤ i then v i * M i t else 0) ≤ 0 := by
    refine Rat.le_trans (sm_le (g := fun _ => 0) fun i hi => ?_) (by rw [sm_zero]; exact Rat.le_refl)
    split
    · exact Rat.le_refl
    · split
      · rename_i q1 q2
        have a := h.off i t q2 hi (Nat.le_refl _) ht q1
        have b := hv i hi
        have := Rat.mul_le_mul_of_nonneg_left a (Rat.le_of_lt b)
        grind
      · exact Rat.le_refl
  have h3 : 0 < v t * M t t := by grind
  exact (Rat.mul_pos_iff_of_pos_left (hv t ht)).mp h3
theorem Gd.elim (h : Gd n v t M) (hv : ∀ i, i < n → 0 < v i) (ht : t < n) : Gd n v (t + 1) (elimF t M) := by
  have hp := h.piv hv ht
  have ip := Rat.inv_pos.mpr hp
  have hpn : M t t ≠ 0 := fun e => by rw [e] at hp; exact Rat.lt_irrefl hp
  have rt : ∀ j, t + 1 ≤ j → j < n → M t j ≤ 0 := fun j h1 h2 => h.off t j (Nat.le_refl _) ht (by omega) h2 (by omega)
  have ct : ∀ i, t + 1 ≤ i → i < n → M i t ≤ 0 := fun i h1 h2 => h.off i t (by omega) h2 (Nat.le_refl _) ht (by omega)
  have pr : ∀ i j, t + 1 ≤ i → i < n → t + 1 ≤ j → j < n → 0 ≤ M i t * (M t j / M t t) := fun i j h1 h2 h3 h4 => by
    have a := ct i h1 h2
    have b := rt j h3 h4
    have : 0 ≤ (- M i t) * (- M t j) := Rat.mul_nonneg (by grind) (by grind)
    have := Rat.mul_nonneg this (Rat.le_of_lt ip)
    grind
  refine ⟨fun i j h1 h2 h3 h4 h5 => ?_, fun j h1 h2 => ?_, fun j h1 h2 => ?_⟩
  · simp only [elimF, if_neg (show i ≠ t by omega)]
    have := pr i j h1 h2 h3 h4
    have := h.off i j (by omega) h2 (by omega) h4 h5
    grind
  · simp only [elimF, if_neg (show j ≠ t by omega)]
    have := pr j j h1 h2 h1 h2
    have := h.dg j (by omega) h2
    grind
  · have hc := h.col j (by omega) h2
    have hct := h.col t (Nat.le_refl _) ht
    rw [sm_one _ ht, if_pos (Nat.le_refl _)] at hc hct
    have e : sm n (fun i => if t + 1 ≤ i then v i * elimF t M i j else 0) = sm n (fun i => if i = t then 0 else if t ≤ i then v i * M i j else 0) - (M t j / M t t) * sm n (fun i => if i = t then 0 else if t ≤ i then v i * M i t else 0) := by
      rw [← sm_mul, ← sm_sub]
      refine sm_congr fun i hi => ?_
      by_cases q : i = t
      · subst q
        rw [if_neg (by omega), if_pos rfl, if_pos rfl]; grind
      · rw [if_neg q, if_neg q]
        by_cases q2 : t ≤ i
        · rw [if_pos q2, if_pos q2, if_pos (show t + 1 ≤ i by omega)]
          simp only [elimF, if_neg q]; grind
        · rw [if_neg q2, if_neg q2, if_neg (show ¬ t + 1 ≤ i by omega)]; grind
    rw [e]
    generalize sm n (fun i => if i = t then 0 else if t ≤ i then v i * M i j else 0) = A at *
    generalize sm n (fun i => if i = t then 0 else if t ≤ i then v i * M i t else 0) = B at *
    have r := rt j h1 h2
    have hB : - B / M t t < v t := by
      rw [Rat.div_lt_iff hp]; grind
    have k : 0 ≤ (- M t j) * (v t - - B / M t t) := Rat.mul_nonneg (by grind) (by grind)
    grind
end
theorem Gd.all {n : Nat} {v : Nat → Rat} {M : Mx} (h : Gd n v 0 M) (hv : ∀ i, i < n → 0 < v i) : ∀ t, t ≤ n → Gd n v t (elimN M t)
  | 0, _ => h
  | t + 1, ht => (h.all hv t (by omega)).elim hv (by omega)
theorem Gd.pivs {n : Nat} {v : Nat → Rat} {M : Mx} (h : Gd n v 0 M) (hv : ∀ i, i < n → 0 < v i) {t : Nat} (ht : t < n) : 0 < elimN M t t t ∧ elimN M t t t ≤ 1 := ⟨(h.all hv t (by omega)).piv hv ht, (h.all hv t (by omega)).dg t (Nat.le_refl _) ht⟩
theorem Gd.pivn {n : Nat} {v : Nat → Rat} {M : Mx} (h : Gd n v 0 M) (hv : ∀ i, i < n → 0 < v i) {t : Nat} (ht : t < n) : elimN M t t t ≠ 0 := fun e => by
  have := (h.pivs hv ht).1
  rw [e] at this; exact Rat.lt_irrefl this
theorem Gd.done {n : Nat} {v : Nat → Rat} {M : Mx} (h : Gd n v 0 M) (hv : ∀ i, i < n → 0 < v i) : ∀ t, t ≤ n → DoneC n t (elimN M t)
  | 0, _ => fun i j _ hj => by omega
  | t + 1, ht => (h.done hv t (by omega)).elim (by omega) (h.pivn hv (by omega))
theorem Gd.same {n : Nat} {v : Nat → Rat} {M : Mx} {x : Nat → Rat} (h : Gd n v 0 M) (hv : ∀ i, i < n → 0 < v i) : ∀ t, t ≤ n → (Sol n (elimN M t) x ↔ Sol n M x)
  | 0, _ => Iff.rfl
  | t + 1, ht => (Sol.elim (by omega) (h.pivn hv (by omega))).trans (h.same hv t (by omega))
/-- what the elimination comes to -/
def solX (n : Nat) (M : Mx) (i : Nat) : Rat := elimN M n i n
theorem Gd.sol {n : Nat} {v : Nat → Rat} {M : Mx} (h : Gd n v 0 M) (hv : ∀ i, i < n → 0 < v i) (x : Nat → Rat) : Sol n M x ↔ ∀ i, i < n → x i = solX n M i := by
  rw [← h.same hv n (Nat.le_refl _)]
  have d := h.done hv n (Nat.le_refl _)
  have e : ∀ i, i < n → sm n (fun j => elimN M n i j * x j) = x i := fun i hi => by
    rw [sm_single _ hi fun j hj q => by rw [d i j hi hj, if_neg (by omega)]; grind, d i i hi hi, if_pos rfl]; grind
  constructor
  · intro hs i hi
    rw [← e i hi]; exact hs i hi
  · intro hs i hi
    rw [e i hi]; exact hs i hi
theorem Gd.solves {n : Nat} {v : Nat → Rat} {M : Mx} (h : Gd n v 0 M) (hv : ∀ i, i < n → 0 < v i) : Sol n M (solX n M) := (h.sol hv _).mpr fun _ _ => rfl
/-- what comes to nothing below 0 is nowhere below 0 -/
theorem Gd.nn {n : Nat} {v : Nat → Rat} {M : Mx} (h : Gd n v 0 M) (hv : ∀ i, i < n → 0 < v i) {y : Nat → Rat} (hy : ∀ i, i < n → 0 ≤ sm n (fun j => M i j * y j)) : ∀ i, i < n → 0 ≤ y i := by
  intro i0 hi0
  refine Classical.byContradiction fun hneg => ?_
  have hneg : y i0 < 0 := Rat.not_le.mp hneg
  have h1 : 0 ≤ sm n (fun i => if y i < 0 then v i * sm n (fun j => M i j * y j) else 0) := sm_nn fun i hi => by
    split
    · exact Rat.mul_nonneg (Rat.le_of_lt (hv i hi)) (hy i hi)
    · exact Rat.le_refl
  have e : sm n (fun i => if y i < 0 then v i * sm n (fun j => M i j * y j) else 0) = sm n (fun j => y j * sm n (fun i => if y i < 0 then v i * M i j else 0)) := by
    rw [sm_congr (g := fun i => sm n (fun j => if y i < 0 then v i * (M i j * y j) else 0)) fun i hi => by
      split
      · rw [sm_mul]
      · rw [sm_zero], sm_swap]
    refine sm_congr fun j hj => ?_
    rw [← sm_mul]
    refine sm_congr fun i hi => ?_
    split <;> grind
  rw [e] at h1
  have h2 : 0 < sm n (fun j => -(y j * sm n (fun i => if y i < 0 then v i * M i j else 0))) := by
    have key : ∀ j, j < n → 0 ≤ -(y j * sm n (fun i => if y i < 0 then v i * M i j else 0)) ∧ (y j < 0 → 0 < -(y j * sm n (fun i => if y i < 0 then v i * M i j else 0))) := fun j hj => by
      by_cases q : y j < 0
      · have c := h.col j (Nat.zero_le _) hj
        have le : sm n (fun i => if 0 ≤ i then v i * M i j else 0) ≤ sm n (fun i => if y i < 0 then v i * M i j else 0) := sm_le fun i hi => by
          rw [if_pos (Nat.zero_le _)]
          split
          · exact Rat.le_refl
          · rename_i q2
            have hij : i ≠ j := fun e => q2 (e ▸ q)
            have a := h.off i j (Nat.zero_le _) hi (Nat.zero_le _) hj hij
            have := Rat.mul_le_mul_of_nonneg_left a (Rat.le_of_lt (hv i hi))
            grind
        have p : 0 < sm n (fun i => if y i < 0 then v i * M i j else 0) := by grind
        have := Rat.mul_pos (show 0 < - y j by grind) p
        exact ⟨by grind, fun _ => by grind⟩
      · have q : 0 ≤ y j := Rat.not_lt.mp q
        have le : sm n (fun i => if y i < 0 then v i * M i j else 0) ≤ 0 := by
          refine Rat.le_trans (sm_le (g := fun _ => 0) fun i hi => ?_) (by rw [sm_zero]; exact Rat.le_refl)
          split
          · rename_i q2
            have hij : i ≠ j := fun e => by rw [e] at q2; grind
            have a := h.off i j (Nat.zero_le _) hi (Nat.zero_le _) hj hij
            have := Rat.mul_le_mul_of_nonneg_left a (Rat.le_of_lt (hv i hi))
            grind
          · exact Rat.le_refl
        have := Rat.mul_nonneg q (show 0 ≤ - sm n (fun i => if y i < 0 then v i * M i j else 0) by grind)
        exact ⟨by grind, fun z => absurd z (Rat.not_lt.mpr q)⟩
    exact sm_pos (fun j hj => (key j hj).1) ⟨i0, hi0, (key i0 hi0).2 hneg⟩
  have h3 : sm n (fun j => -(y j * sm n (fun i => if y i < 0 then v i * M i j else 0))) = - sm n (fun j => y j * sm n (fun i => if y i < 0 then v i * M i j else 0)) := by
    rw [sm_congr (g := fun j => (-1) * (y j * sm n (fun i => if y i < 0 then v i * M i j else 0))) fun j _ => by grind, sm_mul]; grind
  rw [h3] at h2
  grind

/-! ### sizes of fractions -/
theorem rat_mul_nat {q : Rat} {d : Nat} {z : Int} (hd : 0 < d) (h : q * (d : Rat) = (z : Rat)) : q = mkRat z d := by
  rw [Rat.mkRat_eq_div]
  have : (d : Rat) ≠ 0 := fun e => by
    have := Rat.natCast_pos.mpr hd
    rw [e] at this; exact Rat.lt_irrefl this
  rw [← h]; grind
theorem rat_den_le {q : Rat} {d : Nat} {z : Int} (hd : 0 < d) (h : q * (d : Rat) = (z : Rat)) : q.den ≤ d := by
  rw [rat_mul_nat hd h, Rat.den_mkRat, if_neg (by omega)]
  exact Nat.div_le_self _ _
theorem rat_num_le {q : Rat} {d : Nat} {z : Int} (hd : 0 < d) (h : q * (d : Rat) = (z : Rat)) : q.num.natAbs ≤ z.natAbs := by
  rw [rat_mul_nat hd h, Rat.num_mkRat, if_neg (by omega), Int.natAbs_ediv_of_dvd, Int.natAbs_natCast]
  · exact Nat.div_le_self _ _
  · rw [← Int.dvd_natAbs]
    exact Int.ofNat_dvd.mpr (Nat.gcd_dvd_right _ _)
theorem rat_whole {q : Rat} {d : Nat} (h : q.den ∣ d) : ∃ z : Int, q * (d : Rat) = (z : Rat) := by
  obtain ⟨k, rfl⟩ := h
  refine ⟨q.num * k, ?_⟩
  have : (q.den : Rat) ≠ 0 := fun e => by
    have := Rat.natCast_pos.mpr q.den_pos
    rw [e] at this; exact Rat.lt_irrefl this
  have e : q * (q.den : Rat) = (q.num : Rat) := by
    have := Rat.mkRat_self q
    rw [Rat.mkRat_eq_div] at this
    grind
  rw [show ((q.den * k : Nat) : Rat) = (q.den : Rat) * (k : Rat) by exact_mod_cast rfl, ← Rat.mul_assoc, e]
  exact_mod_cast rfl
/-- a row of fractions with one number below, that at most 2^a; above it no more than half of 2^b -/
def DenR (a b n : Nat) (r : Nat → Rat) : Prop := ∃ d : Nat, 0 < d ∧ d ≤ 2 ^ a ∧ ∀ j, j ≤ n → ∃ z : Int, r j * (d : Rat) = (z : Rat) ∧ 2 * z.natAbs ≤ 2 ^ b
def Den (a b n : Nat) (M : Mx) : Prop := ∀ i, i < n → DenR a b n (M i)
theorem DenR.den {a b n : Nat} {r : Nat → Rat} (h : DenR a b n r) {j : Nat} (hj : j ≤ n) : (r j).den ≤ 2 ^ a := by
  obtain ⟨d, h1, h2, h3⟩ := h
  obtain ⟨z, h4, _⟩ := h3 j hj
  exact Nat.le_trans (rat_den_le h1 h4) h2
theorem DenR.num {a b n : Nat} {r : Nat → Rat} (h : DenR a b n r) {j : Nat} (hj : j ≤ n) : (r j).num.natAbs < 2 ^ b := by
  obtain ⟨d, h1, h2, h3⟩ := h
  obtain ⟨z, h4, h5⟩ := h3 j hj
  have := rat_num_le h1 h4
  have := Nat.two_pow_pos b
  omega
theorem natAbs_mul_le {x y : Int} {b : Nat} (h1 : 2 * x.natAbs ≤ 2 ^ b) (h2 : 2 * y.natAbs ≤ 2 ^ b) : 4 * (x * y).natAbs ≤ 2 ^ (2 * b) := by
  rw [Int.natAbs_mul, Nat.two_mul b, Nat.pow_add]
  have := Nat.mul_le_mul h1 h2
  rw [show 4 * (x.natAbs * y.natAbs) = 2 * x.natAbs * (2 * y.natAbs) by grind]
  exact this
theorem cast_eq {x y : Int} (h : (x : Rat) = (y : Rat)) : x = y := by exact_mod_cast h
theorem Den.elim {a b n t : Nat} {M : Mx} (h : Den a b n M) (ht : t < n) (hp : 0 < M t t) (hp1 : M t t ≤ 1) : Den (2 * a) (2 * b) n (elimF t M) := by
  obtain ⟨dt, t1, t2, t3⟩ := h t ht
  obtain ⟨zt, zt1, zt2⟩ := t3 t (by omega)
  have dpos : (0 : Rat) < (dt : Rat) := Rat.natCast_pos.mpr t1
  have zpos : 0 < zt := by
    have := Rat.mul_pos hp dpos
    rw [zt1] at this
    exact Rat.intCast_pos.mp this
  obtain ⟨m, rfl⟩ : ∃ m : Nat, zt = (m : Int) := ⟨zt.toNat, by omega⟩
  have hm : 0 < m := by omega
  have hmd : m ≤ dt := by
    have : (m : Rat) ≤ (dt : Rat) := by
      have := Rat.mul_le_mul_of_nonneg_right hp1 (Rat.le_of_lt dpos)
      rw [zt1] at this
      have e : (((m : Nat) : Int) : Rat) = (m : Rat) := by exact_mod_cast rfl
      rw [e] at this
      grind
    exact_mod_cast this
  have hpn : M t t ≠ 0 := fun e => by rw [e] at hp; exact Rat.lt_irrefl hp
  have zt1' : M t t * (dt : Rat) = (m : Rat) := by rw [zt1]; exact_mod_cast rfl
  have quo : ∀ j, (M t j / M t t) * (m : Rat) = M t j * (dt : Rat) := fun j => by rw [← zt1']; grind
  have e2 : (2 : Nat) ^ (2 * a) = 2 ^ a * 2 ^ a := by rw [Nat.two_mul, Nat.pow_add]
  have e2b : (2 : Nat) ^ (2 * b) = 2 ^ b * 2 ^ b := by rw [Nat.two_mul, Nat.pow_add]
  have pb : 1 ≤ 2 ^ b := Nat.two_pow_pos b
  have hbb : 2 ^ b ≤ 2 ^ (2 * b) := by rw [e2b]; exact Nat.le_mul_of_pos_left _ pb
  intro i hi
  by_cases e : i = t
  · subst e
    refine ⟨m, hm, ?_, fun j hj => ?_⟩
    · have : 2 ^ a ≤ 2 ^ (2 * a) := by rw [e2]; exact Nat.le_mul_of_pos_left _ (Nat.two_pow_pos a)
      omega
    · obtain ⟨z, z1, z2⟩ := t3 j hj
      refine ⟨z, ?_, by omega⟩
      simp only [elimF, if_true]
      rw [quo, z1]
  · obtain ⟨d, d1, d2, d3⟩ := h i hi
    obtain ⟨zi, zi1, zi2⟩ := d3 t (by omega)
    refine ⟨d * m, Nat.mul_pos d1 hm, ?_, fun j hj => ?_⟩
    · rw [e2]; exact Nat.mul_le_mul d2 (by omega)
    · obtain ⟨z, z1, z2⟩ := d3 j hj
      obtain ⟨y, y1, y2⟩ := t3 j hj
      refine ⟨z * (m : Int) - zi * y, ?_, ?_⟩
      · simp only [elimF, if_neg e]
        have c1 : ((d * m : Nat) : Rat) = (d : Rat) * (m : Rat) := by exact_mod_cast rfl
        have c2 : ((z * (m : Int) - zi * y : Int) : Rat) = (z : Rat) * (m : Rat) - (zi : Rat) * (y : Rat) := by exact_mod_cast rfl
        rw [c1, c2, ← z1, ← zi1, ← y1, ← quo j]
        grind
      · have a1 := natAbs_mul_le (x := z) (y := (m : Int)) z2 (by simpa using zt2)
        have a2 := natAbs_mul_le zi2 y2
        omega
theorem Den.all {a b n : Nat} {v : Nat → Rat} {M : Mx} (g : Gd n v 0 M) (hv : ∀ i, i < n → 0 < v i) (h : Den a b n M) : ∀ t, t ≤ n → Den (a * 2 ^ t) (b * 2 ^ t) n (elimN M t)
  | 0, _ => by rw [Nat.pow_zero, Nat.mul_one, Nat.mul_one]; exact h
  | t + 1, ht => by
    have ih := Den.all g hv h t (by omega)
    have p := g.pivs hv (show t < n by omega)
    have := ih.elim (by omega) p.1 p.2
    rw [show 2 * (a * 2 ^ t) = a * 2 ^ (t + 1) by rw [Nat.pow_succ]; grind, show 2 * (b * 2 ^ t) = b * 2 ^ (t + 1) by rw [Nat.pow_succ]; grind] at this
    exact this
theorem DenR.quot {a b n t : Nat} {M : Mx} (h : DenR a b n (M t)) (ht : t ≤ n) (hp : 0 < M t t) (hp1 : M t t ≤ 1) : DenR a b n (fun j => M t j / M t t) := by
  obtain ⟨dt, t1, t2, t3⟩ := h
  obtain ⟨zt, zt1, zt2⟩ := t3 t ht
  have dpos : (0 : Rat) < (dt : Rat) := Rat.natCast_pos.mpr t1
  have zpos : 0 < zt := by
    have := Rat.mul_pos hp dpos
    rw [zt1] at this
    exact Rat.intCast_pos.mp this
  obtain ⟨m, rfl⟩ : ∃ m : Nat, zt = (m : Int) := ⟨zt.toNat, by omega⟩
  have hmd : m ≤ dt := by
    have : (m : Rat) ≤ (dt : Rat) := by
      have := Rat.mul_le_mul_of_nonneg_right hp1 (Rat.le_of_lt dpos)
      rw [zt1] at this
      have e : (((m : Nat) : Int) : Rat) = (m : Rat) := by exact_mod_cast rfl
      rw [e] at this
      grind
    exact_mod_cast this
  have hpn : M t t ≠ 0 := fun e => by rw [e] at hp; exact Rat.lt_irrefl hp
  have zt1' : M t t * (dt : Rat) = (m : Rat) := by rw [zt1]; exact_mod_cast rfl
  refine ⟨m, by omega, by omega, fun j hj => ?_⟩
  obtain ⟨z, z1, z2⟩ := t3 j hj
  refine ⟨z, ?_, z2⟩
  rw [← z1, ← zt1']; grind
theorem rat_abs_le {q : Rat} (h0 : 0 < q) (h1 : q ≤ 1) : q.num.natAbs ≤ q.den := by
  have h := (Rat.le_iff q 1).mp h1
  simp at h
  have := Rat.num_nonneg.mpr (Rat.le_of_lt h0)
  omega

/-! ### fractions as data -/
def qD (q : Rat) : PD := .tuple [.int q.num, .int (q.den : Nat)]
theorem q_den (p : Rat) : p * (p.den : Rat) = (p.num : Rat) := by
  have := Rat.mkRat_self p
  rw [Rat.mkRat_eq_div] at this
  have : (p.den : Rat) ≠ 0 := fun e => by
    have := Rat.natCast_pos.mpr p.den_pos
    rw [e] at this; exact Rat.lt_irrefl this
  grind
theorem cast_nat (n : Nat) : (((n : Nat) : Int) : Rat) = (n : Rat) := by exact_mod_cast rfl
theorem qD_inj {p q : Rat} (h : qD p = qD q) : p = q := by
  simp only [qD, PyData.tuple.injEq, List.cons.injEq, PyData.int.injEq, and_true] at h
  exact Rat.ext h.1 (by omega)
theorem noB_q (q : Rat) : noB (qD q) = true := rfl
theorem dp_q (q : Rat) : (qD q).depth ≤ 64 := by simp [qD, PyData.depth, PyData.depthAll]
theorem eqv_q (p q : Rat) : PyData.eqv (qD p) (qD q) = decide (p = q) := eqv_emb noB_q (fun _ _ => qD_inj) p q
/-- a number above below 2^A, below below 2^B -/
structure Sz (A B : Nat) (q : Rat) : Prop where
  num : q.num.natAbs < 2 ^ A
  den : q.den < 2 ^ B
theorem pow_mono {a b : Nat} (h : a ≤ b) : 2 ^ a ≤ 2 ^ b := Nat.pow_le_pow_right (by decide) h
theorem Sz.up {A B A' B' : Nat} {q : Rat} (h : Sz A B q) (h1 : A ≤ A') (h2 : B ≤ B') : Sz A' B' q := ⟨Nat.lt_of_lt_of_le h.num (pow_mono h1), Nat.lt_of_lt_of_le h.den (pow_mono h2)⟩
theorem lt_mul {x y : Int} {a b : Nat} (hx : x.natAbs < 2 ^ a) (hy : y.natAbs < 2 ^ b) : (x * y).natAbs < 2 ^ (a + b) := wide_lt hx hy
theorem lt_add {x y : Int} {a : Nat} (hx : x.natAbs < 2 ^ a) (hy : y.natAbs < 2 ^ a) : (x + y).natAbs < 2 ^ (a + 1) := by
  rw [Nat.pow_succ]; omega
theorem lt_sub {x y : Int} {a : Nat} (hx : x.natAbs < 2 ^ a) (hy : y.natAbs < 2 ^ a) : (x - y).natAbs < 2 ^ (a + 1) := by
  rw [Nat.pow_succ]; omega
theorem mulW {x y : Int} {a b : Nat} (hx : x.natAbs < 2 ^ a) (hy : y.natAbs < 2 ^ b) (h : a + b ≤ 900000) : CMulW x y :=
  wide_mul (a := a + 1) (b := b + 1) (Nat.lt_of_lt_of_le hx (pow_mono (by omega))) (Nat.lt_of_lt_of_le hy (pow_mono (by omega))) (by omega) (by omega) (by omega)
theorem divW {x j : Int} {b : Nat} (h : 0 < j) (hb : j.natAbs < 2 ^ b) (h9 : b ≤ 9000) : CDivW x j := by
  by_cases q : b = 0
  · subst q; simp at hb; omega
  · exact wide_div h hb (by omega) h9
theorem natAbs_nat (n : Nat) : ((n : Int)).natAbs = n := by omega
/-! ### divisor -/
def R_divisor : List PD → PD → Prop := fun ds r => ∃ (a b : Int) (A B : Nat), a.natAbs < 2 ^ A ∧ b.natAbs < 2 ^ B ∧ B ≤ 9000 ∧ B ≤ A ∧ A ≤ 400000 ∧ ds = [.int a, .int b] ∧ r = .int (Nat.gcd a.natAbs b.natAbs : Nat)
theorem len_divisor {ds : List PD} {r : PD} : R_divisor ds r → ds.length = 2 := by rintro ⟨_, _, _, _, _, _, _, _, _, rfl, _⟩; rfl
theorem abs_if (a : Int) : (if a < 0 then -a else a) = ((a.natAbs : Nat) : Int) := by split <;> omega
theorem sub_div (x y : Nat) : (x : Int) - (x : Int) / (y : Int) * (y : Int) = ((x % y : Nat) : Int) := by
  have := Int.mul_ediv_add_emod (x : Int) (y : Int)
  rw [Int.mul_comm] at this
  have e : ((x % y : Nat) : Int) = (x : Int) % (y : Int) := by simp
  omega
theorem gcd_step (x y : Nat) : Nat.gcd y (x % y) = Nat.gcd x y := by rw [Nat.gcd_comm x y, Nat.gcd_rec y x, Nat.gcd_comm]
theorem int0 (y : Nat) : (!decide ((y : Int) = 0)) = decide (y ≠ 0) := by
  by_cases h : y = 0
  · subst h; rfl
  · simp [h]
theorem sc_divisor : FnScope ["one", "other"] ["one", "other"] (defScope (topS 7)) := ⟨rfl, rfl, rfl, by decide +kernel, rfl, by decide +kernel, by decide +kernel⟩
theorem bi_divisor {K : Fr} {mg : Str → Option Value} (G : Tx K mg) : Binds K G.fd_divisor ["one", "other"] [] := G.fn_divisor.bindsN fun _ _ _ _ _ _ us hl => match us, hl with | [_, _], _ => rfl
theorem ok_divisor {P : Program} {w : World} {K : Fr} {mg : Str → Option Value} {base : Heap} {T : Tb} (G : Tx K mg) : FnOk P w K mg base CX0 1 (He.ga K "divisor") G.fd_divisor ["one", "other"] (spF T R_divisor) := by
  have nd := sc_divisor.nd
  refine fn_ok G.fn_divisor sc_divisor (fun ds d h => by have h' := len_divisor h; rw [h']; decide) fun ds d h cd A outer s H E hr => ?_
  obtain ⟨a, b, A, B, ha, hb, hB, hBA, hA, rfl, rfl⟩ := h
  dsimp only [enter]
  refine dss_then (ds_parV 0 1 (dva_cons (dv_e (de_abs (G.b_abs) (de_nm 0))) (dva_cons (dv_e (de_abs (G.b_abs) (de_nm 1))) dva_nil)) (by rfl) rfl nd (by decide) (by walk_at "lt") (by walk_at "lt")) ?_
  dsimp only [List.set]
  rw [abs_if, abs_if]
  refine dss_cons (fun S' => S' = [dat (.int ((Nat.gcd a.natAbs b.natAbs : Nat) : Int)), dat (.int ((0 : Nat) : Int))]) (ds_while (fun m S' => ∃ x y : Nat, x < 2 ^ A ∧ y < 2 ^ B ∧ Nat.gcd x y = Nat.gcd a.natAbs b.natAbs ∧ y = m ∧ S' = [dat (.int (x : Nat)), dat (.int (y : Nat))]) b.natAbs ⟨a.natAbs, b.natAbs, ha, hb, rfl, rfl, rfl⟩ (fun m _ => decide (m ≠ 0)) ?_ PassesOwn.never) ?_
  · rintro m S' ⟨x, y, hx, hy, hg, rfl, rfl⟩
    refine ⟨dt_to (dt_cmp (de_nm 1) de_int (by walk_at "cb.NotEq")) (int0 _), fun hc => ?_, fun hc => ?_⟩
    · have hy0 : y ≠ 0 := of_decide_eq_true hc
      have hdv : CDivW (x : Int) (y : Int) := divW (by omega) (by rw [natAbs_nat]; exact hy) hB
      have hq : ((x : Int) / (y : Int)).natAbs < 2 ^ A := by
        have : (x : Int) / (y : Int) = ((x / y : Nat) : Int) := by simp
        rw [this, natAbs_nat]
        exact Nat.lt_of_le_of_lt (Nat.div_le_self _ _) hx
      have hmw : CMulW ((x : Int) / (y : Int)) (y : Int) := mulW hq (by rw [natAbs_nat]; exact hy) (by omega)
      refine dss_then (ds_parV 0 1 (dva_cons (dv_e (de_nm 1)) (dva_cons (dv_e (de_bin (de_nm 0) (de_bin (de_bin (de_nm 0) (de_nm 1) (ob_divW hdv)) (de_nm 1) (ob_mulW hmw)) ob_sub)) dva_nil)) rfl rfl nd (by decide) (by walk_at "lt") (by walk_at "lt")) ?_
      dsimp only [List.set]
      rw [sub_div]
      have hlt := Nat.mod_lt x (Nat.pos_of_ne_zero hy0)
      exact dss_nil ⟨x % y, hlt, y, x % y, Nat.lt_of_lt_of_le hy (pow_mono hBA), by omega, (gcd_step x y).trans hg, rfl, rfl⟩
    · have hy0 : y = 0 := by simpa using hc
      subst hy0
      rw [Nat.gcd_zero_right] at hg
      rw [hg]
  · rintro _ rfl
    exact dss_one (ds_ret (de_nm 0) rfl)
/-! ### fraction -/
def R_fraction : List PD → PD → Prop := fun ds r => ∃ (a b : Int) (A B : Nat) (x : Rat), 0 < b ∧ a.natAbs < 2 ^ A ∧ b.natAbs < 2 ^ B ∧ B ≤ 9000 ∧ B ≤ A ∧ A ≤ 400000 ∧ x * (b : Rat) = (a : Rat) ∧ ds = [.int a, .int b] ∧ r = qD x
theorem rel_fraction {a b : Int} {A B : Nat} {x : Rat} (h0 : 0 < b) (ha : a.natAbs < 2 ^ A) (hb : b.natAbs < 2 ^ B) (h1 : B ≤ 9000) (h2 : A ≤ 390000) (h : x * (b : Rat) = (a : Rat)) : R_fraction [.int a, .int b] (qD x) :=
  ⟨a, b, A + B, B, x, h0, Nat.lt_of_lt_of_le ha (pow_mono (by omega)), hb, h1, by omega, by omega, h, rfl, rfl⟩
theorem len_fraction {ds : List PD} {r : PD} : R_fraction ds r → ds.length = 2 := by rintro ⟨_, _, _, _, _, _, _, _, _, _, _, _, rfl, _⟩; rfl
theorem least_of {a b : Int} {x : Rat} (h0 : 0 < b) (h : x * (b : Rat) = (a : Rat)) : a / ((Nat.gcd a.natAbs b.natAbs : Nat) : Int) = x.num ∧ b / ((Nat.gcd a.natAbs b.natAbs : Nat) : Int) = (x.den : Nat) := by
  obtain ⟨n, rfl⟩ : ∃ n : Nat, b = (n : Int) := ⟨b.toNat, by omega⟩
  have hx : x = mkRat a n := by
    rw [Rat.mkRat_eq_div]
    have : (n : Rat) ≠ 0 := fun e => by
      have := Rat.natCast_pos.mpr (show 0 < n by omega)
      rw [e] at this; exact Rat.lt_irrefl this
    rw [cast_nat] at h
    rw [← h]; grind
  subst hx
  rw [natAbs_nat, Nat.gcd_comm, Rat.num_mkRat, Rat.den_mkRat, if_neg (by omega), if_neg (by omega)]
  exact ⟨rfl, by simp⟩
theorem sc_fraction : FnScope ["above", "below", "by"] ["above", "below"] (defScope (topS 8)) := ⟨rfl, rfl, rfl, by decide +kernel, rfl, by decide +kernel, by decide +kernel⟩
theorem bi_fraction {K : Fr} {mg : Str → Option Value} (G : Tx K mg) : Binds K G.fd_fraction ["above", "below"] [] := G.fn_fraction.bindsN fun _ _ _ _ _ _ us hl => match us, hl with | [_, _], _ => rfl
theorem ok_fraction {P : Program} {w : World} {K : Fr} {mg : Str → Option Value} {base : Heap} {T : Tb} (G : Tx K mg) : FnOk P w K mg base CX0 2 (He.ga K "fraction") G.fd_fraction ["above", "below"] (spF T R_fraction) := by
  have nd := sc_fraction.nd
  refine fn_ok G.fn_fraction sc_fraction (fun ds d h => by have h' := len_fraction h; rw [h']; decide) fun ds d h cd A outer s H E hr => ?_
  obtain ⟨a, b, A, B, x, h0, ha, hb, hB, hBA, hA, hx, rfl, rfl⟩ := h
  dsimp only [enter]
  have hR : R_divisor [.int a, .int b] (.int (Nat.gcd a.natAbs b.natAbs : Nat)) := ⟨a, b, A, B, ha, hb, hB, hBA, hA, rfl, rfl⟩
  refine dss_then (ds_asg 2 (de_call (ok_divisor G) (hr.mono (by decide)) G.g_divisor G.fn_divisor.kp (bi_divisor G) (da_cons (de_nm 0) (da_cons (de_nm 1) da_nil)) hR) (by rfl) nd) ?_
  dsimp only [List.set]
  have gpos : 0 < Nat.gcd a.natAbs b.natAbs := Nat.gcd_pos_of_pos_right _ (by omega)
  have gle : Nat.gcd a.natAbs b.natAbs ≤ b.natAbs := Nat.gcd_le_right _ (by omega)
  obtain ⟨e1, e2⟩ := least_of h0 hx
  generalize Nat.gcd a.natAbs b.natAbs = g at *
  have d1 : CDivW a (g : Nat) := divW (by omega) (by rw [natAbs_nat]; omega) hB
  have d2 : CDivW b (g : Nat) := divW (by omega) (by rw [natAbs_nat]; omega) hB
  refine dss_one (ds_ret (de_to (de_ite (k := true) (db := .none) (dt_to (dt_cmp (de_nm 1) de_int (by walk_at "cb.Gt")) (by simpa using h0)) (fun _ => de_tup (da_cons (de_bin (de_nm 0) (de_nm 2) (ob_divW d1)) (da_cons (de_bin (de_nm 1) (de_nm 2) (ob_divW d2)) da_nil))) (fun h => by cases h)) ?_) rfl)
  rw [if_pos rfl, e1, e2]; rfl
/-! ### sums, differences, products, quotients -/
def R_plus : List PD → PD → Prop := fun ds r => ∃ (p q : Rat) (A B1 B2 : Nat), Sz A B1 p ∧ Sz A B2 q ∧ A ≤ 100000 ∧ B1 + B2 ≤ 9000 ∧ ds = [qD p, qD q] ∧ r = qD (p + q)
theorem rel_plus {p q : Rat} {A B1 B2 : Nat} (h1 : Sz A B1 p) (h2 : Sz A B2 q) (h3 : A ≤ 100000) (h4 : B1 + B2 ≤ 9000) : R_plus [qD p, qD q] (qD (p + q)) := ⟨p, q, A, B1, B2, h1, h2, h3, h4, rfl, rfl⟩
theorem len_plus {ds : List PD} {r : PD} : R_plus ds r → ds.length = 2 := by rintro ⟨_, _, _, _, _, _, _, _, _, rfl, _⟩; rfl
def R_less : List PD → PD → Prop := fun ds r => ∃ (p q : Rat) (A B1 B2 : Nat), Sz A B1 p ∧ Sz A B2 q ∧ A ≤ 100000 ∧ B1 + B2 ≤ 9000 ∧ ds = [qD p, qD q] ∧ r = qD (p - q)
theorem rel_less {p q : Rat} {A B1 B2 : Nat} (h1 : Sz A B1 p) (h2 : Sz A B2 q) (h3 : A ≤ 100000) (h4 : B1 + B2 ≤ 9000) : R_less [qD p, qD q] (qD (p - q)) := ⟨p, q, A, B1, B2, h1, h2, h3, h4, rfl, rfl⟩
theorem len_less {ds : List PD} {r : PD} : R_less ds r → ds.length = 2 := by rintro ⟨_, _, _, _, _, _, _, _, _, rfl, _⟩; rfl
def R_times : List PD → PD → Prop := fun ds r => ∃ (p q : Rat) (A B1 B2 : Nat), Sz A B1 p ∧ Sz A B2 q ∧ A ≤ 100000 ∧ B1 + B2 ≤ 9000 ∧ ds = [qD p, qD q] ∧ r = qD (p * q)
theorem rel_times {p q : Rat} {A B1 B2 : Nat} (h1 : Sz A B1 p) (h2 : Sz A B2 q) (h3 : A ≤ 100000) (h4 : B1 + B2 ≤ 9000) : R_times [qD p, qD q] (qD (p * q)) := ⟨p, q, A, B1, B2, h1, h2, h3, h4, rfl, rfl⟩
theorem len_times {ds : List PD} {r : PD} : R_times ds r → ds.length = 2 := by rintro ⟨_, _, _, _, _, _, _, _, _, rfl, _⟩; rfl
def R_parted : List PD → PD → Prop := fun ds r => ∃ (p q : Rat) (A B1 B2 : Nat), Sz A B1 p ∧ q.num.natAbs < 2 ^ B2 ∧ q.den < 2 ^ A ∧ 0 < q ∧ A ≤ 100000 ∧ B1 + B2 ≤ 9000 ∧ ds = [qD p, qD q] ∧ r = qD (p / q)
theorem rel_parted {p q : Rat} {A B1 B2 : Nat} (h1 : Sz A B1 p) (h2 : q.num.natAbs < 2 ^ B2) (h5 : q.den < 2 ^ A) (h0 : 0 < q) (h3 : A ≤ 100000) (h4 : B1 + B2 ≤ 9000) : R_parted [qD p, qD q] (qD (p / q)) := ⟨p, q, A, B1, B2, h1, h2, h5, h0, h3, h4, rfl, rfl⟩
theorem len_parted {ds : List PD} {r : PD} : R_parted ds r → ds.length = 2 := by rintro ⟨_, _, _, _, _, _, _, _, _, _, _, rfl, _⟩; rfl
theorem den_abs {B : Nat} {q : Rat} (h : q.den < 2 ^ B) : ((q.den : Nat) : Int).natAbs < 2 ^ B := by rw [natAbs_nat]; exact h
theorem den_int (q : Rat) : (0 : Int) < (q.den : Nat) := by have := q.den_pos; omega
theorem frac_mul {p q : Rat} : (p * q) * (((p.den : Nat) : Int) * ((q.den : Nat) : Int) : Int) = ((p.num * q.num : Int) : Rat) := by
  have := q_den p
  have := q_den q
  simp only [Rat.intCast_mul, cast_nat]
  grind
theorem frac_add {p q : Rat} : (p + q) * (((p.den : Nat) : Int) * ((q.den : Nat) : Int) : Int) = ((p.num * ((q.den : Nat) : Int) + q.num * ((p.den : Nat) : Int) : Int) : Rat) := by
  have := q_den p
  have := q_den q
  simp only [Rat.intCast_mul, Rat.intCast_add, cast_nat]
  grind
theorem frac_sub {p q : Rat} : (p - q) * (((p.den : Nat) : Int) * ((q.den : Nat) : Int) : Int) = ((p.num * ((q.den : Nat) : Int) - q.num * ((p.den : Nat) : Int) : Int) : Rat) := by
  have := q_den p
  have := q_den q
  simp only [Rat.intCast_mul, Rat.intCast_sub, cast_nat]
  grind
theorem frac_div {p q : Rat} (h : 0 < q) : (p / q) * ((((p.den : Nat) : Int) * q.num : Int) : Rat) = ((p.num * ((q.den : Nat) : Int) : Int) : Rat) := by
  have := q_den p
  have := q_den q
  have : q ≠ 0 := fun e => by rw [e] at h; exact Rat.lt_irrefl h
  simp only [Rat.intCast_mul, cast_nat]
  grind
theorem num_pos {q : Rat} (h : 0 < q) : 0 < q.num := by
  have h1 := Rat.mul_pos h (Rat.natCast_pos.mpr q.den_pos)
  rw [q_den] at h1
  exact Rat.intCast_pos.mp h1
theorem sc_plus : FnScope ["one", "other"] ["one", "other"] (defScope (topS 9)) := ⟨rfl, rfl, rfl, by decide +kernel, rfl, by decide +kernel, by decide +kernel⟩
theorem bi_plus {K : Fr} {mg : Str → Option Value} (G : Tx K mg) : Binds K G.fd_plus ["one", "other"] [] := G.fn_plus.bindsN fun _ _ _ _ _ _ us hl => match us, hl with | [_, _], _ => rfl
theorem ok_plus {P : Program} {w : World} {K : Fr} {mg : Str → Option Value} {base : Heap} {T : Tb} (G : Tx K mg) : FnOk P w K mg base CX0 3 (He.ga K "plus") G.fd_plus ["one", "other"] (spF T R_plus) := by
  have nd := sc_plus.nd
  refine fn_ok G.fn_plus sc_plus (fun ds d h => by have h' := len_plus h; rw [h']; decide) fun ds d h cd A outer s H E hr => ?_
  obtain ⟨p, q, A, B1, B2, hp, hq, hA, hB, rfl, rfl⟩ := h
  dsimp only [enter]
  have m1 : CMulW p.num ((q.den : Nat) : Int) := mulW hp.num (den_abs hq.den) (by omega)
  have m2 : CMulW q.num ((p.den : Nat) : Int) := mulW hq.num (den_abs hp.den) (by omega)
  have m3 : CMulW ((p.den : Nat) : Int) ((q.den : Nat) : Int) := mulW (den_abs hp.den) (den_abs hq.den) (by omega)
  have hR : R_fraction [.int (p.num * ((q.den : Nat) : Int) + q.num * ((p.den : Nat) : Int)), .int (((p.den : Nat) : Int) * ((q.den : Nat) : Int))] (qD (p + q)) :=
    rel_fraction (A := A + B1 + B2 + 1) (B := B1 + B2) (Int.mul_pos (den_int p) (den_int q)) (lt_add (a := A + B1 + B2) (Nat.lt_of_lt_of_le (lt_mul hp.num (den_abs hq.den)) (pow_mono (by omega))) (Nat.lt_of_lt_of_le (lt_mul hq.num (den_abs hp.den)) (pow_mono (by omega)))) (lt_mul (den_abs hp.den) (den_abs hq.den)) (by omega) (by omega) frac_add
  exact dss_one (ds_ret (de_call (ok_fraction G) (hr.mono (by decide)) G.g_fraction G.fn_fraction.kp (bi_fraction G) (da_cons (de_bin (de_bin (de_ix (de_nm 0) de_int (ix_t rfl)) (de_ix (de_nm 1) de_int (ix_t rfl)) (ob_mulW m1)) (de_bin (de_ix (de_nm 1) de_int (ix_t rfl)) (de_ix (de_nm 0) de_int (ix_t rfl)) (ob_mulW m2)) ob_add) (da_cons (de_bin (de_ix (de_nm 0) de_int (ix_t rfl)) (de_ix (de_nm 1) de_int (ix_t rfl)) (ob_mulW m3)) da_nil)) hR) rfl)
theorem sc_less : FnScope ["one", "other"] ["one", "other"] (defScope (topS 10)) := ⟨rfl, rfl, rfl, by decide +kernel, rfl, by decide +kernel, by decide +kernel⟩
theorem bi_less {K : Fr} {mg : Str → Option Value} (G : Tx K mg) : Binds K G.fd_less ["one", "other"] [] := G.fn_less.bindsN fun _ _ _ _ _ _ us hl => match us, hl with | [_, _], _ => rfl
theorem ok_less {P : Program} {w : World} {K : Fr} {mg : Str → Option Value} {base : Heap} {T : Tb} (G : Tx K mg) : FnOk P w K mg base CX0 3 (He.ga K "less") G.fd_less ["one", "other"] (spF T R_less) := by
  have nd := sc_less.nd
  refine fn_ok G.fn_less sc_less (fun ds d h => by have h' := len_less h; rw [h']; decide) fun ds d h cd A outer s H E hr => ?_
  obtain ⟨p, q, A, B1, B2, hp, hq, hA, hB, rfl, rfl⟩ := h
  dsimp only [enter]
  have m1 : CMulW p.num ((q.den : Nat) : Int) := mulW hp.num (den_abs hq.den) (by omega)
  have m2 : CMulW q.num ((p.den : Nat) : Int) := mulW hq.num (den_abs hp.den) (by omega)
  have m3 : CMulW ((p.den : Nat) : Int) ((q.den : Nat) : Int) := mulW (den_abs hp.den) (den_abs hq.den) (by omega)
  have hR : R_fraction [.int (p.num * ((q.den : Nat) : Int) - q.num * ((p.den : Nat) : Int)), .int (((p.den : Nat) : Int) * ((q.den : Nat) : Int))] (qD (p - q)) :=
    rel_fraction (A := A + B1 + B2 + 1) (B := B1 + B2) (Int.mul_pos (den_int p) (den_int q)) (lt_sub (a := A + B1 + B2) (Nat.lt_of_lt_of_le (lt_mul hp.num (den_abs hq.den)) (pow_mono (by omega))) (Nat.lt_of_lt_of_le (lt_mul hq.num (den_abs hp.den)) (pow_mono (by omega)))) (lt_mul (den_abs hp.den) (den_abs hq.den)) (by omega) (by omega) frac_sub
  exact dss_one (ds_ret (de_call (ok_fraction G) (hr.mono (by decide)) G.g_fraction G.fn_fraction.kp (bi_fraction G) (da_cons (de_bin (de_bin (de_ix (de_nm 0) de_int (ix_t rfl)) (de_ix (de_nm 1) de_int (ix_t rfl)) (ob_mulW m1)) (de_bin (de_ix (de_nm 1) de_int (ix_t rfl)) (de_ix (de_nm 0) de_int (ix_t rfl)) (ob_mulW m2)) ob_sub) (da_cons (de_bin (de_ix (de_nm 0) de_int (ix_t rfl)) (de_ix (de_nm 1) de_int (ix_t rfl)) (ob_mulW m3)) da_nil)) hR) rfl)
theorem sc_times : FnScope ["one", "other"] ["one", "other"] (defScope (topS 11)) := ⟨rfl, rfl, rfl, by decide +kernel, rfl, by decide +kernel, by decide +kernel⟩
theorem bi_times {K : Fr} {mg : Str → Option Value} (G : Tx K mg) : Binds K G.fd_times ["one", "other"] [] := G.fn_times.bindsN fun _ _ _ _ _ _ us hl => match us, hl with | [_, _], _ => rfl
theorem ok_times {P : Program} {w : World} {K : Fr} {mg : Str → Option Value} {base : Heap} {T : Tb} (G : Tx K mg) : FnOk P w K mg base CX0 3 (He.ga K "times") G.fd_times ["one", "other"] (spF T R_times) := by
  have nd := sc_times.nd
  refine fn_ok G.fn_times sc_times (fun ds d h => by have h' := len_times h; rw [h']; decide) fun ds d h cd A outer s H E hr => ?_
  obtain ⟨p, q, A, B1, B2, hp, hq, hA, hB, rfl, rfl⟩ := h
  dsimp only [enter]
  have m1 : CMulW p.num q.num := mulW hp.num hq.num (by omega)
  have m3 : CMulW ((p.den : Nat) : Int) ((q.den : Nat) : Int) := mulW (den_abs hp.den) (den_abs hq.den) (by omega)
  have hR : R_fraction [.int (p.num * q.num), .int (((p.den : Nat) : Int) * ((q.den : Nat) : Int))] (qD (p * q)) :=
    rel_fraction (A := A + A) (B := B1 + B2) (Int.mul_pos (den_int p) (den_int q)) (lt_mul hp.num hq.num) (lt_mul (den_abs hp.den) (den_abs hq.den)) (by omega) (by omega) frac_mul
  exact dss_one (ds_ret (de_call (ok_fraction G) (hr.mono (by decide)) G.g_fraction G.fn_fraction.kp (bi_fraction G) (da_cons (de_bin (de_ix (de_nm 0) de_int (ix_t rfl)) (de_ix (de_nm 1) de_int (ix_t rfl)) (ob_mulW m1)) (da_cons (de_bin (de_ix (de_nm 0) de_int (ix_t rfl)) (de_ix (de_nm 1) de_int (ix_t rfl)) (ob_mulW m3)) da_nil)) hR) rfl)
theorem sc_parted : FnScope ["one", "other"] ["one", "other"] (defScope (topS 12)) := ⟨rfl, rfl, rfl, by decide +kernel, rfl, by decide +kernel, by decide +kernel⟩
theorem bi_parted {K : Fr} {mg : Str → Option Value} (G : Tx K mg) : Binds K G.fd_parted ["one", "other"] [] := G.fn_parted.bindsN fun _ _ _ _ _ _ us hl => match us, hl with | [_, _], _ => rfl
theorem ok_parted {P : Program} {w : World} {K : Fr} {mg : Str → Option Value} {base : Heap} {T : Tb} (G : Tx K mg) : FnOk P w K mg base CX0 3 (He.ga K "parted") G.fd_parted ["one", "other"] (spF T R_parted) := by
  have nd := sc_parted.nd
  refine fn_ok G.fn_parted sc_parted (fun ds d h => by have h' := len_parted h; rw [h']; decide) fun ds d h cd A outer s H E hr => ?_
  obtain ⟨p, q, A, B1, B2, hp, hq, hq2, h0, hA, hB, rfl, rfl⟩ := h
  dsimp only [enter]
  have hn := num_pos h0
  have m1 : CMulW p.num ((q.den : Nat) : Int) := mulW hp.num (den_abs hq2) (by omega)
  have m3 : CMulW ((p.den : Nat) : Int) q.num := mulW (den_abs hp.den) hq (by omega)
  have hR : R_fraction [.int (p.num * ((q.den : Nat) : Int)), .int (((p.den : Nat) : Int) * q.num)] (qD (p / q)) :=
    rel_fraction (A := A + A) (B := B1 + B2) (Int.mul_pos (den_int p) hn) (lt_mul hp.num (den_abs hq2)) (lt_mul (den_abs hp.den) hq) (by omega) (by omega) (frac_div h0)
  exact dss_one (ds_ret (de_call (ok_fraction G) (hr.mono (by decide)) G.g_fraction G.fn_fraction.kp (bi_fraction G) (da_cons (de_bin (de_ix (de_nm 0) de_int (ix_t rfl)) (de_ix (de_nm 1) de_int (ix_t rfl)) (ob_mulW m1)) (da_cons (de_bin (de_ix (de_nm 0) de_int (ix_t rfl)) (de_ix (de_nm 1) de_int (ix_t rfl)) (ob_mulW m3)) da_nil)) hR) rfl)
def R_is_under : List PD → PD → Prop := fun ds r => ∃ (p q : Rat) (A : Nat), Sz A A p ∧ Sz A A q ∧ A ≤ 100000 ∧ ds = [qD p, qD q] ∧ r = .bool (decide (p < q))
theorem rel_is_under {p q : Rat} {A : Nat} (h1 : Sz A A p) (h2 : Sz A A q) (h3 : A ≤ 100000) : R_is_under [qD p, qD q] (.bool (decide (p < q))) := ⟨p, q, A, h1, h2, h3, rfl, rfl⟩
theorem len_is_under {ds : List PD} {r : PD} : R_is_under ds r → ds.length = 2 := by rintro ⟨_, _, _, _, _, _, rfl, _⟩; rfl
def R__law_sum : List PD → PD → Prop := fun ds r => ∃ (a b c d : Int) (A B1 B2 : Nat) (x : Rat), a.natAbs < 2 ^ A ∧ c.natAbs < 2 ^ A ∧ b.natAbs < 2 ^ B1 ∧ d.natAbs < 2 ^ B2 ∧ 0 < b ∧ 0 < d ∧ A ≤ 100000 ∧ B1 + B2 ≤ 9000 ∧ x * ((b * d : Int) : Rat) = ((a * d + c * b : Int) : Rat) ∧ ds = [.tuple [.int a, .int b], .tuple [.int c, .int d]] ∧ r = qD x
theorem rel__law_sum {p q : Rat} {A B1 B2 : Nat} (h1 : Sz A B1 p) (h2 : Sz A B2 q) (h3 : A ≤ 100000) (h4 : B1 + B2 ≤ 9000) : R__law_sum [qD p, qD q] (qD (p + q)) :=
  ⟨p.num, (p.den : Nat), q.num, (q.den : Nat), A, B1, B2, p + q, h1.num, h2.num, den_abs h1.den, den_abs h2.den, den_int p, den_int q, h3, h4, frac_add, rfl, rfl⟩
theorem len__law_sum {ds : List PD} {r : PD} : R__law_sum ds r → ds.length = 2 := by rintro ⟨_, _, _, _, _, _, _, _, _, _, _, _, _, _, _, _, _, rfl, _⟩; rfl
theorem mod_nat2 (x y : Nat) : (x : Int) % (y : Int) = ((x % y : Nat) : Int) := by simp
/-! ### solved -/
def rowL (n : Nat) (r : Nat → Rat) : List PD := (List.range (n + 1)).map fun j => qD (r j)
def rowD (n : Nat) (r : Nat → Rat) : PD := .list (rowL n r)
def rowsD (n : Nat) (M : Mx) : List PD := (List.range n).map fun i => rowD n (M i)
theorem rowL_len (n : Nat) (r : Nat → Rat) : (rowL n r).length = n + 1 := by simp [rowL]
theorem rowsD_len (n : Nat) (M : Mx) : (rowsD n M).length = n := by simp [rowsD]
theorem rowL_at {n j : Nat} (r : Nat → Rat) (h : j ≤ n) : atI (rowL n r) (j : Nat) = some (qD (r j)) := atI_nat (by simp [rowL, List.getElem?_map, List.getElem?_range (show j < n + 1 by omega)])
theorem rowL_last (n : Nat) (r : Nat → Rat) : atI (rowL n r) (-1) = some (qD (r n)) := by
  have : ixN (rowL n r).length (-1) = some n := by
    rw [rowL_len]; unfold ixN
    rw [if_neg (by omega), if_pos (by omega)]
    congr 1; omega
  unfold atI
  rw [this]
  simp [rowL, List.getElem?_map, List.getElem?_range (show n < n + 1 by omega)]
theorem rowsD_at {n i : Nat} (M : Mx) (h : i < n) : atI (rowsD n M) (i : Nat) = some (rowD n (M i)) := atI_nat (by simp [rowsD, List.getElem?_map, List.getElem?_range h])
theorem ixN_nat {n j : Nat} (h : j < n) : ixN n (j : Nat) = some j := by simp [ixN, h]
theorem rowL_congr {n : Nat} {r s : Nat → Rat} (h : ∀ j, j ≤ n → r j = s j) : rowL n r = rowL n s := List.map_congr_left fun j hj => by rw [h j (by have := List.mem_range.mp hj; omega)]
theorem rowsD_congr {n : Nat} {M N : Mx} (h : ∀ i, i < n → ∀ j, j ≤ n → M i j = N i j) : rowsD n M = rowsD n N := List.map_congr_left fun i hi => by
  unfold rowD
  rw [rowL_congr (h i (List.mem_range.mp hi))]
theorem rowsD_set {n i : Nat} (M : Mx) (r : Nat → Rat) : (rowsD n M).set i (rowD n r) = rowsD n (fun k => if k = i then r else M k) := by
  refine List.ext_getElem? fun k => ?_
  rw [List.getElem?_set]
  simp only [rowsD, List.length_map, List.length_range, List.getElem?_map]
  by_cases hk : k < n
  · rw [List.getElem?_range hk]
    by_cases e : i = k
    · subst e; simp [hk]
    · simp [e, Ne.symm e]
  · rw [List.getElem?_eq_none (by simp; omega)]
    by_cases e : i = k
    · subst e; simp [hk]
    · simp [e]
/-- between the turns of a step: rows below k are done -/
def stM (t : Nat) (M : Mx) (k : Nat) : Mx := fun i => if i = t then (fun j => M t j / M t t) else if i < k then elimF t M i else M i
theorem stM_zero {n t : Nat} (M : Mx) : rowsD n (fun k => if k = t then (fun j => M t j / M t t) else M k) = rowsD n (stM t M 0) := rowsD_congr fun i _ j _ => by
  unfold stM
  split
  · rfl
  · rw [if_neg (by omega)]
theorem stM_all {n t : Nat} (M : Mx) : rowsD n (stM t M n) = rowsD n (elimF t M) := rowsD_congr fun i hi j _ => by
  unfold stM
  split
  · rename_i e; subst e; simp [elimF]
  · first | rfl | rw [if_pos hi]
theorem stM_same {n t k : Nat} (M : Mx) (h : k = t ∨ M k t = 0) : rowsD n (stM t M (k + 1)) = rowsD n (stM t M k) := rowsD_congr fun i hi j _ => by
  unfold stM
  by_cases e : i = t
  · rw [if_pos e, if_pos e]
  · rw [if_neg e, if_neg e]
    by_cases q : i = k
    · subst q
      rw [if_pos (by omega), if_neg (by omega)]
      have z : M i t = 0 := h.resolve_left e
      simp only [elimF, if_neg e, z]; grind
    · by_cases q2 : i < k
      · rw [if_pos (by omega), if_pos q2]
      · rw [if_neg (by omega), if_neg q2]
theorem stM_next {n t k : Nat} (M : Mx) (h : k ≠ t) : rowsD n (fun i => if i = k then (fun j => M k j - M k t * (M t j / M t t)) else stM t M k i) = rowsD n (stM t M (k + 1)) := rowsD_congr fun i hi j _ => by
  unfold stM
  by_cases q : i = k
  · subst q
    rw [if_pos rfl, if_neg h, if_pos (by omega)]
    simp only [elimF, if_neg h]
  · rw [if_neg q]
    by_cases e : i = t
    · rw [if_pos e, if_pos e]
    · rw [if_neg e, if_neg e]
      by_cases q2 : i < k
      · rw [if_pos q2, if_pos (by omega)]
      · rw [if_neg q2, if_neg (by omega)]
theorem stM_row {t k : Nat} (M : Mx) (h : k ≠ t) : stM t M k k = M k := by
  unfold stM; rw [if_neg h, if_neg (by omega)]
theorem stM_piv (t k : Nat) (M : Mx) : stM t M k t = fun j => M t j / M t t := by unfold stM; rw [if_pos rfl]
theorem zip_rows (n : Nat) (r s : Nat → Rat) : zipD (rowL n r) (rowL n s) = (List.range (n + 1)).map fun j => .tuple [qD (r j), qD (s j)] := by
  unfold zipD
  rw [rowL_len, rowL_len, Nat.min_self]
  refine List.map_congr_left fun j hj => ?_
  have hj := List.mem_range.mp hj
  have e : ∀ u : Nat → Rat, (rowL n u).getD j .none = qD (u j) := fun u => by
    rw [List.getD_eq_getElem?_getD]
    simp [rowL, List.getElem?_map, List.getElem?_range hj]
  rw [e, e]
theorem sz_mul {A B A' B' : Nat} {p q : Rat} (h1 : p.num.natAbs < 2 ^ A) (h2 : p.den ≤ 2 ^ B) (h3 : q.num.natAbs < 2 ^ A') (h4 : q.den ≤ 2 ^ B') : Sz (A + A') (B + B' + 1) (p * q) := by
  have hd : 0 < p.den * q.den := Nat.mul_pos p.den_pos q.den_pos
  have hm : (p * q) * ((p.den * q.den : Nat) : Rat) = ((p.num * q.num : Int) : Rat) := by
    have := @frac_mul p q
    rw [← cast_nat, ← this]
    simp
  refine ⟨Nat.lt_of_le_of_lt (rat_num_le hd hm) (lt_mul h1 h3), ?_⟩
  have := rat_den_le hd hm
  have := Nat.mul_le_mul h2 h4
  rw [Nat.pow_succ, Nat.pow_add]
  have : 0 < 2 ^ B * 2 ^ B' := Nat.mul_pos (Nat.two_pow_pos _) (Nat.two_pow_pos _)
  omega
/-- rows that can be solved -/
structure Solv (n : Nat) (M : Mx) : Prop where
  gd : ∃ v : Nat → Rat, Gd n v 0 M ∧ ∀ i, i < n → 0 < v i
  few : n ≤ 100
  fit : ∃ a b, Den a b n M ∧ 3 * (a * 2 ^ (n - 1)) ≤ 8990 ∧ b * 2 ^ (n - 1) ≤ 40000
def R_solved : List PD → PD → Prop := fun ds r => ∃ n M, Solv n M ∧ ds = [.list (rowsD n M)] ∧ r = .list ((List.range n).map fun i => qD (solX n M i))
theorem rel_solved {n : Nat} {M : Mx} (h : Solv n M) : R_solved [.list (rowsD n M)] (.list ((List.range n).map fun i => qD (solX n M i))) := ⟨n, M, h, rfl, rfl⟩
theorem len_solved {ds : List PD} {r : PD} : R_solved ds r → ds.length = 1 := by rintro ⟨_, _, _, rfl, _⟩; rfl
theorem num_ne0 (q : Rat) : (!decide (q.num = 0)) = decide (q ≠ 0) := by
  by_cases h : q = 0
  · subst h; rfl
  · have : q.num ≠ 0 := fun e => h (Rat.num_eq_zero.mp e)
    simp [h, this]
theorem mul_pow_le {a t n : Nat} (h : t < n) : a * 2 ^ t ≤ a * 2 ^ (n - 1) := Nat.mul_le_mul_left _ (Nat.pow_le_pow_right (by decide) (by omega))
theorem first_some {n t : Nat} (h : t < n) (f : Nat → Bool) (h0 : f 0 = true) : ∃ rest : List PD, ((List.range (n - t)).filter f).map (fun i => PyData.int ((t : Int) + (i : Nat))) = .int (t : Nat) :: rest := by
  obtain ⟨m, hm⟩ : ∃ m, n - t = m + 1 := ⟨n - t - 1, by omega⟩
  rw [hm, List.range_succ_eq_map, List.filter_cons, if_pos h0]
  exact ⟨_, by simp; rfl⟩
local macro_rules | `(tactic| walk_at "dpt") => `(tactic| first | exact dp_ints _ | exact dp_intsT _ | exact dp_upTo _ | (simp [PyData.depth, PyData.depthAll]; done))
theorem sc_solved : FnScope ["rows", "row", "at", "some", "number", "one", "share", "own"] ["rows"] (defScope (topS 13)) := ⟨rfl, rfl, rfl, by decide +kernel, rfl, by decide +kernel, by decide +kernel⟩
theorem bi_solved {K : Fr} {mg : Str → Option Value} (G : Tx K mg) : Binds K G.fd_solved ["rows"] [] := G.fn_solved.bindsN fun _ _ _ _ _ _ us hl => match us, hl with | [_], _ => rfl
theorem ok_solved {P : Program} {w : World} {K : Fr} {mg : Str → Option Value} {base : Heap} {T : Tb} (G : Tx K mg) : FnOk P w K mg base CX0 4 (He.ga K "solved") G.fd_solved ["rows"] (spF T R_solved) := by
  have nd := sc_solved.nd
  refine fn_ok G.fn_solved sc_solved (fun ds d h => by have h' := len_solved h; rw [h']; decide) fun ds d h cd A outer s H E hr => ?_
  obtain ⟨n, M, ⟨⟨v, hg, hv⟩, hn, a, b, hd, hf, hb⟩, rfl, rfl⟩ := h
  dsimp only [enter]
  refine dss_then (ds_asgN 0 (dn_lc0 (xs := (List.range n)) (emb := (fun i => rowD n (M i))) (g := (fun i => rowD n (M i))) (own' := [("row", 1)]) rfl nd ((dic_of (di_list (de_nm 0)))) (by walk_at "blk") (by walk_at "free") (by decide) (by walk_at "sz") (fun z hz _ _ _ _ _ => (dg_nm 1 nd (by walk_at "free1"))) (fun z hz _ _ _ _ _ => ((de_dn (dn_listL G.b_list (de_nm 1)))))) (by rfl) (by walk_at "lt") nd) ?_
  dsimp only [List.set]
  change DSs _ _ _ _ [own (rowsD n M), un, un, un, un, un, un, un] _
  refine dss_then (ds_forS (xs := List.range n) (emb := fun i => .int (i : Nat)) (fun t => [own (rowsD n (elimN M t)), un, un, un, un, un, un, un]) (fun _ => True) (di_to (di_range (da_cons (de_le (LeL.le (by walk_at "fr")) rfl (de_len (G.b_len) (de_nm 0) (by walk_at "len"))) da_nil) G.b_range (by rw [rowsD_len]; omega)) (by rw [rowsD_len]; simp [DL.upTo])) (LeL.le (by walk_at "le")) trivial (fun t tz htz _ => ⟨(dg_nm 2 nd (by walk_at "free1")), ?_⟩) (fun _ => rfl) PassesOwn.never rfl) ?_
  · dsimp only [List.set]
    have hzi : tz = t := by
      obtain ⟨h1, h2⟩ := List.getElem?_eq_some_iff.mp htz
      rw [← h2]; simp
    subst hzi
    have ht : tz < n := by have h1 := (List.getElem?_eq_some_iff.mp htz).1; simpa using h1
    have hpv := hg.pivs hv ht
    have hpn := hg.pivn hv ht
    have hDen := Den.all hg hv hd tz (by omega)
    have eM : elimN M (tz + 1) = elimF tz (elimN M tz) := rfl
    rw [eM]
    have hB : 3 * (a * 2 ^ tz) ≤ 8990 := by have := mul_pow_le (a := a) ht; omega
    have hA : b * 2 ^ tz ≤ 40000 := by have := mul_pow_le (a := b) ht; omega
    generalize elimN M tz = Mt at *
    generalize a * 2 ^ tz = B at *
    generalize b * 2 ^ tz = A at *
    have hat := rowsD_at Mt ht
    have hix : ixN (rowsD n Mt).length (tz : Nat) = some tz := by rw [rowsD_len]; exact ixN_nat ht
    refine dss_then (ds_asgLc (xs := (List.range (n - tz))) (emb := (fun i => .int ((tz : Int) + (i : Nat)))) (f := (fun i => decide (Mt (tz + i) tz ≠ 0))) (g := (fun i => .int ((tz : Int) + (i : Nat)))) (own' := [("number", 4)]) 3 rfl nd ((dic_to (dic_of (di_range2 (da_cons (de_nm 2) (da_cons (de_le (LeL.le (by walk_at "fr")) rfl (de_len (G.b_len) (de_nm 0) (by walk_at "len"))) da_nil)) G.b_range (by rw [rowsD_len]; omega))) ?_)) (by walk_at "blk") (by walk_at "free") (by decide) (by walk_at "sz") (fun z hz _ _ _ _ _ => (dg_nm 4 nd (by walk_at "free1"))) (fun z hz _ _ _ _ _ => dts_one (?_)) (fun z hz hk _ _ _ _ _ => ((de_nm 4))) (by rfl) (by walk_at "lt")) ?_
    · rw [rowsD_len]
      unfold DL.fromTo
      rw [show ((n : Int) - (tz : Nat)).toNat = n - tz by omega]
    · have hz2 := List.mem_range.mp hz
      have e1 : atI (rowsD n Mt) ((tz : Int) + (z : Nat)) = some (rowD n (Mt (tz + z))) := by
        rw [show (tz : Int) + (z : Nat) = ((tz + z : Nat) : Int) by omega]
        exact rowsD_at Mt (by omega)
      exact dt_to (dt_cmp (de_ix (de_ix (de_ixO 0 (de_nm 4) e1) (de_nm 2) (ix_l (rowL_at _ (by omega)))) de_int (ix_t rfl)) de_int (cb_neI (by walk_at "hu"))) (num_ne0 _)
    · dsimp only [List.set]
      obtain ⟨rest, hrest⟩ := first_some ht (fun i => decide (Mt (tz + i) tz ≠ 0)) (by simpa using hpn)
      rw [hrest]
      refine dss_guard (k := false) (dt_to (dt_cmp (de_nm 3) (de_dn (dn_lst da_nil)) (by walk_at "cb.Eq")) rfl) (fun hk => by cases hk) (fun _ => ?_)
      refine dss_then (S1 := [own (((rowsD n Mt).set tz (rowD n (Mt tz))).set tz (rowD n (Mt tz))), un, dat (.int (tz : Nat)), dat (.list (.int (tz : Nat) :: rest)), un, un, un, un]) ?_ ?_
      · refine ds_asgC (d := .tuple [rowD n (Mt tz), rowD n (Mt tz)]) ?_ ?_ rfl
        · exact de_tup (da_cons (de_ixO 0 (de_ix (de_nm 3) de_int (ix_l (atI_nat (j := 0) rfl))) hat) (da_cons (de_ixO 0 (de_nm 2) hat) da_nil))
        · exact dc_tup rfl (dcs_cons (S1 := [own ((rowsD n Mt).set tz (rowD n (Mt tz))), un, dat (.int (tz : Nat)), dat (.list (.int (tz : Nat) :: rest)), un, un, un, un]) (dc_sub 0 (j := tz) (k := (tz : Nat)) (de_nm 2) rfl hix) (dcs_cons (dc_sub 0 (j := tz) (k := (tz : Nat)) (de_ix (de_nm 3) de_int (ix_l (atI_nat (j := 0) rfl))) rfl (by rw [List.length_set]; exact hix)) dcs_nil))
      have hsame : ((rowsD n Mt).set tz (rowD n (Mt tz))).set tz (rowD n (Mt tz)) = rowsD n Mt := by
        rw [List.set_set, rowsD_set]
        exact rowsD_congr fun i _ j _ => by split <;> simp_all
      rw [hsame]
      have hrow := hDen tz ht
      have hquo := hrow.quot (by omega) hpv.1 hpv.2
      have hpd : (Mt tz tz).den ≤ 2 ^ B := hrow.den (by omega)
      have hpa : (Mt tz tz).num.natAbs ≤ 2 ^ B := Nat.le_trans (rat_abs_le hpv.1 hpv.2) hpd
      have lt1 : ∀ {x : Nat}, x ≤ 2 ^ B → x < 2 ^ (B + 1) := fun h => by rw [Nat.pow_succ]; have := Nat.two_pow_pos B; omega
      have hpart : ∀ j, j ≤ n → R_parted [qD (Mt tz j), qD (Mt tz tz)] (qD (Mt tz j / Mt tz tz)) := fun j hj =>
        rel_parted (A := A + B + 1) (B1 := B + 1) (B2 := B + 1) ⟨Nat.lt_of_lt_of_le (hrow.num hj) (pow_mono (by omega)), lt1 (hrow.den hj)⟩ (lt1 hpa) (Nat.lt_of_lt_of_le (lt1 hpd) (pow_mono (by omega))) hpv.1 (by omega) (by omega)
      refine dss_then (ds_setO 0 (j := tz) (de_nm 2) (de_dn (dn_lc0 (xs := (List.range (n + 1))) (emb := (fun j => qD (Mt tz j))) (g := (fun j => qD (Mt tz j / Mt tz tz))) (own' := [("one", 5)]) rfl nd ((dic_of (di_list (de_ixO 0 (de_nm 2) hat)))) (by walk_at "blk") (by walk_at "free") (by decide) (by walk_at "sz") (fun z hz _ _ _ _ _ => (dg_nm 5 nd (by walk_at "free1"))) (fun z hz _ _ _ _ _ => (?_)))) rfl hix rfl) ?_
      · have hz2 := List.mem_range.mp hz
        exact de_call (ok_parted G) (hr.mono (by decide)) G.g_parted G.fn_parted.kp (bi_parted G) (da_cons (de_nm 5) (da_cons (de_ix (de_ixO 0 (de_nm 2) hat) (de_nm 2) (ix_l (rowL_at _ (by omega)))) da_nil)) (hpart z (by omega))
      · dsimp only [List.set]
        have e0 : (rowsD n Mt).set tz (.list ((List.range (n + 1)).map fun j => qD (Mt tz j / Mt tz tz))) = rowsD n (stM tz Mt 0) := (rowsD_set (i := tz) Mt (fun j => Mt tz j / Mt tz tz)).trans (stM_zero Mt)
        rw [e0]
        refine dss_one (ds_forS (xs := List.range n) (emb := fun i => .int (i : Nat)) (fun k => [own (rowsD n (stM tz Mt k)), un, dat (.int (tz : Nat)), un, un, un, un, un]) (fun _ => True) (di_to (di_range (da_cons (de_le (LeL.le (by walk_at "fr")) rfl (de_len (G.b_len) (de_nm 0) (by walk_at "len"))) da_nil) G.b_range (by rw [rowsD_len]; omega)) (by rw [rowsD_len]; simp [DL.upTo])) (LeL.le (by walk_at "le")) trivial (fun k kz hkz _ => ⟨(dg_nm 4 nd (by walk_at "free1")), ?_⟩) (fun _ => ⟨LeL.le (.keepE (by rw [List.length_range, stM_all]) (by walk_at "le")), trivial⟩) PassesOwn.never rfl)
        dsimp only [List.set]
        have hki : kz = k := by
          obtain ⟨h1, h2⟩ := List.getElem?_eq_some_iff.mp hkz
          rw [← h2]; simp
        subst hki
        have hk : kz < n := by have h1 := (List.getElem?_eq_some_iff.mp hkz).1; simpa using h1
        have hatk := rowsD_at (stM tz Mt kz) hk
        have hatt := rowsD_at (stM tz Mt kz) ht
        rw [stM_piv] at hatt
        have hixk : ixN (rowsD n (stM tz Mt kz)).length (kz : Nat) = some kz := by rw [rowsD_len]; exact ixN_nat hk
        refine dss_one (ds_if (k := !decide ((kz : Int) = (tz : Nat)) && !decide ((stM tz Mt kz kz tz).num = 0)) (dt_w (dw_and (dt_cmp (de_nm 4) (de_nm 2) (cb_neI (by walk_at "hu"))) (fun _ => dw_and1 (dt_cmp (de_ix (de_ix (de_ixO 0 (de_nm 4) hatk) (de_nm 2) (ix_l (rowL_at _ (by omega)))) de_int (ix_t rfl)) de_int (cb_neI (by walk_at "hu")))))) (fun hc => ?_) (fun hc => ?_))
        · simp only [Bool.and_eq_true, Bool.not_eq_true', decide_eq_false_iff_not] at hc
          have hne : kz ≠ tz := fun e => hc.1 (by rw [e])
          rw [stM_row Mt hne] at hatk
          have hrk := hDen kz hk
          have hless : ∀ j, j ≤ n → R_less [qD (Mt kz j), qD (Mt kz tz * (Mt tz j / Mt tz tz))] (qD (Mt kz j - Mt kz tz * (Mt tz j / Mt tz tz))) := fun j hj =>
            rel_less (A := A + A) (B1 := B + 1) (B2 := B + B + 1) ⟨Nat.lt_of_lt_of_le (hrk.num hj) (pow_mono (by omega)), lt1 (hrk.den hj)⟩ (sz_mul (hrk.num (by omega)) (hrk.den (by omega)) (hquo.num hj) (hquo.den hj)) (by omega) (by omega)
          have htimes : ∀ j, j ≤ n → R_times [qD (Mt kz tz), qD (Mt tz j / Mt tz tz)] (qD (Mt kz tz * (Mt tz j / Mt tz tz))) := fun j hj =>
            rel_times (A := A) (B1 := B + 1) (B2 := B + 1) ⟨hrk.num (by omega), lt1 (hrk.den (by omega))⟩ ⟨hquo.num hj, lt1 (hquo.den hj)⟩ (by omega) (by omega)
          refine dss_then (ds_asg 6 (de_ix (de_ixO 0 (de_nm 4) hatk) (de_nm 2) (ix_l (rowL_at _ (by omega)))) (by rfl) nd) ?_
          dsimp only [List.set]
          refine dss_then (ds_setO 0 (j := kz) (de_nm 4) (de_dn (dn_lc0 (xs := (List.range (n + 1))) (emb := (fun j => .tuple [qD (Mt kz j), qD (Mt tz j / Mt tz tz)])) (g := (fun j => qD (Mt kz j - Mt kz tz * (Mt tz j / Mt tz tz)))) (own' := [("one", 5), ("own", 7)]) rfl nd ((dic_to (dic_of (di_zip (k := false) (k2 := false) (da_cons (de_ixO 0 (de_nm 4) hatk) (da_cons (de_ixO 0 (de_nm 2) hatt) da_nil)) G.b_zip)) (zip_rows n _ _))) (by walk_at "blk") (by walk_at "free") (by decide) (by walk_at "sz") (fun z hz _ _ _ _ _ => (dg_tup rfl (dgs_cons (dg_nm 5 nd (by walk_at "free1")) (dgs_cons (dg_nm 7 nd (by walk_at "free1")) dgs_nil)))) (fun z hz _ _ _ _ _ => (?_)))) rfl hixk rfl) ?_
          · have hz2 := List.mem_range.mp hz
            exact de_call (ok_less G) (hr.mono (by decide)) G.g_less G.fn_less.kp (bi_less G) (da_cons (de_nm 5) (da_cons (de_call (ok_times G) (hr.mono (by decide)) G.g_times G.fn_times.kp (bi_times G) (da_cons (de_nm 6) (da_cons (de_nm 7) da_nil)) (htimes z (by omega))) da_nil)) (hless z (by omega))
          · dsimp only [List.set]
            have e1 : (rowsD n (stM tz Mt kz)).set kz (.list ((List.range (n + 1)).map fun j => qD (Mt kz j - Mt kz tz * (Mt tz j / Mt tz tz)))) = rowsD n (stM tz Mt (kz + 1)) := (rowsD_set (i := kz) (stM tz Mt kz) (fun j => Mt kz j - Mt kz tz * (Mt tz j / Mt tz tz))).trans (stM_next Mt hne)
            rw [e1]
            exact dss_nil ⟨LeL.le (by walk_at "le"), trivial⟩
        · refine dss_nil ⟨LeL.le (.keepE ?_ (by walk_at "le")), trivial⟩
          rw [stM_same Mt]
          by_cases e : kz = tz
          · exact .inl e
          · right
            have h1 : ¬ (kz : Int) = (tz : Nat) := fun z => e (by omega)
            simp only [h1, decide_false, Bool.not_false, Bool.true_and, Bool.not_eq_false', decide_eq_true_eq, stM_row Mt e] at hc
            exact Rat.num_eq_zero.mp hc
  · simp only [List.length_range]
    refine dss_one (ds_ret (de_dn (dn_lc0 (xs := (List.range n)) (emb := (fun i => rowD n (elimN M n i))) (g := (fun i => qD (solX n M i))) (own' := [("row", 1)]) rfl nd (dic_to (dic_own 0) (by walk_at "emb")) (by walk_at "blk") (by walk_at "free") (by decide) (by walk_at "sz") (fun z hz _ _ _ _ _ => (dg_nm 1 nd (by walk_at "free1"))) (fun z hz _ _ _ _ _ => (?_)))) rfl)
    exact de_ix (de_nm 1) (de_un de_int ub_neg) (ix_l (rowL_last n _))

/-! ### what flows: the mathematics -/
def ls {α : Type} : List α → (α → Rat) → Rat
  | [], _ => 0
  | x :: l, f => f x + ls l f
section
variable {α β : Type}
theorem ls_append (f : α → Rat) : ∀ l m : List α, ls (l ++ m) f = ls l f + ls m f
  | [], m => by show ls m f = 0 + ls m f; grind
  | x :: l, m => by
    have := ls_append f l m
    simp only [List.cons_append, ls, this]; grind
theorem ls_congr {f g : α → Rat} : ∀ {l : List α}, (∀ x ∈ l, f x = g x) → ls l f = ls l g
  | [], _ => rfl
  | x :: l, h => by
    simp only [ls]
    rw [h x List.mem_cons_self, ls_congr fun y hy => h y (List.mem_cons_of_mem _ hy)]
theorem ls_zero : ∀ l : List α, ls l (fun _ => 0) = 0
  | [] => rfl
  | _ :: l => by simp only [ls, ls_zero l]; grind
theorem ls_eq0 {f : α → Rat} {l : List α} (h : ∀ x ∈ l, f x = 0) : ls l f = 0 := (ls_congr h).trans (ls_zero l)
theorem ls_add (f g : α → Rat) : ∀ l : List α, ls l (fun x => f x + g x) = ls l f + ls l g
  | [] => by show (0 : Rat) = 0 + 0; grind
  | _ :: l => by
    have := ls_add f g l
    simp only [ls, this]; grind
theorem ls_mul (c : Rat) (f : α → Rat) : ∀ l : List α, ls l (fun x => c * f x) = c * ls l f
  | [] => by show (0 : Rat) = c * 0; grind
  | _ :: l => by
    have := ls_mul c f l
    simp only [ls, this]; grind
theorem ls_le {f g : α → Rat} : ∀ {l : List α}, (∀ x ∈ l, f x ≤ g x) → ls l f ≤ ls l g
  | [], _ => Rat.le_refl
  | x :: l, h => by
    have h1 := ls_le (l := l) fun y hy => h y (List.mem_cons_of_mem _ hy)
    have h2 := h x List.mem_cons_self
    simp only [ls]; grind
theorem ls_nn {f : α → Rat} {l : List α} (h : ∀ x ∈ l, 0 ≤ f x) : 0 ≤ ls l f := by
  have := ls_le (f := fun _ => 0) h
  rwa [ls_zero] at this
theorem ls_map (g : β → α) (f : α → Rat) : ∀ l : List β, ls (l.map g) f = ls l fun x => f (g x)
  | [] => rfl
  | _ :: l => by simp only [List.map_cons, ls, ls_map g f l]
theorem ls_flat (f : α → Rat) : ∀ l : List (List α), ls l.flatten f = ls l fun m => ls m f
  | [] => rfl
  | m :: l => by
    rw [List.flatten_cons, ls_append, ls_flat f l]; rfl
theorem ls_range (f : Nat → Rat) : ∀ n : Nat, ls (List.range n) f = sm n f
  | 0 => rfl
  | n + 1 => by
    rw [List.range_succ, ls_append, ls_range f n]
    simp only [sm, ls]; grind
theorem sm_ls (f : Nat → α → Rat) (l : List α) : ∀ n : Nat, sm n (fun i => ls l (f i)) = ls l fun x => sm n fun i => f i x
  | 0 => (ls_zero l).symm
  | n + 1 => by
    simp only [sm]
    rw [sm_ls f l n, ← ls_add]
theorem ls_perm {f : α → Rat} {l m : List α} (h : l.Perm m) : ls l f = ls m f := by
  induction h with
  | nil => rfl
  | cons x _ ih => simp only [ls, ih]
  | swap x y l => simp only [ls]; grind
  | trans _ _ h1 h2 => exact h1.trans h2
end
/-! ### rows of a web -/
def kk (w : Web) (j : Nat) : Rat := ((there (prAt w j)).length : Nat)
def cfg (w : Web) (γ : Goal) (j : Nat) : Rat := ls (there (prAt w j)) fun g => if g = γ then 1 / kk w j else 0
def rin (w : Web) (qs : List Rat) (γ : Goal) : Rat := ls (w.ins.zip qs) fun p => if p.1 = γ then p.2 else 0
def webM (w : Web) (qs : List Rat) : Mx := fun i j => if j = w.prs.length then rin w qs ⟨false, i⟩ else (if i = j then 1 else 0) - cfg w ⟨false, i⟩ j
def belts (w : Web) (qs : List Rat) (x : Nat → Rat) : List (Goal × Rat) := w.ins.zip qs ++ ((List.range w.prs.length).map fun j => (there (prAt w j)).map fun g => (g, x j * (1 / kk w j))).flatten
def infl (B : List (Goal × Rat)) (γ : Goal) : Rat := ls B fun p => if p.1 = γ then p.2 else 0
theorem infl_belts (w : Web) (qs : List Rat) (x : Nat → Rat) (γ : Goal) : infl (belts w qs x) γ = rin w qs γ + sm w.prs.length fun j => cfg w γ j * x j := by
  unfold infl belts
  rw [ls_append, ls_flat, ls_map, ls_range]
  congr 1
  refine sm_congr fun j _ => ?_
  rw [ls_map, show cfg w γ j * x j = x j * cfg w γ j by grind]
  unfold cfg
  rw [← ls_mul]
  refine ls_congr fun g _ => ?_
  dsimp only
  split <;> grind
theorem webM_sol (w : Web) (qs : List Rat) (x : Nat → Rat) : Sol w.prs.length (webM w qs) x ↔ ∀ i, i < w.prs.length → x i = infl (belts w qs x) ⟨false, i⟩ := by
  have e : ∀ i, i < w.prs.length → sm w.prs.length (fun j => webM w qs i j * x j) = x i - sm w.prs.length fun j => cfg w ⟨false, i⟩ j * x j := fun i hi => by
    rw [sm_congr (g := fun j => (if i = j then x j else 0) - cfg w ⟨false, i⟩ j * x j) fun j hj => by
      unfold webM
      rw [if_neg (by omega)]
      split <;> grind, sm_sub, sm_single _ hi fun j _ hj => by rw [if_neg (by omega)], if_pos rfl]
  have en : ∀ i, webM w qs i w.prs.length = rin w qs ⟨false, i⟩ := fun i => by unfold webM; rw [if_pos rfl]
  constructor
  · intro h i hi
    have := h i hi
    rw [e i hi, en] at this
    rw [infl_belts]; grind
  · intro h i hi
    have := h i hi
    rw [infl_belts] at this
    rw [e i hi, en]; grind
/-! ### the weights -/
def e4 : Nat → Rat
  | 0 => 1
  | n + 1 => e4 n / 4
theorem e4_pos : ∀ n, 0 < e4 n
  | 0 => by decide
  | n + 1 => by
    have := e4_pos n
    show 0 < e4 n / 4
    grind
theorem e4_le {m n : Nat} (h : m ≤ n) : e4 n ≤ e4 m := by
  induction h with
  | refl => exact Rat.le_refl
  | @step n _ ih =>
    have := e4_pos n
    show e4 n / 4 ≤ e4 m
    grind
def vv (w : Web) (i : Nat) : Rat := 1 - e4 (posI w i + 1)
def vG (w : Web) (g : Goal) : Rat := if g.out = true then 0 else vv w g.num
theorem vv_pos (w : Web) (i : Nat) : 0 < vv w i := by
  have := e4_pos (posI w i)
  have h := e4_le (Nat.zero_le (posI w i))
  have h0 : e4 0 = 1 := rfl
  unfold vv
  show 0 < 1 - e4 (posI w i) / 4
  grind
theorem vG_lt (w : Web) (g : Goal) : vG w g ≤ 1 := by
  unfold vG vv
  split
  · decide
  · have := e4_pos (posI w g.num + 1)
    grind
theorem vG_good {w : Web} {g : Goal} {i : Nat} (h : posG w g < posI w i) : vG w g ≤ 1 - e4 (posI w i) := by
  unfold posG at h
  unfold vG
  split
  · have h := e4_le (Nat.zero_le (posI w i))
    have h0 : e4 0 = 1 := rfl
    grind
  · rename_i q
    rw [if_neg q] at h
    have := e4_le (show posI w g.num + 1 ≤ posI w i by omega)
    unfold vv; grind
theorem there_cases {w : Web} (h : IsWeb w) {j : Nat} (hj : j < w.prs.length) : (∃ g, there (prAt w j) = [g] ∧ kk w j = 1 ∧ posG w g < posI w j) ∨ ∃ g g', there (prAt w j) = [g, g'] ∧ kk w j = 2 ∧ (posG w g < posI w j ∨ posG w g' < posI w j) := by
  obtain ⟨g, hg, hl⟩ := good_ok h hj
  unfold kk
  generalize prAt w j = p at *
  obtain ⟨a, b⟩ := p
  unfold sideG at hg
  cases a with
  | none =>
    cases b with
    | none => split at hg <;> cases hg
    | some b =>
      left
      refine ⟨b, rfl, rfl, ?_⟩
      split at hg
      · cases hg
      · cases hg; exact hl
  | some a =>
    cases b with
    | none =>
      left
      refine ⟨a, rfl, rfl, ?_⟩
      split at hg
      · cases hg; exact hl
      · cases hg
    | some b =>
      right
      refine ⟨a, b, rfl, rfl, ?_⟩
      split at hg
      · cases hg; exact .inl hl
      · cases hg; exact .inr hl
theorem kk_pos {w : Web} (h : IsWeb w) {j : Nat} (hj : j < w.prs.length) : 0 < kk w j := by
  rcases there_cases h hj with ⟨g, _, e, _⟩ | ⟨g, g', _, e, _⟩ <;> rw [e] <;> decide
theorem cfg_nn {w : Web} (h : IsWeb w) (γ : Goal) {j : Nat} (hj : j < w.prs.length) : 0 ≤ cfg w γ j := ls_nn fun g _ => by
  have := kk_pos h hj
  split
  · have := Rat.inv_pos.mpr this
    grind
  · exact Rat.le_refl
theorem there_bnd {w : Web} (h : IsWeb w) {j : Nat} (hj : j < w.prs.length) {g : Goal} (hg : g ∈ there (prAt w j)) (ho : g.out = false) : g.num < w.prs.length := by
  have := bnd_of h (goal_mem_prs (prAt_mem hj) hg)
  simpa [bndG, ho] using this
theorem web_col {w : Web} (h : IsWeb w) (qs : List Rat) {j : Nat} (hj : j < w.prs.length) : sm w.prs.length (fun i => vv w i * webM w qs i j) = vv w j - ls (there (prAt w j)) fun g => vG w g * (1 / kk w j) := by
  rw [sm_congr (g := fun i => (if i = j then vv w i else 0) - vv w i * cfg w ⟨false, i⟩ j) fun i hi => by
    unfold webM
    rw [if_neg (by omega)]
    split <;> grind, sm_sub, sm_single _ hj fun i _ hi => by rw [if_neg hi], if_pos rfl]
  congr 1
  unfold cfg
  rw [sm_congr (g := fun i => ls (there (prAt w j)) fun g => vv w i * (if g = ⟨false, i⟩ then 1 / kk w j else 0)) fun i _ => by rw [ls_mul], sm_ls]
  refine ls_congr fun g hg => ?_
  unfold vG
  cases ho : g.out with
  | true =>
    rw [if_pos rfl, sm_eq0 fun i _ => by
      rw [if_neg (fun e => by rw [e] at ho; cases ho)]; grind]
    grind
  | false =>
    rw [if_neg (by decide), sm_single _ (there_bnd h hj hg ho) fun i _ hi => by
      rw [if_neg (fun e => hi (by rw [e]))]; grind]
    rw [if_pos (by cases g; simp_all)]
theorem web_gd {w : Web} (h : IsWeb w) (qs : List Rat) : Gd w.prs.length (vv w) 0 (webM w qs) := by
  refine ⟨fun i j _ hi _ hj hij => ?_, fun j _ hj => ?_, fun j _ hj => ?_⟩
  · have := cfg_nn h ⟨false, i⟩ hj
    unfold webM
    rw [if_neg (by omega), if_neg hij]; grind
  · have := cfg_nn h ⟨false, j⟩ hj
    unfold webM
    rw [if_neg (by omega), if_pos rfl]; grind
  · rw [sm_congr (g := fun i => vv w i * webM w qs i j) fun i _ => by rw [if_pos (Nat.zero_le _)], web_col h qs hj]
    have ep := e4_pos (posI w j)
    have ev : vv w j = 1 - e4 (posI w j) / 4 := rfl
    rcases there_cases h hj with ⟨g, e, e2, hg⟩ | ⟨g, g', e, e2, hg⟩
    · rw [e, e2, ev]
      have := vG_good hg
      simp only [ls]; grind
    · rw [e, e2, ev]
      simp only [ls]
      rcases hg with hg | hg
      · have := vG_good hg
        have := vG_lt w g'
        grind
      · have := vG_good hg
        have := vG_lt w g
        grind
/-- what comes to each splitter -/
def thr (w : Web) (qs : List Rat) : Nat → Rat := solX w.prs.length (webM w qs)
theorem thr_eq {w : Web} (h : IsWeb w) (qs : List Rat) {i : Nat} (hi : i < w.prs.length) : thr w qs i = infl (belts w qs (thr w qs)) ⟨false, i⟩ :=
  (webM_sol w qs _).mp ((web_gd h qs).solves fun i _ => vv_pos w i) i hi
theorem thr_uniq {w : Web} (h : IsWeb w) {qs : List Rat} {y : Nat → Rat} (hy : ∀ i, i < w.prs.length → y i = infl (belts w qs y) ⟨false, i⟩) : ∀ i, i < w.prs.length → y i = thr w qs i :=
  ((web_gd h qs).sol (fun i _ => vv_pos w i) y).mp ((webM_sol w qs y).mpr hy)
/-! ### sizes -/
structure RatesOk (w : Web) (qs : List Rat) : Prop where
  len : qs.length = w.ins.length
  bnd : ∀ q ∈ qs, 0 ≤ q ∧ q ≤ 1
  fit : ∃ E e : Nat, 0 < E ∧ (∀ q ∈ qs, q.den ∣ E) ∧ 2 * E ≤ 2 ^ e ∧ 3 * (e * 2 ^ (w.prs.length - 1)) ≤ 8990
theorem cfg_two {w : Web} (h : IsWeb w) (γ : Goal) {j : Nat} (hj : j < w.prs.length) : ∃ c : Nat, c ≤ 2 ∧ cfg w γ j * 2 = (c : Rat) := by
  unfold cfg
  rcases there_cases h hj with ⟨g, e, e2, _⟩ | ⟨g, g', e, e2, _⟩
  · rw [e, e2]
    simp only [ls]
    by_cases q : g = γ
    · rw [if_pos q]; exact ⟨2, by decide, by decide +kernel⟩
    · rw [if_neg q]; exact ⟨0, by decide, by decide +kernel⟩
  · rw [e, e2]
    simp only [ls]
    by_cases q : g = γ
    · rw [if_pos q]
      by_cases q2 : g' = γ
      · rw [if_pos q2]; exact ⟨2, by decide, by decide +kernel⟩
      · rw [if_neg q2]; exact ⟨1, by decide, by decide +kernel⟩
    · rw [if_neg q]
      by_cases q2 : g' = γ
      · rw [if_pos q2]; exact ⟨1, by decide, by decide +kernel⟩
      · rw [if_neg q2]; exact ⟨0, by decide, by decide +kernel⟩
theorem q_whole {q : Rat} {E : Nat} (h : q.den ∣ E) (h0 : 0 ≤ q) (h1 : q ≤ 1) : ∃ z : Nat, q * (E : Rat) = (z : Rat) ∧ z ≤ E := by
  obtain ⟨z, hz⟩ := rat_whole h
  have hE : (0 : Rat) ≤ (E : Rat) := Rat.natCast_nonneg
  have a := Rat.mul_nonneg h0 hE
  have b := Rat.mul_le_mul_of_nonneg_right h1 hE
  rw [hz] at a b
  have a' : 0 ≤ z := Rat.intCast_nonneg.mp a
  refine ⟨z.toNat, ?_, ?_⟩
  · rw [hz, ← cast_nat, Int.toNat_of_nonneg a']
  · have : (z : Rat) ≤ ((E : Int) : Rat) := by rw [cast_nat]; grind
    have := Rat.intCast_le_intCast.mp this
    omega
theorem sum_whole {α : Type} (c : α → Prop) [DecidablePred c] (q : α → Rat) (E : Nat) : ∀ (l : List α), (∀ p ∈ l, (q p).den ∣ E ∧ 0 ≤ q p ∧ q p ≤ 1) → ∃ z : Nat, ls l (fun p => if c p then q p else 0) * (E : Rat) = (z : Rat) ∧ z ≤ l.length * E
  | [], _ => ⟨0, by simp only [ls]; grind, by simp⟩
  | p :: l, h => by
    obtain ⟨z, hz, hl⟩ := sum_whole c q E l fun r hr => h r (List.mem_cons_of_mem _ hr)
    have hp := h p List.mem_cons_self
    simp only [ls]
    by_cases k : c p
    · rw [if_pos k]
      obtain ⟨y, hy, hyE⟩ := q_whole hp.1 hp.2.1 hp.2.2
      refine ⟨y + z, ?_, by rw [List.length_cons, Nat.succ_mul]; omega⟩
      push_cast
      grind
    · rw [if_neg k]
      exact ⟨z, by grind, by rw [List.length_cons, Nat.succ_mul]; omega⟩
theorem rin_whole {w : Web} {qs : List Rat} {E : Nat} (hd : ∀ q ∈ qs, q.den ∣ E) (hb : ∀ q ∈ qs, 0 ≤ q ∧ q ≤ 1) (γ : Goal) (k : Nat) : ∃ z : Nat, ls ((w.ins.zip qs).take k) (fun p => if p.1 = γ then p.2 else 0) * (E : Rat) = (z : Rat) ∧ z ≤ k * E := by
  obtain ⟨z, h1, h2⟩ := sum_whole (fun p : Goal × Rat => p.1 = γ) (fun p => p.2) E ((w.ins.zip qs).take k) fun p hp => by
    have : p.2 ∈ qs := (List.of_mem_zip (List.mem_of_mem_take hp)).2
    exact ⟨hd _ this, hb _ this⟩
  refine ⟨z, h1, Nat.le_trans h2 (Nat.mul_le_mul_right _ ?_)⟩
  rw [List.length_take]; omega
theorem web_den {w : Web} (h : IsWeb w) {qs : List Rat} (hq : qs.length = w.ins.length) {E e : Nat} (hE : 0 < E) (hd : ∀ q ∈ qs, q.den ∣ E) (hb : ∀ q ∈ qs, 0 ≤ q ∧ q ≤ 1) (he : 2 * E ≤ 2 ^ e) : Den e (e + 3) w.prs.length (webM w qs) := by
  have p8 : 2 ^ (e + 3) = 8 * 2 ^ e := by rw [Nat.pow_add]; omega
  have c2 : ((2 * E : Nat) : Rat) = 2 * (E : Rat) := by push_cast; rfl
  intro i hi
  refine ⟨2 * E, by omega, he, fun j hj => ?_⟩
  unfold webM
  by_cases q : j = w.prs.length
  · rw [if_pos q]
    obtain ⟨z, h1, h2⟩ := rin_whole (w := w) hd hb ⟨false, i⟩ (w.ins.zip qs).length
    rw [List.take_length] at h1
    have hl : (w.ins.zip qs).length ≤ 4 := by have := h.parts.ins; simp; omega
    have : z ≤ 4 * E := Nat.le_trans h2 (Nat.mul_le_mul_right _ hl)
    refine ⟨((2 * z : Nat) : Int), ?_, ?_⟩
    · rw [cast_nat, c2]
      push_cast
      unfold rin
      rw [← h1]; grind
    · rw [natAbs_nat]; omega
  · rw [if_neg q]
    obtain ⟨c, hc, hc2⟩ := cfg_two h ⟨false, i⟩ (show j < w.prs.length by omega)
    by_cases r : i = j
    · rw [if_pos r]
      refine ⟨(2 - (c : Int)) * (E : Int), ?_, ?_⟩
      · rw [c2, Rat.intCast_mul, Rat.intCast_sub, cast_nat, cast_nat, ← hc2]
        have : ((2 : Int) : Rat) = 2 := rfl
        rw [this]; grind
      · have : c = 0 ∨ c = 1 ∨ c = 2 := by omega
        rcases this with rfl | rfl | rfl <;> simp <;> omega
    · rw [if_neg r]
      refine ⟨-(c : Int) * (E : Int), ?_, ?_⟩
      · rw [c2, Rat.intCast_mul, Rat.intCast_neg, cast_nat, cast_nat, ← hc2]; grind
      · have : c = 0 ∨ c = 1 ∨ c = 2 := by omega
        rcases this with rfl | rfl | rfl <;> simp <;> omega
theorem RatesOk.solv {w : Web} {qs : List Rat} (r : RatesOk w qs) (h : IsWeb w) : Solv w.prs.length (webM w qs) := by
  obtain ⟨E, e, h1, h2, h3, h4⟩ := r.fit
  refine ⟨⟨vv w, web_gd h qs, fun i _ => vv_pos w i⟩, by have := h.parts.prs; omega, e, e + 3, web_den h r.len h1 h2 r.bnd h3, h4, ?_⟩
  have hp : 2 ^ (w.prs.length - 1) ≤ 2 ^ 11 := pow_mono (by have := h.parts.prs; omega)
  have : (2 : Nat) ^ 11 = 2048 := by decide
  rw [Nat.add_mul]
  omega

/-! ### what flows through each splitter -/
theorem spl_eqF (g : Goal) : decide ((if g.out then Str.ofString "out" else Str.ofString "split") = Str.ofString "split") = !g.out := by
  cases h : g.out <;> simp <;> decide
def R_parts_of : List PD → PD → Prop := fun ds r => ∃ p : OG × OG, ds = [pairD p] ∧ r = .list ((there p).map goalD)
theorem rel_parts_of {p : OG × OG} : R_parts_of [pairD p] (.list ((there p).map goalD)) := ⟨p, rfl, rfl⟩
theorem len_parts_of {ds : List PD} {r : PD} : R_parts_of ds r → ds.length = 1 := by rintro ⟨_, rfl, _⟩; rfl
theorem sc_parts_of : FnScope ["pair", "goal"] ["pair"] (defScope (topS 35)) := ⟨rfl, rfl, rfl, by decide +kernel, rfl, by decide +kernel, by decide +kernel⟩
theorem bi_parts_of {K : Fr} {mg : Str → Option Value} (G : Tx K mg) : Binds K G.fd_parts_of ["pair"] [] := G.fn_parts_of.bindsN fun _ _ _ _ _ _ us hl => match us, hl with | [_], _ => rfl
theorem ok_parts_of {P : Program} {w : World} {K : Fr} {mg : Str → Option Value} {base : Heap} {T : Tb} (G : Tx K mg) : FnOk P w K mg base CX0 1 (He.ga K "parts_of") G.fd_parts_of ["pair"] (spF T R_parts_of) := by
  have nd := sc_parts_of.nd
  refine fn_ok G.fn_parts_of sc_parts_of (fun ds d h => by have h' := len_parts_of h; rw [h']; decide) fun ds d h cd A outer s H E hr => ?_
  obtain ⟨p, rfl, rfl⟩ := h
  dsimp only [enter]
  exact dss_one (ds_ret (de_to (de_dn (dn_lc (xs := ([p.1, p.2])) (emb := (ogD)) (f := (fun o => !isNo (ogD o))) (g := (ogD)) (own' := [("goal", 1)]) rfl nd (dic_to (dic_of (by first | exact di_tup (de_nm 0) | exact di_list (de_nm 0))) (by walk_at "emb")) (by walk_at "blk") (by walk_at "free") (by decide) (by walk_at "sz") (fun z hz _ _ _ _ _ => (dg_nm 1 nd (by walk_at "free1"))) (fun z hz _ _ _ _ _ => dts_one (dt_to (dt_cmp (de_nm 1) de_none (by walk_at "cb.IsNot")) (by walk_at "elt"))) (fun z hz hk _ _ _ _ _ => (de_to (de_nm 1) (by walk_at "elt"))))) (congrArg PyData.list (there_D p))) rfl)
def lst2 (n : Nat) (N : Mx) : List (List PD) := (List.range n).map fun i => rowL n (N i)
theorem lst2_len (n : Nat) (N : Mx) : (lst2 n N).length = n := by simp [lst2]
theorem lst2_at {n i : Nat} (N : Mx) (h : i < n) : (lst2 n N)[i]? = some (rowL n (N i)) := by simp [lst2, List.getElem?_map, List.getElem?_range h]
theorem lst2_froz (n : Nat) (N : Mx) : (lst2 n N).map PyData.list = rowsD n N := by simp [lst2, rowsD, rowD, List.map_map, Function.comp_def]
theorem rowL_set {n j : Nat} (r : Nat → Rat) (q : Rat) : (rowL n r).set j (qD q) = rowL n (fun c => if c = j then q else r c) := by
  refine List.ext_getElem? fun k => ?_
  rw [List.getElem?_set]
  simp only [rowL, List.length_map, List.length_range, List.getElem?_map]
  by_cases hk : k < n + 1
  · rw [List.getElem?_range hk]
    by_cases e : j = k
    · subst e; simp [hk]
    · simp [e, Ne.symm e]
  · rw [List.getElem?_eq_none (by simp; omega)]
    by_cases e : j = k
    · subst e; simp [hk]
    · simp [e]
theorem lst2_set {n i : Nat} (N : Mx) (r : Nat → Rat) : (lst2 n N).set i (rowL n r) = lst2 n (fun k => if k = i then r else N k) := by
  refine List.ext_getElem? fun k => ?_
  rw [List.getElem?_set]
  simp only [lst2, List.length_map, List.length_range, List.getElem?_map]
  by_cases hk : k < n
  · rw [List.getElem?_range hk]
    by_cases e : i = k
    · subst e; simp [hk]
    · simp [e, Ne.symm e]
  · rw [List.getElem?_eq_none (by simp; omega)]
    by_cases e : i = k
    · subst e; simp [hk]
    · simp [e]
theorem lst2_congr {n : Nat} {M N : Mx} (h : ∀ i, i < n → ∀ j, j ≤ n → M i j = N i j) : lst2 n M = lst2 n N := List.map_congr_left fun i hi => rowL_congr (h i (List.mem_range.mp hi))
theorem row_init {n z : Nat} (h : z < n) : (List.replicate z [qD 0]).flatten ++ [qD 1] ++ (List.replicate (n - z) [qD 0]).flatten = rowL n (fun j => if z = j then 1 else 0) := by
  rw [List.flatten_replicate_singleton, List.flatten_replicate_singleton]
  refine List.ext_getElem? fun k => ?_
  simp only [rowL, List.getElem?_map]
  by_cases h1 : k < z
  · rw [List.append_assoc, List.getElem?_append_left (by simpa using h1), List.getElem?_replicate, if_pos h1, List.getElem?_range (by omega)]
    simp only [Option.map_some]
    rw [if_neg (by omega)]
  · by_cases h2 : k = z
    · subst h2
      rw [List.append_assoc, List.getElem?_append_right (by simp), List.getElem?_range (by omega)]
      simp
    · rw [List.getElem?_append_right (by simp; omega)]
      by_cases h3 : k < n + 1
      · rw [List.getElem?_replicate, if_pos (by simp; omega), List.getElem?_range h3]
        simp only [Option.map_some]
        rw [if_neg (by omega)]
      · rw [List.getElem?_eq_none (by simp; omega), List.getElem?_eq_none (by simp; omega)]
        rfl
def ratesD (qs : List Rat) : PD := .list (qs.map qD)
theorem zip_D (gs : List Goal) (qs : List Rat) : zipD (gs.map goalD) (qs.map qD) = (gs.zip qs).map fun p => .tuple [goalD p.1, qD p.2] := by
  unfold zipD
  refine List.ext_getElem? fun k => ?_
  simp only [List.getElem?_map, List.length_map]
  by_cases hk : k < min gs.length qs.length
  · have h1 : k < gs.length := by omega
    have h2 : k < qs.length := by omega
    rw [List.getElem?_range hk, List.getElem?_eq_getElem (by simpa using hk)]
    simp [List.getD_eq_getElem?_getD, h1, h2]
  · rw [List.getElem?_eq_none (by simpa using hk), List.getElem?_eq_none (by simp only [List.length_zip]; omega)]
    rfl
def inM (w : Web) (qs : List Rat) (k : Nat) : Mx := fun i j => if j = w.prs.length then ls ((w.ins.zip qs).take k) (fun p => if p.1 = ⟨false, i⟩ then p.2 else 0) else if i = j then 1 else 0
def prM (w : Web) (qs : List Rat) (j : Nat) : Mx := fun i c => if c = w.prs.length then rin w qs ⟨false, i⟩ else if c < j then webM w qs i c else if i = c then 1 else 0
def prM2 (w : Web) (qs : List Rat) (j m : Nat) : Mx := fun i c => if c = j then (if i = c then 1 else 0) - ls ((there (prAt w j)).take m) (fun g => if g = ⟨false, i⟩ then 1 / kk w j else 0) else prM w qs j i c
theorem ls_take {α : Type} {l : List α} {k : Nat} {x : α} (f : α → Rat) (h : l[k]? = some x) : ls (l.take (k + 1)) f = ls (l.take k) f + f x := by
  rw [List.take_add_one, h, ls_append]
  simp only [Option.toList_some, ls]; grind
theorem one_over {w : Web} (h : IsWeb w) {j : Nat} (hj : j < w.prs.length) : PyData.tuple [.int 1, .int ((there (prAt w j)).length : Nat)] = qD (1 / kk w j) := by
  rcases there_cases h hj with ⟨g, e, e2, _⟩ | ⟨g, g', e, e2, _⟩
  · rw [e, e2, show (1 : Rat) / 1 = 1 by decide +kernel]; rfl
  · rw [e, e2]
    have h1 : ((1 : Rat) / 2).num = 1 := by decide +kernel
    have h2 : ((1 : Rat) / 2).den = 2 := by decide +kernel
    unfold qD
    rw [h1, h2]; rfl
theorem half_kk {w : Web} (h : IsWeb w) {j : Nat} (hj : j < w.prs.length) : ∃ c : Nat, c ≤ 2 ∧ 1 / kk w j * 2 = (c : Rat) := by
  rcases there_cases h hj with ⟨g, e, e2, _⟩ | ⟨g, g', e, e2, _⟩
  · exact ⟨2, by decide, by rw [e2]; decide +kernel⟩
  · exact ⟨1, by decide, by rw [e2]; decide +kernel⟩
theorem half_ls {r : Rat} {c : Nat} (hc : c ≤ 2) (hr : r * 2 = (c : Rat)) (γ : Goal) : ∀ l : List Goal, ∃ c' : Nat, c' ≤ 2 * l.length ∧ ls l (fun g => if g = γ then r else 0) * 2 = (c' : Rat)
  | [] => ⟨0, by simp, by simp only [ls]; grind⟩
  | g :: l => by
    obtain ⟨c', h1, h2⟩ := half_ls hc hr γ l
    simp only [ls]
    by_cases q : g = γ
    · rw [if_pos q]
      exact ⟨c + c', by rw [List.length_cons]; omega, by push_cast; grind⟩
    · rw [if_neg q]
      exact ⟨c', by rw [List.length_cons]; omega, by grind⟩
theorem half_sz {q : Rat} {z : Int} (h : q * 2 = (z : Rat)) (hz : z.natAbs ≤ 8) : Sz 4 2 q := by
  have h2 : q * ((2 : Nat) : Rat) = (z : Rat) := h
  have a := rat_den_le (by decide) h2
  have b := rat_num_le (by decide) h2
  exact ⟨by omega, by omega⟩
theorem there_le (p : OG × OG) : (there p).length ≤ 2 := there_len p
theorem sz_prM2 {w : Web} (h : IsWeb w) (qs : List Rat) {j : Nat} (hj : j < w.prs.length) (i m : Nat) : Sz 4 2 (prM2 w qs j m i j) := by
  obtain ⟨c, h1, h2⟩ := half_kk h hj
  obtain ⟨c', h3, h4⟩ := half_ls h1 h2 ⟨false, i⟩ ((there (prAt w j)).take m)
  have hl : ((there (prAt w j)).take m).length ≤ 2 := by have := there_le (prAt w j); rw [List.length_take]; omega
  unfold prM2
  rw [if_pos rfl]
  by_cases q : i = j
  · rw [if_pos q]
    refine half_sz (z := 2 - (c' : Int)) ?_ (by omega)
    rw [Rat.intCast_sub, cast_nat, ← h4]
    have : ((2 : Int) : Rat) = 2 := rfl
    rw [this]; grind
  · rw [if_neg q]
    refine half_sz (z := -(c' : Int)) ?_ (by omega)
    rw [Rat.intCast_neg, cast_nat, ← h4]; grind
theorem sz_inv {w : Web} (h : IsWeb w) {j : Nat} (hj : j < w.prs.length) : Sz 4 2 (1 / kk w j) := by
  obtain ⟨c, h1, h2⟩ := half_kk h hj
  exact half_sz (z := (c : Int)) (by rw [cast_nat]; exact h2) (by omega)
theorem whole_sz {q : Rat} {E z B : Nat} (hE : 0 < E) (hB : E ≤ 2 ^ B) (h : q * (E : Rat) = (z : Rat)) (hz : z ≤ 8 * E) : Sz (B + 4) (B + 1) q := by
  have h' : q * (E : Rat) = ((z : Int) : Rat) := by rw [cast_nat]; exact h
  have a := rat_den_le hE h'
  have b := rat_num_le hE h'
  have p := Nat.two_pow_pos B
  refine ⟨?_, ?_⟩
  · rw [Nat.pow_add]; omega
  · rw [Nat.pow_succ]; omega
theorem fit_e {e n : Nat} (h : 3 * (e * 2 ^ (n - 1)) ≤ 8990) : e ≤ 2996 := by
  have := Nat.le_mul_of_pos_right e (Nat.two_pow_pos (n - 1))
  omega
theorem inM_step {w : Web} {qs : List Rat} {k : Nat} {g : Goal} {q : Rat} (h : (w.ins.zip qs)[k]? = some (g, q)) (ho : g.out = false) : lst2 w.prs.length (fun i => if i = g.num then (fun c => if c = w.prs.length then inM w qs k g.num w.prs.length + q else inM w qs k g.num c) else inM w qs k i) = lst2 w.prs.length (inM w qs (k + 1)) := lst2_congr fun i hi j hj => by
  unfold inM
  have eg : g = ⟨false, g.num⟩ := by cases g; simp_all
  by_cases e : i = g.num
  · subst e
    rw [if_pos rfl]
    by_cases c : j = w.prs.length
    · rw [if_pos c, if_pos rfl, if_pos c, ls_take _ h]
      rw [if_pos (show ((g, q) : Goal × Rat).1 = ⟨false, g.num⟩ from eg)]
    · rw [if_neg c, if_neg c, if_neg c]
  · rw [if_neg e]
    by_cases c : j = w.prs.length
    · rw [if_pos c, if_pos c, ls_take _ h, if_neg (show ¬ ((g, q) : Goal × Rat).1 = ⟨false, i⟩ from fun z => e (by rw [show g = ⟨false, i⟩ from z]))]
      grind
    · rw [if_neg c, if_neg c]
theorem inM_same {w : Web} {qs : List Rat} {k : Nat} {g : Goal} {q : Rat} (h : (w.ins.zip qs)[k]? = some (g, q)) (ho : g.out = true) : lst2 w.prs.length (inM w qs (k + 1)) = lst2 w.prs.length (inM w qs k) := lst2_congr fun i hi j hj => by
  unfold inM
  by_cases c : j = w.prs.length
  · rw [if_pos c, if_pos c, ls_take _ h, if_neg (show ¬ ((g, q) : Goal × Rat).1 = ⟨false, i⟩ from fun z => by rw [show g = ⟨false, i⟩ from z] at ho; cases ho)]
    grind
  · rw [if_neg c, if_neg c]
theorem prM2_step {w : Web} {qs : List Rat} {j m : Nat} {g : Goal} (hj : j < w.prs.length) (h : (there (prAt w j))[m]? = some g) (ho : g.out = false) : lst2 w.prs.length (fun i => if i = g.num then (fun c => if c = j then prM2 w qs j m g.num j - 1 / kk w j else prM2 w qs j m g.num c) else prM2 w qs j m i) = lst2 w.prs.length (prM2 w qs j (m + 1)) := lst2_congr fun i hi c hc => by
  unfold prM2
  have eg : g = ⟨false, g.num⟩ := by cases g; simp_all
  by_cases e : i = g.num
  · subst e
    rw [if_pos rfl]
    by_cases q : c = j
    · rw [if_pos q, if_pos rfl, if_pos q, ls_take _ h, if_pos eg, q]; grind
    · rw [if_neg q, if_neg q, if_neg q]
  · rw [if_neg e]
    by_cases q : c = j
    · rw [if_pos q, if_pos q, ls_take _ h, if_neg (show ¬ g = (⟨false, i⟩ : Goal) from fun z => e (by rw [z]))]; grind
    · rw [if_neg q, if_neg q]
theorem prM2_same {w : Web} {qs : List Rat} {j m : Nat} {g : Goal} (h : (there (prAt w j))[m]? = some g) (ho : g.out = true) : lst2 w.prs.length (prM2 w qs j (m + 1)) = lst2 w.prs.length (prM2 w qs j m) := lst2_congr fun i hi c hc => by
  unfold prM2
  by_cases q : c = j
  · rw [if_pos q, if_pos q, ls_take _ h, if_neg (show ¬ g = (⟨false, i⟩ : Goal) from fun z => by rw [z] at ho; cases ho)]; grind
  · rw [if_neg q, if_neg q]
theorem prM2_zero {w : Web} {qs : List Rat} {j : Nat} (hj : j < w.prs.length) : lst2 w.prs.length (prM w qs j) = lst2 w.prs.length (prM2 w qs j 0) := lst2_congr fun i hi c hc => by
  unfold prM2
  by_cases q : c = j
  · subst q
    rw [if_pos rfl, List.take_zero]
    unfold prM
    rw [if_neg (by omega), if_neg (by omega)]
    simp only [ls]; grind
  · rw [if_neg q]
theorem prM2_all {w : Web} {qs : List Rat} {j : Nat} (hj : j < w.prs.length) : lst2 w.prs.length (prM2 w qs j (there (prAt w j)).length) = lst2 w.prs.length (prM w qs (j + 1)) := lst2_congr fun i hi c hc => by
  unfold prM2
  rw [List.take_length]
  by_cases q : c = j
  · subst q
    rw [if_pos rfl]
    unfold prM
    rw [if_neg (show ¬ c = w.prs.length by omega), if_pos (show c < c + 1 by omega)]
    unfold webM cfg
    rw [if_neg (show ¬ c = w.prs.length by omega)]
  · rw [if_neg q]
    unfold prM
    by_cases r : c = w.prs.length
    · rw [if_pos r, if_pos r]
    · rw [if_neg r, if_neg r]
      by_cases s : c < j
      · rw [if_pos s, if_pos (show c < j + 1 by omega)]
      · rw [if_neg s, if_neg (show ¬ c < j + 1 by omega)]
theorem inM_all {w : Web} {qs : List Rat} : lst2 w.prs.length (inM w qs (w.ins.zip qs).length) = lst2 w.prs.length (prM w qs 0) := lst2_congr fun i hi j hj => by
  unfold inM prM rin
  rw [List.take_length]
  by_cases c : j = w.prs.length
  · rw [if_pos c, if_pos c]
  · rw [if_neg c, if_neg c, if_neg (show ¬ j < 0 by omega)]
theorem prM_all {w : Web} {qs : List Rat} : rowsD w.prs.length (prM w qs w.prs.length) = rowsD w.prs.length (webM w qs) := rowsD_congr fun i hi j hj => by
  unfold prM
  by_cases c : j = w.prs.length
  · rw [if_pos c]; unfold webM; rw [if_pos c]
  · rw [if_neg c, if_pos (by omega)]
def R_through_of : List PD → PD → Prop := fun ds r => ∃ (w : Web) (qs : List Rat), IsWeb w ∧ RatesOk w qs ∧ ds = [webD w, ratesD qs] ∧ r = .list ((List.range w.prs.length).map fun i => qD (thr w qs i))
theorem rel_through_of {w : Web} {qs : List Rat} (h : IsWeb w) (r : RatesOk w qs) : R_through_of [webD w, ratesD qs] (.list ((List.range w.prs.length).map fun i => qD (thr w qs i))) := ⟨w, qs, h, r, rfl, rfl⟩
theorem len_through_of {ds : List PD} {r : PD} : R_through_of ds r → ds.length = 2 := by rintro ⟨_, _, _, _, rfl, _⟩; rfl
theorem range_get {n k z : Nat} (h : (List.range n)[k]? = some z) : z = k ∧ k < n := by
  obtain ⟨h1, h2⟩ := List.getElem?_eq_some_iff.mp h
  simp at h1 h2
  exact ⟨h2.symm, h1⟩
theorem enum_prs (w : Web) : enumD (w.prs.map pairD) = (List.range w.prs.length).map fun i => .tuple [.int (i : Nat), pairD (prAt w i)] := by
  unfold enumD
  rw [List.length_map]
  refine List.map_congr_left fun i hi => ?_
  have hi' := List.mem_range.mp hi
  rw [getD_some (show (w.prs.map pairD)[i]? = some (pairD (prAt w i)) by simp [prAt, hi'])]
theorem sc_through_of : FnScope ["web", "rates", "many", "rows", "number", "goal", "rate", "pair", "goals"] ["web", "rates"] (defScope (topS 36)) := ⟨rfl, rfl, rfl, by decide +kernel, rfl, by decide +kernel, by decide +kernel⟩
theorem bi_through_of {K : Fr} {mg : Str → Option Value} (G : Tx K mg) : Binds K G.fd_through_of ["web", "rates"] [] := G.fn_through_of.bindsN fun _ _ _ _ _ _ us hl => match us, hl with | [_, _], _ => rfl
theorem ok_through_of {P : Program} {w : World} {K : Fr} {mg : Str → Option Value} {base : Heap} {T : Tb} (G : Tx K mg) : FnOk P w K mg base CX0 5 (He.ga K "through_of") G.fd_through_of ["web", "rates"] (spF T R_through_of) := by
  have nd := sc_through_of.nd
  refine fn_ok G.fn_through_of sc_through_of (fun ds d h => by have h' := len_through_of h; rw [h']; decide) fun ds d h cd A outer s H E hr => ?_
  obtain ⟨w, qs, hw, hq, rfl, rfl⟩ := h
  dsimp only [enter]
  have hn := hw.parts.prs
  have hin := hw.parts.ins
  obtain ⟨E0, e, hE0, hdE, hE2, hfit⟩ := hq.fit
  have he := fit_e hfit
  refine dss_then (ds_asg 2 (de_to (de_len (G.b_len) (de_ix (de_nm 0) de_int (by walk_at "ix")) (by walk_at "len")) (show _ = PyData.int ((w.prs.length : Nat) : Int) by simp)) (by rfl) nd) ?_
  dsimp only [List.set]
  refine dss_then (ds_asgLcO (xs := List.range w.prs.length) (emb := fun i => .int (i : Nat)) (g := fun i => rowL w.prs.length (fun j => if i = j then 1 else 0)) (own' := [("number", 4)]) 3 rfl nd (dic_to (dic_of (di_range (da_cons (de_nm 2) da_nil) G.b_range (by omega))) (by simp [DL.upTo])) (by walk_at "blk") (by walk_at "free") (by decide) (by simp; omega) (fun z hz _ _ _ _ _ => (dg_nm 4 nd (by walk_at "free1"))) (fun z hz _ _ _ _ _ => ?_) (by rfl) (by walk_at "lt")) ?_
  · have hz2 := List.mem_range.mp hz
    refine dn_to (dn_bin (de_bin (de_bin (de_dn (dn_lst (da_cons (de_tup (da_cons de_int (da_cons de_int da_nil))) da_nil))) (de_nm 4) (by walk_at "ob.Mult")) (de_dn (dn_lst (da_cons (de_tup (da_cons de_int (da_cons de_int da_nil))) da_nil))) (by walk_at "ob.Add")) (de_bin (de_dn (dn_lst (da_cons (de_tup (da_cons de_int (da_cons de_int da_nil))) da_nil))) (de_bin (de_nm 2) (de_nm 4) (by walk_at "ob.Sub")) (by walk_at "ob.Mult")) (by walk_at "obn.Add")) ?_
    rw [show ((z : Nat) : Int).toNat = z by omega, show ((w.prs.length : Int) - (z : Nat)).toNat = w.prs.length - z by omega]
    exact row_init hz2
  · dsimp only [List.set]
    have e0 : (List.range w.prs.length).map (fun i => rowL w.prs.length (fun j => if i = j then 1 else 0)) = lst2 w.prs.length (inM w qs 0) := lst2_congr fun i hi j hj => by
      unfold inM
      rw [List.take_zero]
      by_cases c : j = w.prs.length
      · rw [if_pos c, if_neg (by omega)]; rfl
      · rw [if_neg c]
    rw [e0]
    refine dss_then (ds_forS (xs := w.ins.zip qs) (emb := fun p => .tuple [goalD p.1, qD p.2]) (fun k => [dat (webD w), dat (ratesD qs), dat (.int (w.prs.length : Nat)), own2 (lst2 w.prs.length (inM w qs k)), un, un, un, un, un]) (fun _ => True) (di_to (di_zip (k := true) (k2 := false) (da_cons (de_ix (de_nm 0) de_int (by walk_at "ix")) (da_cons (de_nm 1) da_nil)) G.b_zip) (zip_D _ _)) (LeL.le (by walk_at "le")) trivial (fun k p hp _ => ⟨(dg_tup rfl (dgs_cons (dg_nm 5 nd (by walk_at "free1")) (dgs_cons (dg_nm 6 nd (by walk_at "free1")) dgs_nil))), ?_⟩) (fun _ => rfl) PassesOwn.never rfl) ?_
    · dsimp only [List.set]
      obtain ⟨g, q⟩ := p
      have hmem := List.of_mem_zip (List.mem_of_getElem? hp)
      have hbn := bnd_of hw (goal_mem_ins hmem.1)
      refine dss_one (ds_if (k := !g.out) (dt_to (dt_cmp (de_ix (de_nm 5) de_int (by walk_at "ix")) de_str (by walk_at "cb.Eq")) (spl_eqF g)) (fun hk => ?_) (fun hk => ?_))
      · have ho : g.out = false := by simpa using hk
        have hgn : g.num < w.prs.length := by simpa [bndG, ho] using hbn
        have hj1 : ixN (lst2 w.prs.length (inM w qs k)).length ((g.num : Nat) : Int) = some g.num := by rw [lst2_len]; exact ixN_nat hgn
        have hds := lst2_at (inM w qs k) hgn
        have hj2 : ixN (rowL w.prs.length (inM w qs k g.num)).length (-1) = some w.prs.length := by
          rw [rowL_len]; unfold ixN
          rw [if_neg (by omega), if_pos (by omega)]
          congr 1; omega
        have hR : R_plus [qD (inM w qs k g.num w.prs.length), qD q] (qD (inM w qs k g.num w.prs.length + q)) := by
          obtain ⟨z, h1, h2⟩ := rin_whole (w := w) hdE hq.bnd ⟨false, g.num⟩ k
          have hk4 : k ≤ 3 := by
            have h3 := (List.getElem?_eq_some_iff.mp hp).1
            simp only [List.length_zip] at h3
            omega
          have hz : z ≤ 8 * E0 := Nat.le_trans h2 (Nat.mul_le_mul_right _ (by omega))
          obtain ⟨y, h4, h5⟩ := q_whole (hdE q hmem.2) (hq.bnd q hmem.2).1 (hq.bnd q hmem.2).2
          have s1 : Sz (e + 4) (e + 1) (inM w qs k g.num w.prs.length) := whole_sz hE0 (by omega) (by unfold inM; rw [if_pos rfl]; exact h1) hz
          have s2 : Sz (e + 4) (e + 1) q := whole_sz hE0 (by omega) h4 (by omega)
          exact rel_plus s1 s2 (by omega) (by omega)
        refine dss_one (ds_set2 3 (de_ix (de_nm 5) de_int (ix_t rfl)) (de_un de_int ub_neg) (de_call (ok_plus G) (hr.mono (by decide)) G.g_plus G.fn_plus.kp (bi_plus G) (da_cons (de_ix2 3 (de_ix (de_nm 5) de_int (ix_t rfl)) (de_un de_int ub_neg) hj1 hds (rowL_last _ _)) (da_cons (de_nm 6) da_nil)) hR) hj1 hds hj2 ⟨LeL.le (.keep (.keep (.keep (.keepE ?_ (by walk_at "le"))))), trivial⟩)
        rw [rowL_set, lst2_set, inM_step hp ho]
      · have ho : g.out = true := by simpa using hk
        refine dss_nil ⟨LeL.le (.keep (.keep (.keep (.keepE ?_ (by walk_at "le"))))), trivial⟩
        rw [inM_same hp ho]
    · rw [inM_all]
      refine dss_then (ds_forS (xs := List.range w.prs.length) (emb := fun i => .tuple [.int (i : Nat), pairD (prAt w i)]) (fun j => [dat (webD w), dat (ratesD qs), dat (.int (w.prs.length : Nat)), own2 (lst2 w.prs.length (prM w qs j)), un, un, un, un, un]) (fun _ => True) (di_to (ds := enumD (w.prs.map pairD)) (di_enum (k := true) (da_cons (de_ix (de_nm 0) de_int (by walk_at "ix")) da_nil) G.b_enumerate) (enum_prs w)) (LeL.le (by walk_at "le")) trivial (fun j z hz _ => ⟨(dg_tup rfl (dgs_cons (dg_nm 4 nd (by walk_at "free1")) (dgs_cons (dg_nm 7 nd (by walk_at "free1")) dgs_nil))), ?_⟩) (fun _ => rfl) PassesOwn.never rfl) ?_
      · dsimp only [List.set]
        obtain ⟨rfl, hj⟩ := range_get hz
        refine dss_then (ds_asg 8 (de_call (ok_parts_of G) (hr.mono (by decide)) G.g_parts_of G.fn_parts_of.kp (bi_parts_of G) (da_cons (de_nm 7) da_nil) rel_parts_of) (by rfl) nd) ?_
        dsimp only [List.set]
        rw [prM2_zero hj]
        refine dss_one (ds_forS (xs := there (prAt w z)) (emb := goalD) (fun m => [dat (webD w), dat (ratesD qs), dat (.int (w.prs.length : Nat)), own2 (lst2 w.prs.length (prM2 w qs z m)), dat (.int (z : Nat)), un, un, dat (pairD (prAt w z)), dat (.list ((there (prAt w z)).map goalD))]) (fun _ => True) (by first | exact di_tup (de_nm 8) | exact di_list (de_nm 8)) (LeL.le (by walk_at "le")) trivial (fun m g hg _ => ⟨(dg_nm 5 nd (by walk_at "free1")), ?_⟩) (fun _ => ⟨LeL.le (.keep (.keep (.keep (.keepE (by rw [prM2_all hj]) (by walk_at "le"))))), trivial⟩) PassesOwn.never rfl)
        dsimp only [List.set]
        have hgm := List.mem_of_getElem? hg
        refine dss_one (ds_if (k := !g.out) (dt_to (dt_cmp (de_ix (de_nm 5) de_int (by walk_at "ix")) de_str (by walk_at "cb.Eq")) (spl_eqF g)) (fun hk => ?_) (fun hk => ?_))
        · have ho : g.out = false := by simpa using hk
          have hgn := there_bnd hw hj hgm ho
          have hj1 : ixN (lst2 w.prs.length (prM2 w qs z m)).length ((g.num : Nat) : Int) = some g.num := by rw [lst2_len]; exact ixN_nat hgn
          have hds := lst2_at (prM2 w qs z m) hgn
          have hj2 : ixN (rowL w.prs.length (prM2 w qs z m g.num)).length ((z : Nat) : Int) = some z := by rw [rowL_len]; exact ixN_nat (by omega)
          have hR : R_less [qD (prM2 w qs z m g.num z), qD (1 / kk w z)] (qD (prM2 w qs z m g.num z - 1 / kk w z)) := rel_less (sz_prM2 hw qs hj _ _) (sz_inv hw hj) (by decide) (by decide)
          refine dss_one (ds_set2 3 (j2 := z) (de_ix (de_nm 5) de_int (ix_t rfl)) (de_nm 4) (de_call (ok_less G) (hr.mono (by decide)) G.g_less G.fn_less.kp (bi_less G) (da_cons (de_ix2 3 (de_ix (de_nm 5) de_int (ix_t rfl)) (de_nm 4) hj1 hds (rowL_at _ (by omega))) (da_cons (de_to (de_tup (da_cons de_int (da_cons (de_len G.b_len (de_nm 8) (LenD.list _)) da_nil))) (by rw [List.length_map]; exact one_over hw hj)) da_nil)) hR) hj1 hds hj2 ⟨LeL.le (.keep (.keep (.keep (.keepE ?_ (by walk_at "le"))))), trivial⟩)
          rw [rowL_set, lst2_set, prM2_step hj hg ho]
        · have ho : g.out = true := by simpa using hk
          refine dss_nil ⟨LeL.le (.keep (.keep (.keep (.keepE ?_ (by walk_at "le"))))), trivial⟩
          rw [prM2_same hg ho]
      · rw [List.length_range]
        refine dss_le (le_fr2 3 rfl) ?_
        dsimp only [List.set]
        rw [lst2_froz, prM_all]
        exact dss_one (ds_ret (de_call (ok_solved G) (hr.mono (by decide)) G.g_solved G.fn_solved.kp (bi_solved G) (da_cons (de_nm 3) da_nil) (rel_solved (hq.solv hw))) rfl)

/-! ### what flows on each belt -/
local macro_rules | `(tactic| walk_at "elt") => `(tactic| exact out_eq _)
def beltD (p : Goal × Rat) : PD := .tuple [goalD p.1, qD p.2]
theorem thr_sz {w : Web} {qs : List Rat} (r : RatesOk w qs) (h : IsWeb w) {i : Nat} (hi : i < w.prs.length) : (thr w qs i).den ≤ 2 ^ 5992 ∧ (thr w qs i).num.natAbs < 2 ^ 18280 := by
  obtain ⟨E, e, h1, h2, h3, h4⟩ := r.fit
  have d := Den.all (web_gd h qs) (fun i _ => vv_pos w i) (web_den h r.len h1 h2 r.bnd h3) w.prs.length (Nat.le_refl _) i hi
  have e2 : 2 ^ w.prs.length = 2 * 2 ^ (w.prs.length - 1) := by
    obtain ⟨m, hm⟩ : ∃ m, w.prs.length = m + 1 := ⟨w.prs.length - 1, by omega⟩
    rw [hm, Nat.pow_succ, Nat.add_sub_cancel]; omega
  have hp : 2 ^ (w.prs.length - 1) ≤ 2 ^ 11 := pow_mono (by have := h.parts.prs; omega)
  have : (2 : Nat) ^ 11 = 2048 := by decide
  have a1 : e * 2 ^ w.prs.length ≤ 5992 := by rw [e2, Nat.mul_left_comm]; omega
  have a2 : (e + 3) * 2 ^ w.prs.length ≤ 18280 := by rw [Nat.add_mul, e2, Nat.mul_left_comm]; omega
  exact ⟨Nat.le_trans (d.den (Nat.le_refl _)) (pow_mono a1), Nat.lt_of_lt_of_le (d.num (Nat.le_refl _)) (pow_mono a2)⟩
theorem inv_sz {w : Web} (h : IsWeb w) {j : Nat} (hj : j < w.prs.length) : (1 / kk w j).den ≤ 2 ^ 1 ∧ (1 / kk w j).num.natAbs < 2 ^ 4 := by
  have := sz_inv h hj
  obtain ⟨c, h1, h2⟩ := half_kk h hj
  exact ⟨rat_den_le (d := 2) (z := (c : Int)) (by decide) (by rw [cast_nat]; exact h2), this.num⟩
theorem flow_sz {w : Web} {qs : List Rat} (r : RatesOk w qs) (h : IsWeb w) : ∀ p ∈ belts w qs (thr w qs), Sz 20000 5994 p.2 := fun p hp => by
  rcases List.mem_append.mp hp with hp | hp
  · obtain ⟨E, e, h1, h2, h3, h4⟩ := r.fit
    have he := fit_e h4
    have hm := (List.of_mem_zip hp).2
    obtain ⟨y, h5, h6⟩ := q_whole (h2 _ hm) (r.bnd _ hm).1 (r.bnd _ hm).2
    exact (whole_sz (B := e) h1 (by omega) h5 (by omega)).up (by omega) (by omega)
  · obtain ⟨l, hl, hp⟩ := List.mem_flatten.mp hp
    obtain ⟨j, hj, rfl⟩ := List.mem_map.mp hl
    obtain ⟨g, hg, rfl⟩ := List.mem_map.mp hp
    have hj := List.mem_range.mp hj
    have a := thr_sz r h hj
    have b := inv_sz h hj
    exact (sz_mul a.2 a.1 b.2 b.1).up (by omega) (by omega)
def bltTo (w : Web) (qs : List Rat) (x : Nat → Rat) (k : Nat) : List (Goal × Rat) := w.ins.zip qs ++ ((List.range k).map fun j => (there (prAt w j)).map fun g => (g, x j * (1 / kk w j))).flatten
theorem bltTo_succ (w : Web) (qs : List Rat) (x : Nat → Rat) (k : Nat) : bltTo w qs x (k + 1) = bltTo w qs x k ++ (there (prAt w k)).map fun g => (g, x k * (1 / kk w k)) := by
  simp [bltTo, List.range_succ]
theorem bltTo_len (w : Web) (qs : List Rat) (x : Nat → Rat) (k : Nat) : (bltTo w qs x k).length ≤ w.ins.length + 2 * k := by
  induction k with
  | zero => simp [bltTo]; omega
  | succ k ih =>
    rw [bltTo_succ, List.length_append, List.length_map]
    have := there_le (prAt w k)
    omega
theorem zip_prs (w : Web) (x : Nat → Rat) : zipD (w.prs.map pairD) ((List.range w.prs.length).map fun i => qD (x i)) = (List.range w.prs.length).map fun i => .tuple [pairD (prAt w i), qD (x i)] := by
  unfold zipD
  rw [List.length_map, List.length_map, List.length_range, Nat.min_self]
  refine List.map_congr_left fun i hi => ?_
  have hi' := List.mem_range.mp hi
  rw [getD_some (show (w.prs.map pairD)[i]? = some (pairD (prAt w i)) by simp [prAt, hi']), getD_some (show ((List.range w.prs.length).map fun i => qD (x i))[i]? = some (qD (x i)) by simp [hi'])]
def R_belts_of : List PD → PD → Prop := fun ds r => ∃ (w : Web) (qs : List Rat), IsWeb w ∧ RatesOk w qs ∧ ds = [webD w, ratesD qs] ∧ r = .list ((belts w qs (thr w qs)).map beltD)
theorem rel_belts_of {w : Web} {qs : List Rat} (h : IsWeb w) (r : RatesOk w qs) : R_belts_of [webD w, ratesD qs] (.list ((belts w qs (thr w qs)).map beltD)) := ⟨w, qs, h, r, rfl, rfl⟩
theorem len_belts_of {ds : List PD} {r : PD} : R_belts_of ds r → ds.length = 2 := by rintro ⟨_, _, _, _, rfl, _⟩; rfl
theorem sc_belts_of : FnScope ["web", "rates", "found", "pair", "own", "goals", "goal"] ["web", "rates"] (defScope (topS 37)) := ⟨rfl, rfl, rfl, by decide +kernel, rfl, by decide +kernel, by decide +kernel⟩
theorem bi_belts_of {K : Fr} {mg : Str → Option Value} (G : Tx K mg) : Binds K G.fd_belts_of ["web", "rates"] [] := G.fn_belts_of.bindsN fun _ _ _ _ _ _ us hl => match us, hl with | [_, _], _ => rfl
theorem ok_belts_of {P : Program} {w : World} {K : Fr} {mg : Str → Option Value} {base : Heap} {T : Tb} (G : Tx K mg) : FnOk P w K mg base CX0 6 (He.ga K "belts_of") G.fd_belts_of ["web", "rates"] (spF T R_belts_of) := by
  have nd := sc_belts_of.nd
  refine fn_ok G.fn_belts_of sc_belts_of (fun ds d h => by have h' := len_belts_of h; rw [h']; decide) fun ds d h cd A outer s H E hr => ?_
  obtain ⟨w, qs, hw, hq, rfl, rfl⟩ := h
  dsimp only [enter]
  have hn := hw.parts.prs
  have hin := hw.parts.ins
  refine dss_then (ds_asgN 2 (dn_to (dn_listZip (k1 := true) (k2 := false) G.b_list G.b_zip rfl (da_cons (de_ix (de_nm 0) de_int (by walk_at "ix")) (da_cons (de_nm 1) da_nil)) (by simp; omega)) (zip_D w.ins qs)) (by rfl) (by walk_at "lt") nd) ?_
  dsimp only [List.set]
  refine dss_then (ds_forS (xs := List.range w.prs.length) (emb := fun i => .tuple [pairD (prAt w i), qD (thr w qs i)]) (fun k => [dat (webD w), dat (ratesD qs), own ((bltTo w qs (thr w qs) k).map beltD), un, un, un, un]) (fun _ => True) (di_to (di_zip (k := true) (k2 := false) (da_cons (de_ix (de_nm 0) de_int (by walk_at "ix")) (da_cons (de_call (ok_through_of G) (hr.mono (by decide)) G.g_through_of G.fn_through_of.kp (bi_through_of G) (da_cons (de_nm 0) (da_cons (de_nm 1) da_nil)) (rel_through_of hw hq)) da_nil)) G.b_zip) (zip_prs w _)) (LeL.le (.keep (.keep (.keepE (by simp [bltTo]; rfl) (by walk_at "le"))))) trivial (fun k z hz _ => ⟨(dg_tup rfl (dgs_cons (dg_nm 3 nd (by walk_at "free1")) (dgs_cons (dg_nm 4 nd (by walk_at "free1")) dgs_nil))), ?_⟩) (fun _ => rfl) PassesOwn.never rfl) ?_
  · dsimp only [List.set]
    obtain ⟨rfl, hj⟩ := range_get hz
    refine dss_then (ds_asg 5 (de_call (ok_parts_of G) (hr.mono (by decide)) G.g_parts_of G.fn_parts_of.kp (bi_parts_of G) (da_cons (de_nm 3) da_nil) rel_parts_of) (by rfl) nd) ?_
    dsimp only [List.set]
    have hl := bltTo_len w qs (thr w qs) z
    have hl2 := there_le (prAt w z)
    have a := thr_sz hq hw hj
    have hR : R_times [qD (thr w qs z), qD (1 / kk w z)] (qD (thr w qs z * (1 / kk w z))) := rel_times (A := 18280) (B1 := 5993) (B2 := 2) ⟨a.2, by rw [show 5993 = 5992 + 1 from rfl, Nat.pow_succ]; have := Nat.two_pow_pos 5992; omega⟩ ((sz_inv hw hj).up (by decide) (by decide)) (by decide) (by decide)
    refine dss_one (ds_extend 2 (de_dn (dn_lc0 (xs := (there (prAt w z))) (emb := (goalD)) (g := (fun g => beltD (g, thr w qs z * (1 / kk w z)))) (own' := [("goal", 6)]) rfl nd (dic_to (dic_of (by first | exact di_tup (de_nm 5) | exact di_list (de_nm 5))) (by walk_at "emb")) (by walk_at "blk") (by walk_at "free") (by decide) (by walk_at "sz") (fun z hz _ _ _ _ _ => (dg_nm 6 nd (by walk_at "free1"))) (fun z hz _ _ _ _ _ => (?_)))) rfl ⟨LeL.le ?_, trivial⟩ (by rw [sizeLine_eq]; simp; omega))
    · exact de_tup (da_cons (de_nm 6) (da_cons (de_call (ok_times G) (hr.mono (by decide)) G.g_times G.fn_times.kp (bi_times G) (da_cons (de_nm 4) (da_cons (de_to (de_tup (da_cons de_int (da_cons (de_len G.b_len (de_nm 5) (LenD.list _)) da_nil))) (by rw [List.length_map]; exact one_over hw hj)) da_nil)) hR) da_nil))
    · dsimp only [List.set]
      exact .keep (.keep (.keepE (by rw [bltTo_succ, List.map_append, List.map_map]; rfl) (by walk_at "le")))
  · rw [List.length_range]
    exact dss_le (le_fr 2 rfl) (dss_one (ds_ret (de_nm 2) rfl))
/-! ### outs -/
def outF (w : Web) (qs : List Rat) (o : Nat) : Rat := infl (belts w qs (thr w qs)) ⟨true, o⟩
def outKs (B : List (Goal × Rat)) : List (Key × PD) := (B.filter fun p => p.1.out).map fun p => (.inl ((p.1.num : Nat) : Int), qD p.2)
def nod (B : List (Goal × Rat)) : Prop := ((B.filter fun p => p.1.out).map fun p => p.1.num).Nodup
theorem belts_goals {w : Web} {qs : List Rat} (h : qs.length = w.ins.length) (x : Nat → Rat) : (belts w qs x).map (·.1) = goalsOf w := by
  unfold belts goalsOf
  rw [List.map_append]
  congr 1
  · rw [List.map_fst_zip (by omega)]
  · rw [List.map_flatten, List.map_map]
    congr 1
    refine List.ext_getElem? fun k => ?_
    simp only [List.getElem?_map]
    by_cases hk : k < w.prs.length
    · rw [List.getElem?_range hk, List.getElem?_eq_getElem hk]
      simp [prAt, hk, List.map_map, Function.comp_def]
    · rw [List.getElem?_eq_none (by simp; omega), List.getElem?_eq_none (by omega)]; rfl
theorem belts_nod {w : Web} (hw : IsWeb w) {qs : List Rat} (h : qs.length = w.ins.length) (x : Nat → Rat) : nod (belts w qs x) := by
  unfold nod
  have e : ((belts w qs x).filter fun p => p.1.out).map (fun p => p.1.num) = outN w := by
    unfold outN
    rw [← belts_goals h x, List.filter_map, List.map_map]
    rfl
  rw [e]
  exact hw.c.outs.nodup_iff.mpr List.nodup_range
theorem belts_out {w : Web} (hw : IsWeb w) {qs : List Rat} (h : qs.length = w.ins.length) (x : Nat → Rat) {o : Nat} (ho : o < nOuts w) : ∃ p ∈ belts w qs x, p.1 = ⟨true, o⟩ := by
  have m : o ∈ outN w := hw.c.outs.symm.subset (List.mem_range.mpr ho)
  obtain ⟨g, hg, e⟩ := List.mem_map.mp m
  obtain ⟨hg, hgo⟩ := List.mem_filter.mp hg
  rw [← belts_goals h x] at hg
  obtain ⟨p, hp, rfl⟩ := List.mem_map.mp hg
  refine ⟨p, hp, ?_⟩
  generalize p.1 = q at *
  obtain ⟨a, b⟩ := q
  simp only at e hgo
  rw [hgo, e]
theorem infl_one {B : List (Goal × Rat)} : nod B → ∀ p ∈ B, p.1.out = true → infl B p.1 = p.2 := by
  induction B with
  | nil => intro _ p hp; cases hp
  | cons r B ih =>
    intro hn p hp ho
    unfold nod at hn
    unfold infl
    simp only [ls]
    by_cases hr : r.1.out = true
    · rw [List.filter_cons, if_pos hr, List.map_cons, List.nodup_cons] at hn
      rcases List.mem_cons.mp hp with e | hp
      · subst e
        rw [if_pos rfl, ls_eq0 fun q hq => by
          rw [if_neg]
          intro e
          exact hn.1 (List.mem_map.mpr ⟨q, List.mem_filter.mpr ⟨hq, by rw [e]; exact ho⟩, by rw [e]⟩)]
        grind
      · rw [if_neg (fun e => hn.1 (List.mem_map.mpr ⟨p, List.mem_filter.mpr ⟨hp, ho⟩, by rw [← e]⟩))]
        have := ih hn.2 p hp ho
        unfold infl at this
        rw [this]; grind
    · rw [List.filter_cons, if_neg hr] at hn
      rcases List.mem_cons.mp hp with e | hp
      · subst e; exact absurd ho hr
      · rw [if_neg (fun e => hr (by rw [e]; exact ho))]
        have := ih hn p hp ho
        unfold infl at this
        rw [this]; grind
theorem lk_one {B : List (Goal × Rat)} : nod B → ∀ p ∈ B, p.1.out = true → lk (outKs B) (.inl ((p.1.num : Nat) : Int)) = some (qD p.2) := by
  induction B with
  | nil => intro _ p hp; cases hp
  | cons r B ih =>
    intro hn p hp ho
    unfold nod at hn
    unfold outKs
    by_cases hr : r.1.out = true
    · rw [List.filter_cons, if_pos hr, List.map_cons, List.nodup_cons] at hn
      rw [List.filter_cons, if_pos hr, List.map_cons]
      rcases List.mem_cons.mp hp with e | hp
      · subst e
        simp [lk]
      · have hne : ¬ (((.inl ((r.1.num : Nat) : Int)) : Key) = .inl ((p.1.num : Nat) : Int)) := fun e => by
          injection e with e
          exact hn.1 (List.mem_map.mpr ⟨p, List.mem_filter.mpr ⟨hp, ho⟩, by omega⟩)
        have := ih hn.2 p hp ho
        unfold outKs lk at this
        simp only [lk, List.find?_cons, hne, decide_false]
        exact this
    · rw [List.filter_cons, if_neg hr] at hn
      rw [List.filter_cons, if_neg hr]
      rcases List.mem_cons.mp hp with e | hp
      · subst e; exact absurd ho hr
      · exact ih hn p hp ho
theorem mg_nodup_aux : ∀ (kvs acc : List (Key × PD)), ((acc ++ kvs).map (·.1)).Nodup → kvs.foldl (fun acc kv => pt acc kv.1 kv.2) acc = acc ++ kvs
  | [], acc, _ => by simp
  | kv :: kvs, acc, h => by
    have hk : kv.1 ∉ acc.map (·.1) := by
      rw [List.map_append, List.map_cons] at h
      have := (List.nodup_append.mp h).2.2
      exact fun hm => this _ hm _ List.mem_cons_self rfl
    have e : pt acc kv.1 kv.2 = acc ++ [kv] := by
      unfold pt
      rw [if_neg]
      simp only [List.any_eq_true, decide_eq_true_eq, not_exists, not_and]
      exact fun x hx e => hk (List.mem_map.mpr ⟨x, hx, e⟩)
    rw [List.foldl_cons, e, mg_nodup_aux kvs (acc ++ [kv]) (by rw [List.append_assoc]; exact h), List.append_assoc]
    rfl
theorem mg_nodup {kvs : List (Key × PD)} (h : (kvs.map (·.1)).Nodup) : DL.mg kvs = kvs := by
  unfold DL.mg
  rw [mg_nodup_aux kvs [] (by simpa using h)]; rfl
theorem outKs_nodup {B : List (Goal × Rat)} (h : nod B) : ((outKs B).map (·.1)).Nodup := by
  unfold outKs
  rw [List.map_map]
  unfold nod at h
  have e : ((B.filter fun p => p.1.out).map ((fun kv : Key × PD => kv.1) ∘ fun p => (.inl ((p.1.num : Nat) : Int), qD p.2))) = ((B.filter fun p => p.1.out).map fun p => p.1.num).map fun n : Nat => (.inl (n : Int) : Key) := by
    rw [List.map_map]; rfl
  rw [e]
  exact List.Pairwise.map _ (fun a b (hab : a ≠ b) e => hab (by injection e with e; omega)) h
def R_outs_by : List PD → PD → Prop := fun ds r => ∃ (w : Web) (qs : List Rat), IsWeb w ∧ RatesOk w qs ∧ ds = [webD w, ratesD qs] ∧ r = .list ((List.range (nOuts w)).map fun o => qD (outF w qs o))
theorem rel_outs_by {w : Web} {qs : List Rat} (h : IsWeb w) (r : RatesOk w qs) : R_outs_by [webD w, ratesD qs] (.list ((List.range (nOuts w)).map fun o => qD (outF w qs o))) := ⟨w, qs, h, r, rfl, rfl⟩
theorem len_outs_by {ds : List PD} {r : PD} : R_outs_by ds r → ds.length = 2 := by rintro ⟨_, _, _, _, rfl, _⟩; rfl
theorem sc_outs_by : FnScope ["web", "rates", "by", "goal", "own", "number"] ["web", "rates"] (defScope (topS 38)) := ⟨rfl, rfl, rfl, by decide +kernel, rfl, by decide +kernel, by decide +kernel⟩
theorem bi_outs_by {K : Fr} {mg : Str → Option Value} (G : Tx K mg) : Binds K G.fd_outs_by ["web", "rates"] [] := G.fn_outs_by.bindsN fun _ _ _ _ _ _ us hl => match us, hl with | [_, _], _ => rfl
theorem ok_outs_by {P : Program} {w : World} {K : Fr} {mg : Str → Option Value} {base : Heap} {T : Tb} (G : Tx K mg) : FnOk P w K mg base CX0 7 (He.ga K "outs_by") G.fd_outs_by ["web", "rates"] (spF T R_outs_by) := by
  have nd := sc_outs_by.nd
  refine fn_ok G.fn_outs_by sc_outs_by (fun ds d h => by have h' := len_outs_by h; rw [h']; decide) fun ds d h cd A outer s H E hr => ?_
  obtain ⟨w, qs, hw, hq, rfl, rfl⟩ := h
  dsimp only [enter]
  have hl := bltTo_len w qs (thr w qs) w.prs.length
  have hn := hw.parts.prs
  have hin := hw.parts.ins
  have hno := hw.c.nOuts_le
  have hbl : (belts w qs (thr w qs)).length ≤ 1000000 := by
    have : belts w qs (thr w qs) = bltTo w qs (thr w qs) w.prs.length := rfl
    rw [this]; omega
  have nb := belts_nod hw hq.len (thr w qs)
  have hcall : ∀ {X : Cx}, True := trivial
  refine dss_then (ds_asgV 2 (dv_dictP (kvs := outKs (belts w qs (thr w qs))) rfl G.b_dict (de_to (de_dn (dn_lc (xs := (belts w qs (thr w qs))) (emb := (beltD)) (f := (fun p => p.1.out)) (g := (fun p => .tuple [.int ((p.1.num : Nat) : Int), qD p.2])) (own' := [("goal", 3), ("own", 4)]) rfl nd ((dic_of (di_list (de_call (ok_belts_of G) (hr.mono (by decide)) G.g_belts_of G.fn_belts_of.kp (bi_belts_of G) (da_cons (de_nm 0) (da_cons (de_nm 1) da_nil)) (rel_belts_of hw hq))))) (by walk_at "blk") (by walk_at "free") (by decide) (by walk_at "sz") (fun z hz _ _ _ _ _ => (dg_tup rfl (dgs_cons (dg_nm 3 nd (by walk_at "free1")) (dgs_cons (dg_nm 4 nd (by walk_at "free1")) dgs_nil)))) (fun z hz _ _ _ _ _ => dts_one (dt_to (dt_cmp (de_ix (de_nm 3) de_int (by walk_at "ix")) de_str (by walk_at "cb.Eq")) (by walk_at "elt"))) (fun z hz hk _ _ _ _ _ => (de_to (de_tup (da_cons (de_ix (de_nm 3) de_int (by walk_at "ix")) (da_cons (de_nm 4) da_nil))) (by walk_at "elt"))))) (by simp only [outKs, List.map_map]; rfl))) (by rfl) (by walk_at "lt") nd) ?_
  dsimp only [List.set]
  rw [mg_nodup (outKs_nodup nb)]
  refine dss_one (ds_ret (de_dn (dn_lc0 (xs := (List.range (nOuts w))) (emb := (fun i => .int (i : Nat))) (g := (fun o => qD (outF w qs o))) (own' := [("number", 5)]) rfl nd ((dic_to (dic_of (di_range (da_cons (de_call (ok_outs_of G) (hr.mono (by decide)) G.g_outs_of G.fn_outs_of.kp (bi_outs_of G) (da_cons (de_nm 0) da_nil) (rel_outs_of hw.parts.small)) da_nil) G.b_range (by omega))) (by simp [DL.upTo]))) (by walk_at "blk") (by walk_at "free") (by decide) (by walk_at "sz") (fun z hz _ _ _ _ _ => (dg_nm 5 nd (by walk_at "free1"))) (fun z hz _ _ _ _ _ => (?_)))) rfl)
  have hz2 := List.mem_range.mp hz
  obtain ⟨p, hp, e⟩ := belts_out hw hq.len (thr w qs) hz2
  have h1 := lk_one nb p hp (by rw [e])
  have h2 := infl_one nb p hp (by rw [e])
  rw [e] at h1 h2
  unfold outF
  rw [h2]
  exact de_getK (k := .inl _) 2 (by walk_at "hu1") (de_nm 5) h1

/-! ### rates that are none; what is told of flows -/
local macro_rules | `(tactic| walk_at "elt") => `(tactic| exact out_eq _)
structure Rates100 (w : Web) (qs : List Rat) : Prop where
  ok : RatesOk w qs
  few : ∀ q ∈ qs, q.den ≤ 100
/-- what is no fraction -/
def badA (z : PD) : Prop := (isiD z "tuple" = false) ∨ ∃ x b, z = .tuple [x, .int b] ∧ isCount (.int b) 1 100 = false
/-- a pair, but not from 0 to 1, or not told least -/
def badB (z : PD) : Prop := ∃ (x : PD) (b : Int), z = .tuple [x, .int b] ∧ isCount (.int b) 1 100 = true ∧ (isCount x 0 b = false ∨ ∃ (a : Int) (q : Rat), x = .int a ∧ isCount x 0 b = true ∧ q * (b : Rat) = (a : Rat) ∧ PyData.eqv (qD q) z = false)
def badRates (w : Web) (d : PD) : Prop := isiD d "list" = false ∨ (∃ l, d = .list l ∧ l.length ≠ w.ins.length) ∨ ∃ z rest, d = .list (z :: rest) ∧ (z :: rest).length = w.ins.length ∧ (badA z ∨ badB z)
def R_need_rates (K : Fr) : List PD → Rs → Prop := fun ds r => ∃ (w : Web) (d : PD), IsWeb w ∧ ds = [webD w, d] ∧ ((∃ qs, Rates100 w qs ∧ d = ratesD qs ∧ r = .ok .none) ∨ (badRates w d ∧ r = .no (.ref (He.ga K "BadRates"))))
theorem rel_need_rates {K : Fr} {w : Web} {qs : List Rat} (h : IsWeb w) (r : Rates100 w qs) : R_need_rates K [webD w, ratesD qs] (.ok .none) := ⟨w, _, h, rfl, .inl ⟨qs, r, rfl, rfl⟩⟩
theorem rel_need_rates_bad {K : Fr} {w : Web} {d : PD} (h : IsWeb w) (b : badRates w d) : R_need_rates K [webD w, d] (.no (.ref (He.ga K "BadRates"))) := ⟨w, d, h, rfl, .inr ⟨b, rfl⟩⟩
theorem len_need_rates {K : Fr} {ds : List PD} {r : Rs} : R_need_rates K ds r → ds.length = 2 := by rintro ⟨_, _, _, rfl, _⟩; rfl
theorem list_of {d : PD} (h : isiD d "list" = true) : ∃ ds, d = .list ds := by
  cases d <;> first | exact ⟨_, rfl⟩ | (simp [isiD, tyD] at h)
theorem nonneg_num {q : Rat} (h : 0 ≤ q) : 0 ≤ q.num := Rat.num_nonneg.mpr h
theorem num_le_den {q : Rat} (h : q ≤ 1) : q.num ≤ (q.den : Nat) := by
  have := (Rat.le_iff q 1).mp h
  simpa using this
def R_flows (K : Fr) : List PD → Rs → Prop := fun ds r => ∃ (w : Web) (d : PD), IsWeb w ∧ ds = [webD w, d] ∧ ((∃ qs, Rates100 w qs ∧ d = ratesD qs ∧ r = .ok (.list ((belts w qs (thr w qs)).map fun p => qD p.2))) ∨ (badRates w d ∧ r = .no (.ref (He.ga K "BadRates"))))
theorem rel_flows {K : Fr} {w : Web} {qs : List Rat} (h : IsWeb w) (r : Rates100 w qs) : R_flows K [webD w, ratesD qs] (.ok (.list ((belts w qs (thr w qs)).map fun p => qD p.2))) := ⟨w, _, h, rfl, .inl ⟨qs, r, rfl, rfl⟩⟩
theorem len_flows {K : Fr} {ds : List PD} {r : Rs} : R_flows K ds r → ds.length = 2 := by rintro ⟨_, _, _, rfl, _⟩; rfl
def R_outs (K : Fr) : List PD → Rs → Prop := fun ds r => ∃ (w : Web) (d : PD), IsWeb w ∧ ds = [webD w, d] ∧ ((∃ qs, Rates100 w qs ∧ d = ratesD qs ∧ r = .ok (.list ((List.range (nOuts w)).map fun o => qD (outF w qs o)))) ∨ (badRates w d ∧ r = .no (.ref (He.ga K "BadRates"))))
theorem rel_outs {K : Fr} {w : Web} {qs : List Rat} (h : IsWeb w) (r : Rates100 w qs) : R_outs K [webD w, ratesD qs] (.ok (.list ((List.range (nOuts w)).map fun o => qD (outF w qs o)))) := ⟨w, _, h, rfl, .inl ⟨qs, r, rfl, rfl⟩⟩
theorem len_outs {K : Fr} {ds : List PD} {r : Rs} : R_outs K ds r → ds.length = 2 := by rintro ⟨_, _, _, rfl, _⟩; rfl
def fullL (w : Web) (qs : List Rat) : List Nat := (List.range (belts w qs (thr w qs)).length).filter fun i => decide (1 < ((belts w qs (thr w qs)).getD i (⟨true, 0⟩, 0)).2)
def R_overfull (K : Fr) : List PD → Rs → Prop := fun ds r => ∃ (w : Web) (d : PD), IsWeb w ∧ ds = [webD w, d] ∧ ((∃ qs, Rates100 w qs ∧ d = ratesD qs ∧ r = .ok (.list ((fullL w qs).map fun i => .int (i : Nat)))) ∨ (badRates w d ∧ r = .no (.ref (He.ga K "BadRates"))))
theorem rel_overfull {K : Fr} {w : Web} {qs : List Rat} (h : IsWeb w) (r : Rates100 w qs) : R_overfull K [webD w, ratesD qs] (.ok (.list ((fullL w qs).map fun i => .int (i : Nat)))) := ⟨w, _, h, rfl, .inl ⟨qs, r, rfl, rfl⟩⟩
theorem len_overfull {K : Fr} {ds : List PD} {r : Rs} : R_overfull K ds r → ds.length = 2 := by rintro ⟨_, _, _, rfl, _⟩; rfl
theorem belts_len {w : Web} (h : IsWeb w) (qs : List Rat) (x : Nat → Rat) : (belts w qs x).length ≤ 100 := by
  have := bltTo_len w qs x w.prs.length
  have := h.parts.prs
  have := h.parts.ins
  have e : belts w qs x = bltTo w qs x w.prs.length := rfl
  rw [e]; omega
theorem enum_belts (B : List (Goal × Rat)) : enumD (B.map beltD) = (List.range B.length).map fun i => .tuple [.int (i : Nat), beltD (B.getD i (⟨true, 0⟩, 0))] := by
  unfold enumD
  rw [List.length_map]
  refine List.map_congr_left fun i hi => ?_
  have hi' := List.mem_range.mp hi
  rw [getD_some (show (B.map beltD)[i]? = some (beltD (B.getD i (⟨true, 0⟩, 0))) by simp [hi'])]
def unit (w : Web) (k : Nat) : List Rat := (List.range w.ins.length).map fun j => if j = k then 1 else 0
def share (w : Web) (k o : Nat) : Rat := outF w (unit w k) o
theorem fit_one {w : Web} (h : IsWeb w) : 3 * (1 * 2 ^ (w.prs.length - 1)) ≤ 8990 := by
  have hp : 2 ^ (w.prs.length - 1) ≤ 2 ^ 11 := pow_mono (by have := h.parts.prs; omega)
  have : (2 : Nat) ^ 11 = 2048 := by decide
  omega
theorem rates01 {w : Web} (h : IsWeb w) {qs : List Rat} (hl : qs.length = w.ins.length) (h01 : ∀ q ∈ qs, q = 0 ∨ q = 1) : Rates100 w qs := by
  refine ⟨⟨hl, fun q hq => ?_, 1, 1, by decide, fun q hq => ?_, by decide, fit_one h⟩, fun q hq => ?_⟩
  · rcases h01 q hq with rfl | rfl <;> decide
  · rcases h01 q hq with rfl | rfl <;> decide
  · rcases h01 q hq with rfl | rfl <;> decide
theorem unit_ok {w : Web} (h : IsWeb w) (k : Nat) : Rates100 w (unit w k) := rates01 h (by simp [unit]) fun q hq => by
  obtain ⟨j, _, rfl⟩ := List.mem_map.mp hq
  by_cases e : j = k
  · exact .inr (if_pos e)
  · exact .inl (if_neg e)
def ones (w : Web) : List Rat := List.replicate w.ins.length 1
theorem ones_ok {w : Web} (h : IsWeb w) : Rates100 w (ones w) := rates01 h (by simp [ones]) fun q hq => .inr (List.eq_of_mem_replicate hq)
def sharesD (w : Web) : PD := .list ((List.range w.ins.length).map fun k => .list ((List.range (nOuts w)).map fun o => qD (share w k o)))
def R_shares_of : List PD → PD → Prop := fun ds r => ∃ w : Web, IsWeb w ∧ ds = [webD w] ∧ r = sharesD w
theorem rel_shares_of {w : Web} (h : IsWeb w) : R_shares_of [webD w] (sharesD w) := ⟨w, h, rfl, rfl⟩
theorem len_shares_of {ds : List PD} {r : PD} : R_shares_of ds r → ds.length = 1 := by rintro ⟨_, _, rfl, _⟩; rfl
def R_shares (K : Fr) : List PD → Rs → Prop := fun ds r => ∃ w : Web, IsWeb w ∧ ds = [webD w] ∧ r = .ok (sharesD w)
theorem rel_shares {K : Fr} {w : Web} (h : IsWeb w) : R_shares K [webD w] (.ok (sharesD w)) := ⟨w, h, rfl, rfl⟩
theorem len_shares {K : Fr} {ds : List PD} {r : Rs} : R_shares K ds r → ds.length = 1 := by rintro ⟨_, _, rfl, _⟩; rfl
theorem sc_shares_of : FnScope ["web", "found", "number", "own"] ["web"] (defScope (topS 39)) := ⟨rfl, rfl, rfl, by decide +kernel, rfl, by decide +kernel, by decide +kernel⟩
theorem bi_shares_of {K : Fr} {mg : Str → Option Value} (G : Tx K mg) : Binds K G.fd_shares_of ["web"] [] := G.fn_shares_of.bindsN fun _ _ _ _ _ _ us hl => match us, hl with | [_], _ => rfl
theorem ok_shares_of {P : Program} {w : World} {K : Fr} {mg : Str → Option Value} {base : Heap} {T : Tb} (G : Tx K mg) : FnOk P w K mg base CX0 8 (He.ga K "shares_of") G.fd_shares_of ["web"] (spF T R_shares_of) := by
  have nd := sc_shares_of.nd
  refine fn_ok G.fn_shares_of sc_shares_of (fun ds d h => by have h' := len_shares_of h; rw [h']; decide) fun ds d h cd A outer s H E hr => ?_
  obtain ⟨w, hw, rfl, rfl⟩ := h
  dsimp only [enter]
  have hin := hw.parts.ins
  refine dss_then (ds_asgN 1 (dn_lst da_nil) (by rfl) (by walk_at "lt") nd) ?_
  dsimp only [List.set]
  refine dss_then (ds_forS (xs := List.range w.ins.length) (emb := fun i => .int (i : Nat)) (fun k => [dat (webD w), own ((List.range k).map fun k => .list ((List.range (nOuts w)).map fun o => qD (share w k o))), un, un]) (fun _ => True) (di_to (di_range (da_cons (de_len (G.b_len) (de_ix (de_nm 0) de_int (by walk_at "ix")) (by walk_at "len")) da_nil) G.b_range (by walk_at "num")) (by simp [DL.upTo])) (LeL.le (by walk_at "le")) trivial (fun k kz hz _ => ⟨(dg_nm 2 nd (by walk_at "free1")), ?_⟩) (fun _ => rfl) PassesOwn.never rfl) ?_
  · dsimp only [List.set]
    obtain ⟨rfl, hk⟩ := range_get hz
    refine dss_one (ds_append 1 (d := .list ((List.range (nOuts w)).map fun o => qD (share w kz o))) (de_call (ok_outs_by G) (hr.mono (by decide)) G.g_outs_by G.fn_outs_by.kp (bi_outs_by G) (da_cons (de_nm 0) (da_cons (de_to (de_dn (dn_lc0 (xs := (List.range w.ins.length)) (emb := (fun i => .int (i : Nat))) (g := (fun j => qD (if j = kz then 1 else 0))) (own' := [("own", 3)]) rfl nd ((dic_to (dic_of (di_range (da_cons (de_len (G.b_len) (de_ix (de_nm 0) de_int (by walk_at "ix")) (by walk_at "len")) da_nil) G.b_range (by simp; omega))) (by simp [DL.upTo]))) (by walk_at "blk") (by walk_at "free") (by decide) (by walk_at "sz") (fun z hz _ _ _ _ _ => (dg_nm 3 nd (by walk_at "free1"))) (fun z hz _ _ _ _ _ => (?_)))) (show _ = ratesD (unit w kz) by simp [ratesD, unit, List.map_map, Function.comp_def])) da_nil)) (rel_outs_by hw (unit_ok hw kz).ok)) rfl ⟨LeL.le ?_, trivial⟩ (by rw [sizeLine_eq]; simp; omega))
    · have e : (if decide (((z : Nat) : Int) = (kz : Nat)) then (1 : Int) else 0) = (if z = kz then (1 : Rat) else 0).num := by
        by_cases q : z = kz
        · subst q; simp
        · rw [if_neg q, decide_eq_false (by omega)]; rfl
      refine de_to (de_tup (da_cons (de_intb G.b_int (de_cmp (de_nm 3) (de_nm 2) (cb_eqI (by walk_at "hu")))) (da_cons de_int da_nil))) ?_
      rw [e]
      unfold qD
      split <;> rfl
    · dsimp only [List.set]
      exact .keep (.keepE (by rw [List.range_succ, List.map_append]; rfl) (by walk_at "le"))
  · rw [List.length_range]
    exact dss_le (le_fr 1 rfl) (dss_one (ds_ret (de_nm 1) rfl))
theorem sc_shares : FnScope ["web"] ["web"] (defScope (topS 40)) := ⟨rfl, rfl, rfl, by decide +kernel, rfl, by decide +kernel, by decide +kernel⟩
theorem bi_shares {K : Fr} {mg : Str → Option Value} (G : Tx K mg) : Binds K G.fd_shares ["web"] [] := G.fn_shares.bindsN fun _ _ _ _ _ _ us hl => match us, hl with | [_], _ => rfl
theorem ok_shares {P : Program} {w : World} {K : Fr} {mg : Str → Option Value} {base : Heap} {T : Tb} (G : Tx K mg) : FnOk P w K mg base (L2N.CX P w) 9 (He.ga K "shares") G.fd_shares ["web"] (spX T (R_shares K)) := by
  have nd := sc_shares.nd
  refine fn_okX G.fn_shares sc_shares (fun ds d h => by have h' := len_shares h; rw [h']; decide) fun ds d h cd A outer s H E hr => ?_
  obtain ⟨w, hw, rfl, rfl⟩ := h
  dsimp only [enter]
  refine dss_then (ds_expr (de_callX (ok_need_web G) (hr.mono (by decide)) G.g_need_web G.fn_need_web.kp (bi_need_web G) (da_cons (de_nm 0) da_nil) (rel_need_web hw)) rfl) ?_
  exact dss_one (ds_ret (de_call (ok_shares_of G) (hr.mono (by decide)) G.g_shares_of G.fn_shares_of.kp (bi_shares_of G) (da_cons (de_nm 0) da_nil) (rel_shares_of hw)) rfl)
def evenRow (w : Web) (k : Nat) : Bool := decide ((List.range (nOuts w)).map (share w k) = List.replicate (nOuts w) (1 / ((nOuts w : Nat) : Rat)))
def evenB (w : Web) : Bool := (List.range w.ins.length).all (evenRow w)
theorem one_q {m : Nat} (h : 0 < m) : PyData.tuple [.int 1, .int (m : Nat)] = qD (1 / (m : Rat)) := by
  have e : (1 : Rat) / (m : Rat) = mkRat 1 m := (Rat.mkRat_eq_div 1 m).symm
  unfold qD
  rw [e, Rat.num_mkRat, Rat.den_mkRat, if_neg (by omega), if_neg (by omega)]
  simp
theorem eqv_qs (l m : List Rat) : PyData.eqv (.list (l.map qD)) (.list (m.map qD)) = decide (l = m) := eqv_embL noB_q (fun _ _ => qD_inj) l m
theorem dp_qs (l : List Rat) : (PyData.list (l.map qD)).depth ≤ 64 := by
  have := depth_map (f := qD) (n := 2) (l := l) (fun x => by simp [qD, PyData.depth, PyData.depthAll])
  simp only [PyData.depth]; omega
def R_is_even_web : List PD → PD → Prop := fun ds r => ∃ w : Web, IsWeb w ∧ ds = [webD w] ∧ r = .bool (evenB w)
theorem rel_is_even_web {w : Web} (h : IsWeb w) : R_is_even_web [webD w] (.bool (evenB w)) := ⟨w, h, rfl, rfl⟩
theorem len_is_even_web {ds : List PD} {r : PD} : R_is_even_web ds r → ds.length = 1 := by rintro ⟨_, _, rfl, _⟩; rfl
def R_is_even (K : Fr) : List PD → Rs → Prop := fun ds r => ∃ w : Web, IsWeb w ∧ ds = [webD w] ∧ r = .ok (.bool (evenB w))
theorem rel_is_even {K : Fr} {w : Web} (h : IsWeb w) : R_is_even K [webD w] (.ok (.bool (evenB w))) := ⟨w, h, rfl, rfl⟩
theorem len_is_even {K : Fr} {ds : List PD} {r : Rs} : R_is_even K ds r → ds.length = 1 := by rintro ⟨_, _, rfl, _⟩; rfl
def R_is_loose (K : Fr) : List PD → Rs → Prop := fun ds r => ∃ w : Web, IsWeb w ∧ ds = [webD w] ∧ r = .ok (.bool (decide (fullL w (ones w) = [])))
theorem rel_is_loose {K : Fr} {w : Web} (h : IsWeb w) : R_is_loose K [webD w] (.ok (.bool (decide (fullL w (ones w) = [])))) := ⟨w, h, rfl, rfl⟩
theorem len_is_loose {K : Fr} {ds : List PD} {r : Rs} : R_is_loose K ds r → ds.length = 1 := by rintro ⟨_, _, rfl, _⟩; rfl
theorem eqv_ints (l m : List Nat) : PyData.eqv (.list (l.map fun i => .int (i : Nat))) (.list (m.map fun i => .int (i : Nat))) = decide (l = m) := eqv_embL (f := fun i : Nat => PyData.int (i : Nat)) (fun _ => rfl) (fun a b h => by injection h; omega) l m
/-! ### things and flows: what things do in a round is what flows -/
def eff (p : OG × OG) (t : Nat) : Goal := ((sideG p t).or (sideG p (1 - t))).getD ⟨true, 0⟩
theorem nextG_eff (w : Web) (ts : List Nat) (i : Nat) : nextG w ts i = eff (prAt w i) (ts.getD i 0) := rfl
def exN (p : OG × OG) (γ : Goal) : Nat → Nat → Nat
  | _, 0 => 0
  | t, a + 1 => (if eff p t = γ then 1 else 0) + exN p γ (1 - t) a
def tog : Nat → Nat → Nat
  | t, 0 => t
  | t, a + 1 => tog (1 - t) a
theorem exN_add (p : OG × OG) (γ : Goal) : ∀ (a t b : Nat), exN p γ t (a + b) = exN p γ t a + exN p γ (tog t a) b
  | 0, t, b => by rw [Nat.zero_add]; show _ = 0 + exN p γ t b; omega
  | a + 1, t, b => by
    rw [show a + 1 + b = (a + b) + 1 by omega]
    show (if eff p t = γ then 1 else 0) + exN p γ (1 - t) (a + b) = (if eff p t = γ then 1 else 0) + exN p γ (1 - t) a + exN p γ (tog (1 - t) a) b
    rw [exN_add p γ a (1 - t) b]; omega
theorem tog_add : ∀ (a t b : Nat), tog t (a + b) = tog (tog t a) b
  | 0, t, b => by rw [Nat.zero_add]; rfl
  | a + 1, t, b => by
    rw [show a + 1 + b = (a + b) + 1 by omega]
    exact tog_add a (1 - t) b
theorem tog_even : ∀ (a t : Nat), t ≤ 1 → tog t a = t → ∃ u, a = 2 * u
  | 0, _, _, _ => ⟨0, rfl⟩
  | 1, t, h, e => by
    have : 1 - t = t := e
    omega
  | a + 2, t, h, e => by
    have e' : tog (1 - (1 - t)) a = t := e
    rw [show 1 - (1 - t) = t by omega] at e'
    obtain ⟨u, hu⟩ := tog_even a t h e'
    exact ⟨u + 1, by omega⟩
def smN : Nat → (Nat → Nat) → Nat
  | 0, _ => 0
  | n + 1, f => smN n f + f n
theorem smN_congr {f g : Nat → Nat} : ∀ {n : Nat}, (∀ i, i < n → f i = g i) → smN n f = smN n g
  | 0, _ => rfl
  | n + 1, h => by
    show smN n f + f n = smN n g + g n
    rw [smN_congr fun i hi => h i (by omega), h n (by omega)]
theorem smN_zero : ∀ n, smN n (fun _ => 0) = 0
  | 0 => rfl
  | n + 1 => by simp only [smN, smN_zero n]
theorem smN_add (f g : Nat → Nat) : ∀ n, smN n (fun i => f i + g i) = smN n f + smN n g
  | 0 => rfl
  | n + 1 => by simp only [smN, smN_add f g n]; omega
theorem smN_at (f g : Nat → Nat) {i c : Nat} : ∀ {n : Nat}, i < n → f i = c + g i → (∀ j, j ≠ i → f j = g j) → smN n f = c + smN n g
  | 0, h, _, _ => by omega
  | n + 1, h, h1, h2 => by
    simp only [smN]
    by_cases e : i = n
    · subst e
      rw [h1, smN_congr fun j hj => h2 j (by omega)]; omega
    · rw [smN_at f g (show i < n by omega) h1 h2, h2 n (Ne.symm e)]; omega
theorem smN_cast (f : Nat → Nat) : ∀ n, ((smN n f : Nat) : Rat) = sm n fun i => ((f i : Nat) : Rat)
  | 0 => rfl
  | n + 1 => by
    simp only [smN, sm]
    push_cast
    rw [smN_cast f n]
def arr (γ : Goal) (V : Nat → Nat) (O : Nat) : Nat := if γ.out = true then O else V γ.num
def b2 (p : Prop) [Decidable p] : Nat := if p then 1 else 0
theorem Way.flow {w : Web} (h : IsWeb w) {ts ts' : List Nat} {g : Goal} {f : List Nat} {o : Nat} (a : Way w ts g f o ts') : TurnsOk w ts → g ∈ goalsOf w →
    (∀ j, j < w.prs.length → ts'.getD j 0 = tog (ts.getD j 0) (f.count j)) ∧ ∀ γ, arr γ (fun j => f.count j) (b2 (o = γ.num)) = b2 (g = γ) + smN w.prs.length fun j => exN (prAt w j) γ (ts.getD j 0) (f.count j) := by
  induction a with
  | @out ts g ho =>
    intro _ _
    refine ⟨fun j _ => rfl, fun γ => ?_⟩
    have ez : smN w.prs.length (fun j => exN (prAt w j) γ (ts.getD j 0) (List.count j [])) = 0 := (smN_congr (g := fun _ => 0) fun j _ => rfl).trans (smN_zero _)
    rw [ez, Nat.add_zero]
    obtain ⟨go, gn⟩ := g
    obtain ⟨γo, γn⟩ := γ
    simp only at ho
    subst ho
    unfold arr b2
    cases γo <;> simp
  | @step ts ts' g f o ho _ ih =>
    intro t hg
    have hb := bnd_of h hg
    simp only [bndG, ho, Bool.false_eq_true, if_false] at hb
    have hlt : g.num < ts.length := by rw [t.len]; exact hb
    have hnx := nextG_mem hb (t.get g.num) h
    obtain ⟨i1, i2⟩ := ih (t.next _) (goal_mem_prs (prAt_mem hb) hnx)
    have nt : ∀ j, (nextT ts g.num).getD j 0 = if j = g.num then 1 - ts.getD g.num 0 else ts.getD j 0 := fun j => by
      unfold nextT
      simp only [List.getD_eq_getElem?_getD, List.getElem?_set]
      by_cases e : g.num = j
      · subst e; simp [hlt]
      · simp [e, Ne.symm e]
    have ct : ∀ j, (g.num :: f).count j = if j = g.num then f.count j + 1 else f.count j := fun j => by
      rw [List.count_cons]
      by_cases e : g.num = j
      · subst e; simp
      · simp [e, Ne.symm e]
    refine ⟨fun j hj => ?_, fun γ => ?_⟩
    · rw [i1 j hj, nt, ct]
      by_cases e : j = g.num
      · rw [if_pos e, if_pos e, e]; rfl
      · rw [if_neg e, if_neg e]
    · have ia := i2 γ
      have ea : arr γ (fun j => (g.num :: f).count j) (b2 (o = γ.num)) = b2 (g = γ) + arr γ (fun j => f.count j) (b2 (o = γ.num)) := by
        obtain ⟨go, gn⟩ := g
        obtain ⟨γo, γn⟩ := γ
        simp only at ho
        subst ho
        unfold arr b2
        cases γo with
        | true => simp
        | false =>
          simp only [Bool.false_eq_true, if_false]
          rw [ct]
          by_cases e : γn = gn
          · subst e; simp; omega
          · simp [e, Ne.symm e]
      rw [ea, ia]
      congr 1
      rw [nextG_eff]
      refine (smN_at _ _ (i := g.num) (c := b2 (eff (prAt w g.num) (ts.getD g.num 0) = γ)) hb ?_ fun j hj => ?_).symm
      · rw [ct, if_pos rfl, nt, if_pos rfl]; rfl
      · rw [ct, if_neg hj, nt, if_neg hj]
theorem Led.flow {w : Web} (h : IsWeb w) {ts ts' ks os : List Nat} (a : Led w ts ks os ts') : TurnsOk w ts →
    ∃ V : Nat → Nat, (∀ j, j < w.prs.length → ts'.getD j 0 = tog (ts.getD j 0) (V j)) ∧ ∀ γ, arr γ V (os.count γ.num) = ks.countP (fun k => decide (w.ins[k]? = some γ)) + smN w.prs.length fun j => exN (prAt w j) γ (ts.getD j 0) (V j) := by
  induction a with
  | @nil ts =>
    intro _
    refine ⟨fun _ => 0, fun j _ => rfl, fun γ => ?_⟩
    have ez : smN w.prs.length (fun j => exN (prAt w j) γ (ts.getD j 0) 0) = 0 := (smN_congr (g := fun _ => 0) fun j _ => rfl).trans (smN_zero _)
    show _ = _ + smN w.prs.length (fun j => exN (prAt w j) γ (ts.getD j 0) 0)
    rw [ez]
    unfold arr
    simp
  | @cons ts ts1 ts' k g f o ks os h1 h2 _ ih =>
    intro t
    have hg := goal_mem_ins (List.mem_of_getElem? h1)
    obtain ⟨a1, a2⟩ := h2.flow h t hg
    obtain ⟨V, b1, b2'⟩ := ih (h2.inr h t hg).1
    refine ⟨fun j => f.count j + V j, fun j hj => ?_, fun γ => ?_⟩
    · rw [b1 j hj, a1 j hj, tog_add]
    · have e1 := a2 γ
      have e2 := b2' γ
      have ec : (k :: ks).countP (fun k => decide (w.ins[k]? = some γ)) = b2 (g = γ) + ks.countP (fun k => decide (w.ins[k]? = some γ)) := by
        rw [List.countP_cons, h1]
        unfold b2
        by_cases e : g = γ
        · subst e; simp; omega
        · simp [e]
      have es : smN w.prs.length (fun j => exN (prAt w j) γ (ts.getD j 0) (f.count j + V j)) = smN w.prs.length (fun j => exN (prAt w j) γ (ts.getD j 0) (f.count j)) + smN w.prs.length (fun j => exN (prAt w j) γ (ts1.getD j 0) (V j)) := by
        rw [← smN_add]
        exact smN_congr fun j hj => by rw [exN_add, a1 j hj]
      have ea : arr γ (fun j => f.count j + V j) ((o :: os).count γ.num) = arr γ (fun j => f.count j) (b2 (o = γ.num)) + arr γ V (os.count γ.num) := by
        unfold arr
        split
        · rw [List.count_cons]
          unfold b2
          by_cases e : o = γ.num
          · simp [e]; omega
          · simp [e]
        · rfl
      rw [ea, es, ec, e1, e2]; omega
theorem exN_two (p : OG × OG) (γ : Goal) {t : Nat} (h : t ≤ 1) : ∀ u, exN p γ t (2 * u) = u * (b2 (eff p 0 = γ) + b2 (eff p 1 = γ))
  | 0 => by simp [exN]
  | u + 1 => by
    rw [show 2 * (u + 1) = 2 + 2 * u by omega, exN_add]
    have e : tog t 2 = t := by show 1 - (1 - t) = t; omega
    rw [e, exN_two p γ h u, Nat.succ_mul]
    have : t = 0 ∨ t = 1 := by omega
    rcases this with rfl | rfl <;> simp only [exN, b2, Nat.sub_zero, Nat.sub_self] <;> omega
theorem exN_cfg {w : Web} (h : IsWeb w) (γ : Goal) {j : Nat} (hj : j < w.prs.length) {t u : Nat} (ht : t ≤ 1) : ((exN (prAt w j) γ t (2 * u) : Nat) : Rat) = cfg w γ j * ((2 * u : Nat) : Rat) := by
  rw [exN_two _ _ ht]
  have hne := h.parts.some _ (prAt_mem hj)
  unfold cfg kk
  generalize prAt w j = p at *
  obtain ⟨a, b⟩ := p
  unfold b2
  cases a with
  | none =>
    cases b with
    | none => exact absurd rfl hne
    | some b =>
      have e1 : eff (none, some b) 0 = b := rfl
      have e2 : eff (none, some b) 1 = b := rfl
      have et : there (none, some b) = [b] := rfl
      rw [e1, e2, et]
      simp only [ls, List.length_cons, List.length_nil]
      by_cases q : b = γ
      · simp only [if_pos q]; push_cast; grind
      · simp only [if_neg q]; push_cast; grind
  | some a =>
    cases b with
    | none =>
      have e1 : eff (some a, none) 0 = a := rfl
      have e2 : eff (some a, none) 1 = a := rfl
      have et : there (some a, none) = [a] := rfl
      rw [e1, e2, et]
      simp only [ls, List.length_cons, List.length_nil]
      by_cases q : a = γ
      · simp only [if_pos q]; push_cast; grind
      · simp only [if_neg q]; push_cast; grind
    | some b =>
      have e1 : eff (some a, some b) 0 = a := rfl
      have e2 : eff (some a, some b) 1 = b := rfl
      have et : there (some a, some b) = [a, b] := rfl
      rw [e1, e2, et]
      simp only [ls, List.length_cons, List.length_nil]
      by_cases q : a = γ
      · by_cases q2 : b = γ
        · simp only [if_pos q, if_pos q2]; push_cast; grind
        · simp only [if_pos q, if_neg q2]; push_cast; grind
      · by_cases q2 : b = γ
        · simp only [if_neg q, if_pos q2]; push_cast; grind
        · simp only [if_neg q, if_neg q2]; push_cast; grind
/-- a round: turns behind as ahead; what came to each splitter flows on evenly -/
theorem Led.round {w : Web} (h : IsWeb w) {ts ks os : List Nat} (a : Led w ts ks os ts) (t : TurnsOk w ts) :
    ∃ V : Nat → Nat, ∀ γ, ((arr γ V (os.count γ.num) : Nat) : Rat) = ((ks.countP (fun k => decide (w.ins[k]? = some γ)) : Nat) : Rat) + sm w.prs.length fun j => cfg w γ j * ((V j : Nat) : Rat) := by
  obtain ⟨V, h1, h2⟩ := a.flow h t
  refine ⟨V, fun γ => ?_⟩
  rw [h2 γ]
  push_cast
  rw [smN_cast]
  congr 1
  refine sm_congr fun j hj => ?_
  obtain ⟨u, hu⟩ := tog_even _ _ (t.get j) (h1 j hj).symm
  rw [hu, exN_cfg h γ hj (t.get j)]
theorem ls_zip (f : Goal × Rat → Rat) : ∀ (l : List Goal) (qs : List Rat), qs.length = l.length → ls (l.zip qs) f = sm l.length fun k => f (l.getD k ⟨true, 0⟩, qs.getD k 0)
  | [], _, _ => by simp [ls, sm]
  | g :: l, [], h => by simp at h
  | g :: l, q :: qs, h => by
    have ih := ls_zip f l qs (by simpa using h)
    have sh : ∀ (F : Nat → Rat) (n : Nat), sm (n + 1) F = F 0 + sm n fun k => F (k + 1) := fun F n => by
      induction n with
      | zero => simp only [sm]; grind
      | succ n ih =>
        have e : sm (n + 1 + 1) F = sm (n + 1) F + F (n + 1) := rfl
        rw [e, ih]
        simp only [sm]; grind
    rw [List.zip_cons_cons, List.length_cons, sh]
    simp only [ls]
    rw [ih]
    congr 1
theorem rin_sm {w : Web} {qs : List Rat} (h : qs.length = w.ins.length) (γ : Goal) : rin w qs γ = sm w.ins.length fun k => if w.ins.getD k ⟨true, 0⟩ = γ then qs.getD k 0 else 0 := by
  unfold rin
  rw [ls_zip _ _ _ h]
theorem unit_len (w : Web) (k : Nat) : (unit w k).length = w.ins.length := by simp [unit]
theorem unit_at {w : Web} (k : Nat) {j : Nat} (hj : j < w.ins.length) : (unit w k).getD j 0 = if j = k then 1 else 0 := by
  simp [unit, List.getD_eq_getElem?_getD, List.getElem?_map, List.getElem?_range hj]
theorem rin_unit {w : Web} {k : Nat} (hk : k < w.ins.length) (γ : Goal) : rin w (unit w k) γ = if w.ins.getD k ⟨true, 0⟩ = γ then 1 else 0 := by
  rw [rin_sm (unit_len w k), sm_single _ hk fun j hj hne => by
    rw [unit_at k hj, if_neg hne]; split <;> rfl]
  rw [unit_at k hk, if_pos rfl]
/-- a round of one input's things tells its shares -/
theorem round_thr {w : Web} (h : IsWeb w) {ts os : List Nat} {k m : Nat} (hk : k < w.ins.length) (hm : 0 < m) (a : Led w ts (List.replicate m k) os ts) (t : TurnsOk w ts) :
    ∃ V : Nat → Nat, (∀ i, i < w.prs.length → thr w (unit w k) i * (m : Rat) = ((V i : Nat) : Rat)) ∧ ∀ o, share w k o * (m : Rat) = ((os.count o : Nat) : Rat) := by
  obtain ⟨V, hV⟩ := a.round h t
  have hm0 : (m : Rat) ≠ 0 := fun e => by
    have := Rat.natCast_pos.mpr hm
    rw [e] at this; exact Rat.lt_irrefl this
  have hc : ∀ γ, (((List.replicate m k).countP (fun k => decide (w.ins[k]? = some γ)) : Nat) : Rat) = (m : Rat) * rin w (unit w k) γ := fun γ => by
    rw [rin_unit hk, List.countP_replicate]
    have e : w.ins[k]? = some (w.ins.getD k ⟨true, 0⟩) := by simp [List.getD_eq_getElem?_getD, hk]
    rw [e]
    by_cases q : w.ins.getD k ⟨true, 0⟩ = γ
    · rw [if_pos q, if_pos (decide_eq_true (by rw [q]))]; grind
    · rw [if_neg q, if_neg (by simp only [decide_eq_true_eq, Option.some.injEq]; exact q)]
      show ((0 : Nat) : Rat) = _
      push_cast; grind
  have key : ∀ γ, ((arr γ V (os.count γ.num) : Nat) : Rat) / (m : Rat) = infl (belts w (unit w k) fun j => ((V j : Nat) : Rat) / (m : Rat)) γ := fun γ => by
    rw [infl_belts, hV γ, hc γ]
    have : sm w.prs.length (fun j => cfg w γ j * (((V j : Nat) : Rat) / (m : Rat))) = (m : Rat)⁻¹ * sm w.prs.length fun j => cfg w γ j * ((V j : Nat) : Rat) := by
      rw [← sm_mul]
      exact sm_congr fun j _ => by grind
    rw [this]; grind
  have hu := thr_uniq h (qs := unit w k) (y := fun j => ((V j : Nat) : Rat) / (m : Rat)) fun i _ => key ⟨false, i⟩
  refine ⟨V, fun i hi => by rw [← hu i hi]; grind, fun o => ?_⟩
  have ko := key ⟨true, o⟩
  unfold share outF
  rw [infl_belts] at ko ⊢
  rw [sm_congr (f := fun j => cfg w ⟨true, o⟩ j * thr w (unit w k) j) (g := fun j => cfg w ⟨true, o⟩ j * (((V j : Nat) : Rat) / (m : Rat))) fun j hj => by rw [hu j hj], ← ko]
  show (((os.count o : Nat) : Rat) / (m : Rat)) * (m : Rat) = _
  grind
theorem sq_led {w : Web} (h : IsWeb w) {g : Goal} {k : Nat} (hk : w.ins[k]? = some g) : ∀ (m : Nat) {ts : List Nat}, TurnsOk w ts → ∃ os, Led w ts (List.replicate m k) os (sq w g ts m)
  | 0, ts, _ => ⟨[], .nil⟩
  | m + 1, ts, t => by
    have hg := goal_mem_ins (List.mem_of_getElem? hk)
    obtain ⟨f, h1, _, h3, _⟩ := nx_way h t hg
    obtain ⟨os, h5⟩ := sq_led h hk m h3
    have e : ∀ m, sq w g (nxT w g ts) m = sq w g ts (m + 1) := fun m => by
      induction m with
      | zero => rfl
      | succ m ih => show nxT w g (sq w g (nxT w g ts) m) = nxT w g (sq w g ts (m + 1)); rw [ih]
    rw [e] at h5
    exact ⟨_, .cons hk h1 h5⟩
theorem sq_shift (w : Web) (g : Goal) (ts : List Nat) (i : Nat) : ∀ m, sq w g (sq w g ts i) m = sq w g ts (i + m)
  | 0 => rfl
  | m + 1 => by
    show nxT w g (sq w g (sq w g ts i) m) = nxT w g (sq w g ts (i + m))
    rw [sq_shift w g ts i m]
/-- some turns come again -/
theorem sq_again {w : Web} (h : IsWeb w) {g : Goal} (hg : g ∈ goalsOf w) : ∃ (ts : List Nat) (m : Nat), 0 < m ∧ m ≤ 4096 ∧ TurnsOk w ts ∧ sq w g ts m = ts := by
  have z := zeros_ok w
  generalize List.replicate w.prs.length 0 = t0 at z
  apply Classical.byContradiction
  intro hno
  have nd : ((List.range 4097).map (sq w g t0)).Nodup := by
    refine List.Pairwise.map _ (fun a b hab => hab) ?_
    have : (List.range 4097).Pairwise fun a b => a < b ∧ b ≤ 4096 := by
      refine List.Pairwise.imp_of_mem (R := (· < ·)) (fun {a b} ha hb hab => ⟨hab, by have := List.mem_range.mp hb; omega⟩) List.pairwise_lt_range
    refine this.imp (S := fun a b => sq w g t0 a ≠ sq w g t0 b) fun {a b} hab e => hno ⟨sq w g t0 a, b - a, by omega, by omega, sq_ok h z hg a, by rw [sq_shift, show a + (b - a) = b by omega]; exact e.symm⟩
  have := turns_few h.parts.prs nd fun t ht => by
    obtain ⟨j, _, rfl⟩ := List.mem_map.mp ht
    exact sq_ok h z hg j
  simp at this
theorem unit_den {w : Web} (h : IsWeb w) {k : Nat} (hk : k < w.ins.length) : ∃ m : Nat, 0 < m ∧ m ≤ 4096 ∧ ∃ V : Nat → Nat, ∀ i, i < w.prs.length → thr w (unit w k) i * (m : Rat) = ((V i : Nat) : Rat) := by
  have e : w.ins[k]? = some w.ins[k] := List.getElem?_eq_getElem hk
  obtain ⟨ts, m, h1, h2, h3, h4⟩ := sq_again h (goal_mem_ins (List.mem_of_getElem? e))
  obtain ⟨os, h5⟩ := sq_led h e m h3
  rw [h4] at h5
  obtain ⟨V, h6, _⟩ := round_thr h hk h1 h5 h3
  exact ⟨m, h1, h2, V, h6⟩
/-! ### sums of shares -/
theorem thr_lin {w : Web} (h : IsWeb w) {qs : List Rat} (hq : qs.length = w.ins.length) : ∀ i, i < w.prs.length → thr w qs i = sm w.ins.length fun k => qs.getD k 0 * thr w (unit w k) i := by
  intro i hi
  refine (thr_uniq h (qs := qs) (y := fun i => sm w.ins.length fun k => qs.getD k 0 * thr w (unit w k) i) (fun i hi => ?_) i hi).symm
  rw [infl_belts, rin_sm hq]
  have e1 : sm w.prs.length (fun j => cfg w ⟨false, i⟩ j * sm w.ins.length fun k => qs.getD k 0 * thr w (unit w k) j) = sm w.ins.length fun k => qs.getD k 0 * sm w.prs.length fun j => cfg w ⟨false, i⟩ j * thr w (unit w k) j := by
    rw [sm_congr (g := fun j => sm w.ins.length fun k => cfg w ⟨false, i⟩ j * (qs.getD k 0 * thr w (unit w k) j)) fun j _ => by rw [sm_mul], sm_swap]
    refine sm_congr fun k _ => ?_
    rw [← sm_mul]
    exact sm_congr fun j _ => by grind
  rw [e1, ← sm_add]
  refine sm_congr fun k hk => ?_
  have := thr_eq h (unit w k) hi
  rw [infl_belts, rin_unit hk] at this
  rw [this]
  split <;> grind
theorem out_lin {w : Web} (h : IsWeb w) {qs : List Rat} (hq : qs.length = w.ins.length) (o : Nat) : outF w qs o = sm w.ins.length fun k => qs.getD k 0 * share w k o := by
  unfold share outF
  rw [infl_belts, rin_sm hq]
  have e1 : sm w.prs.length (fun j => cfg w ⟨true, o⟩ j * thr w qs j) = sm w.ins.length fun k => qs.getD k 0 * sm w.prs.length fun j => cfg w ⟨true, o⟩ j * thr w (unit w k) j := by
    rw [sm_congr (g := fun j => sm w.ins.length fun k => cfg w ⟨true, o⟩ j * (qs.getD k 0 * thr w (unit w k) j)) fun j hj => by rw [thr_lin h hq j hj, sm_mul], sm_swap]
    refine sm_congr fun k _ => ?_
    rw [← sm_mul]
    exact sm_congr fun j _ => by grind
  rw [e1, ← sm_add]
  refine sm_congr fun k hk => ?_
  rw [infl_belts, rin_unit hk]
  split <;> grind
/-! ### one number below all -/
theorem units_den {w : Web} (h : IsWeb w) : ∀ r, r ≤ w.ins.length → ∃ M : Nat, 0 < M ∧ M ≤ 4096 ^ r ∧ ∀ k, k < r → ∀ i, i < w.prs.length → ∃ V : Nat, thr w (unit w k) i * (M : Rat) = (V : Rat)
  | 0, _ => ⟨1, by decide, by decide, fun k hk => by omega⟩
  | r + 1, hr => by
    obtain ⟨M, h1, h2, h3⟩ := units_den h r (by omega)
    obtain ⟨m, m1, m2, V, hV⟩ := unit_den h (show r < w.ins.length by omega)
    refine ⟨M * m, Nat.mul_pos h1 m1, by rw [Nat.pow_succ]; exact Nat.mul_le_mul h2 m2, fun k hk i hi => ?_⟩
    by_cases e : k = r
    · subst e
      refine ⟨M * V i, ?_⟩
      have := hV i hi
      push_cast
      rw [← this]; grind
    · obtain ⟨U, hU⟩ := h3 k (by omega) i hi
      refine ⟨U * m, ?_⟩
      push_cast
      rw [← hU]; grind
theorem sm_whole (f : Nat → Rat) (D : Rat) : ∀ n, (∀ k, k < n → ∃ V : Nat, f k * D = (V : Rat)) → ∃ V : Nat, sm n f * D = (V : Rat)
  | 0, _ => ⟨0, by simp only [sm]; push_cast; grind⟩
  | n + 1, h => by
    obtain ⟨V, hV⟩ := sm_whole f D n fun k hk => h k (by omega)
    obtain ⟨U, hU⟩ := h n (by omega)
    exact ⟨V + U, by simp only [sm]; push_cast; grind⟩
theorem com_den {w : Web} (h : IsWeb w) {qs : List Rat} (hq : qs.length = w.ins.length) {E : Nat} (hE : 0 < E) (hd : ∀ q ∈ qs, q.den ∣ E) (hb : ∀ q ∈ qs, 0 ≤ q ∧ q ≤ 1) : ∃ D : Nat, 0 < D ∧ D ≤ E * 2 ^ 49 ∧ ∀ p ∈ belts w qs (thr w qs), ∃ V : Nat, p.2 * (D : Rat) = (V : Rat) := by
  obtain ⟨M, h1, h2, h3⟩ := units_den h w.ins.length (Nat.le_refl _)
  have hM : M ≤ 2 ^ 48 := by
    have : 4096 ^ w.ins.length ≤ 4096 ^ 4 := Nat.pow_le_pow_right (by decide) h.parts.ins.2
    have e : 4096 ^ 4 = 2 ^ 48 := by decide
    omega
  have qE : ∀ q ∈ qs, ∃ V : Nat, q * (E : Rat) = (V : Rat) := fun q hq => by
    obtain ⟨z, h1, _⟩ := q_whole (hd q hq) (hb q hq).1 (hb q hq).2
    exact ⟨z, h1⟩
  have hx : ∀ i, i < w.prs.length → ∃ V : Nat, thr w qs i * ((E * M : Nat) : Rat) = (V : Rat) := fun i hi => by
    rw [thr_lin h hq i hi]
    refine sm_whole _ _ _ fun k hk => ?_
    obtain ⟨U, hU⟩ := h3 k hk i hi
    have hkq : k < qs.length := by omega
    obtain ⟨V, hV⟩ := qE (qs.getD k 0) (by rw [List.getD_eq_getElem?_getD, List.getElem?_eq_getElem hkq]; exact List.getElem_mem hkq)
    refine ⟨V * U, ?_⟩
    push_cast
    rw [← hV, ← hU]; grind
  refine ⟨2 * (E * M), by have := Nat.mul_pos hE h1; omega, ?_, fun p hp => ?_⟩
  · have : E * M ≤ E * 2 ^ 48 := Nat.mul_le_mul_left _ hM
    rw [show E * 2 ^ 49 = 2 * (E * 2 ^ 48) by rw [Nat.mul_left_comm]]
    omega
  · rcases List.mem_append.mp hp with hp | hp
    · obtain ⟨V, hV⟩ := qE p.2 (List.of_mem_zip hp).2
      refine ⟨V * (2 * M), ?_⟩
      push_cast
      rw [← hV]; grind
    · obtain ⟨l, hl, hp⟩ := List.mem_flatten.mp hp
      obtain ⟨j, hj, rfl⟩ := List.mem_map.mp hl
      obtain ⟨g, hg, rfl⟩ := List.mem_map.mp hp
      have hj := List.mem_range.mp hj
      obtain ⟨V, hV⟩ := hx j hj
      obtain ⟨c, _, hc⟩ := half_kk h hj
      refine ⟨V * c, ?_⟩
      push_cast
      push_cast at hV
      rw [← hV, ← hc]; grind
/-! ### as much comes out as goes in -/
theorem belts_sum {w : Web} (h : IsWeb w) (qs : List Rat) (x : Nat → Rat) : ls (belts w qs x) (·.2) = ls (w.ins.zip qs) (·.2) + sm w.prs.length x := by
  unfold belts
  rw [ls_append, ls_flat, ls_map, ls_range]
  congr 1
  refine sm_congr fun j hj => ?_
  rw [ls_map]
  rcases there_cases h hj with ⟨g, e, e2, _⟩ | ⟨g, g', e, e2, _⟩
  · rw [e, e2]; simp only [ls]; grind
  · rw [e, e2]; simp only [ls]; grind
theorem outs_sum {w : Web} (h : IsWeb w) {qs : List Rat} (hq : qs.length = w.ins.length) : sm (nOuts w) (outF w qs) = ls (w.ins.zip qs) (·.2) := by
  have e1 := belts_sum h qs (thr w qs)
  have e2 : sm w.prs.length (thr w qs) = ls (belts w qs (thr w qs)) fun p => if p.1.out = true then 0 else p.2 := by
    rw [sm_congr fun i hi => thr_eq h qs hi]
    unfold infl
    rw [sm_ls]
    refine ls_congr fun p hp => ?_
    have hg : p.1 ∈ goalsOf w := by rw [← belts_goals hq (thr w qs)]; exact List.mem_map.mpr ⟨p, hp, rfl⟩
    have hb := bnd_of h hg
    obtain ⟨⟨a, b⟩, q⟩ := p
    cases a with
    | true =>
      rw [if_pos rfl]
      exact sm_eq0 fun i _ => if_neg (fun e => by cases e)
    | false =>
      have hb : b < w.prs.length := by simpa [bndG] using hb
      rw [if_neg (show ¬ (false = true) by decide), sm_single _ hb fun i _ hi => if_neg (fun e => hi (by injection e with _ e; exact e.symm)), if_pos rfl]
  have e3 : sm (nOuts w) (outF w qs) = ls (belts w qs (thr w qs)) fun p => if p.1.out = true then p.2 else 0 := by
    unfold outF infl
    rw [sm_ls]
    refine ls_congr fun p hp => ?_
    have hg : p.1 ∈ goalsOf w := by rw [← belts_goals hq (thr w qs)]; exact List.mem_map.mpr ⟨p, hp, rfl⟩
    have hb := h.c.out_lt hg
    obtain ⟨⟨a, b⟩, q⟩ := p
    cases a with
    | true =>
      have hb : b < nOuts w := hb rfl
      rw [if_pos rfl, sm_single _ hb fun i _ hi => if_neg (fun e => hi (by injection e with _ e; exact e.symm)), if_pos rfl]
    | false =>
      rw [if_neg (show ¬ (false = true) by decide)]
      exact sm_eq0 fun i _ => if_neg (fun e => by cases e)
  have e4 : ls (belts w qs (thr w qs)) (·.2) = ls (belts w qs (thr w qs)) (fun p => if p.1.out = true then p.2 else 0) + ls (belts w qs (thr w qs)) fun p => if p.1.out = true then 0 else p.2 := by
    rw [← ls_add]
    refine ls_congr fun p _ => ?_
    split <;> grind
  rw [e4, ← e3, ← e2] at e1
  grind

/-! ### what is told of things, as data; turns drawn -/
def ledD (os ts : List Nat) : PD := .tuple [.list (os.map natD), .tuple (ts.map natD)]
theorem dp_natsL (l : List Nat) : (PyData.list (l.map natD)).depth ≤ 2 := by
  have := depth_map (f := natD) (n := 1) (l := l) (fun x => by simp [natD, PyData.depth])
  simp only [PyData.depth]; omega
theorem dp_natsT (l : List Nat) : (PyData.tuple (l.map natD)).depth ≤ 2 := by
  have := depth_map (f := natD) (n := 1) (l := l) (fun x => by simp [natD, PyData.depth])
  simp only [PyData.depth]; omega
theorem dp_led (os ts : List Nat) : (ledD os ts).depth ≤ 64 := by
  have h1 := dp_natsL os
  have h2 := dp_natsT ts
  simp only [ledD, PyData.depth, PyData.depthAll] at *
  omega
theorem noB_natD (i : Nat) : noB (natD i) = true := rfl
theorem noB_led (os ts : List Nat) : noB (ledD os ts) = true := by
  have h1 := noBs_map (f := natD) (l := os) (fun x _ => rfl)
  have h2 := noBs_map (f := natD) (l := ts) (fun x _ => rfl)
  simp only [ledD, noB, noBs, h1, h2, Bool.and_self]
theorem eqv_led (os ts : List Nat) : PyData.eqv (ledD os ts) (ledD os ts) = true := (eqv_noB _ _ (noB_led _ _) (noB_led _ _)).mpr rfl
theorem cb_neL {X : Cx} {T : Tb} {os ts os' ts' : List Nat} (hu : X.A.units + 100 < cLine) (e : ledD os ts = ledD os' ts') : CB X T .NotEq (ledD os ts) (ledD os' ts') false := by
  have := cb_ne (X := X) (T := T) (da := ledD os ts) (db := ledD os' ts') hu (Nat.le_trans (Nat.min_le_left _ _) (dp_led _ _))
  rw [e, eqv_led] at this
  rw [e]
  exact this
def bitN (x : Int) : Nat := (x.fdiv 16 % 2).toNat
theorem bit_eq (x : Int) : x.fdiv 16 % 2 = (bitN x : Nat) := by unfold bitN; omega
theorem bit_le (x : Int) : bitN x ≤ 1 := by unfold bitN; omega
def turnsN (f : Nat → Int) (n : Nat) : List Nat := (List.range n).map fun i => bitN (f i)
theorem turnsN_ok {w : Web} (f : Nat → Int) : TurnsOk w (turnsN f w.prs.length) := ⟨by simp [turnsN], fun t ht => by
  obtain ⟨i, _, rfl⟩ := List.mem_map.mp ht
  exact bit_le _⟩
theorem led_bits {w : Web} (h : WebC w) {ts ks os ts' : List Nat} (a : Led w ts ks os ts') : TurnsOk w ts → TurnsOk w ts' := by
  induction a with
  | nil => exact id
  | cons h1 h2 _ ih => exact fun t => ih (h2.tok h t (goal_mem_ins (List.mem_of_getElem? h1))).1
theorem map_natD (l : List Nat) : l.map natD = (l.map fun n : Nat => (n : Int)).map .int := by rw [List.map_map]; rfl
theorem cut_pre (l m : List PD) : DL.cutD (l ++ m) none (some (l.length : Nat)) = l := by
  unfold DL.cutD
  rw [HT.sIx_none, HT.sIx_nat]
  simp
theorem outs_goals (w : Web) : ((goalsOf w).filter fun g => g.out).length = nOuts w := rfl
theorem rel_goalsW {w : Web} (hw : IsWeb w) : R__law_goals [webD w] (.list ((goalsOf w).map goalD)) := by
  have h1 := hw.parts.ins
  have h2 := hw.parts.prs
  have := rel__law_goals (v := lofW w) ⟨by simp [lofW]; omega, by simp [lofW]; omega⟩
  rwa [lofW_D, lgoals_of, List.map_map] at this

/-! ### in whatever order things come -/
theorem exN_mono (p : OG × OG) (γ : Goal) (t : Nat) {a b : Nat} (h : a ≤ b) : exN p γ t a ≤ exN p γ t b := by
  obtain ⟨c, rfl⟩ : ∃ c, b = a + c := ⟨b - a, by omega⟩
  rw [exN_add]; omega
theorem smN_le {f g : Nat → Nat} : ∀ {n : Nat}, (∀ i, i < n → f i ≤ g i) → smN n f ≤ smN n g
  | 0, _ => Nat.le_refl _
  | n + 1, h => by
    have := smN_le (n := n) fun i hi => h i (by omega)
    have := h n (by omega)
    simp only [smN]; omega
/-- what flows on from so many visits -/
def flN (w : Web) (ts : List Nat) (V : Nat → Nat) (i : Nat) : Nat := smN w.prs.length fun j => exN (prAt w j) ⟨false, i⟩ (ts.getD j 0) (V j)
theorem flN_le {w : Web} {ts : List Nat} {U V : Nat → Nat} (h : ∀ j, j < w.prs.length → U j ≤ V j) (i : Nat) : flN w ts U i ≤ flN w ts V i := smN_le fun j hj => exN_mono _ _ _ (h j hj)
theorem nextT_tog {w : Web} {ts ts0 : List Nat} {U : Nat → Nat} (hl : ts.length = w.prs.length) (hU : ∀ j, j < w.prs.length → ts.getD j 0 = tog (ts0.getD j 0) (U j)) {n : Nat} (hn : n < w.prs.length) :
    ∀ j, j < w.prs.length → (nextT ts n).getD j 0 = tog (ts0.getD j 0) (U j + if j = n then 1 else 0) := fun j hj => by
  unfold nextT
  simp only [List.getD_eq_getElem?_getD, List.getElem?_set]
  by_cases e : n = j
  · subst e
    have hlt : n < ts.length := by omega
    have := hU n hj
    simp only [List.getD_eq_getElem?_getD] at this
    simp only [if_true, hlt, Option.getD_some]
    rw [tog_add, ← this]; rfl
  · rw [if_neg e, if_neg (Ne.symm e), Nat.add_zero]
    have := hU j hj
    simp only [List.getD_eq_getElem?_getD] at this
    exact this
theorem flN_step {w : Web} {ts ts0 : List Nat} {U : Nat → Nat} (hU : ∀ j, j < w.prs.length → ts.getD j 0 = tog (ts0.getD j 0) (U j)) {n : Nat} (hn : n < w.prs.length) (i : Nat) :
    flN w ts0 (fun j => U j + if j = n then 1 else 0) i = b2 (nextG w ts n = ⟨false, i⟩) + flN w ts0 U i := by
  unfold flN
  refine smN_at _ _ (i := n) hn ?_ fun j hj => ?_
  · dsimp only
    rw [if_pos rfl, exN_add, ← hU n hn, nextG_eff]
    show _ + (b2 (eff (prAt w n) (ts.getD n 0) = ⟨false, i⟩) + 0) = _
    omega
  · dsimp only
    rw [if_neg hj, Nat.add_zero]
theorem Way.least {w : Web} (h : IsWeb w) {ts ts' : List Nat} {g : Goal} {f : List Nat} {o : Nat} (a : Way w ts g f o ts') : TurnsOk w ts → g ∈ goalsOf w →
    ∀ (ts0 : List Nat) (U V' inn : Nat → Nat), (∀ j, j < w.prs.length → ts.getD j 0 = tog (ts0.getD j 0) (U j)) → (∀ i, i < w.prs.length → inn i + flN w ts0 V' i ≤ V' i) → (∀ i, i < w.prs.length → U i + b2 (g = ⟨false, i⟩) ≤ inn i + flN w ts0 U i) → (∀ j, j < w.prs.length → U j ≤ V' j) → ∀ j, j < w.prs.length → U j + f.count j ≤ V' j := by
  induction a with
  | @out ts g ho =>
    intro _ _ ts0 U V' inn _ _ _ hle j hj
    simpa using hle j hj
  | @step ts ts' g f o ho _ ih =>
    intro t hg ts0 U V' inn hU hV hin hle j hj
    have hb := bnd_of h hg
    simp only [bndG, ho, Bool.false_eq_true, if_false] at hb
    have hnx := nextG_mem hb (t.get g.num) h
    have hgn : g = ⟨false, g.num⟩ := by
      obtain ⟨a, b⟩ := g
      simp only at ho
      subst ho; rfl
    have h1 : U g.num + 1 ≤ V' g.num := by
      have a1 := hin g.num hb
      rw [← hgn] at a1
      have a2 := flN_le (ts := ts0) hle g.num
      have a3 := hV g.num hb
      have e : b2 (g = g) = 1 := by unfold b2; simp
      omega
    have := ih (t.next _) (goal_mem_prs (prAt_mem hb) hnx) ts0 (fun j => U j + if j = g.num then 1 else 0) V' inn (nextT_tog t.len hU hb) hV (fun i hi => by
      rw [flN_step hU hb]
      have a1 := hin i hi
      have e : (if i = g.num then 1 else 0) = b2 (g = ⟨false, i⟩) := by
        unfold b2
        by_cases q : i = g.num
        · rw [if_pos q, if_pos (by rw [q]; exact hgn)]
        · rw [if_neg q, if_neg (fun z => q (by rw [z]))]
      try dsimp only
      rw [e]; omega) (fun j hj => by
      try dsimp only
      by_cases q : j = g.num
      · rw [if_pos q, q]; exact h1
      · rw [if_neg q]; exact hle j hj) j hj
    rw [List.count_cons]
    try dsimp only at this
    by_cases q : j = g.num
    · rw [if_pos q] at this
      rw [if_pos (by simp [q])]
      omega
    · rw [if_neg q] at this
      rw [if_neg (by simp [Ne.symm q])]
      omega
theorem Led.least {w : Web} (h : IsWeb w) {ts ts' ks os : List Nat} (a : Led w ts ks os ts') : TurnsOk w ts →
    ∃ V : Nat → Nat, (∀ j, j < w.prs.length → ts'.getD j 0 = tog (ts.getD j 0) (V j)) ∧ (∀ γ, arr γ V (os.count γ.num) = ks.countP (fun k => decide (w.ins[k]? = some γ)) + smN w.prs.length fun j => exN (prAt w j) γ (ts.getD j 0) (V j)) ∧
      ∀ (ts0 : List Nat) (U V' in0 inn : Nat → Nat), (∀ j, j < w.prs.length → ts.getD j 0 = tog (ts0.getD j 0) (U j)) → (∀ i, i < w.prs.length → inn i + flN w ts0 V' i ≤ V' i) → (∀ i, i < w.prs.length → U i = in0 i + flN w ts0 U i) → (∀ i, i < w.prs.length → in0 i + ks.countP (fun k => decide (w.ins[k]? = some ⟨false, i⟩)) ≤ inn i) → (∀ j, j < w.prs.length → U j ≤ V' j) → ∀ j, j < w.prs.length → U j + V j ≤ V' j := by
  induction a with
  | @nil ts =>
    intro t
    obtain ⟨V, h1, h2⟩ := (Led.nil (w := w) (ts := ts)).flow h t
    refine ⟨fun _ => 0, fun j _ => rfl, fun γ => ?_, fun ts0 U V' in0 inn _ _ _ _ hle j hj => by simpa using hle j hj⟩
    have ez : smN w.prs.length (fun j => exN (prAt w j) γ (ts.getD j 0) 0) = 0 := (smN_congr (g := fun _ => 0) fun j _ => rfl).trans (smN_zero _)
    show _ = _ + smN w.prs.length (fun j => exN (prAt w j) γ (ts.getD j 0) 0)
    rw [ez]
    unfold arr
    simp
  | @cons ts ts1 ts' k g f o ks os h1 h2 _ ih =>
    intro t
    have hg := goal_mem_ins (List.mem_of_getElem? h1)
    obtain ⟨a1, a2⟩ := h2.flow h t hg
    obtain ⟨V, b1, b2', b3⟩ := ih (h2.inr h t hg).1
    have ec : ∀ γ, (k :: ks).countP (fun k => decide (w.ins[k]? = some γ)) = b2 (g = γ) + ks.countP (fun k => decide (w.ins[k]? = some γ)) := fun γ => by
      rw [List.countP_cons, h1]
      unfold b2
      by_cases e : g = γ
      · subst e; simp; omega
      · simp [e]
    refine ⟨fun j => f.count j + V j, fun j hj => ?_, fun γ => ?_, fun ts0 U V' in0 inn hU hV hE hin hle j hj => ?_⟩
    · rw [b1 j hj, a1 j hj, tog_add]
    · have e1 := a2 γ
      have e2 := b2' γ
      have es : smN w.prs.length (fun j => exN (prAt w j) γ (ts.getD j 0) (f.count j + V j)) = smN w.prs.length (fun j => exN (prAt w j) γ (ts.getD j 0) (f.count j)) + smN w.prs.length (fun j => exN (prAt w j) γ (ts1.getD j 0) (V j)) := by
        rw [← smN_add]
        exact smN_congr fun j hj => by rw [exN_add, a1 j hj]
      have ea : arr γ (fun j => f.count j + V j) ((o :: os).count γ.num) = arr γ (fun j => f.count j) (b2 (o = γ.num)) + arr γ V (os.count γ.num) := by
        unfold arr
        split
        · rw [List.count_cons]
          unfold b2
          by_cases e : o = γ.num
          · simp [e]; omega
          · simp [e]
        · rfl
      rw [ea, es, ec, e1, e2]; omega
    · have s1 := h2.least h t hg ts0 U V' inn hU hV (fun i hi => by
        have := hin i hi
        rw [ec] at this
        have := hE i hi
        omega) hle
      have s2 : ∀ i, i < w.prs.length → U i + f.count i = (in0 i + b2 (g = ⟨false, i⟩)) + flN w ts0 (fun j => U j + f.count j) i := fun i hi => by
        have e1 := a2 ⟨false, i⟩
        unfold arr at e1
        simp only [Bool.false_eq_true, if_false] at e1
        have e2 : flN w ts0 (fun j => U j + f.count j) i = flN w ts0 U i + smN w.prs.length fun j => exN (prAt w j) ⟨false, i⟩ (ts.getD j 0) (f.count j) := by
          unfold flN
          rw [← smN_add]
          exact smN_congr fun j hj => by rw [exN_add, hU j hj]
        have := hE i hi
        omega
      have := b3 ts0 (fun j => U j + f.count j) V' (fun i => in0 i + b2 (g = ⟨false, i⟩)) inn (fun j hj => by rw [a1 j hj, hU j hj, tog_add]) hV s2 (fun i hi => by
        have := hin i hi
        rw [ec] at this
        omega) s1 j hj
      show U j + (f.count j + V j) ≤ V' j
      omega
theorem Led.order {w : Web} (h : IsWeb w) {ts ts1 ts2 ks ls os1 os2 : List Nat} (t : TurnsOk w ts) (a : Led w ts ks os1 ts1) (b : Led w ts ls os2 ts2) (p : ks.Perm ls) : (∀ j, j < w.prs.length → ts1.getD j 0 = ts2.getD j 0) ∧ ∀ o, os1.count o = os2.count o := by
  obtain ⟨V, v1, v2, v3⟩ := a.least h t
  obtain ⟨U, u1, u2, u3⟩ := b.least h t
  have hc : ∀ γ : Goal, ks.countP (fun k => decide (w.ins[k]? = some γ)) = ls.countP (fun k => decide (w.ins[k]? = some γ)) := fun γ => p.countP_eq _
  have z : ∀ i, i < w.prs.length → (0 : Nat) = 0 + flN w ts (fun _ => 0) i := fun i _ => by
    unfold flN
    rw [smN_congr (g := fun _ => 0) (f := fun j => exN (prAt w j) ⟨false, i⟩ (ts.getD j 0) 0) fun j _ => rfl, smN_zero]
  have e1 : ∀ i, i < w.prs.length → V i = ls.countP (fun k => decide (w.ins[k]? = some ⟨false, i⟩)) + flN w ts V i := fun i _ => by
    have := v2 ⟨false, i⟩
    rw [hc] at this
    exact this
  have e2 : ∀ i, i < w.prs.length → U i = ks.countP (fun k => decide (w.ins[k]? = some ⟨false, i⟩)) + flN w ts U i := fun i _ => by
    have := u2 ⟨false, i⟩
    rw [← hc] at this
    exact this
  have l1 := v3 ts (fun _ => 0) U (fun _ => 0) (fun i => ks.countP (fun k => decide (w.ins[k]? = some ⟨false, i⟩))) (fun j _ => rfl) (fun i hi => by rw [← e2 i hi]; exact Nat.le_refl _) z (fun i _ => by omega) (fun j _ => Nat.zero_le _)
  have l2 := u3 ts (fun _ => 0) V (fun _ => 0) (fun i => ls.countP (fun k => decide (w.ins[k]? = some ⟨false, i⟩))) (fun j _ => rfl) (fun i hi => by rw [← e1 i hi]; exact Nat.le_refl _) z (fun i _ => by omega) (fun j _ => Nat.zero_le _)
  have e : ∀ j, j < w.prs.length → V j = U j := fun j hj => by
    have := l1 j hj
    have := l2 j hj
    omega
  refine ⟨fun j hj => by rw [v1 j hj, u1 j hj, e j hj], fun o => ?_⟩
  have f1 := v2 ⟨true, o⟩
  have f2 := u2 ⟨true, o⟩
  unfold arr at f1 f2
  simp only [if_true] at f1 f2
  rw [f1, f2, hc]
  congr 1
  exact smN_congr fun j hj => by rw [e j hj]
/-! ### shares of outs that a thing comes to -/
theorem cfg_pos {w : Web} (h : IsWeb w) {j : Nat} (hj : j < w.prs.length) {γ : Goal} (hγ : γ ∈ there (prAt w j)) : 0 < cfg w γ j := by
  unfold cfg
  rcases there_cases h hj with ⟨g, e, e2, _⟩ | ⟨g, g', e, e2, _⟩
  · rw [e] at hγ ⊢
    rw [e2]
    have : γ = g := by simpa using hγ
    subst this
    simp only [ls, if_true]
    decide +kernel
  · rw [e] at hγ ⊢
    rw [e2]
    simp only [ls]
    have : γ = g ∨ γ = g' := by simpa using hγ
    rcases this with rfl | rfl
    · rw [if_pos rfl]
      split <;> decide +kernel
    · rw [if_pos rfl]
      split <;> decide +kernel
theorem unit_nn {w : Web} (h : IsWeb w) {k : Nat} (hk : k < w.ins.length) {i : Nat} (hi : i < w.prs.length) : 0 ≤ thr w (unit w k) i := by
  obtain ⟨m, h1, _, V, hV⟩ := unit_den h hk
  have := hV i hi
  have hm : (0 : Rat) < (m : Rat) := Rat.natCast_pos.mpr h1
  have hn : (0 : Rat) ≤ thr w (unit w k) i * (m : Rat) := by rw [this]; exact Rat.natCast_nonneg
  exact Rat.le_of_mul_le_mul_right (by rw [Rat.zero_mul]; exact hn) hm
theorem Way.pos {w : Web} (h : IsWeb w) {k : Nat} (hk : k < w.ins.length) {ts ts' : List Nat} {g : Goal} {f : List Nat} {o : Nat} (a : Way w ts g f o ts') : TurnsOk w ts → g ∈ goalsOf w → 0 < infl (belts w (unit w k) (thr w (unit w k))) g → 0 < share w k o := by
  induction a with
  | @out ts g ho =>
    intro _ _ hp
    have hgn : g = ⟨true, g.num⟩ := by
      obtain ⟨a, b⟩ := g
      simp only at ho
      subst ho; rfl
    rw [hgn] at hp
    exact hp
  | @step ts ts' g f o ho _ ih =>
    intro t hg hp
    have hb := bnd_of h hg
    simp only [bndG, ho, Bool.false_eq_true, if_false] at hb
    have hgn : g = ⟨false, g.num⟩ := by
      obtain ⟨a, b⟩ := g
      simp only at ho
      subst ho; rfl
    have hnx := nextG_mem hb (t.get g.num) h
    refine ih (t.next _) (goal_mem_prs (prAt_mem hb) hnx) ?_
    rw [hgn, ← thr_eq h (unit w k) hb] at hp
    have hc := cfg_pos h hb hnx
    rw [infl_belts, rin_unit hk, sm_one _ hb]
    have h1 := Rat.mul_pos hc hp
    have h2 : 0 ≤ sm w.prs.length fun i => if i = g.num then 0 else cfg w (nextG w ts g.num) i * thr w (unit w k) i := sm_nn fun i hi => by
      split
      · exact Rat.le_refl
      · exact Rat.mul_nonneg (cfg_nn h _ hi) (unit_nn h hk hi)
    split <;> grind
theorem Way.share {w : Web} (h : IsWeb w) {k : Nat} {ts ts' : List Nat} {g : Goal} {f : List Nat} {o : Nat} (t : TurnsOk w ts) (hk : w.ins[k]? = some g) (a : Way w ts g f o ts') : 0 < share w k o := by
  obtain ⟨hl, e⟩ := List.getElem?_eq_some_iff.mp hk
  refine a.pos h hl t (goal_mem_ins (List.mem_of_getElem? hk)) ?_
  rw [infl_belts, rin_unit hl]
  have e2 : w.ins.getD k ⟨true, 0⟩ = g := by rw [List.getD_eq_getElem?_getD, hk]; rfl
  rw [if_pos e2]
  have h2 : 0 ≤ sm w.prs.length fun i => cfg w g i * thr w (unit w k) i := sm_nn fun i hi => Rat.mul_nonneg (cfg_nn h _ hi) (unit_nn h hl hi)
  grind
theorem due_whole {q : Rat} {m c : Nat} (h : q * (m : Rat) = (c : Rat)) : q.num * (m : Int) = (c : Int) * ((q.den : Nat) : Int) := by
  have e := q_den q
  have : ((q.num * (m : Int) : Int) : Rat) = (((c : Int) * ((q.den : Nat) : Int) : Int) : Rat) := by
    push_cast
    rw [← e]
    have : ((c : Int) : Rat) = (c : Rat) := by norm_cast
    grind
  exact_mod_cast this
theorem due_parts {q : Rat} {m c : Nat} (h : q * (m : Rat) = (c : Rat)) : (q.num * (m : Int)).fdiv ((q.den : Nat) : Int) = (c : Nat) ∧ q.num * (m : Int) % ((q.den : Nat) : Int) = 0 := by
  rw [due_whole h]
  have hd : (0 : Int) < ((q.den : Nat) : Int) := by have := q.den_pos; omega
  refine ⟨?_, Int.mul_emod_left _ _⟩
  rw [Int.fdiv_eq_ediv_of_nonneg _ (by omega), Int.mul_ediv_cancel _ (by omega)]
/-! ### counts -/
theorem countsOf_cnt (m : Nat) (os : List Nat) : countsOf m os = (List.range m).map fun n => os.count n := by
  unfold countsOf
  refine List.map_congr_left fun n _ => ?_
  rw [← List.countP_eq_length_filter, List.count]
  refine List.countP_congr fun x _ => ?_
  simp
theorem Led.outs_lt {w : Web} (h : IsWeb w) {ts ts' ks os : List Nat} (a : Led w ts ks os ts') : TurnsOk w ts → (TurnsOk w ts') ∧ ∀ o ∈ os, (⟨true, o⟩ : Goal) ∈ goalsOf w := by
  induction a with
  | nil => intro t; exact ⟨t, fun o ho => by cases ho⟩
  | cons h1 h2 _ ih =>
    intro t
    have hg := goal_mem_ins (List.mem_of_getElem? h1)
    obtain ⟨t1, m1⟩ := h2.inr h t hg
    obtain ⟨t2, m2⟩ := ih t1
    exact ⟨t2, fun o ho => by
      rcases List.mem_cons.mp ho with e | ho
      · rw [e]; exact m1
      · exact m2 o ho⟩
theorem turns_ext {w : Web} {ts us : List Nat} (t : TurnsOk w ts) (u : TurnsOk w us) (h : ∀ j, j < w.prs.length → ts.getD j 0 = us.getD j 0) : ts = us := by
  refine List.ext_getElem (by rw [t.len, u.len]) fun i h1 h2 => ?_
  have := h i (by rw [← t.len]; exact h1)
  simpa [List.getD_eq_getElem?_getD, List.getElem?_eq_getElem h1, List.getElem?_eq_getElem h2] using this
theorem Led.same {w : Web} (h : IsWeb w) {ts ts1 ts2 ks ls os1 os2 : List Nat} (t : TurnsOk w ts) (a : Led w ts ks os1 ts1) (b : Led w ts ls os2 ts2) (p : ks.Perm ls) (m : Nat) : ts1 = ts2 ∧ countsOf m os1 = countsOf m os2 := by
  obtain ⟨h1, h2⟩ := a.order h t b p
  refine ⟨turns_ext (a.outs_lt h t).1 (b.outs_lt h t).1 h1, ?_⟩
  rw [countsOf_cnt, countsOf_cnt]
  exact List.map_congr_left fun n _ => h2 n
theorem Led.split {w : Web} {ts ts' os : List Nat} : ∀ (ks ls : List Nat), Led w ts (ks ++ ls) os ts' → ∃ os1 os2 ts1, os = os1 ++ os2 ∧ Led w ts ks os1 ts1 ∧ Led w ts1 ls os2 ts'
  | [], ls, a => ⟨[], os, ts, rfl, .nil, a⟩
  | k :: ks, ls, a => by
    cases a with
    | cons h1 h2 h3 =>
      obtain ⟨os1, os2, ts1, e, a1, a2⟩ := Led.split ks ls h3
      exact ⟨_ :: os1, os2, ts1, by rw [e]; rfl, .cons h1 h2 a1, a2⟩
theorem cnt_sum : ∀ (m : Nat) (os : List Nat), (∀ o ∈ os, o < m) → (countsOf m os).sum = os.length := fun m os h => by
  rw [countsOf_cnt]
  induction os with
  | nil =>
    have : ∀ l : List Nat, (l.map fun n => ([] : List Nat).count n).sum = 0 := fun l => by
      induction l with
      | nil => rfl
      | cons a l ih => simpa using ih
    exact this _
  | cons a os ih =>
    have ih := ih fun o ho => h o (List.mem_cons_of_mem _ ho)
    have ha := h a List.mem_cons_self
    have key : ∀ (l : List Nat), l.Nodup → (l.map fun n => (a :: os).count n).sum = (l.map fun n => os.count n).sum + if a ∈ l then 1 else 0 := fun l nd => by
      induction l with
      | nil => rfl
      | cons b l ih2 =>
        have nd2 := List.nodup_cons.mp nd
        rw [List.map_cons, List.sum_cons, List.map_cons, List.sum_cons, ih2 nd2.2, List.count_cons]
        by_cases e : a = b
        · subst e
          simp [nd2.1]; omega
        · have : (a == b) = false := by simpa using e
          simp [e, this]
          omega
    rw [key _ List.nodup_range, ih, if_pos (List.mem_range.mpr ha)]
    simp

/-! ### the law -/
local macro_rules | `(tactic| walk_at "emb") => `(tactic| first | (simp [DL.upTo, natD]; done) | (simp [DL.upTo, natD, *]; done))
theorem pop_permK {f l ks : List Nat} {m x : Nat} (h : (f ++ l).Perm ks) (e : l[m]? = some x) : ((f ++ [x]) ++ l.eraseIdx m).Perm ks := by
  refine List.Perm.trans ?_ h
  rw [List.append_assoc]
  refine .append_left _ ?_
  obtain ⟨h1, h2⟩ := List.getElem?_eq_some_iff.mp e
  have : l = l.take m ++ x :: l.drop (m + 1) := by rw [← h2, ← List.drop_eq_getElem_cons h1, List.take_append_drop]
  rw [List.eraseIdx_eq_take_drop_succ]
  conv => rhs; rw [this]
  simpa using (List.perm_middle (a := x) (l₁ := l.take m) (l₂ := l.drop (m + 1))).symm
theorem sort_perm (ks : List Nat) : ∃ ls : List Nat, ls.Perm ks ∧ (sortI (ks.map fun n : Nat => (n : Int))).map PyData.int = ls.map natD := by
  have p : (sortI (ks.map fun n : Nat => (n : Int))).Perm (ks.map fun n : Nat => (n : Int)) := List.mergeSort_perm _ _
  refine ⟨(sortI (ks.map fun n : Nat => (n : Int))).map Int.toNat, ?_, ?_⟩
  · refine (p.map Int.toNat).trans (.of_eq ?_)
    rw [List.map_map]
    exact (List.map_congr_left fun n _ => by simp).trans (List.map_id _)
  · rw [List.map_map]
    refine List.map_congr_left fun x hx => ?_
    obtain ⟨n, _, rfl⟩ := List.mem_map.mp (p.subset hx)
    simp [natD]
theorem cut_takeN (ks : List Nat) (h : Nat) : DL.cutD (ks.map natD) none (some ((h : Nat) : Int)) = (ks.take h).map natD := by
  unfold DL.cutD
  rw [HT.sIx_none, HT.sIx_nat, List.drop_zero, Nat.sub_zero, ← List.map_take, List.length_map]
  congr 1
  by_cases q : h ≤ ks.length
  · rw [Nat.min_eq_left q]
  · rw [Nat.min_eq_right (by omega), List.take_of_length_le (Nat.le_refl _), List.take_of_length_le (by omega)]
theorem cut_dropN (ks : List Nat) (h : Nat) : DL.cutD (ks.map natD) (some ((h : Nat) : Int)) none = (ks.drop h).map natD := by
  unfold DL.cutD
  rw [HT.sIx_none, HT.sIx_nat, List.length_map, ← List.map_drop, ← List.map_take]
  congr 1
  by_cases q : h ≤ ks.length
  · rw [Nat.min_eq_left q, List.take_of_length_le (by rw [List.length_drop]; omega)]
  · rw [Nat.min_eq_right (by omega), List.drop_eq_nil_of_le (Nat.le_refl _), List.drop_eq_nil_of_le (show ks.length ≤ h by omega)]; simp
theorem zip_range3 (n : Nat) (f g : Nat → PD) : zipD ((List.range n).map f) ((List.range n).map g) = (List.range n).map fun i => .tuple [f i, g i] := by
  unfold zipD
  rw [List.length_map, List.length_map, List.length_range, Nat.min_self]
  refine List.map_congr_left fun i hi => ?_
  have hi := List.mem_range.mp hi
  rw [getD_some (show ((List.range n).map f)[i]? = some (f i) by simp [hi]), getD_some (show ((List.range n).map g)[i]? = some (g i) by simp [hi])]
theorem enum_range3 (n : Nat) (f : Nat → PD) : enumD ((List.range n).map f) = (List.range n).map fun i => .tuple [natD i, f i] := by
  unfold enumD
  rw [List.length_map, List.length_range]
  refine List.map_congr_left fun i hi => ?_
  have hi := List.mem_range.mp hi
  rw [getD_some (show ((List.range n).map f)[i]? = some (f i) by simp [hi])]
  rfl
theorem counts_cntD (m : Nat) (os : List Nat) : (countsOf m os).map natD = (List.range m).map fun n => natD (os.count n) := by
  rw [countsOf_cnt, List.map_map]; rfl
theorem sum_castN (l : List Nat) : (l.map fun n : Nat => (n : Int)).sum = (l.sum : Nat) := by
  induction l with
  | nil => rfl
  | cons a l ih => simp [ih]
theorem replN (n : Nat) (d : PD) : (List.replicate (((n : Nat) : Int)).toNat [d]).flatten = List.replicate n d := by
  rw [show ((n : Nat) : Int).toNat = n by omega, List.flatten_replicate_singleton]
theorem sharesD_at {w : Web} {k : Nat} (hk : k < w.ins.length) : atI ((List.range w.ins.length).map fun k => PyData.list ((List.range (nOuts w)).map fun o => qD (share w k o))) ((k : Nat) : Int) = some (.list ((List.range (nOuts w)).map fun o => qD (share w k o))) := atI_nat (by rw [List.getElem?_map, List.getElem?_range hk]; rfl)
theorem num_pos_iff {q : Rat} : 0 < q.num ↔ 0 < q := by
  refine ⟨fun h => ?_, num_pos⟩
  have h1 : 0 ≤ q := Rat.num_nonneg.mp (by omega)
  refine Rat.lt_of_le_of_ne h1 fun e => ?_
  rw [← e] at h
  exact absurd h (by decide)
theorem in_natL (i : Nat) (l : List Nat) : inD (natD i) (l.map natD) = decide (i ∈ l) := (inD_emb (f := natD) (fun _ => rfl) (fun a b h => by simp only [natD, PyData.int.injEq] at h; omega) i l).trans (decide_eq_decide.mpr Iff.rfl)
def R_law : List Int → List PD → PD → Prop := fun ns ds d => ns.length ≤ 63 ∧ ds = [] ∧ d = .bool true
theorem len_law {ns : List Int} {ds : List PD} {r : PD} : R_law ns ds r → ds.length = 0 := by rintro ⟨_, rfl, _⟩; rfl
theorem rounds (n : Nat) (m : Int) : ∃ N : Nat, (if (if (n : Int) < m then (n : Int) else m) > 1 then (if (n : Int) < m then (n : Int) else m) else 1) = (N : Nat) ∧ (m ≤ 3 → N ≤ 3) := by
  refine ⟨(if (if (n : Int) < m then (n : Int) else m) > 1 then (if (n : Int) < m then (n : Int) else m) else 1).toNat, ?_, ?_⟩ <;> split <;> split <;> omega
theorem sc_law : FnScope ["_law_script", "_law_k", "_law_more", "_law_j", "_law_here", "_law_web_here", "_law_turns", "_law_number", "_law_inputs", "_law_left", "_law_mixed", "_law_n", "_law_told", "_law_half", "_law_first", "_law_second", "_law_both", "_law_one", "_law_other", "_law_table", "_law_count", "_law_whole", "_law_due", "_law_below", "_law_own", "_law_rest", "_law_at"] ["_law_script"] (defScope (topS 48)) := ⟨rfl, rfl, rfl, by decide +kernel, rfl, by decide +kernel, by decide +kernel⟩
theorem bi_law {K : Fr} {mg : Str → Option Value} (G : Tx K mg) : Binds K G.fd_law ["_law_script"] [] := G.fn_law.bindsN fun _ _ _ _ _ _ us hl => match us, hl with | [_], _ => rfl
theorem ok_law {P : Program} {w : World} {K : Fr} {mg : Str → Option Value} {base : Heap} {T : Tb} (G : Tx K mg) : FnOk P w K mg base CX0 10 (He.ga K "law") G.fd_law ["_law_script"] (spSc T K R_law) := by
  have nd := sc_law.nd
  refine fn_okSc G.fn_law sc_law (fun ns ds d h => by have h' := len_law h; rw [h']; decide) fun scrA ns ds d h cd A outer s H E hr => ?_
  obtain ⟨hnl, rfl, rfl⟩ := h
  dsimp only [enter]
  obtain ⟨N, hN, hN3⟩ := rounds ns.length 3
  have hN3 := hN3 (by decide)
  refine dss_then (ds_forS (xs := List.range N) (emb := natD) (fun _ => [scr K scrA ns, un, un, un, un, un, un, un, un, un, un, un, un, un, un, un, un, un, un, un, un, un, un, un, un, un, un]) (fun _ => True) (di_to (di_range (n := (N : Nat)) (da_cons (de_to (de_max2 (G.b_max) rfl de_int (de_min2 (G.b_min) rfl de_int (de_scrLen 0 G.b_len))) (congrArg PyData.int hN)) da_nil) G.b_range (by omega)) (by simp [DL.upTo, natD])) (LeL.le (by walk_at "le")) trivial (fun i k hk _ => ⟨(dg_nm 1 nd (by walk_at "free1")), ?_⟩) (fun _ => rfl) PassesOwn.never rfl) ?_
  · dsimp only [List.set]
    refine dss_then (ds_asg 2 (de_call (ok__law_drawn G) (hr.mono (by decide)) G.g__law_drawn G.fn__law_drawn.kp (bi__law_drawn G) (da_cons (de_callSc 0 (ok__law_cell G) (hr.mono (by decide)) G.g__law_cell G.fn__law_cell.kp (bi__law_cell G) (da_cons (de_nm 1) da_nil) (by first | exact rel__law_cell | exact rel__law_cell (by assumption) | exact rel__law_cell (by walk_at "rel") | assumption)) (da_cons (de_nm 1) da_nil)) (by first | exact rel__law_drawn | exact rel__law_drawn (by assumption) | exact rel__law_drawn (by walk_at "rel") | assumption)) (by rfl) nd) ?_
    dsimp only [List.set]
    generalize drawnI (cellI ns k) (k : Nat) = more
    refine dss_one (ds_forS (xs := List.range 3) (emb := natD) (fun _ => [scr K scrA ns, un, dat (.int more), un, un, un, un, un, un, un, un, un, un, un, un, un, un, un, un, un, un, un, un, un, un, un, un]) (fun _ => True) (di_to (di_range (da_cons de_int da_nil) G.b_range (by walk_at "num")) (by simp [DL.upTo, natD])) (LeL.le (by walk_at "le")) trivial (fun i2 j hj _ => ⟨(dg_nm 3 nd (by walk_at "free1")), ?_⟩) (fun _ => ⟨LeL.le (by walk_at "le"), trivial⟩) PassesOwn.never rfl)
    dsimp only [List.set]
    refine dss_then (ds_asg 4 (de_call (ok__law_drawn G) (hr.mono (by decide)) G.g__law_drawn G.fn__law_drawn.kp (bi__law_drawn G) (da_cons (de_nm 2) (da_cons (de_bin de_int (de_nm 3) (by walk_at "ob.Add")) da_nil)) (by first | exact rel__law_drawn | exact rel__law_drawn (by assumption) | exact rel__law_drawn (by walk_at "rel") | assumption)) (by rfl) nd) ?_
    dsimp only [List.set]
    generalize drawnI more _ = here
    refine dss_cons (fun S' => ∃ v : Web, IsWeb v ∧ S' = [scr K scrA ns, un, dat (.int more), dat (natD j), dat (.int here), dat (webD v), un, un, un, un, un, un, un, un, un, un, un, un, un, un, un, un, un, un, un, un, un]) (ds_asgE 5 (dx_callE (ok__law_right_web G) (hr.mono (by decide)) G.g__law_right_web G.fn__law_right_web.kp (bi__law_right_web G) (da_cons (de_nm 4) (da_cons de_int da_nil)) ⟨here, 6, by decide, by decide, rfl⟩) (fun d hq => by obtain ⟨v, e, h1, _⟩ := hq; exact ⟨v, h1, by rw [e]; rfl⟩) nd) ?_
    rintro _ ⟨v, hv, rfl⟩
    have hvc := hv.c
    have hno := hvc.nOuts_le
    have hin := hv.parts.ins
    have hpr := hv.parts.prs
    have hpl : ((v.prs.map pairD).length : Int) = (v.prs.length : Nat) := by simp
    have hil : ((v.ins.map goalD).length : Int) = (v.ins.length : Nat) := by simp
    refine dss_then (ds_asg 6 (de_tupleL G.b_tuple (de_dn (dn_lc0 (xs := (List.range v.prs.length)) (emb := (natD)) (g := (fun i => natD (bitN (drawnI here (50 + (i : Int)))))) (own' := [("_law_number", 7)]) rfl nd (dic_to (dic_of (di_range (da_cons (de_len (G.b_len) (de_ix (de_nm 5) de_int (by walk_at "ix")) (by walk_at "len")) da_nil) G.b_range (by walk_at "num"))) (by walk_at "emb")) (by walk_at "blk") (by walk_at "free") (by decide) (by walk_at "sz") (fun z hz _ _ _ _ _ => (dg_nm 7 nd (by walk_at "free1"))) (fun z hz _ _ _ _ _ => (?_))))) rfl nd) ?_
    · exact de_to (de_bin (de_bin (de_call (ok__law_drawn G) (hr.mono (by decide)) G.g__law_drawn G.fn__law_drawn.kp (bi__law_drawn G) (da_cons (de_nm 4) (da_cons (de_bin de_int (de_nm 7) (by walk_at "ob.Add")) da_nil)) (by first | exact rel__law_drawn | exact rel__law_drawn (by assumption) | exact rel__law_drawn (by walk_at "rel") | assumption)) de_int (by walk_at "ob.FloorDiv")) de_int (by walk_at "ob.Mod")) (congrArg PyData.int (bit_eq _))
    dsimp only [List.set]
    obtain ⟨ts, ht, ets⟩ : ∃ ts, TurnsOk v ts ∧ ((List.range v.prs.length).map fun i : Nat => natD (bitN (drawnI here (50 + (i : Int))))) = ts.map natD := ⟨turnsN (fun i => drawnI here (50 + (i : Int))) v.prs.length, turnsN_ok _, by simp [turnsN, List.map_map, Function.comp_def]⟩
    rw [ets]
    obtain ⟨nk, enk, hnk⟩ := mod_nat (here.fdiv 64) (n := 40) (by decide)
    have enk : here.fdiv 64 % 40 = (nk : Nat) := enk
    refine dss_then (ds_asgLc0 (xs := (List.range nk)) (emb := (natD)) (g := (fun i => natD ((drawnI here (80 + (i : Int))).fdiv 16 % (v.ins.length : Int)).toNat)) (own' := [("_law_number", 7)]) 8 rfl nd (dic_to (dic_of (di_range (da_cons (de_bin (de_bin (de_nm 4) de_int (by walk_at "ob.FloorDiv")) de_int (by walk_at "ob.Mod")) da_nil) G.b_range (by walk_at "num"))) (by walk_at "emb")) (by walk_at "blk") (by walk_at "free") (by decide) (by walk_at "sz") (fun z hz _ _ _ _ _ => (dg_nm 7 nd (by walk_at "free1"))) (fun z hz _ _ _ _ _ => (?_)) (by rfl) (by walk_at "lt")) ?_
    · have h1 := Int.emod_nonneg ((drawnI here (80 + (z : Int))).fdiv 16) (show (v.ins.length : Int) ≠ 0 by omega)
      refine de_to (de_bin (de_bin (de_call (ok__law_drawn G) (hr.mono (by decide)) G.g__law_drawn G.fn__law_drawn.kp (bi__law_drawn G) (da_cons (de_nm 4) (da_cons (de_bin de_int (de_nm 7) (by walk_at "ob.Add")) da_nil)) (by first | exact rel__law_drawn | exact rel__law_drawn (by assumption) | exact rel__law_drawn (by walk_at "rel") | assumption)) de_int (by walk_at "ob.FloorDiv")) (de_len (G.b_len) (de_ix (de_nm 5) de_int (by walk_at "ix")) (by walk_at "len")) (by walk_at "ob.Mod")) ?_
      rw [hil]
      exact congrArg PyData.int (by omega)
    dsimp only [List.set]
    obtain ⟨ks, hkl, hks, eks⟩ : ∃ ks : List Nat, ks.length ≤ 39 ∧ (∀ k ∈ ks, k < v.ins.length) ∧ ((List.range nk).map fun i : Nat => natD ((drawnI here (80 + (i : Int))).fdiv 16 % (v.ins.length : Int)).toNat) = ks.map natD := by
      refine ⟨(List.range nk).map fun i : Nat => ((drawnI here (80 + (i : Int))).fdiv 16 % (v.ins.length : Int)).toNat, by simp; omega, fun k hk => ?_, by simp [List.map_map, Function.comp_def]⟩
      obtain ⟨i, _, rfl⟩ := List.mem_map.mp hk
      have h1 := Int.emod_nonneg ((drawnI here (80 + (i : Int))).fdiv 16) (show (v.ins.length : Int) ≠ 0 by omega)
      have h2 := Int.emod_lt_of_pos ((drawnI here (80 + (i : Int))).fdiv 16) (show (0 : Int) < v.ins.length by omega)
      omega
    rw [eks]
    clear eks ets
    obtain ⟨os, ts', hled, ht', hos⟩ := led_all hv ks ht hks
    have hkl2 : ((ks.map natD).length : Int) = (ks.length : Nat) := by simp
    -- the same things in any order
    have hT : ∀ ls : List Nat, ls.Perm ks → R_counted K [webD v, .tuple (ts.map natD), .list (ls.map natD)] (.ok (ledD (countsOf (nOuts v) os) ts')) := fun ls hp => by
      have hls : ∀ k ∈ ls, k < v.ins.length := fun k hk => hks k (hp.subset hk)
      obtain ⟨os2, ts2, hled2, _⟩ := led_all hv ls ht hls
      obtain ⟨e1, e2⟩ := hled2.same hv ht hled hp (nOuts v)
      have := rel_counted (K := K) hv ht (by rw [hp.length_eq]; omega) hls hled2
      rw [e1, e2] at this
      exact this
    refine dss_then (ds_parV 9 10 (dva_cons (dv_n (ds := ks.map natD) (by first | exact dn_listT G.b_list (de_nm 8) | exact dn_listL G.b_list (de_nm 8))) (dva_cons (dv_n (dn_lst da_nil)) dva_nil)) rfl rfl nd (by decide) (by walk_at "lt") (by walk_at "lt")) ?_
    dsimp only [List.set]
    refine dss_le (S' := [scr K scrA ns, un, dat (.int more), un, dat (.int here), dat (webD v), dat (.tuple (ts.map natD)), un, dat (.list (ks.map natD)), own (ks.map natD), own (([] : List Nat).map natD), un, un, un, un, un, un, un, un, un, un, un, un, un, un, un, un]) (LeL.le (by walk_at "le")) ?_
    refine dss_cons (fun S' => ∃ ms : List Nat, ms.Perm ks ∧ S' = [scr K scrA ns, un, dat (.int more), un, dat (.int here), dat (webD v), dat (.tuple (ts.map natD)), un, dat (.list (ks.map natD)), own (([] : List Nat).map natD), own (ms.map natD), un, un, un, un, un, un, un, un, un, un, un, un, un, un, un, un]) (ds_for (xs := List.range ks.length) (emb := natD) (js := [11]) (S2 := fun i z S' => S'.set 11 (dat (natD z))) (fun i S' => ∃ f l : List Nat, (f ++ l).Perm ks ∧ l.length + i = ks.length ∧ S' = [scr K scrA ns, un, dat (.int more), un, dat (.int here), dat (webD v), dat (.tuple (ts.map natD)), un, dat (.list (ks.map natD)), own (l.map natD), own (f.map natD), un, un, un, un, un, un, un, un, un, un, un, un, un, un, un, un]) (di_to (di_range (da_cons (de_len (G.b_len) (de_nm 8) (by walk_at "len")) da_nil) G.b_range (by walk_at "num")) (by rw [hkl2]; simp [DL.upTo, natD])) ⟨[], ks, by simp, by simp, rfl⟩ ?_ ?_ PassesOwn.never rfl) ?_
    · rintro i3 z S' hz ⟨f, l, hp, hl, rfl⟩
      refine ⟨(dg_nm 11 nd (by walk_at "free1")), ?_⟩
      dsimp only [List.set]
      have hi3 : i3 < ks.length := (range_get hz).2
      have hll : ((l.map natD).length : Int) = (l.length : Nat) := by simp
      have hfl : f.length + l.length = ks.length := by simpa using hp.length_eq
      obtain ⟨m, em, hm⟩ := mod_nat ((drawnI here (200 + (z : Nat))).fdiv 16) (n := l.length) (by omega)
      obtain ⟨x, hx⟩ : ∃ x, l[m]? = some x := ⟨l[m], List.getElem?_eq_getElem hm⟩
      refine dss_then (ds_appendS (d := natD x) (ds := f.map natD) 10 (des_popA (n := m) 9 (de_to (de_bin (de_bin (de_call (ok__law_drawn G) (hr.mono (by decide)) G.g__law_drawn G.fn__law_drawn.kp (bi__law_drawn G) (da_cons (de_nm 4) (da_cons (de_bin de_int (de_nm 11) (by walk_at "ob.Add")) da_nil)) (by first | exact rel__law_drawn | exact rel__law_drawn (by assumption) | exact rel__law_drawn (by walk_at "rel") | assumption)) de_int (by walk_at "ob.FloorDiv")) (de_to (de_le (LeL.le (by walk_at "fr")) rfl (de_len (G.b_len) (de_nm 9) (by walk_at "len"))) (congrArg PyData.int hll)) (ob_mod (by omega))) (congrArg PyData.int em)) rfl (by rw [List.getElem?_map, hx]; rfl) (by simp; omega)) rfl rfl rfl (by rw [sizeLine_eq]; simp; omega)) ?_
      dsimp only [List.set]
      have hel : (l.eraseIdx m).length + 1 = l.length := by rw [List.length_eraseIdx, if_pos hm]; omega
      exact dss_le (S' := [scr K scrA ns, un, dat (.int more), un, dat (.int here), dat (webD v), dat (.tuple (ts.map natD)), un, dat (.list (ks.map natD)), own ((l.eraseIdx m).map natD), own ((f ++ [x]).map natD), un, un, un, un, un, un, un, un, un, un, un, un, un, un, un, un]) (LeL.le (.keep (.keep (.keep (.keep (.keep (.keep (.keep (.keep (.keep (.keepE (congrArg own (erase_map natD l m)) (.keepE (congrArg own (by simp)) (by walk_at "le"))))))))))))) (dss_nil ⟨f ++ [x], l.eraseIdx m, pop_permK hp hx, by omega, rfl⟩)
    · rintro S' ⟨f, l, hp, hl, rfl⟩
      rw [List.length_range] at hl
      have : l = [] := List.length_eq_zero_iff.mp (by omega)
      subst this
      exact ⟨f, by simpa using hp, rfl⟩
    rintro _ ⟨ms, hms, rfl⟩
    refine dss_le (le_fr 10 rfl) (dss_le (le_un 9) ?_)
    dsimp only [List.set]
    have hTk := hT ks (List.Perm.refl _)
    refine dss_then (ds_asg 12 (de_callX (ok_counted G) (hr.mono (by decide)) G.g_counted G.fn_counted.kp (bi_counted G) (da_cons (de_nm 5) (da_cons (de_nm 6) (da_cons (de_nm 8) da_nil))) hTk) (by rfl) nd) ?_
    dsimp only [List.set]
    obtain ⟨ls, hls, esrt⟩ := sort_perm ks
    refine dss_guard (k := false) (dt_to (dt_w (dw_or (k := false) (k' := false) (dt_cmp (de_callX (ok_counted G) (hr.mono (by decide)) G.g_counted G.fn_counted.kp (bi_counted G) (da_cons (de_nm 5) (da_cons (de_nm 6) (da_cons (de_nm 10) da_nil))) (hT ms hms)) (de_nm 12) (cb_neL (hu100 hr) rfl)) (fun _ => dw_or1 (dt_cmp (de_callX (ok_counted G) (hr.mono (by decide)) G.g_counted G.fn_counted.kp (bi_counted G) (da_cons (de_nm 5) (da_cons (de_nm 6) (da_cons (de_to (de_dn (dn_sortI G.b_sorted (de_to (de_nm 8) (congrArg PyData.list (map_natD ks))))) (congrArg PyData.list esrt)) da_nil))) (hT ls hls)) (de_nm 12) (cb_neL (hu100 hr) rfl))))) rfl) (fun hk => by cases hk) (fun _ => ?_)
    have hlt : ∀ o ∈ os, o < nOuts v := fun o ho => by
      have := (hled.outs_lt hv ht).2 o ho
      exact hvc.out_lt this rfl
    refine dss_guard (k := false) (dt_to (dt_cmp (de_to (de_sum G.b_sum rfl (de_to (de_ix (de_nm 12) de_int (ix_t rfl)) (congrArg PyData.list (map_natD _)))) (show _ = PyData.int ((ks.length : Nat) : Int) by rw [sum_castN, cnt_sum _ _ hlt, hled.len])) (de_to (de_len (G.b_len) (de_nm 8) (by walk_at "len")) (congrArg PyData.int hkl2)) (cb_neI (hu100 hr))) (by simp)) (fun hk => by cases hk) (fun _ => ?_)
    obtain ⟨hf, ehf⟩ : ∃ hf : Nat, ((ks.length : Nat) : Int).fdiv 2 = (hf : Nat) := ⟨ks.length / 2, by rw [Int.fdiv_eq_ediv_of_nonneg _ (by omega)]; omega⟩
    refine dss_then (ds_asg 13 (de_to (de_bin (de_len (G.b_len) (de_nm 8) (by walk_at "len")) de_int (by walk_at "ob.FloorDiv")) (show _ = PyData.int (hf : Nat) by rw [hkl2, ehf])) (by rfl) nd) ?_
    dsimp only [List.set]
    have hled0 := hled
    rw [← List.take_append_drop hf ks] at hled0
    obtain ⟨os1, os2, ts1, eos, hl1, hl2⟩ := Led.split _ _ hled0
    have ht1 := (hl1.outs_lt hv ht).1
    have hc1 := rel_counted (K := K) hv ht (by rw [List.length_take]; omega) (fun k hk => hks k (List.mem_of_mem_take hk)) hl1
    have hc2 := rel_counted (K := K) hv ht1 (by rw [List.length_drop]; omega) (fun k hk => hks k (List.mem_of_mem_drop hk)) hl2
    refine dss_then (ds_asg 14 (d := ledD (countsOf (nOuts v) os1) ts1) (de_callX (ok_counted G) (hr.mono (by decide)) G.g_counted G.fn_counted.kp (bi_counted G) (da_cons (de_nm 5) (da_cons (de_nm 6) (da_cons (de_to (de_dn (dn_slL (de_nm 8) do_none (do_some (de_nm 13)))) (congrArg PyData.list (cut_takeN ks hf))) da_nil))) hc1) (by rfl) nd) ?_
    dsimp only [List.set]
    refine dss_then (ds_asg 15 (d := ledD (countsOf (nOuts v) os2) ts') (de_callX (ok_counted G) (hr.mono (by decide)) G.g_counted G.fn_counted.kp (bi_counted G) (da_cons (de_nm 5) (da_cons (de_ix (de_nm 14) de_int (ix_t rfl)) (da_cons (de_to (de_dn (dn_slL (de_nm 8) (do_some (de_nm 13)) do_none)) (congrArg PyData.list (cut_dropN ks hf))) da_nil))) hc2) (by rfl) nd) ?_
    dsimp only [List.set]
    have hno8 : nOuts v ≤ 1000000 := by omega
    refine dss_then (ds_asgLc0 (xs := (List.range (nOuts v))) (emb := (fun n => .tuple [natD (os1.count n), natD (os2.count n)])) (g := (fun n => natD (os.count n))) (own' := [("_law_one", 17), ("_law_other", 18)]) 16 rfl nd ((dic_to (dic_of (di_zip (k := false) (k2 := false) (da_cons (de_to (de_ix (de_nm 14) de_int (ix_t rfl)) (congrArg PyData.list (counts_cntD _ _))) (da_cons (de_to (de_ix (de_nm 15) de_int (ix_t rfl)) (congrArg PyData.list (counts_cntD _ _))) da_nil)) G.b_zip)) (zip_range3 _ _ _))) (by walk_at "blk") (by walk_at "free") (by decide) (by walk_at "sz") (fun z hz _ _ _ _ _ => (dg_tup rfl (dgs_cons (dg_nm 17 nd (by walk_at "free1")) (dgs_cons (dg_nm 18 nd (by walk_at "free1")) dgs_nil)))) (fun z hz _ _ _ _ _ => ((de_to (de_bin (de_nm 17) (de_nm 18) ob_add) (show _ = natD (os.count z) by rw [eos, List.count_append]; simp [natD])))) (by rfl) (by walk_at "lt")) ?_
    dsimp only [List.set]
    refine dss_guard (k := false) (dt_cmp (de_to (de_tup (da_cons (de_nm 16) (da_cons (de_ix (de_nm 15) de_int (ix_t rfl)) da_nil))) (show _ = ledD (countsOf (nOuts v) os) ts' by unfold ledD; rw [counts_cntD])) (de_nm 12) (cb_neL (hu100 hr) rfl)) (fun hk => by cases hk) (fun _ => ?_)
    refine dss_then (ds_asg 19 (d := sharesD v) (de_callX (ok_shares G) (hr.mono (by decide)) G.g_shares G.fn_shares.kp (bi_shares G) (da_cons (de_nm 5) da_nil) (rel_shares hv)) (by rfl) nd) ?_
    dsimp only [List.set]
    refine dss_one (ds_forS (xs := List.range v.ins.length) (emb := natD) (fun _ => [scr K scrA ns, un, dat (.int more), un, un, dat (webD v), dat (.tuple (ts.map natD)), un, un, un, un, un, un, un, un, un, un, un, un, dat (sharesD v), un, un, un, un, un, un, un]) (fun _ => True) (di_to (di_range (da_cons (de_len (G.b_len) (de_ix (de_nm 5) de_int (by walk_at "ix")) (by walk_at "len")) da_nil) G.b_range (by walk_at "num")) (by rw [hil]; simp [DL.upTo, natD])) (LeL.le (by walk_at "le")) trivial (fun i3 z hz _ => ⟨(dg_nm 7 nd (by walk_at "free1")), ?_⟩) (fun _ => ⟨LeL.le (by walk_at "le"), trivial⟩) PassesOwn.never rfl)
    dsimp only [List.set]
    obtain ⟨rfl, hzi⟩ := range_get hz
    have hg : v.ins[z]? = some v.ins[z] := List.getElem?_eq_getElem hzi
    generalize v.ins[z] = g at hg
    have hgm := goal_mem_ins (List.mem_of_getElem? hg)
    obtain ⟨ro, M, hrun⟩ := runA hv ht hgm
    refine dss_then (ds_asg 20 (de_callX (ok_first_again G) (hr.mono (by decide)) G.g_first_again G.fn_first_again.kp (bi_first_again G) (da_cons (de_nm 5) (da_cons (de_nm 6) (da_cons (de_nm 7) da_nil))) (rel_first_again hv ht hg hrun)) (by rfl) nd) ?_
    dsimp only [List.set]
    refine dss_cons (fun S' => Le S' [scr K scrA ns, un, dat (.int more), un, un, dat (webD v), dat (.tuple (ts.map natD)), dat (natD z), un, un, un, un, un, un, un, un, un, un, un, dat (sharesD v), un, un, un, un, un, un, un]) ?_ ?_
    · cases ro with
      | none => exact ds_if (k := false) (dt_w (dw_and (k := false) (k' := false) (dt_to (dt_cmp (de_nm 20) de_none cb_isnot) rfl) (fun hk => by cases hk))) (fun hk => by cases hk) (fun _ => dss_nil (LeL.le (by walk_at "le")))
      | some m =>
        refine ds_if (k := decide (m < 200)) (dt_to (dt_w (dw_and (k := true) (k' := decide (m < 200)) (dt_to (dt_cmp (de_nm 20) de_none cb_isnot) rfl) (fun _ => dw_and1 (dt_to (dt_cmp (de_to (de_nm 20) (show _ = PyData.int (m : Nat) from rfl)) de_int cb_lt) (decide_eq_decide.mpr (by omega)))))) rfl) (fun hk => ?_) (fun _ => dss_nil (LeL.le (by walk_at "le")))
        have hm2 := of_decide_eq_true hk
        obtain ⟨_, hm1, hsq⟩ := hrun.fin
        obtain ⟨os3, hl3⟩ := sq_led hv hg m ht
        rw [hsq] at hl3
        obtain ⟨_, _, hsh⟩ := round_thr hv hzi (by omega) hl3 ht
        have hdp : ∀ o, 0 < (share v z o).den := fun o => (share v z o).den_pos
        have hden : ∀ o, (share v z o).den ≤ m := fun o => rat_den_le (z := ((os3.count o : Nat) : Int)) (by omega) (by rw [hsh o]; norm_cast)
        have hc3 := rel_counted (K := K) hv ht (by simp; omega) (fun k hk => by rw [List.eq_of_mem_replicate hk]; exact hzi) hl3
        refine dss_then (ds_asg 21 (d := ledD (countsOf (nOuts v) os3) ts) (de_callX (ok_counted G) (hr.mono (by decide)) G.g_counted G.fn_counted.kp (bi_counted G) (da_cons (de_nm 5) (da_cons (de_nm 6) (da_cons (de_to (de_bin (de_dn (dn_lst (da_cons (de_nm 7) da_nil))) (de_to (de_nm 20) (show _ = PyData.int (m : Nat) from rfl)) (ob_n (obn_rep (by omega) (by rw [sizeLine_eq]; simp; omega)))) (show _ = PyData.list ((List.replicate m z).map natD) by rw [replN, List.map_replicate])) da_nil))) hc3) (by rfl) nd) ?_
        dsimp only [List.set]
        refine dss_then (ds_asgLc0 (xs := (List.range (nOuts v))) (emb := (fun o => qD (share v z o))) (g := (fun o => .tuple [natD (os3.count o), .int 0])) (own' := [("_law_one", 17), ("_law_below", 23)]) 22 rfl nd ((dic_of (di_list (de_ix (de_nm 19) (de_nm 7) (ix_l (sharesD_at hzi)))))) (by walk_at "blk") (by walk_at "free") (by decide) (by walk_at "sz") (fun z hz _ _ _ _ _ => (dg_tup rfl (dgs_cons (dg_nm 17 nd (by walk_at "free1")) (dgs_cons (dg_nm 23 nd (by walk_at "free1")) dgs_nil)))) (fun z hz _ _ _ _ _ => ((de_tup (da_cons (de_to (de_bin (de_bin (de_nm 17) (de_to (de_nm 20) (show _ = PyData.int (m : Nat) from rfl)) (ob_mul (.inr ⟨by omega, by omega⟩))) (de_nm 23) (ob_div ⟨by have := hdp z; omega, by have := hden z; omega⟩)) (congrArg PyData.int (due_parts (hsh z)).1)) (da_cons (de_to (de_bin (de_bin (de_nm 17) (de_to (de_nm 20) (show _ = PyData.int (m : Nat) from rfl)) (ob_mul (.inr ⟨by omega, by omega⟩))) (de_nm 23) (ob_mod (by have := hdp z; omega))) (congrArg PyData.int (due_parts (hsh z)).2)) da_nil))))) (by rfl) (by walk_at "lt")) ?_
        dsimp only [List.set]
        refine dss_guard (k := false) (dt_cmp (de_nm 21) (de_to (de_tup (da_cons (de_dn (dn_lc0 (xs := (List.range (nOuts v))) (emb := (fun o => .tuple [natD (os3.count o), .int 0])) (g := (fun o => natD (os3.count o))) (own' := [("_law_own", 24), ("_law_rest", 25)]) rfl nd ((dic_of (di_list (de_nm 22)))) (by walk_at "blk") (by walk_at "free") (by decide) (by walk_at "sz") (fun z hz _ _ _ _ _ => (dg_tup rfl (dgs_cons (dg_nm 24 nd (by walk_at "free1")) (dgs_cons (dg_nm 25 nd (by walk_at "free1")) dgs_nil)))) (fun z hz _ _ _ _ _ => ((de_nm 24))))) (da_cons (de_nm 6) da_nil))) (show _ = ledD (countsOf (nOuts v) os3) ts by unfold ledD; rw [counts_cntD])) (cb_neL (hu100 hr) rfl)) (fun hk => by cases hk) (fun _ => ?_)
        refine dss_guard (k := false) (dt_to (dt_cmp (de_to (de_dn (dn_lc (xs := (List.range (nOuts v))) (emb := (fun o => .tuple [natD (os3.count o), .int 0])) (f := (fun _ => false)) (g := (fun o => .int 0)) (own' := [("_law_own", 24), ("_law_rest", 25)]) rfl nd ((dic_of (di_list (de_nm 22)))) (by walk_at "blk") (by walk_at "free") (by decide) (by walk_at "sz") (fun z hz _ _ _ _ _ => (dg_tup rfl (dgs_cons (dg_nm 24 nd (by walk_at "free1")) (dgs_cons (dg_nm 25 nd (by walk_at "free1")) dgs_nil)))) (fun z hz _ _ _ _ _ => dts_one ((dt_to (dt_cmp (de_nm 25) de_int (cb_neI (hu100 hr))) (by simp)))) (fun z hz hk _ _ _ _ _ => ((de_nm 25))))) (show _ = PyData.list [] by simp)) (de_dn (dn_lst da_nil)) (cb_ne (hu100 hr) (by decide))) (by decide)) (fun hk => by cases hk) (fun _ => dss_nil (LeL.le (by walk_at "le")))
    intro S' l
    refine dss_le l ?_
    obtain ⟨f, hway, hfl, _, _⟩ := nx_way hv ht hgm
    have hpos := hway.share hv ht hg
    have hon : nxO v g ts < nOuts v := hvc.out_lt (hway.inr hv ht hgm).2 rfl
    refine dss_guard (k := false) (dt_to (dt_cmp (de_ix (de_callX (ok_way G) (hr.mono (by decide)) G.g_way G.fn_way.kp (bi_way G) (da_cons (de_nm 5) (da_cons (de_nm 6) (da_cons (de_nm 7) da_nil))) (rel_way hv ht hg hway hfl)) de_int (ix_t rfl)) (de_dn (dn_lc (xs := (List.range (nOuts v))) (emb := (fun o => .tuple [natD o, qD (share v z o)])) (f := (fun o => decide (0 < share v z o))) (g := (natD)) (own' := [("_law_at", 26), ("_law_own", 24)]) rfl nd ((dic_to (dic_of (di_enum (k := false) (da_cons (de_ix (de_nm 19) (de_nm 7) (ix_l (sharesD_at hzi))) da_nil) G.b_enumerate)) (enum_range3 _ _))) (by walk_at "blk") (by walk_at "free") (by decide) (by walk_at "sz") (fun z hz _ _ _ _ _ => (dg_tup rfl (dgs_cons (dg_nm 26 nd (by walk_at "free1")) (dgs_cons (dg_nm 24 nd (by walk_at "free1")) dgs_nil)))) (fun z hz _ _ _ _ _ => dts_one ((dt_to (dt_cmp (de_ix (de_nm 24) de_int (ix_t rfl)) de_int cb_gt) (decide_eq_decide.mpr num_pos_iff)))) (fun z hz hk _ _ _ _ _ => ((de_nm 26))))) (cb_niL (hu100 hr) (Nat.le_trans (Nat.min_le_right _ _) (by simp [natD, PyData.depth])))) ?_) (fun hk => by cases hk) (fun _ => dss_nil ⟨LeL.le (by walk_at "le"), trivial⟩)
    rw [in_natL]
    simp [hon, hpos]
  · exact dss_one (ds_ret de_bool rfl)

set_option maxHeartbeats 0
/-! ### the top -/
/-- the law's end -/
theorem law_sp {K : Fr} {H : Hp} {a : Addr} {ns : List Int} {R : List Int → List PD → PD → Prop} {d : PD} (e : d = .bool true) (h : R ns [] d) (hS : SqL K H a (ns.map V.int)) : spSc [] K R [.ref a] H (fun v _ => v = .bl true) fun _ _ _ => False := by
  subst e
  have e0 : fz (fun _ => False) H = H := funext fun a => fz_out (fun (z : False) => z)
  refine ⟨fun _ => False, a, ns, [], [], .bool true, ⟨fun p hp => (by cases hp), fun _ (z : False) => z.elim⟩, rfl, by rw [e0]; exact hS, .nil, h, fun v H' _ hd => ?_⟩
  cases hd; rfl
def dd_is_count : He.DefD := ⟨("is_count", none), "is_count", "is_count", defArgs (topS 6), defBody (topS 6), defScope (topS 6), [], []⟩
def dd_divisor : He.DefD := ⟨("divisor", none), "divisor", "divisor", defArgs (topS 7), defBody (topS 7), defScope (topS 7), [], []⟩
def dd_fraction : He.DefD := ⟨("fraction", none), "fraction", "fraction", defArgs (topS 8), defBody (topS 8), defScope (topS 8), [], []⟩
def dd_plus : He.DefD := ⟨("plus", none), "plus", "plus", defArgs (topS 9), defBody (topS 9), defScope (topS 9), [], []⟩
def dd_less : He.DefD := ⟨("less", none), "less", "less", defArgs (topS 10), defBody (topS 10), defScope (topS 10), [], []⟩
def dd_times : He.DefD := ⟨("times", none), "times", "times", defArgs (topS 11), defBody (topS 11), defScope (topS 11), [], []⟩
def dd_parted : He.DefD := ⟨("parted", none), "parted", "parted", defArgs (topS 12), defBody (topS 12), defScope (topS 12), [], []⟩
def dd_solved : He.DefD := ⟨("solved", none), "solved", "solved", defArgs (topS 13), defBody (topS 13), defScope (topS 13), [], []⟩
def dd_is_goal : He.DefD := ⟨("is_goal", none), "is_goal", "is_goal", defArgs (topS 18), defBody (topS 18), defScope (topS 18), [], []⟩
def dd_goals_of : He.DefD := ⟨("goals_of", none), "goals_of", "goals_of", defArgs (topS 19), defBody (topS 19), defScope (topS 19), [], []⟩
def dd_are_parts : He.DefD := ⟨("are_parts", none), "are_parts", "are_parts", defArgs (topS 20), defBody (topS 20), defScope (topS 20), [], []⟩
def dd_outs_of : He.DefD := ⟨("outs_of", none), "outs_of", "outs_of", defArgs (topS 21), defBody (topS 21), defScope (topS 21), [], []⟩
def dd_leads_out : He.DefD := ⟨("leads_out", none), "leads_out", "leads_out", defArgs (topS 22), defBody (topS 22), defScope (topS 22), [], []⟩
def dd_is_web : He.DefD := ⟨("is_web", none), "is_web", "is_web", defArgs (topS 23), defBody (topS 23), defScope (topS 23), [], []⟩
def dd_need_web : He.DefD := ⟨("need_web", none), "need_web", "need_web", defArgs (topS 24), defBody (topS 24), defScope (topS 24), [], []⟩
def dd_need_turns : He.DefD := ⟨("need_turns", none), "need_turns", "need_turns", defArgs (topS 27), defBody (topS 27), defScope (topS 27), [], []⟩
def dd_need_input : He.DefD := ⟨("need_input", none), "need_input", "need_input", defArgs (topS 28), defBody (topS 28), defScope (topS 28), [], []⟩
def dd_way_of : He.DefD := ⟨("way_of", none), "way_of", "way_of", defArgs (topS 29), defBody (topS 29), defScope (topS 29), [], []⟩
def dd_way : He.DefD := ⟨("way", none), "way", "way", defArgs (topS 30), defBody (topS 30), defScope (topS 30), [], []⟩
def dd_led : He.DefD := ⟨("led", none), "led", "led", defArgs (topS 31), defBody (topS 31), defScope (topS 31), [], []⟩
def dd_counted : He.DefD := ⟨("counted", none), "counted", "counted", defArgs (topS 32), defBody (topS 32), defScope (topS 32), [], []⟩
def dd_first_again : He.DefD := ⟨("first_again", none), "first_again", "first_again", defArgs (topS 33), defBody (topS 33), defScope (topS 33), [], []⟩
def dd_parts_of : He.DefD := ⟨("parts_of", none), "parts_of", "parts_of", defArgs (topS 35), defBody (topS 35), defScope (topS 35), [], []⟩
def dd_through_of : He.DefD := ⟨("through_of", none), "through_of", "through_of", defArgs (topS 36), defBody (topS 36), defScope (topS 36), [], []⟩
def dd_belts_of : He.DefD := ⟨("belts_of", none), "belts_of", "belts_of", defArgs (topS 37), defBody (topS 37), defScope (topS 37), [], []⟩
def dd_outs_by : He.DefD := ⟨("outs_by", none), "outs_by", "outs_by", defArgs (topS 38), defBody (topS 38), defScope (topS 38), [], []⟩
def dd_shares_of : He.DefD := ⟨("shares_of", none), "shares_of", "shares_of", defArgs (topS 39), defBody (topS 39), defScope (topS 39), [], []⟩
def dd_shares : He.DefD := ⟨("shares", none), "shares", "shares", defArgs (topS 40), defBody (topS 40), defScope (topS 40), [], []⟩
def dd__law_cell : He.DefD := ⟨("_law_cell", none), "_law_cell", "_law_cell", defArgs (topS 42), defBody (topS 42), defScope (topS 42), [], []⟩
def dd__law_drawn : He.DefD := ⟨("_law_drawn", none), "_law_drawn", "_law_drawn", defArgs (topS 43), defBody (topS 43), defScope (topS 43), [], []⟩
def dd__law_web : He.DefD := ⟨("_law_web", none), "_law_web", "_law_web", defArgs (topS 44), defBody (topS 44), defScope (topS 44), [], []⟩
def dd__law_goals : He.DefD := ⟨("_law_goals", none), "_law_goals", "_law_goals", defArgs (topS 45), defBody (topS 45), defScope (topS 45), [], []⟩
def dd__law_is_web : He.DefD := ⟨("_law_is_web", none), "_law_is_web", "_law_is_web", defArgs (topS 46), defBody (topS 46), defScope (topS 46), [], []⟩
def dd__law_right_web : He.DefD := ⟨("_law_right_web", none), "_law_right_web", "_law_right_web", defArgs (topS 47), defBody (topS 47), defScope (topS 47), [], []⟩
def dd_law : He.DefD := ⟨("law", none), "law", "law", defArgs (topS 48), defBody (topS 48), defScope (topS 48), [], []⟩
def fnL : List He.DefD := [dd_is_count, dd_divisor, dd_fraction, dd_plus, dd_less, dd_times, dd_parted, dd_solved, dd_is_goal, dd_goals_of, dd_are_parts, dd_outs_of, dd_leads_out, dd_is_web, dd_need_web, dd_need_turns, dd_need_input, dd_way_of, dd_way, dd_led, dd_counted, dd_first_again, dd_parts_of, dd_through_of, dd_belts_of, dd_outs_by, dd_shares_of, dd_shares, dd__law_cell, dd__law_drawn, dd__law_web, dd__law_goals, dd__law_is_web, dd__law_right_web, dd_law]
def faL0 : List He.Fa := [.glo "is_count", .glo "divisor", .glo "fraction", .glo "plus", .glo "less", .glo "times", .glo "parted", .glo "solved", .glo "is_goal", .glo "goals_of", .glo "are_parts", .glo "outs_of", .glo "leads_out", .glo "is_web", .glo "need_web", .glo "need_turns", .glo "need_input", .glo "way_of", .glo "way", .glo "led", .glo "counted", .glo "first_again", .glo "parts_of", .glo "through_of", .glo "belts_of", .glo "outs_by", .glo "shares_of", .glo "shares", .glo "_law_cell", .glo "_law_drawn"]
def faL1 : List He.Fa := [.glo "_law_web", .glo "_law_goals", .glo "_law_is_web", .glo "_law_right_web", .glo "law", .glo "LaneError", .glo "BadWeb", .glo "BadNumber", .glo "BadTurns", .free "ValueError", .free "abs", .free "all", .free "bool", .free "dict", .free "enumerate", .free "int", .free "isinstance", .free "len", .free "list", .free "max", .free "min", .free "range", .free "sorted", .free "str", .free "sum", .free "tuple", .free "zip", .int "MOST_INPUTS" 4, .int "MOST_SPLITTERS" 12, .int "MOST_OUTS" 8]
def faL2 : List He.Fa := [.int "MOST_THINGS" 2000, .exc "BadWeb", .exc "BadNumber", .exc "BadTurns", .exm "BadWeb" "LaneError" true, .exm "BadNumber" "LaneError" true, .exm "BadTurns" "LaneError" true]
def faL : List He.Fa := faL0 ++ faL1 ++ faL2
def loose0 : List PySem.Str := ["is_count", "divisor", "fraction", "plus", "less", "times", "parted", "solved", "is_goal", "goals_of", "are_parts", "outs_of", "leads_out", "is_web", "need_web", "need_turns", "need_input", "way_of", "way", "led", "counted", "first_again", "parts_of", "through_of", "belts_of", "outs_by", "shares_of", "shares", "_law_cell", "_law_drawn"]
def loose1 : List PySem.Str := ["_law_web", "_law_goals", "_law_is_web", "_law_right_web", "LaneError", "BadWeb", "BadNumber", "BadTurns", "MOST_INPUTS", "MOST_SPLITTERS", "MOST_OUTS", "MOST_THINGS"]
def loose : List PySem.Str := loose0 ++ loose1
abbrev RR : PySem.W.OpenRow := PySem.W.OpenLaw.row PySem.Challenge.rw_evenlanes_k31_whole_in_any_order
abbrev hkL : PySem.W.Hook := He.hookD 5 faL fnL
def obL (s : PySem.W.SharedT) : He.AlD := He.obsDG 5 faL fnL (HandSHeadRun.getT s)
theorem obL_eq (s : PySem.W.SharedT) : obL s = hkL.obs s.abs := He.obsDG_eq (HandSHeadRun.getT_eq s)
theorem runL (w : World) : HandSHeadRun.RunEq RR (PySem.W.view RR.prog [48]) hkL obL 6000 loose w := by
  intro os
  kernel_rfl
theorem factsL {P : Program} {w : World} {K : PySem.W.Frag} {h : Heap} {mg : Str → Option Value} {f : Addr} (X : K.In h) (G : h.Ns mainGlobals mg) (hfa : mg ("law" : Str) = some (.ref f)) (c : He.SaysD faL fnL K) :
    ∃ fd : FuncData, (∀ (s : Shared) (v : Value), BindsTo s fd ⟨[v], []⟩ [("_law_script", v)]) ∧ ∀ base : Heap, K.In base → base.Ns mainGlobals mg → FnOk P w K mg base CX0 10 f fd ["_law_script"] (spSc [] K R_law) := by
  obtain ⟨fd_is_count, F_is_count⟩ := c.def_ 0 (d := dd_is_count) rfl
  obtain ⟨fd_divisor, F_divisor⟩ := c.def_ 1 (d := dd_divisor) rfl
  obtain ⟨fd_fraction, F_fraction⟩ := c.def_ 2 (d := dd_fraction) rfl
  obtain ⟨fd_plus, F_plus⟩ := c.def_ 3 (d := dd_plus) rfl
  obtain ⟨fd_less, F_less⟩ := c.def_ 4 (d := dd_less) rfl
  obtain ⟨fd_times, F_times⟩ := c.def_ 5 (d := dd_times) rfl
  obtain ⟨fd_parted, F_parted⟩ := c.def_ 6 (d := dd_parted) rfl
  obtain ⟨fd_solved, F_solved⟩ := c.def_ 7 (d := dd_solved) rfl
  obtain ⟨fd_is_goal, F_is_goal⟩ := c.def_ 8 (d := dd_is_goal) rfl
  obtain ⟨fd_goals_of, F_goals_of⟩ := c.def_ 9 (d := dd_goals_of) rfl
  obtain ⟨fd_are_parts, F_are_parts⟩ := c.def_ 10 (d := dd_are_parts) rfl
  obtain ⟨fd_outs_of, F_outs_of⟩ := c.def_ 11 (d := dd_outs_of) rfl
  obtain ⟨fd_leads_out, F_leads_out⟩ := c.def_ 12 (d := dd_leads_out) rfl
  obtain ⟨fd_is_web, F_is_web⟩ := c.def_ 13 (d := dd_is_web) rfl
  obtain ⟨fd_need_web, F_need_web⟩ := c.def_ 14 (d := dd_need_web) rfl
  obtain ⟨fd_need_turns, F_need_turns⟩ := c.def_ 15 (d := dd_need_turns) rfl
  obtain ⟨fd_need_input, F_need_input⟩ := c.def_ 16 (d := dd_need_input) rfl
  obtain ⟨fd_way_of, F_way_of⟩ := c.def_ 17 (d := dd_way_of) rfl
  obtain ⟨fd_way, F_way⟩ := c.def_ 18 (d := dd_way) rfl
  obtain ⟨fd_led, F_led⟩ := c.def_ 19 (d := dd_led) rfl
  obtain ⟨fd_counted, F_counted⟩ := c.def_ 20 (d := dd_counted) rfl
  obtain ⟨fd_first_again, F_first_again⟩ := c.def_ 21 (d := dd_first_again) rfl
  obtain ⟨fd_parts_of, F_parts_of⟩ := c.def_ 22 (d := dd_parts_of) rfl
  obtain ⟨fd_through_of, F_through_of⟩ := c.def_ 23 (d := dd_through_of) rfl
  obtain ⟨fd_belts_of, F_belts_of⟩ := c.def_ 24 (d := dd_belts_of) rfl
  obtain ⟨fd_outs_by, F_outs_by⟩ := c.def_ 25 (d := dd_outs_by) rfl
  obtain ⟨fd_shares_of, F_shares_of⟩ := c.def_ 26 (d := dd_shares_of) rfl
  obtain ⟨fd_shares, F_shares⟩ := c.def_ 27 (d := dd_shares) rfl
  obtain ⟨fd__law_cell, F__law_cell⟩ := c.def_ 28 (d := dd__law_cell) rfl
  obtain ⟨fd__law_drawn, F__law_drawn⟩ := c.def_ 29 (d := dd__law_drawn) rfl
  obtain ⟨fd__law_web, F__law_web⟩ := c.def_ 30 (d := dd__law_web) rfl
  obtain ⟨fd__law_goals, F__law_goals⟩ := c.def_ 31 (d := dd__law_goals) rfl
  obtain ⟨fd__law_is_web, F__law_is_web⟩ := c.def_ 32 (d := dd__law_is_web) rfl
  obtain ⟨fd__law_right_web, F__law_right_web⟩ := c.def_ 33 (d := dd__law_right_web) rfl
  obtain ⟨fd_law, F_law⟩ := c.def_ 34 (d := dd_law) rfl
  have e := hfa.symm.trans (He.glo_ok X G (c.fact 34 (f := .glo "law") rfl))
  cases e
  have q_BadWeb := He.exc_ok (c.fact 61 (f := .exc "BadWeb") rfl)
  have q_BadNumber := He.exc_ok (c.fact 62 (f := .exc "BadNumber") rfl)
  have q_BadTurns := He.exc_ok (c.fact 63 (f := .exc "BadTurns") rfl)
  let GG : Tx K mg := {
    b_ValueError := He.free_ok X G (c.fact 39 (f := .free "ValueError") rfl),
    b_abs := He.free_ok X G (c.fact 40 (f := .free "abs") rfl),
    b_all := He.free_ok X G (c.fact 41 (f := .free "all") rfl),
    b_bool := He.free_ok X G (c.fact 42 (f := .free "bool") rfl),
    b_dict := He.free_ok X G (c.fact 43 (f := .free "dict") rfl),
    b_enumerate := He.free_ok X G (c.fact 44 (f := .free "enumerate") rfl),
    b_int := He.free_ok X G (c.fact 45 (f := .free "int") rfl),
    b_isinstance := He.free_ok X G (c.fact 46 (f := .free "isinstance") rfl),
    b_len := He.free_ok X G (c.fact 47 (f := .free "len") rfl),
    b_list := He.free_ok X G (c.fact 48 (f := .free "list") rfl),
    b_max := He.free_ok X G (c.fact 49 (f := .free "max") rfl),
    b_min := He.free_ok X G (c.fact 50 (f := .free "min") rfl),
    b_range := He.free_ok X G (c.fact 51 (f := .free "range") rfl),
    b_sorted := He.free_ok X G (c.fact 52 (f := .free "sorted") rfl),
    b_str := He.free_ok X G (c.fact 53 (f := .free "str") rfl),
    b_sum := He.free_ok X G (c.fact 54 (f := .free "sum") rfl),
    b_tuple := He.free_ok X G (c.fact 55 (f := .free "tuple") rfl),
    b_zip := He.free_ok X G (c.fact 56 (f := .free "zip") rfl),
    c_MOST_INPUTS := He.int_ok X G (c.fact 57 (f := .int "MOST_INPUTS" 4) rfl),
    c_MOST_SPLITTERS := He.int_ok X G (c.fact 58 (f := .int "MOST_SPLITTERS" 12) rfl),
    c_MOST_OUTS := He.int_ok X G (c.fact 59 (f := .int "MOST_OUTS" 8) rfl),
    c_MOST_THINGS := He.int_ok X G (c.fact 60 (f := .int "MOST_THINGS" 2000) rfl),
    fd_is_count := fd_is_count,
    fn_is_count := F_is_count,
    g_is_count := He.glo_ok X G (c.fact 0 (f := .glo "is_count") rfl),
    fd_divisor := fd_divisor,
    fn_divisor := F_divisor,
    g_divisor := He.glo_ok X G (c.fact 1 (f := .glo "divisor") rfl),
    fd_fraction := fd_fraction,
    fn_fraction := F_fraction,
    g_fraction := He.glo_ok X G (c.fact 2 (f := .glo "fraction") rfl),
    fd_plus := fd_plus,
    fn_plus := F_plus,
    g_plus := He.glo_ok X G (c.fact 3 (f := .glo "plus") rfl),
    fd_less := fd_less,
    fn_less := F_less,
    g_less := He.glo_ok X G (c.fact 4 (f := .glo "less") rfl),
    fd_times := fd_times,
    fn_times := F_times,
    g_times := He.glo_ok X G (c.fact 5 (f := .glo "times") rfl),
    fd_parted := fd_parted,
    fn_parted := F_parted,
    g_parted := He.glo_ok X G (c.fact 6 (f := .glo "parted") rfl),
    fd_solved := fd_solved,
    fn_solved := F_solved,
    g_solved := He.glo_ok X G (c.fact 7 (f := .glo "solved") rfl),
    fd_is_goal := fd_is_goal,
    fn_is_goal := F_is_goal,
    g_is_goal := He.glo_ok X G (c.fact 8 (f := .glo "is_goal") rfl),
    fd_goals_of := fd_goals_of,
    fn_goals_of := F_goals_of,
    g_goals_of := He.glo_ok X G (c.fact 9 (f := .glo "goals_of") rfl),
    fd_are_parts := fd_are_parts,
    fn_are_parts := F_are_parts,
    g_are_parts := He.glo_ok X G (c.fact 10 (f := .glo "are_parts") rfl),
    fd_outs_of := fd_outs_of,
    fn_outs_of := F_outs_of,
    g_outs_of := He.glo_ok X G (c.fact 11 (f := .glo "outs_of") rfl),
    fd_leads_out := fd_leads_out,
    fn_leads_out := F_leads_out,
    g_leads_out := He.glo_ok X G (c.fact 12 (f := .glo "leads_out") rfl),
    fd_is_web := fd_is_web,
    fn_is_web := F_is_web,
    g_is_web := He.glo_ok X G (c.fact 13 (f := .glo "is_web") rfl),
    fd_need_web := fd_need_web,
    fn_need_web := F_need_web,
    g_need_web := He.glo_ok X G (c.fact 14 (f := .glo "need_web") rfl),
    fd_need_turns := fd_need_turns,
    fn_need_turns := F_need_turns,
    g_need_turns := He.glo_ok X G (c.fact 15 (f := .glo "need_turns") rfl),
    fd_need_input := fd_need_input,
    fn_need_input := F_need_input,
    g_need_input := He.glo_ok X G (c.fact 16 (f := .glo "need_input") rfl),
    fd_way_of := fd_way_of,
    fn_way_of := F_way_of,
    g_way_of := He.glo_ok X G (c.fact 17 (f := .glo "way_of") rfl),
    fd_way := fd_way,
    fn_way := F_way,
    g_way := He.glo_ok X G (c.fact 18 (f := .glo "way") rfl),
    fd_led := fd_led,
    fn_led := F_led,
    g_led := He.glo_ok X G (c.fact 19 (f := .glo "led") rfl),
    fd_counted := fd_counted,
    fn_counted := F_counted,
    g_counted := He.glo_ok X G (c.fact 20 (f := .glo "counted") rfl),
    fd_first_again := fd_first_again,
    fn_first_again := F_first_again,
    g_first_again := He.glo_ok X G (c.fact 21 (f := .glo "first_again") rfl),
    fd_parts_of := fd_parts_of,
    fn_parts_of := F_parts_of,
    g_parts_of := He.glo_ok X G (c.fact 22 (f := .glo "parts_of") rfl),
    fd_through_of := fd_through_of,
    fn_through_of := F_through_of,
    g_through_of := He.glo_ok X G (c.fact 23 (f := .glo "through_of") rfl),
    fd_belts_of := fd_belts_of,
    fn_belts_of := F_belts_of,
    g_belts_of := He.glo_ok X G (c.fact 24 (f := .glo "belts_of") rfl),
    fd_outs_by := fd_outs_by,
    fn_outs_by := F_outs_by,
    g_outs_by := He.glo_ok X G (c.fact 25 (f := .glo "outs_by") rfl),
    fd_shares_of := fd_shares_of,
    fn_shares_of := F_shares_of,
    g_shares_of := He.glo_ok X G (c.fact 26 (f := .glo "shares_of") rfl),
    fd_shares := fd_shares,
    fn_shares := F_shares,
    g_shares := He.glo_ok X G (c.fact 27 (f := .glo "shares") rfl),
    fd__law_cell := fd__law_cell,
    fn__law_cell := F__law_cell,
    g__law_cell := He.glo_ok X G (c.fact 28 (f := .glo "_law_cell") rfl),
    fd__law_drawn := fd__law_drawn,
    fn__law_drawn := F__law_drawn,
    g__law_drawn := He.glo_ok X G (c.fact 29 (f := .glo "_law_drawn") rfl),
    fd__law_web := fd__law_web,
    fn__law_web := F__law_web,
    g__law_web := He.glo_ok X G (c.fact 30 (f := .glo "_law_web") rfl),
    fd__law_goals := fd__law_goals,
    fn__law_goals := F__law_goals,
    g__law_goals := He.glo_ok X G (c.fact 31 (f := .glo "_law_goals") rfl),
    fd__law_is_web := fd__law_is_web,
    fn__law_is_web := F__law_is_web,
    g__law_is_web := He.glo_ok X G (c.fact 32 (f := .glo "_law_is_web") rfl),
    fd__law_right_web := fd__law_right_web,
    fn__law_right_web := F__law_right_web,
    g__law_right_web := He.glo_ok X G (c.fact 33 (f := .glo "_law_right_web") rfl),
    fd_law := fd_law,
    fn_law := F_law,
    g_law := He.glo_ok X G (c.fact 34 (f := .glo "law") rfl),
    x_BadWeb := ⟨He.glo_ok X G (c.fact 36 (f := .glo "BadWeb") rfl), q_BadWeb.1, q_BadWeb.2.1, q_BadWeb.2.2.1, q_BadWeb.2.2.2⟩,
    m_BadWeb := He.exm_ok (c.fact 64 (f := .exm "BadWeb" "LaneError" true) rfl),
    x_BadNumber := ⟨He.glo_ok X G (c.fact 37 (f := .glo "BadNumber") rfl), q_BadNumber.1, q_BadNumber.2.1, q_BadNumber.2.2.1, q_BadNumber.2.2.2⟩,
    m_BadNumber := He.exm_ok (c.fact 65 (f := .exm "BadNumber" "LaneError" true) rfl),
    x_BadTurns := ⟨He.glo_ok X G (c.fact 38 (f := .glo "BadTurns") rfl), q_BadTurns.1, q_BadTurns.2.1, q_BadTurns.2.2.1, q_BadTurns.2.2.2⟩,
    m_BadTurns := He.exm_ok (c.fact 66 (f := .exm "BadTurns" "LaneError" true) rfl),
    g_LaneError := He.glo_ok X G (c.fact 35 (f := .glo "LaneError") rfl) }
  have b := FunD.bindsA (ps := ["_law_script"]) F_law fun _ _ _ _ _ _ us hl => match us, hl with | [_], _ => rfl
  exact ⟨fd_law, fun s v => b s [v] rfl, fun base _ _ => ok_law GG⟩
end EV
open PySem PySem.W PySem.Calls PyProof.Rows
theorem PySem.Challenge.cw_evenlanes_k31_whole_in_any_order_holds : PySem.Challenge.rw_evenlanes_k31_whole_in_any_order.Holds := by
  w_on; o_law
  refine HandSHeadRun.head_any (r := OpenLaw.row PySem.Challenge.rw_evenlanes_k31_whole_in_any_order) (q := view (OpenLaw.row PySem.Challenge.rw_evenlanes_k31_whole_in_any_order).prog [48]) (H := EV.hkL) (ob := EV.obL) (M := 6000) (loose := EV.loose) (d := HandSHeadRun.topDef (OpenLaw.row PySem.Challenge.rw_evenlanes_k31_whole_in_any_order).prog 48) (kwd := []) EV.obL_eq
    (by kernel_rfl) (fun s => by kernel_rfl) EV.runL (by kernel_rfl) (by kernel_rfl) (by kernel_rfl) (by rfl) (by first | assumption | decide +kernel) (by decide +kernel) ⟨rfl, rfl, rfl, rfl, rfl, by decide +kernel⟩ ?hw ?hc
  case hw => w_witness2
  case hc =>
    refine L2.walk_ofE (l := PySem.Challenge.rw_evenlanes_k31_whole_in_any_order) (n := 63) (k := 10) (x := "_law_script") (CX := L2.CX0) rfl (by decide) (by kernel_rfl) ⟨rfl, by decide, by decide⟩ ?F (fun _ _ _ _ z => z)
    intro w mg fa h Y G hmg0
    obtain ⟨K, KX, c⟩ := Y
    have hmg : mg ("law" : PySem.Str) = some (.ref fa) := by
      have e : (HandSHeadRun.topDef (OpenLaw.row PySem.Challenge.rw_evenlanes_k31_whole_in_any_order).prog 48).name = ("law" : PySem.Str) := by kernel_rfl
      rw [← e]
      exact hmg0
    obtain ⟨fd, hb, hF⟩ := EV.factsL (P := (PySem.Challenge.rw_evenlanes_k31_whole_in_any_order).prog) (w := w) KX G hmg c
    exact ⟨K, fd, DL.spSc [] K EV.R_law, KX, hb, fun H a ns hl _ hS => EV.law_sp rfl ⟨hl, rfl, rfl⟩ hS, hF⟩

