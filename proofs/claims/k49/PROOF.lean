import PyProof.Rows.All
import Wide.All
import OpenK.AllK
import Wide.FinOn
import HandS.Dict
import HandS.Evl
import HandS.ExcIs
import HandS.ForExc
import HandS.ForMost
import HandS.Head0
import HandS.Head1
import HandS.Head2
import HandS.HeadEnd
import HandS.HeadHook2
import HandS.HeadHook3
import HandS.HeadHook4
import HandS.IsInst
import HandS.Iter
import HandS.SortInts
import HandS.Style
import HandS.Text
import PySem.Challenge.RW_pageseen_k49_whole_floats_in_a_room
set_option Elab.async false
set_option linter.all false
set_option autoImplicit false
set_option maxRecDepth 100000
set_option maxHeartbeats 2000000
/-! A layer of plain data over the hand layer: a value is told as a datum D, the heap is out of sight. -/
namespace PL
open PySem PySem.Spec PyProof.Rows L2
open Evl (Ex)
abbrev St := L2.St

/-- a datum: what a value is, all the way down. frl: a list that is only read -/
inductive D where
  | non | bl (b : Bool) | int (i : Int) | str (x : Str)
  | lst (xs : List D) | tup (xs : List D)
  | dic (kvs : List (Key × D))
  | frl (xs : List D)
  | vl (v : V)
  | pool
/-- a datum, or the list (the dict) that the name in slot i owns -/
inductive T where
  | d (d : D)
  | l (i : Nat)

/-- the stream of numbers: a list of ints whose first one is a place in it -/
def PoolOk (ns : List Int) : Prop := 2 ≤ ns.length ∧ ns.length ≤ 1000000 ∧ ∃ c, ns[0]? = some c ∧ 1 ≤ c ∧ c < (ns.length : Int)
def PoolAt (a : Addr) : Heap → Prop := fun h => ∃ (its : List Value) (n : Nat) (ns : List Int), h.get? a = some { cls := .type "list", data := .seq its.toArray n } ∧ Vals (ns.map V.int) its ∧ PoolOk ns

/-- a list that is only read: locked, or of the written part -/
def FrL (K : PySem.W.Frag) (H : Hp) (a : Addr) (xs : List V) : Prop := (∃ o, H a = some (.frz o (.lst xs))) ∨
  ∃ (o : Obj) (its : Array Value) (n : Nat), K.lookup a = some o ∧ o.cls = .type "list" ∧ o.dict = none ∧ o.data = .seq its n ∧ its.size ≤ sizeLine ∧ Vals xs its.toList
theorem FrL.sq {K : PySem.W.Frag} {H : Hp} {a : Addr} {xs : List V} (h : FrL K H a xs) : SqL K H a xs := by
  rcases h with ⟨o, h⟩ | h
  · exact .inl (.inr ⟨o, h⟩)
  · exact .inr h
theorem FrL.mono {K : PySem.W.Frag} {H H' : Hp} {a : Addr} {xs : List V} (e : Ex H H') (h : FrL K H a xs) : FrL K H' a xs := by
  rcases h with ⟨o, h⟩ | h
  · exact .inl ⟨o, e _ _ h⟩
  · exact .inr h
mutual
inductive Rep (K : PySem.W.Frag) (H : Hp) : V → D → Prop
  | non : Rep K H .non .non
  | bl (b : Bool) : Rep K H (.bl b) (.bl b)
  | int (i : Int) : Rep K H (.int i) (.int i)
  | str (x : Str) : Rep K H (.str x) (.str x)
  | lst {a : Addr} {xs : List V} {ds : List D} : H a = some (.lst xs) → Reps K H xs ds → Rep K H (.ref a) (.lst ds)
  | frl {a : Addr} {xs : List V} {ds : List D} : FrL K H a xs → Reps K H xs ds → Rep K H (.ref a) (.frl ds)
  | tup {a : Addr} {xs : List V} {ds : List D} : SqT K H a xs → Reps K H xs ds → Rep K H (.ref a) (.tup ds)
  | dic {a : Addr} {kvs : List (Key × V)} {ds : List (Key × D)} : H a = some (.dK kvs) → kvs.map (·.1) = ds.map (·.1) → Reps K H (kvs.map (·.2)) (ds.map (·.2)) → Rep K H (.ref a) (.dic ds)
  | vl (v : V) : Rep K H v (.vl v)
  | pool {a : Addr} : H a = some (.ext (PoolAt a)) → Rep K H (.ref a) .pool
inductive Reps (K : PySem.W.Frag) (H : Hp) : List V → List D → Prop
  | nil : Reps K H [] []
  | cons {v : V} {vs : List V} {d : D} {ds : List D} : Rep K H v d → Reps K H vs ds → Reps K H (v :: vs) (d :: ds)
end

section
variable {K : PySem.W.Frag} {H H' : Hp}
mutual
theorem Rep.mono (e : Ex H H') : ∀ {v : V} {d : D}, Rep K H v d → Rep K H' v d
  | _, _, .non => .non
  | _, _, .bl b => .bl b
  | _, _, .int i => .int i
  | _, _, .str x => .str x
  | _, _, .lst h r => .lst (e _ _ h) (Reps.mono e r)
  | _, _, .frl h r => .frl (h.mono e) (Reps.mono e r)
  | _, _, .tup h r => .tup (Evl.ex_t e h) (Reps.mono e r)
  | _, _, .dic h k r => .dic (e _ _ h) k (Reps.mono e r)
  | _, _, .vl v => .vl v
  | _, _, .pool h => .pool (e _ _ h)
theorem Reps.mono (e : Ex H H') : ∀ {vs : List V} {ds : List D}, Reps K H vs ds → Reps K H' vs ds
  | _, _, .nil => .nil
  | _, _, .cons r t => .cons (Rep.mono e r) (Reps.mono e t)
end
theorem Reps.len : ∀ {vs : List V} {ds : List D}, Reps K H vs ds → vs.length = ds.length
  | _, _, .nil => rfl
  | _, _, .cons _ t => by rw [List.length_cons, List.length_cons, Reps.len t]
theorem Reps.get : ∀ {vs : List V} {ds : List D} {i : Nat} {d : D}, Reps K H vs ds → ds[i]? = some d → ∃ v, vs[i]? = some v ∧ Rep K H v d
  | _, _, _, _, .nil, e => by simp at e
  | _, _, 0, _, .cons r _, e => by
    have e2 := Option.some.inj e
    subst e2
    exact ⟨_, rfl, r⟩
  | _, _, i + 1, d, .cons _ t, e => by
    obtain ⟨v, h1, h2⟩ := Reps.get (i := i) (d := d) t (by simpa using e)
    exact ⟨v, by simpa using h1, h2⟩
theorem Reps.getV : ∀ {vs : List V} {ds : List D} {i : Nat} {v : V}, Reps K H vs ds → vs[i]? = some v → ∃ d, ds[i]? = some d ∧ Rep K H v d
  | _, _, _, _, .nil, e => by simp at e
  | _, _, 0, _, .cons r _, e => by
    have e2 := Option.some.inj e
    subst e2
    exact ⟨_, rfl, r⟩
  | _, _, i + 1, d, .cons _ t, e => by
    obtain ⟨v, h1, h2⟩ := Reps.getV (i := i) (v := d) t (by simpa using e)
    exact ⟨v, by simpa using h1, h2⟩
theorem Reps.append : ∀ {vs ws : List V} {ds es : List D}, Reps K H vs ds → Reps K H ws es → Reps K H (vs ++ ws) (ds ++ es)
  | _, _, _, _, .nil, s => s
  | _, _, _, _, .cons r t, s => .cons r (Reps.append t s)
theorem Reps.take : ∀ {vs : List V} {ds : List D} (n : Nat), Reps K H vs ds → Reps K H (vs.take n) (ds.take n)
  | _, _, 0, _ => .nil
  | _, _, _ + 1, .nil => .nil
  | _, _, n + 1, .cons r t => .cons r (Reps.take n t)
theorem Reps.drop : ∀ {vs : List V} {ds : List D} (n : Nat), Reps K H vs ds → Reps K H (vs.drop n) (ds.drop n)
  | _, _, 0, r => r
  | _, _, _ + 1, .nil => .nil
  | _, _, n + 1, .cons _ t => Reps.drop n t
theorem Reps.set {v : V} {d : D} (r : Rep K H v d) : ∀ {vs : List V} {ds : List D} (i : Nat), Reps K H vs ds → Reps K H (vs.set i v) (ds.set i d)
  | _, _, _, .nil => .nil
  | _, _, 0, .cons _ t => .cons r t
  | _, _, i + 1, .cons q t => .cons q (Reps.set r i t)
theorem Reps.reverse : ∀ {vs : List V} {ds : List D}, Reps K H vs ds → Reps K H vs.reverse ds.reverse
  | _, _, .nil => .nil
  | _, _, .cons r t => by
    rw [List.reverse_cons, List.reverse_cons]
    exact Reps.append (Reps.reverse t) (.cons r .nil)
theorem Reps.ints : ∀ (ns : List Int), Reps K H (ns.map V.int) (ns.map D.int)
  | [] => .nil
  | n :: r => .cons (.int n) (Reps.ints r)
theorem Reps.bls : ∀ (ns : List Bool), Reps K H (ns.map V.bl) (ns.map D.bl)
  | [] => .nil
  | n :: r => .cons (.bl n) (Reps.bls r)
theorem Reps.strs : ∀ (ns : List Str), Reps K H (ns.map V.str) (ns.map D.str)
  | [] => .nil
  | n :: r => .cons (.str n) (Reps.strs r)
theorem Reps.inv_ints : ∀ {vs : List V} {ns : List Int}, Reps K H vs (ns.map D.int) → vs = ns.map V.int
  | _, [], .nil => rfl
  | _, n :: r, .cons h t => by
    cases h
    rw [Reps.inv_ints t] <;> rfl
theorem Reps.inv_bls : ∀ {vs : List V} {ns : List Bool}, Reps K H vs (ns.map D.bl) → vs = ns.map V.bl
  | _, [], .nil => rfl
  | _, n :: r, .cons h t => by
    cases h
    rw [Reps.inv_bls t] <;> rfl
theorem Reps.inv_strs : ∀ {vs : List V} {ns : List Str}, Reps K H vs (ns.map D.str) → vs = ns.map V.str
  | _, [], .nil => rfl
  | _, n :: r, .cons h t => by
    cases h
    rw [Reps.inv_strs t] <;> rfl
end

/-- what a name's slot holds: a datum, or a list (a dict) of its own -/
inductive S where
  | v (d : D)
  | o (xs : List D)
  | od (kvs : List (Key × D))
def S.own : S → Bool
  | .v _ => false
  | _ => true
abbrev PEnv := List (Option S)

def SlotOk (K : PySem.W.Frag) (F Hs : Hp) (σ : St) (H : Hp) (i : Nat) : S → Prop
  | .v d => ∃ v, σ[i]? = some (some v) ∧ Rep K Hs v d
  | .o ds => ∃ p vs, σ[i]? = some (some (.ref p)) ∧ Hs p = none ∧ F p = none ∧ H p = some (.lst vs) ∧ Reps K Hs vs ds
  | .od ds => ∃ p kvs, σ[i]? = some (some (.ref p)) ∧ Hs p = none ∧ F p = none ∧ H p = some (.dK kvs) ∧ kvs.map (·.1) = ds.map (·.1) ∧ Reps K Hs (kvs.map (·.2)) (ds.map (·.2))

/-- the state: F what others own, Hs what stands still, σ the slots, H the heap, ε what the slots hold -/
structure RelS (K : PySem.W.Frag) (F Hs : Hp) (σ : St) (H : Hp) (ε : PEnv) : Prop where
  ex : Ex Hs H
  fr : ∀ (p : Addr) (o : HO), F p = some o → H p = some o ∧ Hs p = none
  len : σ.length = ε.length
  sl : ∀ (i : Nat) (s : S), ε[i]? = some (some s) → SlotOk K F Hs σ H i s
  ds : ∀ (i j : Nat) (s t : S), i ≠ j → ε[i]? = some (some s) → ε[j]? = some (some t) → s.own = true → t.own = true → σ[i]? ≠ σ[j]?

/-- a value on the way: a datum, or a name's own -/
def RepT (K : PySem.W.Frag) (Hs : Hp) (σ : St) (v : V) : T → Prop
  | .d d => Rep K Hs v d
  | .l i => σ[i]? = some (some v)
theorem RepT.mono {K : PySem.W.Frag} {Hs Hs' : Hp} {σ : St} {v : V} : ∀ {t : T}, Ex Hs Hs' → RepT K Hs σ v t → RepT K Hs' σ v t
  | .d _, e, h => Rep.mono e h
  | .l _, _, h => h

/-- what is seen of a value: its own list, the items stand still -/
inductive RepV (K : PySem.W.Frag) (Hs H : Hp) : V → D → Prop
  | sc {v : V} {d : D} : Rep K Hs v d → RepV K Hs H v d
  | lst {a : Addr} {xs : List V} {ds : List D} : H a = some (.lst xs) → Reps K Hs xs ds → RepV K Hs H (.ref a) (.lst ds)
  | dic {a : Addr} {kvs : List (Key × V)} {ds : List (Key × D)} : H a = some (.dK kvs) → kvs.map (·.1) = ds.map (·.1) → Reps K Hs (kvs.map (·.2)) (ds.map (·.2)) → RepV K Hs H (.ref a) (.dic ds)

/-- what is there, for a look -/
def res (ε : PEnv) : T → (D → Prop) → Prop
  | .d d, Q => Q d
  | .l i, Q => match ε[i]? with
    | some (some (.v d)) => Q d
    | some (some (.o ds)) => Q (.lst ds)
    | some (some (.od ds)) => Q (.dic ds)
    | _ => False
/-- what is there, to be handed on: a name's own stands still from now on -/
def out (ε : PEnv) : T → (D → PEnv → Prop) → Prop
  | .d d, Q => Q d ε
  | .l i, Q => match ε[i]? with
    | some (some (.v d)) => Q d ε
    | some (some (.o ds)) => Q (.lst ds) (ε.set i (some (.v (.lst ds))))
    | some (some (.od ds)) => Q (.dic ds) (ε.set i (some (.v (.dic ds))))
    | _ => False

section
variable {K : PySem.W.Frag} {F Hs H : Hp} {σ : St} {ε : PEnv} {v : V} {d : D}
theorem RelS.res {t : T} {Q : D → Prop} (R : RelS K F Hs σ H ε) (h : RepT K Hs σ v t) (q : res ε t Q) : ∃ d, RepV K Hs H v d ∧ Q d := by
  cases t with
  | d d => exact ⟨d, .sc h, q⟩
  | l i =>
    have h : σ[i]? = some (some v) := h
    unfold PL.res at q
    dsimp only at q
    split at q
    · rename_i d e
      obtain ⟨w, h1, h2⟩ := R.sl i _ e
      rw [h] at h1
      cases h1
      exact ⟨_, .sc h2, q⟩
    · rename_i ds e
      obtain ⟨p, vs, h1, _, _, h2, h3⟩ := R.sl i _ e
      rw [h] at h1
      cases h1
      exact ⟨_, .lst h2 h3, q⟩
    · rename_i ds e
      obtain ⟨p, vs, h1, _, _, h2, h3, h4⟩ := R.sl i _ e
      rw [h] at h1
      cases h1
      exact ⟨_, .dic h2 h3 h4, q⟩
    · exact q.elim
theorem RepV.lst' {ds : List D} (h : RepV K Hs H v (.lst ds)) (ex : Ex Hs H) : ∃ a xs, v = .ref a ∧ H a = some (.lst xs) ∧ Reps K Hs xs ds := by
  cases h with
  | sc h =>
    cases h with
    | lst h r => exact ⟨_, _, rfl, ex _ _ h, r⟩
  | lst h r => exact ⟨_, _, rfl, h, r⟩
theorem RepV.frl' {ds : List D} (h : RepV K Hs H v (.frl ds)) (ex : Ex Hs H) : ∃ a xs, v = .ref a ∧ SqL K H a xs ∧ Reps K Hs xs ds := by
  cases h with
  | sc h =>
    cases h with
    | frl h r => exact ⟨_, _, rfl, Evl.ex_l ex h.sq, r⟩
theorem RepV.tup' {ds : List D} (h : RepV K Hs H v (.tup ds)) (ex : Ex Hs H) : ∃ a xs, v = .ref a ∧ SqT K H a xs ∧ Reps K Hs xs ds := by
  cases h with
  | sc h =>
    cases h with
    | tup h r => exact ⟨_, _, rfl, Evl.ex_t ex h, r⟩
theorem RepV.dic' {ds : List (Key × D)} (h : RepV K Hs H v (.dic ds)) (ex : Ex Hs H) : ∃ a kvs, v = .ref a ∧ H a = some (.dK kvs) ∧ kvs.map (·.1) = ds.map (·.1) ∧ Reps K Hs (kvs.map (·.2)) (ds.map (·.2)) := by
  cases h with
  | sc h =>
    cases h with
    | dic h k r => exact ⟨_, _, rfl, ex _ _ h, k, r⟩
  | dic h k r => exact ⟨_, _, rfl, h, k, r⟩
theorem RepV.int' {i : Int} (h : RepV K Hs H v (.int i)) : v = .int i := by
  cases h with
  | sc h => cases h; rfl
theorem RepV.str' {x : Str} (h : RepV K Hs H v (.str x)) : v = .str x := by
  cases h with
  | sc h => cases h; rfl
theorem RepV.bl' {b : Bool} (h : RepV K Hs H v (.bl b)) : v = .bl b := by
  cases h with
  | sc h => cases h; rfl
theorem RepV.non' (h : RepV K Hs H v .non) : v = .non := by
  cases h with
  | sc h => cases h; rfl
theorem RepV.vl' {u : V} (h : RepV K Hs H v (.vl u)) : v = u := by
  cases h with
  | sc h => cases h; rfl

theorem ex_upd {p : Addr} {o : HO} (h : Hs p = none) : Ex Hs (upd Hs p o) := Evl.Ex.new h

/-- a name's own list is handed on: from now on it stands still -/
theorem RelS.freeze (R : RelS K F Hs σ H ε) {i : Nat} {s : S} (e : ε[i]? = some (some s)) {o : HO} {d : D} {p : Addr} (hs : σ[i]? = some (some (.ref p))) (ho : s.own = true) (hp : Hs p = none) (hF : F p = none) (hH : H p = some o) (hr : Rep K (upd Hs p o) (.ref p) d) :
    RelS K F (upd Hs p o) σ H (ε.set i (some (.v d))) := by
  have ee : Ex Hs (upd Hs p o) := ex_upd hp
  have hi : i < ε.length := (List.getElem?_eq_some_iff.mp e).1
  refine ⟨fun a u q => ?_, fun a u q => ?_, by rw [List.length_set]; exact R.len, fun j t q => ?_, fun j k t u hn h1 h2 h3 h4 => ?_⟩
  · by_cases ha : a = p
    · subst ha
      rw [upd_same] at q
      cases q
      exact hH
    · rw [upd_ne ha] at q
      exact R.ex a u q
  · obtain ⟨h1, h2⟩ := R.fr a u q
    refine ⟨h1, ?_⟩
    rw [upd_ne]
    · exact h2
    · intro z
      subst z
      rw [q] at hF
      cases hF
  · by_cases hj : j = i
    · subst hj
      rw [List.getElem?_set_self hi] at q
      cases q
      exact ⟨_, hs, hr⟩
    · rw [List.getElem?_set_ne (Ne.symm hj)] at q
      have z := R.sl j t q
      cases t with
      | v d' =>
        obtain ⟨w, h1, h2⟩ := z
        exact ⟨w, h1, h2.mono ee⟩
      | o ds =>
        obtain ⟨b, vs, h1, h2, h3, h4, h5⟩ := z
        have nb : b ≠ p := by
          intro z
          subst z
          exact R.ds i j s (.o ds) (Ne.symm hj) e q ho rfl (hs.trans h1.symm)
        exact ⟨b, vs, h1, by rw [upd_ne nb]; exact h2, h3, h4, h5.mono ee⟩
      | od ds =>
        obtain ⟨b, vs, h1, h2, h3, h4, h5, h6⟩ := z
        have nb : b ≠ p := by
          intro z
          subst z
          exact R.ds i j s (.od ds) (Ne.symm hj) e q ho rfl (hs.trans h1.symm)
        exact ⟨b, vs, h1, by rw [upd_ne nb]; exact h2, h3, h4, h5, h6.mono ee⟩
  · have hj : j ≠ i := by
      rintro rfl
      rw [List.getElem?_set_self hi] at h1
      cases h1
      cases h3
    have hk : k ≠ i := by
      rintro rfl
      rw [List.getElem?_set_self hi] at h2
      cases h2
      cases h4
    rw [List.getElem?_set_ne (Ne.symm hj)] at h1
    rw [List.getElem?_set_ne (Ne.symm hk)] at h2
    exact R.ds j k t u hn h1 h2 h3 h4

theorem RelS.out {t : T} {Q : D → PEnv → Prop} (R : RelS K F Hs σ H ε) (h : RepT K Hs σ v t) (q : out ε t Q) : ∃ d ε' Hs', Ex Hs Hs' ∧ RelS K F Hs' σ H ε' ∧ Rep K Hs' v d ∧ Q d ε' := by
  cases t with
  | d d => exact ⟨d, ε, Hs, Evl.Ex.refl _, R, h, q⟩
  | l i =>
    have h : σ[i]? = some (some v) := h
    unfold PL.out at q
    dsimp only at q
    split at q
    · rename_i d e
      obtain ⟨w, h1, h2⟩ := R.sl i _ e
      rw [h] at h1
      cases h1
      exact ⟨_, ε, Hs, Evl.Ex.refl _, R, h2, q⟩
    · rename_i ds e
      obtain ⟨p, vs, h1, h2, h3, h4, h5⟩ := R.sl i _ e
      rw [h] at h1
      cases h1
      have rr : Rep K (upd Hs p (.lst vs)) (.ref p) (.lst ds) := .lst upd_same (h5.mono (ex_upd h2))
      exact ⟨_, _, _, ex_upd h2, R.freeze e h rfl h2 h3 h4 rr, rr, q⟩
    · rename_i ds e
      obtain ⟨p, vs, h1, h2, h3, h4, h5, h6⟩ := R.sl i _ e
      rw [h] at h1
      cases h1
      have rr : Rep K (upd Hs p (.dK vs)) (.ref p) (.dic ds) := .dic upd_same h5 (h6.mono (ex_upd h2))
      exact ⟨_, _, _, ex_upd h2, R.freeze e h rfl h2 h3 h4 rr, rr, q⟩
    · exact q.elim

/-- something new is laid and stands still -/
theorem RelS.new (R : RelS K F Hs σ H ε) {p : Addr} {o : HO} (hp : H p = none) : RelS K F (upd Hs p o) σ (upd H p o) ε ∧ Ex Hs (upd Hs p o) := by
  have hsp : Hs p = none := Evl.fresh_back R.ex hp
  have ee : Ex Hs (upd Hs p o) := ex_upd hsp
  have eh : Ex H (upd H p o) := Evl.Ex.new hp
  refine ⟨⟨fun a u q => ?_, fun a u q => ?_, R.len, fun j t q => ?_, R.ds⟩, ee⟩
  · by_cases ha : a = p
    · subst ha
      rw [upd_same] at q ⊢
      exact q
    · rw [upd_ne ha] at q
      exact eh a u (R.ex a u q)
  · obtain ⟨h1, h2⟩ := R.fr a u q
    refine ⟨eh a u h1, ?_⟩
    rw [upd_ne (ne_of_none h1 hp)]
    exact h2
  · have z := R.sl j t q
    cases t with
    | v d' =>
      obtain ⟨w, h1, h2⟩ := z
      exact ⟨w, h1, h2.mono ee⟩
    | o ds =>
      obtain ⟨b, vs, h1, h2, h3, h4, h5⟩ := z
      exact ⟨b, vs, h1, by rw [upd_ne (ne_of_none h4 hp)]; exact h2, h3, eh _ _ h4, h5.mono ee⟩
    | od ds =>
      obtain ⟨b, vs, h1, h2, h3, h4, h5, h6⟩ := z
      exact ⟨b, vs, h1, by rw [upd_ne (ne_of_none h4 hp)]; exact h2, h3, eh _ _ h4, h5, h6.mono ee⟩
/-- something new is laid that is not yet anybody's -/
theorem RelS.lay (R : RelS K F Hs σ H ε) {p : Addr} {o : HO} (hp : H p = none) : RelS K F Hs σ (upd H p o) ε := by
  have eh : Ex H (upd H p o) := Evl.Ex.new hp
  refine ⟨fun a u q => eh a u (R.ex a u q), fun a u q => ⟨eh a u (R.fr a u q).1, (R.fr a u q).2⟩, R.len, fun j t q => ?_, R.ds⟩
  have z := R.sl j t q
  cases t with
  | v d' => exact z
  | o ds =>
    obtain ⟨b, vs, h1, h2, h3, h4, h5⟩ := z
    exact ⟨b, vs, h1, h2, h3, eh _ _ h4, h5⟩
  | od ds =>
    obtain ⟨b, vs, h1, h2, h3, h4, h5, h6⟩ := z
    exact ⟨b, vs, h1, h2, h3, eh _ _ h4, h5, h6⟩
/-- what was laid and was nobody's stands still from now on -/
theorem RelS.adopt (R : RelS K F Hs σ H ε) {p : Addr} {o : HO} (hH : H p = some o) (hp : Hs p = none) (hF : F p = none) (hn : ∀ (i : Nat) (s : S), ε[i]? = some (some s) → s.own = true → σ[i]? ≠ some (some (.ref p))) : RelS K F (upd Hs p o) σ H ε := by
  have ee : Ex Hs (upd Hs p o) := ex_upd hp
  refine ⟨fun a u q => ?_, fun a u q => ?_, R.len, fun j t q => ?_, R.ds⟩
  · by_cases ha : a = p
    · subst ha
      rw [upd_same] at q
      cases q
      exact hH
    · rw [upd_ne ha] at q
      exact R.ex a u q
  · obtain ⟨h1, h2⟩ := R.fr a u q
    refine ⟨h1, ?_⟩
    rw [upd_ne]
    · exact h2
    · intro z
      subst z
      rw [q] at hF
      cases hF
  · have z := R.sl j t q
    cases t with
    | v d' =>
      obtain ⟨w, h1, h2⟩ := z
      exact ⟨w, h1, h2.mono ee⟩
    | o ds =>
      obtain ⟨b, vs, h1, h2, h3, h4, h5⟩ := z
      have nb : b ≠ p := by
        intro z
        subst z
        exact hn j _ q rfl h1
      exact ⟨b, vs, h1, by rw [upd_ne nb]; exact h2, h3, h4, h5.mono ee⟩
    | od ds =>
      obtain ⟨b, vs, h1, h2, h3, h4, h5, h6⟩ := z
      have nb : b ≠ p := by
        intro z
        subst z
        exact hn j _ q rfl h1
      exact ⟨b, vs, h1, by rw [upd_ne nb]; exact h2, h3, h4, h5, h6.mono ee⟩
/-- a name is stored -/
theorem RelS.store (R : RelS K F Hs σ H ε) (h : Rep K Hs v d) (i : Nat) : RelS K F Hs (σ.set i (some v)) H (ε.set i (some (.v d))) := by
  refine ⟨R.ex, R.fr, by rw [List.length_set, List.length_set]; exact R.len, fun j t q => ?_, fun j k t u hn h1 h2 h3 h4 => ?_⟩
  · by_cases hj : i = j
    · subst hj
      by_cases hi : i < ε.length
      · rw [List.getElem?_set_self hi] at q
        cases q
        exact ⟨v, by rw [List.getElem?_set_self (by rw [R.len]; exact hi)], h⟩
      · rw [List.getElem?_eq_none (by rw [List.length_set]; omega)] at q
        cases q
    · rw [List.getElem?_set_ne hj] at q
      have z := R.sl j t q
      cases t <;> (unfold SlotOk at z ⊢; dsimp only at z ⊢; rw [List.getElem?_set_ne hj]; exact z)
  · have hj : i ≠ j := by
      rintro rfl
      have hi : i < (ε.set i (some (S.v d))).length := (List.getElem?_eq_some_iff.mp h1).1
      rw [List.length_set] at hi
      rw [List.getElem?_set_self hi] at h1
      cases h1
      cases h3
    have hk : i ≠ k := by
      rintro rfl
      have hi : i < (ε.set i (some (S.v d))).length := (List.getElem?_eq_some_iff.mp h2).1
      rw [List.length_set] at hi
      rw [List.getElem?_set_self hi] at h2
      cases h2
      cases h4
    rw [List.getElem?_set_ne hj] at h1 ⊢
    rw [List.getElem?_set_ne hk] at h2 ⊢
    exact R.ds j k t u hn h1 h2 h3 h4
/-- a name takes a list (a dict) of its own -/
theorem RelS.storeO (R : RelS K F Hs σ H ε) {p : Addr} {s : S} (so : s.own = true) (i : Nat) (hn : ∀ (i : Nat) (s : S), ε[i]? = some (some s) → s.own = true → σ[i]? ≠ some (some (.ref p)))
    (h : i < ε.length → SlotOk K F Hs (σ.set i (some (.ref p))) H i s) : RelS K F Hs (σ.set i (some (.ref p))) H (ε.set i (some s)) := by
  refine ⟨R.ex, R.fr, by rw [List.length_set, List.length_set]; exact R.len, fun j t q => ?_, fun j k t u hjk h1 h2 h3 h4 => ?_⟩
  · by_cases hj : i = j
    · subst hj
      by_cases hi : i < ε.length
      · rw [List.getElem?_set_self hi] at q
        cases q
        exact h hi
      · rw [List.getElem?_eq_none (by rw [List.length_set]; omega)] at q
        cases q
    · rw [List.getElem?_set_ne hj] at q
      have z := R.sl j t q
      cases t <;> (unfold SlotOk at z ⊢; dsimp only at z ⊢; rw [List.getElem?_set_ne hj]; exact z)
  · by_cases hj : i = j
    · subst hj
      have hi : i < ε.length := by
        have := (List.getElem?_eq_some_iff.mp h1).1
        rw [List.length_set] at this
        exact this
      rw [List.getElem?_set_self (by rw [R.len]; exact hi)]
      rw [List.getElem?_set_ne hjk] at h2 ⊢
      exact fun e => hn k u h2 h4 e.symm
    · by_cases hk : i = k
      · subst hk
        have hi : i < ε.length := by
          have := (List.getElem?_eq_some_iff.mp h2).1
          rw [List.length_set] at this
          exact this
        rw [List.getElem?_set_self (by rw [R.len]; exact hi)]
        rw [List.getElem?_set_ne hj] at h1 ⊢
        exact hn j t h1 h3
      · rw [List.getElem?_set_ne hj] at h1 ⊢
        rw [List.getElem?_set_ne hk] at h2 ⊢
        exact R.ds j k t u hjk h1 h2 h3 h4
/-- a name's own list (dict) changes -/
theorem RelS.change (R : RelS K F Hs σ H ε) {p : Addr} {o' : HO} {i : Nat} {s s' : S} (e : ε[i]? = some (some s)) (so : s.own = true) (so' : s'.own = true) (hs : σ[i]? = some (some (.ref p))) (hp : Hs p = none) (hF : F p = none)
    (h : SlotOk K F Hs σ (upd H p o') i s') : RelS K F Hs σ (upd H p o') (ε.set i (some s')) := by
  have hi : i < ε.length := (List.getElem?_eq_some_iff.mp e).1
  refine ⟨fun a u q => ?_, fun a u q => ?_, by rw [List.length_set]; exact R.len, fun j t q => ?_, fun j k t u hjk h1 h2 h3 h4 => ?_⟩
  · rw [upd_ne (ne_of_none q hp)]
    exact R.ex a u q
  · rw [upd_ne]
    · exact R.fr a u q
    · intro z
      subst z
      rw [q] at hF
      cases hF
  · by_cases hj : i = j
    · subst hj
      rw [List.getElem?_set_self hi] at q
      cases q
      exact h
    · rw [List.getElem?_set_ne hj] at q
      have z := R.sl j t q
      cases t with
      | v d' => exact z
      | o ds =>
        obtain ⟨b, vs, h1, h2, h3, h4, h5⟩ := z
        have nb : b ≠ p := by
          intro z
          subst z
          exact R.ds i j s _ hj e q so rfl (hs.trans h1.symm)
        exact ⟨b, vs, h1, h2, h3, by rw [upd_ne nb]; exact h4, h5⟩
      | od ds =>
        obtain ⟨b, vs, h1, h2, h3, h4, h5, h6⟩ := z
        have nb : b ≠ p := by
          intro z
          subst z
          exact R.ds i j s _ hj e q so rfl (hs.trans h1.symm)
        exact ⟨b, vs, h1, h2, h3, by rw [upd_ne nb]; exact h4, h5, h6⟩
  · have own_of : ∀ (j : Nat) (t : S), (ε.set i (some s'))[j]? = some (some t) → t.own = true → ∃ t', ε[j]? = some (some t') ∧ t'.own = true := fun j t q ho => by
      by_cases hj : i = j
      · subst hj
        exact ⟨s, e, so⟩
      · rw [List.getElem?_set_ne hj] at q
        exact ⟨t, q, ho⟩
    obtain ⟨t', a1, a2⟩ := own_of j t h1 h3
    obtain ⟨u', b1, b2⟩ := own_of k u h2 h4
    exact R.ds j k t' u' hjk a1 b1 a2 b2
/-- a fresh address is nobody's -/
theorem RelS.nobody (R : RelS K F Hs σ H ε) {p : Addr} (hp : H p = none) : Hs p = none ∧ F p = none ∧ ∀ (i : Nat) (s : S), ε[i]? = some (some s) → s.own = true → σ[i]? ≠ some (some (.ref p)) := by
  refine ⟨Evl.fresh_back R.ex hp, ?_, fun i s e so q => ?_⟩
  · cases h : F p with
    | none => rfl
    | some o =>
      rw [(R.fr p o h).1] at hp
      cases hp
  · have z := R.sl i s e
    cases s with
    | v d => cases so
    | o ds =>
      obtain ⟨b, vs, h1, h2, h3, h4, h5⟩ := z
      rw [q] at h1
      cases h1
      rw [hp] at h4
      cases h4
    | od ds =>
      obtain ⟨b, vs, h1, h2, h3, h4, h5, h6⟩ := z
      rw [q] at h1
      cases h1
      rw [hp] at h4
      cases h4
end
end PL

set_option Elab.async false
set_option linter.all false
set_option autoImplicit false
set_option maxRecDepth 100000
set_option maxHeartbeats 2000000
/-! What an expression yields, over plain data. -/
namespace PL
open PySem PySem.Spec PyProof.Rows L2
open Evl (Ex)

/-- a guard: it goes by computation where it can -/
def gd (p : Prop) [Decidable p] (Q : Prop) : Prop := match decide p with
  | true => Q
  | false => False
theorem gd_elim {p Q : Prop} [Decidable p] (h : gd p Q) : p ∧ Q := by
  unfold gd at h
  split at h
  · rename_i e
    exact ⟨of_decide_eq_true e, h⟩
  · exact h.elim
theorem gd_of {p Q : Prop} [Decidable p] (h : p) (q : Q) : gd p Q := by
  unfold gd
  rw [decide_eq_true h]
  exact q
/-- an answer that is there -/
def opt {α : Type} (o : Option α) (Q : α → Prop) : Prop := match o with
  | some a => Q a
  | none => False
theorem opt_elim {α : Type} {o : Option α} {Q : α → Prop} (h : opt o Q) : ∃ a, o = some a ∧ Q a := by
  cases o with
  | some a => exact ⟨a, rfl, h⟩
  | none => exact h.elim
theorem opt_of {α : Type} {o : Option α} {a : α} {Q : α → Prop} (e : o = some a) (q : Q a) : opt o Q := by
  rw [e]
  exact q
abbrev PTE := PEnv → (T → PEnv → Prop) → Prop
abbrev PTN := PEnv → (List D → PEnv → Prop) → Prop
abbrev PTL := PEnv → (List T → PEnv → Prop) → Prop
abbrev PTT := PEnv → (Bool → PEnv → Prop) → Prop

/-- the program's classes of errors, by number -/
def exN : List Str := ["PageError", "BadText", "BadTree", "BadSplice", "BadDeed", "BadPlace", "BadSelector", "BadName", "BadValue", "BadPieces", "BadList", "BadMarks", "BadParts", "BadCell", "BadRow", "NoNode", "NoBox", "NoPage", "NotPlain", "TooLong", "TooManyNodes", "BadKey", "BadQuestion",
  "TooManyActions", "NothingToUndo", "NothingToRedo", "NothingBack", "NothingForward", "BadState"]
def exS (c : Nat) : Str := exN.getD c "PageError"
def exA (K : PySem.W.Frag) (c : Nat) : Addr := He.ga K (exS c)
abbrev Xi := Nat → PEnv → Prop
/-- what a raised class is to meet -/
def Lk (K : PySem.W.Frag) (F Hs : Hp) (W : WX) (Ξ : Xi) : Prop := ∀ c (σ' : St) (H' Hs' : Hp) (ε' : PEnv), Ξ c ε' → Ex Hs Hs' → RelS K F Hs' σ' H' ε' → W (.ref (exA K c)) none σ' H'
theorem Lk.mono {K : PySem.W.Frag} {F Hs Hs' : Hp} {W : WX} {Ξ : Xi} (e : Ex Hs Hs') (h : Lk K F Hs W Ξ) : Lk K F Hs' W Ξ := fun c σ' H' Hs2 ε' x e2 R => h c σ' H' Hs2 ε' x (e.trans e2) R
abbrev W0 : WX := fun _ _ _ _ => False
abbrev Ξ0 : Xi := fun _ _ => False
theorem Lk.none {K : PySem.W.Frag} {F Hs : Hp} {W : WX} : Lk K F Hs W Ξ0 := fun _ _ _ _ _ x => x.elim

def KE (K : PySem.W.Frag) (F Hs : Hp) (σ : St) (Q' : T → PEnv → Prop) (Q : VK) : Prop :=
  ∀ (v : V) (H' Hs' : Hp) (t : T) (ε' : PEnv), Ex Hs Hs' → RelS K F Hs' σ H' ε' → RepT K Hs' σ v t → Q' t ε' → Q v H'
structure YE (X : Cx) (W : WX) (Ξ : Xi) (e : Expr) (r : PTE) : Prop where
  ex : ∃ t, PE X e t ∧ ∀ (F Hs : Hp) (σ : St) (H : Hp) (ε : PEnv) (Q' : T → PEnv → Prop) (Q : VK), RelS X.K F Hs σ H ε → Lk X.K F Hs W Ξ → r ε Q' → KE X.K F Hs σ Q' Q → t σ H Q
/-- a new list, nobody's yet -/
def KN (K : PySem.W.Frag) (F Hs : Hp) (σ : St) (Q' : List D → PEnv → Prop) (Q : VK) : Prop :=
  ∀ (p : Addr) (H' Hs' : Hp) (vs : List V) (ds : List D) (ε' : PEnv), Ex Hs Hs' → RelS K F Hs' σ H' ε' → H' p = some (.lst vs) → Hs' p = none → F p = none →
    (∀ (i : Nat) (s : S), ε'[i]? = some (some s) → s.own = true → σ[i]? ≠ some (some (.ref p))) → Reps K Hs' vs ds → Q' ds ε' → Q (.ref p) H'
structure YN (X : Cx) (W : WX) (Ξ : Xi) (e : Expr) (r : PTN) : Prop where
  ex : ∃ t, PE X e t ∧ ∀ (F Hs : Hp) (σ : St) (H : Hp) (ε : PEnv) (Q' : List D → PEnv → Prop) (Q : VK), RelS X.K F Hs σ H ε → Lk X.K F Hs W Ξ → r ε Q' → KN X.K F Hs σ Q' Q → t σ H Q
inductive RepTs (K : PySem.W.Frag) (Hs : Hp) (σ : St) : List V → List T → Prop
  | nil : RepTs K Hs σ [] []
  | cons {v : V} {vs : List V} {t : T} {ts : List T} : RepT K Hs σ v t → RepTs K Hs σ vs ts → RepTs K Hs σ (v :: vs) (t :: ts)
theorem RepTs.mono {K : PySem.W.Frag} {Hs Hs' : Hp} {σ : St} (e : Ex Hs Hs') : ∀ {vs : List V} {ts : List T}, RepTs K Hs σ vs ts → RepTs K Hs' σ vs ts
  | _, _, .nil => .nil
  | _, _, .cons r t => .cons (r.mono e) (RepTs.mono e t)
def KL (K : PySem.W.Frag) (F Hs : Hp) (σ : St) (Q' : List T → PEnv → Prop) (Q : List V → Hp → Prop) : Prop :=
  ∀ (vs : List V) (H' Hs' : Hp) (ts : List T) (ε' : PEnv), Ex Hs Hs' → RelS K F Hs' σ H' ε' → RepTs K Hs' σ vs ts → Q' ts ε' → Q vs H'
structure YL (X : Cx) (W : WX) (Ξ : Xi) (es : List Expr) (r : PTL) : Prop where
  ex : ∃ t, PA X es t ∧ ∀ (F Hs : Hp) (σ : St) (H : Hp) (ε : PEnv) (Q' : List T → PEnv → Prop) (Q : List V → Hp → Prop), RelS X.K F Hs σ H ε → Lk X.K F Hs W Ξ → r ε Q' → KL X.K F Hs σ Q' Q → t σ H Q
def KT (K : PySem.W.Frag) (F Hs : Hp) (σ : St) (Q' : Bool → PEnv → Prop) (Q : Bool → Hp → Prop) : Prop :=
  ∀ (b : Bool) (H' Hs' : Hp) (ε' : PEnv), Ex Hs Hs' → RelS K F Hs' σ H' ε' → Q' b ε' → Q b H'
structure YT (X : Cx) (W : WX) (Ξ : Xi) (e : Expr) (r : PTT) : Prop where
  ex : ∃ t, PT X e t ∧ ∀ (F Hs : Hp) (σ : St) (H : Hp) (ε : PEnv) (Q' : Bool → PEnv → Prop) (Q : Bool → Hp → Prop), RelS X.K F Hs σ H ε → Lk X.K F Hs W Ξ → r ε Q' → KT X.K F Hs σ Q' Q → t σ H Q
/-- and, or: a test whatever its whole is -/
structure YW (X : Cx) (W : WX) (Ξ : Xi) (e : Expr) (r : PTT) : Prop where
  ex : ∃ t, PW X e t ∧ ∀ (F Hs : Hp) (σ : St) (H : Hp) (ε : PEnv) (Q' : Bool → PEnv → Prop) (Q : Bool → Hp → Prop), RelS X.K F Hs σ H ε → Lk X.K F Hs W Ξ → r ε Q' → KT X.K F Hs σ Q' Q → t σ H Q

def outs : PEnv → List T → (List D → PEnv → Prop) → Prop
  | ε, [], Q => Q [] ε
  | ε, t :: ts, Q => out ε t fun d ε' => outs ε' ts fun ds ε'' => Q (d :: ds) ε''
def ress (ε : PEnv) : List T → (List D → Prop) → Prop
  | [], Q => Q []
  | t :: ts, Q => res ε t fun d => ress ε ts fun ds => Q (d :: ds)
inductive RepVs (K : PySem.W.Frag) (Hs H : Hp) : List V → List D → Prop
  | nil : RepVs K Hs H [] []
  | cons {v : V} {vs : List V} {d : D} {ds : List D} : RepV K Hs H v d → RepVs K Hs H vs ds → RepVs K Hs H (v :: vs) (d :: ds)

section
variable {K : PySem.W.Frag} {F Hs H : Hp} {σ : St} {ε : PEnv} {v : V} {d : D}
theorem RelS.outs : ∀ {ts : List T} {vs : List V} {Hs : Hp} {ε : PEnv} {Q : List D → PEnv → Prop}, RelS K F Hs σ H ε → RepTs K Hs σ vs ts → outs ε ts Q → ∃ ds ε' Hs', Ex Hs Hs' ∧ RelS K F Hs' σ H ε' ∧ Reps K Hs' vs ds ∧ Q ds ε'
  | [], _, Hs, ε, Q, R, .nil, q => ⟨[], ε, Hs, Evl.Ex.refl _, R, .nil, q⟩
  | t :: ts, _, Hs, ε, Q, R, .cons r rs, q => by
    obtain ⟨d, ε1, Hs1, e1, R1, p1, q1⟩ := R.out r q
    obtain ⟨ds, ε2, Hs2, e2, R2, p2, q2⟩ := RelS.outs R1 (rs.mono e1) q1
    exact ⟨d :: ds, ε2, Hs2, e1.trans e2, R2, .cons (p1.mono e2) p2, q2⟩
theorem RelS.ress (R : RelS K F Hs σ H ε) : ∀ {ts : List T} {vs : List V} {Q : List D → Prop}, RepTs K Hs σ vs ts → ress ε ts Q → ∃ ds, RepVs K Hs H vs ds ∧ Q ds
  | [], _, Q, .nil, q => ⟨[], .nil, q⟩
  | t :: ts, _, Q, .cons r rs, q => by
    obtain ⟨d, p1, q1⟩ := R.res r q
    obtain ⟨ds, p2, q2⟩ := RelS.ress R rs q1
    exact ⟨d :: ds, .cons p1 p2, q2⟩
end

section
variable {X : Cx} {W : WX} {Ξ : Xi} {a b c : Expr} {es : List Expr} {pos : Pos}

/-! ### names, constants -/
def yVar (i : Nat) : PTE := fun ε Q => match ε[i]? with
  | some (some (.v d)) => Q (.d d) ε
  | some (some (.o _)) => Q (.l i) ε
  | some (some (.od _)) => Q (.l i) ε
  | _ => False
theorem ye_var (i : Nat) {x : Str} {pos : Pos} (hN : X.N[i]? = some x := by rfl) (hv : Vis X.env.scope x := by first | exact Or.inl rfl | exact Or.inr (Or.inl rfl) | exact Or.inr (Or.inr rfl)) (hd : (x == ("__debug__" : Str)) = false := by decide)
    (hcd : (x == ("__classdict__" : Str)) = false := by decide) : YE X W Ξ (.Name x pos) (yVar i) := by
  refine ⟨tVar i, pe_var hN hv hd hcd, fun F Hs σ H ε Q' Q R _ q k => ?_⟩
  unfold yVar at q
  split at q
  · rename_i d e
    obtain ⟨v, h1, h2⟩ := R.sl i _ e
    exact ⟨v, h1, k v H Hs (.d d) ε (Evl.Ex.refl _) R h2 q⟩
  · rename_i ds e
    obtain ⟨p, vs, h1, _⟩ := R.sl i _ e
    exact ⟨_, h1, k _ H Hs (.l i) ε (Evl.Ex.refl _) R h1 q⟩
  · rename_i ds e
    obtain ⟨p, vs, h1, _⟩ := R.sl i _ e
    exact ⟨_, h1, k _ H Hs (.l i) ε (Evl.Ex.refl _) R h1 q⟩
  · exact q.elim
def yC (d : D) : PTE := fun ε Q => Q (.d d) ε
theorem ye_c {v : V} {d : D} (h : PE X a (tC v)) (r : ∀ K H, Rep K H v d) : YE X W Ξ a (yC d) := ⟨_, h, fun F Hs σ H ε Q' Q R _ q k => k v H Hs (.d d) ε (Evl.Ex.refl _) R (r _ _) q⟩
theorem ye_int {i : Int} {j : Nat} : YE X W Ξ (.Constant (.int i) j pos) (yC (.int i)) := ye_c pe_int fun _ _ => .int i
theorem ye_bl {i : Bool} {j : Nat} : YE X W Ξ (.Constant (.bool i) j pos) (yC (.bl i)) := ye_c pe_bl fun _ _ => .bl i
theorem ye_non {j : Nat} : YE X W Ξ (.Constant .none j pos) (yC .non) := ye_c pe_non fun _ _ => .non
theorem ye_str {x : Str} {j : Nat} : YE X W Ξ (.Constant (.str x) j pos) (yC (.str x)) := ye_c pe_str fun _ _ => .str x
/-- a module's constant -/
theorem ye_glob {x : Str} {d : D} {v : V} {u : Value} (hg : Gl X x) (hm : X.mg x = some u) (r : RelV v u) (rd : ∀ K H, Rep K H v d) (hd : (x == ("__debug__" : Str)) = false := by decide) : YE X W Ξ (.Name x pos) (yC d) := ye_c (pe_glob hg hm r hd) rd

/-- a new list that is handed on -/
def yNew (r : PTN) : PTE := fun ε Q => r ε fun ds ε' => Q (.d (.lst ds)) ε'
theorem YN.ye {r : PTN} (h : YN X W Ξ a r) : YE X W Ξ a (yNew r) := by
  obtain ⟨t, h1, h2⟩ := h.ex
  refine ⟨t, h1, fun F Hs σ H ε Q' Q R L q k => h2 F Hs σ H ε _ Q R L q fun p H' Hs' vs ds ε' e R' g1 g2 g3 g4 rs q' => ?_⟩
  exact k (.ref p) H' _ _ ε' (e.trans (ex_upd g2)) (R'.adopt g1 g2 g3 g4) (show RepT X.K _ σ _ (.d (.lst ds)) from .lst upd_same (rs.mono (ex_upd g2))) q'

/-! ### operators -/
abbrev OP2 := D → D → (D → Prop) → Prop
def OpY (X : Cx) (f : Value → Value → Sem Value) (o : OP2) : Prop := ∃ r, OpR X f r ∧ ∀ (F Hs : Hp) (σ : St) (H : Hp) (ε : PEnv) (v w : V) (d1 d2 : D) (Q' : D → Prop) (Q : VK), RelS X.K F Hs σ H ε → RepV X.K Hs H v d1 → RepV X.K Hs H w d2 → o d1 d2 Q' →
  (∀ z H' Hs' d, Ex Hs Hs' → RelS X.K F Hs' σ H' ε → Rep X.K Hs' z d → Q' d → Q z H') → r v w H Q
def yBin (o : OP2) (ra rb : PTE) : PTE := fun ε Q => ra ε fun t1 ε1 => rb ε1 fun t2 ε2 => res ε2 t1 fun d1 => res ε2 t2 fun d2 => o d1 d2 fun d => Q (.d d) ε2
theorem bin_core {f : Value → Value → Sem Value} {o : OP2} {r : R2} {ra rb : PTE} {ta tb : TE} (h : ∀ (F Hs : Hp) (σ : St) (H : Hp) (ε : PEnv) (v w : V) (d1 d2 : D) (Q' : D → Prop) (Q : VK), RelS X.K F Hs σ H ε → RepV X.K Hs H v d1 → RepV X.K Hs H w d2 → o d1 d2 Q' →
  (∀ z H' Hs' d, Ex Hs Hs' → RelS X.K F Hs' σ H' ε → Rep X.K Hs' z d → Q' d → Q z H') → r v w H Q)
    (ka : ∀ (F Hs : Hp) (σ : St) (H : Hp) (ε : PEnv) (Q' : T → PEnv → Prop) (Q : VK), RelS X.K F Hs σ H ε → Lk X.K F Hs W Ξ → ra ε Q' → KE X.K F Hs σ Q' Q → ta σ H Q)
    (kb : ∀ (F Hs : Hp) (σ : St) (H : Hp) (ε : PEnv) (Q' : T → PEnv → Prop) (Q : VK), RelS X.K F Hs σ H ε → Lk X.K F Hs W Ξ → rb ε Q' → KE X.K F Hs σ Q' Q → tb σ H Q)
    (F Hs : Hp) (σ : St) (H : Hp) (ε : PEnv) (Q' : D → PEnv → Prop) (Q : VK) (R : RelS X.K F Hs σ H ε) (L : Lk X.K F Hs W Ξ)
    (q : ra ε fun t1 ε1 => rb ε1 fun t2 ε2 => res ε2 t1 fun d1 => res ε2 t2 fun d2 => o d1 d2 fun d => Q' d ε2)
    (k : ∀ z H' Hs' d ε', Ex Hs Hs' → RelS X.K F Hs' σ H' ε' → Rep X.K Hs' z d → Q' d ε' → Q z H') : tOp r ta tb σ H Q := by
  refine ka F Hs σ H ε _ _ R L q fun v H1 Hs1 t1 ε1 e1 R1 p1 q1 => ?_
  refine kb F Hs1 σ H1 ε1 _ _ R1 (L.mono e1) q1 fun w H2 Hs2 t2 ε2 e2 R2 p2 q2 => ?_
  obtain ⟨d1, v1, q3⟩ := R2.res (p1.mono e2) q2
  obtain ⟨d2, v2, q4⟩ := R2.res p2 q3
  exact h F Hs2 σ H2 ε2 v w d1 d2 _ Q R2 v1 v2 q4 fun z H' Hs' d e3 R3 p3 q5 => k z H' Hs' d ε2 ((e1.trans e2).trans e3) R3 p3 q5
theorem ye_bin {op : Operator} {o : OP2} {ra rb : PTE} (ho : OpY X (binaryOp op) o) (ha : YE X W Ξ a ra) (hb : YE X W Ξ b rb) : YE X W Ξ (.BinOp a op b pos) (yBin o ra rb) := by
  obtain ⟨r, hr, h⟩ := ho
  obtain ⟨ta, pa, ka⟩ := ha.ex
  obtain ⟨tb, pb, kb⟩ := hb.ex
  exact ⟨_, pe_op hr pa pb, fun F Hs σ H ε Q' Q R L q k => bin_core (f := binaryOp op) h ka kb F Hs σ H ε (fun d ε' => Q' (.d d) ε') Q R L q fun z H' Hs' d ε' e R' p q' => k z H' Hs' (.d d) ε' e R' p q'⟩
theorem ye_cmp {op : CmpOp} {o : OP2} {ra rb : PTE} (ho : OpY X (compareOp op) o) (ha : YE X W Ξ a ra) (hb : YE X W Ξ b rb) (hm : behindInMarks op b = false := by first | exact nomark _ | rfl) : YE X W Ξ (.Compare a [op] [b] pos) (yBin o ra rb) := by
  obtain ⟨r, hr, h⟩ := ho
  obtain ⟨ta, pa, ka⟩ := ha.ex
  obtain ⟨tb, pb, kb⟩ := hb.ex
  exact ⟨_, pe_cmpR hr pa pb hm, fun F Hs σ H ε Q' Q R L q k => bin_core (f := compareOp op) h ka kb F Hs σ H ε (fun d ε' => Q' (.d d) ε') Q R L q fun z H' Hs' d ε' e R' p q' => k z H' Hs' (.d d) ε' e R' p q'⟩
def asB (Q : Bool → Prop) : D → Prop
  | .bl b => Q b
  | _ => False
def yBinT (o : OP2) (ra rb : PTE) : PTT := fun ε Q => ra ε fun t1 ε1 => rb ε1 fun t2 ε2 => res ε2 t1 fun d1 => res ε2 t2 fun d2 => o d1 d2 (asB fun b => Q b ε2)
theorem asB_rep {K : PySem.W.Frag} {H : Hp} {z : V} {d : D} {Q : Bool → Prop} (p : Rep K H z d) (q : asB Q d) : ∃ b, z = .bl b ∧ Q b := by
  cases d with
  | bl b => cases p; exact ⟨b, rfl, q⟩
  | _ => exact False.elim q
theorem yt_cmp {op : CmpOp} {o : OP2} {ra rb : PTE} (ho : OpY X (compareOp op) o) (ha : YE X W Ξ a ra) (hb : YE X W Ξ b rb) (hm : behindInMarks op b = false := by first | exact nomark _ | rfl) : YT X W Ξ (.Compare a [op] [b] pos) (yBinT o ra rb) := by
  obtain ⟨r, hr, h⟩ := ho
  obtain ⟨ta, pa, ka⟩ := ha.ex
  obtain ⟨tb, pb, kb⟩ := hb.ex
  refine ⟨_, pt_cmpR hr pa pb hm, fun F Hs σ H ε Q' Q R L q k => ?_⟩
  refine bin_core (f := compareOp op) h ka kb F Hs σ H ε (fun d ε' => asB (fun b => Q' b ε') d) (fun x H' => ∃ k, x = .bl k ∧ Q k H') R L q fun z H' Hs' d ε' e R' p q' => ?_
  obtain ⟨b, e2, q2⟩ := asB_rep p q'
  exact ⟨b, e2, k b H' Hs' ε' e R' q2⟩
/-- a < b < c, b asked once -/
def yChain (o o' : OP2) (ra rb rc : PTE) : PTE := fun ε Q => ra ε fun t1 ε1 => rb ε1 fun t2 ε2 => res ε2 t1 fun d1 => res ε2 t2 fun d2 => o d1 d2 (asB fun k => match k with
  | true => rc ε2 fun t3 ε3 => res ε3 t2 fun d2 => res ε3 t3 fun d3 => o' d2 d3 fun d => Q (.d d) ε3
  | false => Q (.d (.bl false)) ε2)

/-! ### tests -/
def yB (r : PTE) : PTT := fun ε Q => r ε fun t ε' => res ε' t (asB fun b => Q b ε')
theorem yt_val {r : PTE} (h : YE X W Ξ a r) (he : ∀ whole, isTrue a X.env whole = (do let v ← whole; standAt a.pos; holding [v] (truthy v)) := by intro _; rfl) : YT X W Ξ a (yB r) := by
  obtain ⟨t, p, k⟩ := h.ex
  refine ⟨_, pt_val p he, fun F Hs σ H ε Q' Q R L q kk => k F Hs σ H ε _ _ R L q fun v H' Hs' t ε' e R' p' q' => ?_⟩
  obtain ⟨d, rv, q2⟩ := R'.res p' q'
  cases d with
  | bl b => exact ⟨b, rv.bl', kk b H' Hs' ε' e R' q2⟩
  | _ => exact False.elim q2
/-- a value's truth -/
def truD : D → (Bool → Prop) → Prop
  | .non, Q => Q false
  | .bl b, Q => Q b
  | .int i, Q => Q (i != 0)
  | .str x, Q => gd (x.length ≤ 16777216) (Q ((x.length : Int) != 0))
  | .lst xs, Q => Q (!xs.isEmpty)
  | .tup xs, Q => Q (!xs.isEmpty)
  | .dic xs, Q => Q (!xs.isEmpty)
  | _, _ => False
def yTru (r : PTE) : PTT := fun ε Q => r ε fun t ε' => res ε' t fun d => truD d fun b => Q b ε'
theorem Reps.isEmpty {K : PySem.W.Frag} {H : Hp} {vs : List V} {ds : List D} (r : Reps K H vs ds) : vs.isEmpty = ds.isEmpty := by
  cases r <;> rfl
theorem line_le {n : Nat} (h : n ≤ 16777216) : n ≤ sizeLine := by rw [sizeLine_eq]; exact h
theorem line_lt {n : Nat} (h : n < 16777216) : n < sizeLine := by rw [sizeLine_eq]; exact h
theorem truD_ok {K : PySem.W.Frag} {F Hs H : Hp} {σ : St} {ε : PEnv} {v : V} {d : D} {Q : Bool → Prop} (R : RelS K F Hs σ H ε) (h : RepV K Hs H v d) (q : truD d Q) : ∃ b, TruV K v H b ∧ Q b := by
  cases d with
  | non => rw [h.non']; exact ⟨false, rfl, q⟩
  | bl b => rw [h.bl']; exact ⟨b, rfl, q⟩
  | int i => rw [h.int']; exact ⟨_, rfl, q⟩
  | str x => rw [h.str']; exact ⟨_, ⟨line_le (gd_elim q).1, rfl⟩, (gd_elim q).2⟩
  | lst xs =>
    obtain ⟨p, vs, e, h1, h2⟩ := h.lst' R.ex
    rw [e]
    exact ⟨_, .inl ⟨vs, SqL.of h1, rfl⟩, by rw [h2.isEmpty]; exact q⟩
  | tup xs =>
    obtain ⟨p, vs, e, h1, h2⟩ := h.tup' R.ex
    rw [e]
    exact ⟨_, .inr (.inl ⟨vs, h1, rfl⟩), by rw [h2.isEmpty]; exact q⟩
  | dic xs =>
    obtain ⟨p, vs, e, h1, h2, h3⟩ := h.dic' R.ex
    rw [e]
    refine ⟨_, .inr (.inr ⟨vs, h1, rfl⟩), ?_⟩
    have : vs.isEmpty = xs.isEmpty := by
      have e2 := congrArg List.isEmpty h2
      rw [List.isEmpty_map, List.isEmpty_map] at e2
      exact e2
    rw [this]
    exact q
  | _ => exact False.elim q
theorem yt_tru {r : PTE} (h : YE X W Ξ a r) (he : ∀ whole, isTrue a X.env whole = (do let v ← whole; standAt a.pos; holding [v] (truthy v)) := by intro _; rfl) : YT X W Ξ a (yTru r) := by
  obtain ⟨t, p, k⟩ := h.ex
  refine ⟨_, pt_truth p he, fun F Hs σ H ε Q' Q R L q kk => k F Hs σ H ε _ _ R L q fun v H' Hs' t ε' e R' p' q' => ?_⟩
  obtain ⟨d, rv, q2⟩ := R'.res p' q'
  obtain ⟨b, h1, h2⟩ := truD_ok R' rv q2
  exact ⟨b, h1, kk b H' Hs' ε' e R' h2⟩
def yAnd (ra rb : PTT) : PTT := fun ε Q => ra ε fun k ε' => match k with
  | true => rb ε' Q
  | false => Q false ε'
def yOr (ra rb : PTT) : PTT := fun ε Q => ra ε fun k ε' => match k with
  | true => Q true ε'
  | false => rb ε' Q
def yNot (ra : PTT) : PTT := fun ε Q => ra ε fun k ε' => Q (!k) ε'
theorem YW.yt {r : PTT} (h : YW X W Ξ a r) : YT X W Ξ a r := by
  obtain ⟨t, p, k⟩ := h.ex
  exact ⟨t, p.pt, k⟩
theorem yw_and1 {r : PTT} (h : YT X W Ξ a r) : YW X W Ξ (.BoolOp .And [a] pos) r := by
  obtain ⟨t, p, k⟩ := h.ex
  exact ⟨t, pw_and1 p, k⟩
theorem yw_or1 {r : PTT} (h : YT X W Ξ a r) : YW X W Ξ (.BoolOp .Or [a] pos) r := by
  obtain ⟨t, p, k⟩ := h.ex
  exact ⟨t, pw_or1 p, k⟩
theorem yw_and {ra rb : PTT} (ha : YT X W Ξ a ra) (hb : YW X W Ξ (.BoolOp .And (b :: es) pos) rb) : YW X W Ξ (.BoolOp .And (a :: b :: es) pos) (yAnd ra rb) := by
  obtain ⟨ta, pa, ka⟩ := ha.ex
  obtain ⟨tb, pb, kb⟩ := hb.ex
  refine ⟨_, pw_and pa pb, fun F Hs σ H ε Q' Q R L q k => ka F Hs σ H ε _ _ R L q fun c H1 Hs1 ε1 e1 R1 q1 => ?_⟩
  cases c with
  | true =>
    show (if true = true then _ else _)
    rw [if_pos rfl]
    exact kb F Hs1 σ H1 ε1 _ _ R1 (L.mono e1) q1 fun c' H2 Hs2 ε2 e2 R2 q2 => k c' H2 Hs2 ε2 (e1.trans e2) R2 q2
  | false =>
    show (if false = true then _ else _)
    rw [if_neg Bool.false_ne_true]
    exact k false H1 Hs1 ε1 e1 R1 q1
theorem yw_or {ra rb : PTT} (ha : YT X W Ξ a ra) (hb : YW X W Ξ (.BoolOp .Or (b :: es) pos) rb) : YW X W Ξ (.BoolOp .Or (a :: b :: es) pos) (yOr ra rb) := by
  obtain ⟨ta, pa, ka⟩ := ha.ex
  obtain ⟨tb, pb, kb⟩ := hb.ex
  refine ⟨_, pw_or pa pb, fun F Hs σ H ε Q' Q R L q k => ka F Hs σ H ε _ _ R L q fun c H1 Hs1 ε1 e1 R1 q1 => ?_⟩
  cases c with
  | true =>
    show (if true = true then _ else _)
    rw [if_pos rfl]
    exact k true H1 Hs1 ε1 e1 R1 q1
  | false =>
    show (if false = true then _ else _)
    rw [if_neg Bool.false_ne_true]
    exact kb F Hs1 σ H1 ε1 _ _ R1 (L.mono e1) q1 fun c' H2 Hs2 ε2 e2 R2 q2 => k c' H2 Hs2 ε2 (e1.trans e2) R2 q2
theorem yt_not {r : PTT} (h : YT X W Ξ a r) : YT X W Ξ (.UnaryOp .Not a pos) (yNot r) := by
  obtain ⟨t, p, k⟩ := h.ex
  exact ⟨_, pt_not p, fun F Hs σ H ε Q' Q R L q kk => k F Hs σ H ε _ _ R L q fun c H' Hs' ε' e R' q' => kk (!c) H' Hs' ε' e R' q'⟩
/-! .. as values -/
def yAndV (ra rb : PTE) : PTE := fun ε Q => ra ε fun t ε' => res ε' t (asB fun k => match k with
  | true => rb ε' Q
  | false => Q (.d (.bl false)) ε')
def yOrV (ra rb : PTE) : PTE := fun ε Q => ra ε fun t ε' => res ε' t (asB fun k => match k with
  | true => Q (.d (.bl true)) ε'
  | false => rb ε' Q)
def yNotV (ra : PTE) : PTE := fun ε Q => ra ε fun t ε' => res ε' t fun d => truD d fun k => Q (.d (.bl (!k))) ε'
theorem ye_one {op : BoolOp} {r : PTE} (h : YE X W Ξ a r) : YE X W Ξ (.BoolOp op [a] pos) r := by
  obtain ⟨t, p, k⟩ := h.ex
  exact ⟨t, pe_one p, k⟩
theorem ye_and {ra rb : PTE} (ha : YE X W Ξ a ra) (hb : YE X W Ξ (.BoolOp .And (b :: es) pos) rb) : YE X W Ξ (.BoolOp .And (a :: b :: es) pos) (yAndV ra rb) := by
  obtain ⟨ta, pa, ka⟩ := ha.ex
  obtain ⟨tb, pb, kb⟩ := hb.ex
  refine ⟨_, pe_and pa pb, fun F Hs σ H ε Q' Q R L q k => ka F Hs σ H ε _ _ R L q fun v H1 Hs1 t1 ε1 e1 R1 p1 q1 => ?_⟩
  obtain ⟨d, rv, q2⟩ := R1.res p1 q1
  cases d with
  | bl c =>
    refine ⟨c, rv.bl', ?_⟩
    cases c with
    | true =>
      show tb σ H1 Q
      exact kb F Hs1 σ H1 ε1 _ _ R1 (L.mono e1) q2 fun v' H2 Hs2 t2 ε2 e2 R2 p2 q3 => k v' H2 Hs2 t2 ε2 (e1.trans e2) R2 p2 q3
    | false =>
      show Q (.bl false) H1
      exact k _ H1 Hs1 (.d (.bl false)) ε1 e1 R1 (.bl false) q2
  | _ => exact False.elim q2
theorem ye_or {ra rb : PTE} (ha : YE X W Ξ a ra) (hb : YE X W Ξ (.BoolOp .Or (b :: es) pos) rb) : YE X W Ξ (.BoolOp .Or (a :: b :: es) pos) (yOrV ra rb) := by
  obtain ⟨ta, pa, ka⟩ := ha.ex
  obtain ⟨tb, pb, kb⟩ := hb.ex
  refine ⟨_, pe_or pa pb, fun F Hs σ H ε Q' Q R L q k => ka F Hs σ H ε _ _ R L q fun v H1 Hs1 t1 ε1 e1 R1 p1 q1 => ?_⟩
  obtain ⟨d, rv, q2⟩ := R1.res p1 q1
  cases d with
  | bl c =>
    refine ⟨c, rv.bl', ?_⟩
    cases c with
    | true =>
      show Q (.bl true) H1
      exact k _ H1 Hs1 (.d (.bl true)) ε1 e1 R1 (.bl true) q2
    | false =>
      show tb σ H1 Q
      exact kb F Hs1 σ H1 ε1 _ _ R1 (L.mono e1) q2 fun v' H2 Hs2 t2 ε2 e2 R2 p2 q3 => k v' H2 Hs2 t2 ε2 (e1.trans e2) R2 p2 q3
  | _ => exact False.elim q2
def yIf (rt : PTT) (ra rb : PTE) : PTE := fun ε Q => rt ε fun k ε' => match k with
  | true => ra ε' Q
  | false => rb ε' Q
theorem ye_if {rt : PTT} {ra rb : PTE} (hc : YT X W Ξ c rt) (ha : YE X W Ξ a ra) (hb : YE X W Ξ b rb) : YE X W Ξ (.IfExp c a b pos) (yIf rt ra rb) := by
  obtain ⟨tc, pc, kc⟩ := hc.ex
  obtain ⟨ta, pa, ka⟩ := ha.ex
  obtain ⟨tb, pb, kb⟩ := hb.ex
  refine ⟨_, pe_ifExp pc pa pb, fun F Hs σ H ε Q' Q R L q k => kc F Hs σ H ε _ _ R L q fun c H1 Hs1 ε1 e1 R1 q1 => ?_⟩
  cases c with
  | true =>
    show (if true = true then _ else _)
    rw [if_pos rfl]
    exact ka F Hs1 σ H1 ε1 _ _ R1 (L.mono e1) q1 fun v' H2 Hs2 t2 ε2 e2 R2 p2 q3 => k v' H2 Hs2 t2 ε2 (e1.trans e2) R2 p2 q3
  | false =>
    show (if false = true then _ else _)
    rw [if_neg Bool.false_ne_true]
    exact kb F Hs1 σ H1 ε1 _ _ R1 (L.mono e1) q1 fun v' H2 Hs2 t2 ε2 e2 R2 p2 q3 => k v' H2 Hs2 t2 ε2 (e1.trans e2) R2 p2 q3

/-! ### arguments, displays, calls -/
def ylNil : PTL := fun ε Q => Q [] ε
def ylCons (r : PTE) (rs : PTL) : PTL := fun ε Q => r ε fun t ε1 => rs ε1 fun ts ε2 => Q (t :: ts) ε2
theorem yl_nil : YL X W Ξ [] ylNil := ⟨tNil, pa_nil, fun F Hs σ H ε Q' Q R _ q k => k [] H Hs [] ε (Evl.Ex.refl _) R .nil q⟩
theorem yl_cons {r : PTE} {rs : PTL} (h : YE X W Ξ a r) (hs : YL X W Ξ es rs) (hst : starEach (a :: es) X.env = (false, eval a X.env) :: starEach es X.env := by rfl) : YL X W Ξ (a :: es) (ylCons r rs) := by
  obtain ⟨t, p, k⟩ := h.ex
  obtain ⟨ts, ps, ks⟩ := hs.ex
  refine ⟨_, pa_cons p ps hst, fun F Hs σ H ε Q' Q R L q kk => k F Hs σ H ε _ _ R L q fun v H1 Hs1 t1 ε1 e1 R1 p1 q1 => ?_⟩
  exact ks F Hs1 σ H1 ε1 _ _ R1 (L.mono e1) q1 fun vs H2 Hs2 t2 ε2 e2 R2 p2 q2 => kk (v :: vs) H2 Hs2 (t1 :: t2) ε2 (e1.trans e2) R2 (.cons (p1.mono e2) p2) q2
/-- [a, b, ..] -/
def ynLst (rs : PTL) : PTN := fun ε Q => rs ε fun ts ε1 => outs ε1 ts fun ds ε2 => gd (ds.length ≤ 16777216) (Q ds ε2)
theorem yn_lst {rs : PTL} (h : YL X W Ξ es rs) : YN X W Ξ (.List es pos) (ynLst rs) := by
  obtain ⟨ts, ps, ks⟩ := h.ex
  refine ⟨_, pe_lst ps, fun F Hs σ H ε Q' Q R L q k => ks F Hs σ H ε _ _ R L q fun vs H1 Hs1 t1 ε1 e1 R1 p1 q1 => ?_⟩
  obtain ⟨ds, ε2, Hs2, e2, R2, rs, hq⟩ := R1.outs p1 q1
  obtain ⟨hl, q2⟩ := gd_elim hq
  refine ⟨by rw [rs.len]; exact line_le hl, fun p hp => ?_⟩
  obtain ⟨n1, n2, n3⟩ := R2.nobody hp
  exact k p _ Hs2 vs ds ε2 (e1.trans e2) (R2.lay hp) upd_same n1 n2 n3 rs q2
/-- (a, b, ..) -/
def yTup (rs : PTL) : PTE := fun ε Q => rs ε fun ts ε1 => outs ε1 ts fun ds ε2 => gd (ds.length ≤ 16777216) (Q (.d (.tup ds)) ε2)
theorem ye_tup {rs : PTL} {k : Nat} (h : YL X W Ξ es rs) : YE X W Ξ (.Tuple es k pos) (yTup rs) := by
  obtain ⟨ts, ps, ks⟩ := h.ex
  refine ⟨_, pe_tup ps, fun F Hs σ H ε Q' Q R L q k => ks F Hs σ H ε _ _ R L q fun vs H1 Hs1 t1 ε1 e1 R1 p1 q1 => ?_⟩
  obtain ⟨ds, ε2, Hs2, e2, R2, rs, hq⟩ := R1.outs p1 q1
  obtain ⟨hl, q2⟩ := gd_elim hq
  refine ⟨by rw [rs.len]; exact line_le hl, fun p hp => ?_⟩
  obtain ⟨R3, e3⟩ := R2.new (o := .tup vs) hp
  exact k (.ref p) _ _ (.d (.tup ds)) ε2 ((e1.trans e2).trans e3) R3 (show Rep X.K _ _ (.tup ds) from .tup (SqT.of upd_same) (rs.mono e3)) q2

/-- a built-in's call, by data -/
abbrev OPC := List D → (D → Prop) → Prop
def CallY (X : Cx) (f : Value) (o : OPC) : Prop := ∃ r, CallR X f r ∧ ∀ (F Hs : Hp) (σ : St) (H : Hp) (ε : PEnv) (vs : List V) (ds : List D) (Q' : D → Prop) (Q : VK), RelS X.K F Hs σ H ε → RepVs X.K Hs H vs ds → o ds Q' →
  (∀ z H' Hs' d, Ex Hs Hs' → RelS X.K F Hs' σ H' ε → Rep X.K Hs' z d → Q' d → Q z H') → r vs H Q
/-- .. that makes a list -/
def CallN (X : Cx) (f : Value) (o : List D → (List D → Prop) → Prop) : Prop := ∃ r, CallR X f r ∧ ∀ (F Hs : Hp) (σ : St) (H : Hp) (ε : PEnv) (vs : List V) (ds : List D) (Q' : List D → Prop) (Q : VK), RelS X.K F Hs σ H ε → RepVs X.K Hs H vs ds → o ds Q' →
  (∀ p ws es, H p = none → Reps X.K Hs ws es → Q' es → Q (.ref p) (upd H p (.lst ws))) → r vs H Q
def yCB (o : OPC) (rs : PTL) : PTE := fun ε Q => rs ε fun ts ε1 => ress ε1 ts fun ds => o ds fun d => Q (.d d) ε1
def ynCB (o : List D → (List D → Prop) → Prop) (rs : PTL) : PTN := fun ε Q => rs ε fun ts ε1 => ress ε1 ts fun ds => o ds fun d => Q d ε1
section
variable {x : Str} {p : Pos} {id ty : String} {rs : PTL}
theorem cb_core {f : Value} {o : OPC} {r : List V → Hp → VK → Prop} {ta : TA} (h : ∀ (F Hs : Hp) (σ : St) (H : Hp) (ε : PEnv) (vs : List V) (ds : List D) (Q' : D → Prop) (Q : VK), RelS X.K F Hs σ H ε → RepVs X.K Hs H vs ds → o ds Q' →
  (∀ z H' Hs' d, Ex Hs Hs' → RelS X.K F Hs' σ H' ε → Rep X.K Hs' z d → Q' d → Q z H') → r vs H Q)
    (ka : ∀ (F Hs : Hp) (σ : St) (H : Hp) (ε : PEnv) (Q' : List T → PEnv → Prop) (Q : List V → Hp → Prop), RelS X.K F Hs σ H ε → Lk X.K F Hs W Ξ → rs ε Q' → KL X.K F Hs σ Q' Q → ta σ H Q)
    (F Hs : Hp) (σ : St) (H : Hp) (ε : PEnv) (Q' : T → PEnv → Prop) (Q : VK) (R : RelS X.K F Hs σ H ε) (L : Lk X.K F Hs W Ξ) (q : yCB o rs ε Q') (k : KE X.K F Hs σ Q' Q) : tCB r ta σ H Q := by
  refine ka F Hs σ H ε _ _ R L q fun vs H1 Hs1 t1 ε1 e1 R1 p1 q1 => ?_
  obtain ⟨ds, rv, q2⟩ := R1.ress p1 q1
  exact h F Hs1 σ H1 ε1 vs ds _ Q R1 rv q2 fun z H' Hs' d e2 R2 p2 q3 => k z H' Hs' (.d d) ε1 (e1.trans e2) R2 p2 q3
theorem ye_callB {o : OPC} (hc : CallY X (.builtin id) o) (hg : Gl X x) (hm : X.mg x = none) (hv : bootBuiltins x = some (.builtin id)) (h : YL X W Ξ (a :: es) rs) (hn : x ≠ "__name__" := by decide) (hdb : (x == ("__debug__" : Str)) = false := by decide)
    (he : starEach (a :: es) X.env = (false, eval a X.env) :: starEach es X.env := by rfl) (hpl : (backTo pos (starEach es X.env)).any (·.1) = false := by rfl) : YE X W Ξ (.Call (.Name x p) (a :: es) [] pos) (yCB o rs) := by
  obtain ⟨r, hr, hh⟩ := hc
  obtain ⟨ts, ps, ks⟩ := h.ex
  exact ⟨_, pe_callB hr hg hm hv ps hn hdb he hpl, cb_core (f := .builtin id) hh ks⟩
theorem ye_callTy {o : OPC} (hc : CallY X (.type ty) o) (hg : Gl X x) (hm : X.mg x = none) (hv : bootBuiltins x = some (.type ty)) (h : YL X W Ξ (a :: es) rs) (hn : x ≠ "__name__" := by decide) (hdb : (x == ("__debug__" : Str)) = false := by decide)
    (he : starEach (a :: es) X.env = (false, eval a X.env) :: starEach es X.env := by rfl) (hpl : (backTo pos (starEach es X.env)).any (·.1) = false := by rfl) : YE X W Ξ (.Call (.Name x p) (a :: es) [] pos) (yCB o rs) := by
  obtain ⟨r, hr, hh⟩ := hc
  obtain ⟨ts, ps, ks⟩ := h.ex
  exact ⟨_, pe_callTy hr hg hm hv ps hn hdb he hpl, cb_core (f := .type ty) hh ks⟩
theorem cn_core {f : Value} {o : List D → (List D → Prop) → Prop} {r : List V → Hp → VK → Prop} {ta : TA} (h : ∀ (F Hs : Hp) (σ : St) (H : Hp) (ε : PEnv) (vs : List V) (ds : List D) (Q' : List D → Prop) (Q : VK), RelS X.K F Hs σ H ε → RepVs X.K Hs H vs ds → o ds Q' →
  (∀ p ws es, H p = none → Reps X.K Hs ws es → Q' es → Q (.ref p) (upd H p (.lst ws))) → r vs H Q)
    (ka : ∀ (F Hs : Hp) (σ : St) (H : Hp) (ε : PEnv) (Q' : List T → PEnv → Prop) (Q : List V → Hp → Prop), RelS X.K F Hs σ H ε → Lk X.K F Hs W Ξ → rs ε Q' → KL X.K F Hs σ Q' Q → ta σ H Q)
    (F Hs : Hp) (σ : St) (H : Hp) (ε : PEnv) (Q' : List D → PEnv → Prop) (Q : VK) (R : RelS X.K F Hs σ H ε) (L : Lk X.K F Hs W Ξ) (q : ynCB o rs ε Q') (k : KN X.K F Hs σ Q' Q) : tCB r ta σ H Q := by
  refine ka F Hs σ H ε _ _ R L q fun vs H1 Hs1 t1 ε1 e1 R1 p1 q1 => ?_
  obtain ⟨ds, rv, q2⟩ := R1.ress p1 q1
  refine h F Hs1 σ H1 ε1 vs ds _ Q R1 rv q2 fun p ws es hp p2 q3 => ?_
  obtain ⟨n1, n2, n3⟩ := R1.nobody hp
  exact k p _ Hs1 ws es ε1 e1 (R1.lay hp) upd_same n1 n2 n3 p2 q3
theorem yn_callB {o : List D → (List D → Prop) → Prop} (hc : CallN X (.builtin id) o) (hg : Gl X x) (hm : X.mg x = none) (hv : bootBuiltins x = some (.builtin id)) (h : YL X W Ξ (a :: es) rs) (hn : x ≠ "__name__" := by decide) (hdb : (x == ("__debug__" : Str)) = false := by decide)
    (he : starEach (a :: es) X.env = (false, eval a X.env) :: starEach es X.env := by rfl) (hpl : (backTo pos (starEach es X.env)).any (·.1) = false := by rfl) : YN X W Ξ (.Call (.Name x p) (a :: es) [] pos) (ynCB o rs) := by
  obtain ⟨r, hr, hh⟩ := hc
  obtain ⟨ts, ps, ks⟩ := h.ex
  exact ⟨_, pe_callB hr hg hm hv ps hn hdb he hpl, cn_core (f := .builtin id) hh ks⟩
theorem yn_callTy {o : List D → (List D → Prop) → Prop} (hc : CallN X (.type ty) o) (hg : Gl X x) (hm : X.mg x = none) (hv : bootBuiltins x = some (.type ty)) (h : YL X W Ξ (a :: es) rs) (hn : x ≠ "__name__" := by decide) (hdb : (x == ("__debug__" : Str)) = false := by decide)
    (he : starEach (a :: es) X.env = (false, eval a X.env) :: starEach es X.env := by rfl) (hpl : (backTo pos (starEach es X.env)).any (·.1) = false := by rfl) : YN X W Ξ (.Call (.Name x p) (a :: es) [] pos) (ynCB o rs) := by
  obtain ⟨r, hr, hh⟩ := hc
  obtain ⟨ts, ps, ks⟩ := h.ex
  exact ⟨_, pe_callTy hr hg hm hv ps hn hdb he hpl, cn_core (f := .type ty) hh ks⟩
end

/-! ### a def's promise by data -/
abbrev Spec := List D → (D → Prop) → (Nat → Prop) → Prop
/-- others' objects stand as they stood -/
def Keeps (Hs H Hs' H' : Hp) : Prop := Ex Hs Hs' ∧ Ex Hs' H' ∧ ∀ p o, H p = some o → Hs p = none → H' p = some o ∧ Hs' p = none
def pSp (K : PySem.W.Frag) (φ : Spec) : Sp := fun vs H Q E => ∃ (Hs : Hp) (ds : List D) (Q' : D → Prop) (E' : Nat → Prop), Ex Hs H ∧ Reps K Hs vs ds ∧ φ ds Q' E' ∧
  (∀ d, Q' d → ∀ v H' Hs', Keeps Hs H Hs' H' → Rep K Hs' v d → Q v H') ∧ (∀ c, E' c → ∀ H' Hs', Keeps Hs H Hs' H' → E (.ref (exA K c)) none H')
/-- the caller's state behind a call -/
theorem RelS.called {K : PySem.W.Frag} {F Hs H Hs' H' : Hp} {σ : St} {ε : PEnv} (R : RelS K F Hs σ H ε) (k : Keeps Hs H Hs' H') : RelS K F Hs' σ H' ε := by
  obtain ⟨k1, k2, k3⟩ := k
  refine ⟨k2, fun p o e => ?_, R.len, fun i s e => ?_, R.ds⟩
  · obtain ⟨h1, h2⟩ := R.fr p o e
    exact k3 p o h1 h2
  · have z := R.sl i s e
    cases s with
    | v d =>
      obtain ⟨v, h1, h2⟩ := z
      exact ⟨v, h1, h2.mono k1⟩
    | o ds =>
      obtain ⟨p, vs, h1, h2, h3, h4, h5⟩ := z
      obtain ⟨g1, g2⟩ := k3 p _ h4 h2
      exact ⟨p, vs, h1, g2, h3, g1, h5.mono k1⟩
    | od ds =>
      obtain ⟨p, vs, h1, h2, h3, h4, h5, h6⟩ := z
      obtain ⟨g1, g2⟩ := k3 p _ h4 h2
      exact ⟨p, vs, h1, g2, h3, g1, h5, h6.mono k1⟩
def yCall (φ : Spec) (Ξ : Xi) (rs : PTL) : PTE := fun ε Q => rs ε fun ts ε1 => outs ε1 ts fun ds ε2 => φ ds (fun d => Q (.d d) ε2) fun c => Ξ c ε2
theorem ye_call {φ : Spec} {rs : PTL} {k : Nat} {f : Addr} {fd : FuncData} {ps : List Str} {x : Str} {p : Pos} (Fn : FnOk X.prog X.w X.K X.mg X.base (L2.CX X.prog X.w) k f fd ps (pSp X.K φ)) (tk : Takes X W) (hr : Room k X.A) (hg : Gl X x)
    (hm : X.mg x = some (.ref f)) (hk : PySem.W.keepIn X.K (.ref f) = true) (hb : Binds X.K fd ps []) (h : YL X W Ξ (a :: es) rs) (hdb : (x == ("__debug__" : Str)) = false := by decide)
    (he : starEach (a :: es) X.env = (false, eval a X.env) :: starEach es X.env := by rfl) (hpl : (backTo pos (starEach es X.env)).any (·.1) = false := by rfl) :
    YE X W Ξ (.Call (.Name x p) (a :: es) [] pos) (yCall φ Ξ rs) := by
  obtain ⟨ts, pas, ks⟩ := h.ex
  refine ⟨_, pe_callS Fn hr hg hm hk hb (fun σ => passAt tk σ) pas hdb he hpl, fun F Hs σ H ε Q' Q R L q k => ks F Hs σ H ε _ _ R L q fun vs H1 Hs1 t1 ε1 e1 R1 p1 q1 => ?_⟩
  obtain ⟨ds, ε2, Hs2, e2, R2, rs, q2⟩ := R1.outs p1 q1
  refine ⟨Hs2, ds, _, _, R2.ex, rs, q2, fun d qd v H' Hs' kp rv => ?_, fun c ec H' Hs' kp => ?_⟩
  · exact k v H' Hs' (.d d) ε2 ((e1.trans e2).trans kp.1) (R2.called kp) rv qd
  · exact L c σ H' Hs' ε2 ec ((e1.trans e2).trans kp.1) (R2.called kp)
end
end PL

set_option Elab.async false
set_option linter.all false
set_option autoImplicit false
set_option maxRecDepth 100000
set_option maxHeartbeats 2000000
/-! Operators, built-ins, subscripts, comprehensions, over plain data. -/
namespace PL
open PySem PySem.Spec PyProof.Rows L2
open Evl (Ex)
section
variable {X : Cx}

def oAdd : OP2
  | .int i, .int j, Q => Q (.int (i + j))
  | .str x, .str y, Q => gd (x.length + y.length ≤ 16777216) (Q (.str (x ++ y)))
  | .lst xs, .lst ys, Q => gd (xs.length + ys.length ≤ 16777216) (Q (.lst (xs ++ ys)))
  | _, _, _ => False
def rAddA : R2 := fun x y H Q => (∃ i j, x = .int i ∧ y = .int j ∧ Q (.int (i + j)) H) ∨ (∃ i j, x = .str i ∧ y = .str j ∧ i.length + j.length ≤ sizeLine ∧ Q (.str (i ++ j)) H) ∨ rCat x y H Q
theorem op_addA : OpR X (binaryOp .Add) rAddA := op_add.or (op_add_str.or op_cat)
theorem oy_add : OpY X (binaryOp .Add) oAdd := by
  refine ⟨_, op_addA, fun F Hs σ H ε v w d1 d2 Q' Q R r1 r2 q k => ?_⟩
  unfold oAdd at q
  split at q
  · exact .inl ⟨_, _, r1.int', r2.int', k _ H Hs _ (Evl.Ex.refl _) R (.int _) q⟩
  · have q := gd_elim q
    exact .inr (.inl ⟨_, _, r1.str', r2.str', line_le q.1, k _ H Hs _ (Evl.Ex.refl _) R (.str _) q.2⟩)
  · have q := gd_elim q
    obtain ⟨a, vs, e1, h1, p1⟩ := r1.lst' R.ex
    obtain ⟨b, ws, e2, h2, p2⟩ := r2.lst' R.ex
    refine .inr (.inr ⟨a, b, vs, ws, e1, e2, h1, h2, by rw [p1.len, p2.len]; exact line_le q.1, fun p hp => ?_⟩)
    obtain ⟨R3, e3⟩ := R.new (o := .lst (vs ++ ws)) hp
    exact k (.ref p) _ _ _ e3 R3 (.lst upd_same ((p1.append p2).mono e3)) q.2
  · exact q.elim
def catQ (d1 d2 : D) (Q : List D → Prop) : Prop := match d1, d2 with
  | .lst xs, .lst ys => gd (xs.length + ys.length ≤ 16777216) (Q (xs ++ ys))
  | _, _ => False
theorem catQ_elim {d1 d2 : D} {Q : List D → Prop} (h : catQ d1 d2 Q) : ∃ xs ys, d1 = .lst xs ∧ d2 = .lst ys ∧ xs.length + ys.length ≤ 16777216 ∧ Q (xs ++ ys) := by
  unfold catQ at h
  split at h
  · exact ⟨_, _, rfl, rfl, gd_elim h⟩
  · exact h.elim
/-- a + b, a new list that a name takes -/
def ynAdd (ra rb : PTE) : PTN := fun ε Q => ra ε fun t1 ε1 => rb ε1 fun t2 ε2 => res ε2 t1 fun d1 => res ε2 t2 fun d2 => catQ d1 d2 fun ds => Q ds ε2
theorem yn_add {W : WX} {Ξ : Xi} {a b : Expr} {pos : Pos} {ra rb : PTE} (ha : YE X W Ξ a ra) (hb : YE X W Ξ b rb) : YN X W Ξ (.BinOp a .Add b pos) (ynAdd ra rb) := by
  obtain ⟨ta, pa, ka⟩ := ha.ex
  obtain ⟨tb, pb, kb⟩ := hb.ex
  refine ⟨_, pe_op op_cat pa pb, fun F Hs σ H ε Q' Q R L q k => ?_⟩
  refine ka F Hs σ H ε _ _ R L q fun v H1 Hs1 t1 ε1 e1 R1 p1 q1 => ?_
  refine kb F Hs1 σ H1 ε1 _ _ R1 (L.mono e1) q1 fun w H2 Hs2 t2 ε2 e2 R2 p2 q2 => ?_
  obtain ⟨d1, v1, q3⟩ := R2.res (p1.mono e2) q2
  obtain ⟨d2, v2, q4⟩ := R2.res p2 q3
  obtain ⟨xs, ys, rfl, rfl, hl, q4⟩ := catQ_elim q4
  obtain ⟨a, vs, g1, h1, p1⟩ := v1.lst' R2.ex
  obtain ⟨b, ws, g2, h2, p2⟩ := v2.lst' R2.ex
  refine ⟨a, b, vs, ws, g1, g2, h1, h2, by rw [p1.len, p2.len]; exact line_le hl, fun p hp => ?_⟩
  obtain ⟨n1, n2, n3⟩ := R2.nobody hp
  exact k p _ Hs2 _ _ ε2 (e1.trans e2) (R2.lay hp) upd_same n1 n2 n3 (p1.append p2) q4
def oSub : OP2
  | .int i, .int j, Q => Q (.int (i - j))
  | _, _, _ => False
theorem oy_sub : OpY X (binaryOp .Sub) oSub := by
  refine ⟨_, op_sub, fun F Hs σ H ε v w d1 d2 Q' Q R r1 r2 q k => ?_⟩
  unfold oSub at q
  split at q
  · exact ⟨_, _, r1.int', r2.int', k _ H Hs _ (Evl.Ex.refl _) R (.int _) q⟩
  · exact q.elim
def oMul : OP2
  | .int i, .int j, Q => gd ((-18446744073709551616 < i ∧ i < 18446744073709551616) ∨ (-18446744073709551616 < j ∧ j < 18446744073709551616)) (Q (.int (i * j)))
  | .lst xs, .int k, Q => gd (-9223372036854775808 ≤ k ∧ k < 9223372036854775808 ∧ xs.length * k.toNat ≤ 16777216) (Q (.lst (List.replicate k.toNat xs).flatten))
  | _, _, _ => False
theorem Reps.rep {K : PySem.W.Frag} {H : Hp} {vs : List V} {ds : List D} (h : Reps K H vs ds) : ∀ k : Nat, Reps K H (List.replicate k vs).flatten (List.replicate k ds).flatten
  | 0 => .nil
  | k + 1 => by
    rw [List.replicate_succ, List.flatten_cons, List.replicate_succ, List.flatten_cons]
    exact h.append (Reps.rep h k)
theorem oy_mul : OpY X (binaryOp .Mult) oMul := by
  refine ⟨_, op_mul.or op_rep, fun F Hs σ H ε v w d1 d2 Q' Q R r1 r2 q k => ?_⟩
  unfold oMul at q
  split at q
  · have q := gd_elim q
    refine .inl ⟨_, _, r1.int', r2.int', ?_, k _ H Hs _ (Evl.Ex.refl _) R (.int _) q.2⟩
    exact q.1
  · have q := gd_elim q
    obtain ⟨a, vs, e1, h1, p1⟩ := r1.lst' R.ex
    refine .inr ⟨a, _, vs, e1, r2.int', h1, q.1.1, q.1.2.1, by rw [p1.len]; exact line_le q.1.2.2, fun p hp => ?_⟩
    obtain ⟨R3, e3⟩ := R.new (o := .lst (List.replicate (Int.toNat _) vs).flatten) hp
    exact k (.ref p) _ _ _ e3 R3 (.lst upd_same ((p1.rep _).mono e3)) q.2
  · exact q.elim
def oMod : OP2
  | .int i, .int j, Q => gd (0 < j) (Q (.int (i % j)))
  | _, _, _ => False
theorem oy_mod : OpY X (binaryOp .Mod) oMod := by
  refine ⟨_, op_mod, fun F Hs σ H ε v w d1 d2 Q' Q R r1 r2 q k => ?_⟩
  unfold oMod at q
  split at q
  · have q := gd_elim q
    exact ⟨_, _, r1.int', r2.int', q.1, k _ H Hs _ (Evl.Ex.refl _) R (.int _) q.2⟩
  · exact q.elim
def oFdiv : OP2
  | .int i, .int j, Q => gd (0 < j ∧ j < 1073741824) (Q (.int (i / j)))
  | _, _, _ => False
theorem oy_fdiv : OpY X (binaryOp .FloorDiv) oFdiv := by
  refine ⟨_, op_fdiv, fun F Hs σ H ε v w d1 d2 Q' Q R r1 r2 q k => ?_⟩
  unfold oFdiv at q
  split at q
  · have q := gd_elim q
    exact ⟨_, _, r1.int', r2.int', q.1, k _ H Hs _ (Evl.Ex.refl _) R (.int _) q.2⟩
  · exact q.elim
def oPow : OP2
  | .int i, .int j, Q => gd (0 ≤ j ∧ j ≤ 1000000 ∧ i.natAbs < 18446744073709551616) (Q (.int (i ^ j.toNat)))
  | _, _, _ => False
theorem oy_pow : OpY X (binaryOp .Pow) oPow := by
  refine ⟨_, op_pow, fun F Hs σ H ε v w d1 d2 Q' Q R r1 r2 q k => ?_⟩
  unfold oPow at q
  split at q
  · have q := gd_elim q
    exact ⟨_, _, r1.int', r2.int', q.1, k _ H Hs _ (Evl.Ex.refl _) R (.int _) q.2⟩
  · exact q.elim
def asI (Q : Int → Prop) : D → Prop
  | .int i => Q i
  | _ => False
theorem asI_elim {d : D} {Q : Int → Prop} (h : asI Q d) : ∃ i, d = .int i ∧ Q i := by
  cases d with
  | int i => exact ⟨i, rfl, h⟩
  | _ => exact h.elim
def yNeg (r : PTE) : PTE := fun ε Q => r ε fun t ε' => res ε' t (asI fun i => Q (.d (.int (-i))) ε')
theorem ye_neg {W : WX} {Ξ : Xi} {a : Expr} {pos : Pos} {r : PTE} (h : YE X W Ξ a r) : YE X W Ξ (.UnaryOp .USub a pos) (yNeg r) := by
  obtain ⟨t, p, k⟩ := h.ex
  refine ⟨_, pe_un un_neg p, fun F Hs σ H ε Q' Q R L q kk => k F Hs σ H ε _ _ R L q fun v H' Hs' t ε' e R' p' q' => ?_⟩
  obtain ⟨d, rv, q2⟩ := R'.res p' q'
  obtain ⟨i, rfl, q2⟩ := asI_elim q2
  exact ⟨i, rv.int', kk (.int (-i)) H' Hs' (.d (.int (-i))) ε' e R' (.int _) q2⟩

/-! ### comparisons -/
def oCmpI (f : Int → Int → Bool) : OP2
  | .int i, .int j, Q => Q (.bl (f i j))
  | _, _, _ => False
abbrev oLt : OP2 := oCmpI fun i j => decide (i < j)
abbrev oLe : OP2 := oCmpI fun i j => decide (i ≤ j)
abbrev oGt : OP2 := oCmpI fun i j => decide (j < i)
abbrev oGe : OP2 := oCmpI fun i j => decide (j ≤ i)
theorem oy_cmp {op : CmpOp} {f : Int → Int → Bool} (h : OpR X (compareOp op) (rI0 fun i j => .bl (f i j))) : OpY X (compareOp op) (oCmpI f) := by
  refine ⟨_, h, fun F Hs σ H ε v w d1 d2 Q' Q R r1 r2 q k => ?_⟩
  unfold oCmpI at q
  split at q
  · exact ⟨_, _, r1.int', r2.int', k _ H Hs _ (Evl.Ex.refl _) R (.bl _) q⟩
  · exact q.elim
theorem oy_lt : OpY X (compareOp .Lt) oLt := oy_cmp op_lt
theorem oy_le : OpY X (compareOp .LtE) oLe := oy_cmp op_le
theorem oy_gt : OpY X (compareOp .Gt) oGt := oy_cmp op_gt
theorem oy_ge : OpY X (compareOp .GtE) oGe := oy_cmp op_ge
/-- is None -/
def isNon : D → Bool
  | .non => true
  | _ => false
def knownB : D → Bool
  | .vl _ => false
  | _ => true
def known (d : D) : Prop := knownB d = true
def oIsN (neg : Bool) : OP2
  | d, .non, Q => match knownB d with
    | true => Q (.bl (match neg with
      | true => !isNon d
      | false => isNon d))
    | false => False
  | _, _, _ => False
theorem isN_rep {K : PySem.W.Frag} {Hs H : Hp} {v : V} {d : D} (h : RepV K Hs H v d) (hk : known d) : decide (v = .non) = isNon d := by
  cases h with
  | sc h => cases h <;> first | rfl | cases hk
  | lst _ _ => rfl
  | dic _ _ _ => rfl
theorem oy_isN : OpY X (compareOp .Is) (oIsN false) := by
  refine ⟨_, op_isN, fun F Hs σ H ε v w d1 d2 Q' Q R r1 r2 q k => ?_⟩
  unfold oIsN at q
  split at q
  · refine ⟨r2.non', ?_⟩
    split at q
    · rename_i hk
      rw [isN_rep r1 hk]
      exact k _ H Hs _ (Evl.Ex.refl _) R (.bl _) q
    · exact q.elim
  · exact q.elim
theorem oy_notN : OpY X (compareOp .IsNot) (oIsN true) := by
  refine ⟨_, op_notN, fun F Hs σ H ε v w d1 d2 Q' Q R r1 r2 q k => ?_⟩
  unfold oIsN at q
  split at q
  · refine ⟨r2.non', ?_⟩
    split at q
    · rename_i hk
      rw [isN_rep r1 hk]
      exact k _ H Hs _ (Evl.Ex.refl _) R (.bl _) q
    · exact q.elim
  · exact q.elim

mutual
def D.py : D → PyData
  | .non => .none
  | .bl b => .bool b
  | .int i => .int i
  | .str x => .str x
  | .lst xs => .list (D.pys xs)
  | .frl xs => .list (D.pys xs)
  | .tup xs => .tuple (D.pys xs)
  | _ => .dict []
def D.pys : List D → List PyData
  | [] => []
  | d :: ds => D.py d :: D.pys ds
end
section
variable {K : PySem.W.Frag} {H : Hp}
mutual
theorem Rep.dp : ∀ {v : V} {d : D}, Rep K H v d → (D.py d).canLay0 = true → Dp K H v (D.py d)
  | _, _, .non, _ => .non
  | _, _, .bl b, _ => .bl b
  | _, _, .int i, _ => .int i
  | _, _, .str x, _ => .str x
  | _, _, .lst h r, c => .lst (SqL.of h) (Reps.dp r c)
  | _, _, .frl h r, c => .lst h.sq (Reps.dp r c)
  | _, _, .tup h r, c => .tup h (Reps.dp r c)
theorem Reps.dp : ∀ {vs : List V} {ds : List D}, Reps K H vs ds → PyData.canLayAll0 (D.pys ds) = true → DpAll K H vs (D.pys ds)
  | _, _, .nil, _ => .nil
  | _, _, .cons r t, c => .cons (Rep.dp r (Bool.and_eq_true_iff.mp c).1) (Reps.dp t (Bool.and_eq_true_iff.mp c).2)
end
end
theorem RepV.dp {K : PySem.W.Frag} {Hs H : Hp} {v : V} {d : D} (h : RepV K Hs H v d) (ex : Ex Hs H) (c : (D.py d).canLay0 = true) : Dp K H v (D.py d) := by
  cases h with
  | sc h => exact Rep.dp (h.mono ex) c
  | lst h r => exact .lst (SqL.of h) (Reps.dp (r.mono ex) c)
  | dic h _ _ => cases c
/-- == -/
def eqD (d1 d2 : D) (Q : Bool → Prop) : Prop := match d1, d2 with
  | .int i, .int j => Q (decide (i = j))
  | .str x, .str y => Q (decide (x = y))
  | .bl x, .bl y => Q (decide (x = y))
  | .non, .non => Q true
  | .non, .int _ => Q false
  | .int _, .non => Q false
  | .non, .bl _ => Q false
  | .bl _, .non => Q false
  | .non, .str _ => Q false
  | .str _, .non => Q false
  | .int _, .str _ => Q false
  | .str _, .int _ => Q false
  | .bl _, .str _ => Q false
  | .str _, .bl _ => Q false
  | d1, d2 => gd (SeqAt.shaped (D.py d1) = true ∧ SeqAt.shaped (D.py d2) = true) (Q (PyData.eqv (D.py d1) (D.py d2)))
def oEq (neg : Bool) : OP2 := fun d1 d2 Q => eqD d1 d2 fun b => Q (.bl (match neg with
  | true => !b
  | false => b))
def rEqA (K : PySem.W.Frag) : R2 := fun x y H Q => rEq x y H Q ∨ rEqD K x y H Q
def rNeA (K : PySem.W.Frag) : R2 := fun x y H Q => rNe x y H Q ∨ rNeD K x y H Q
theorem eqD_core {K : PySem.W.Frag} {F Hs H : Hp} {σ : St} {ε : PEnv} {v w : V} {d1 d2 : D} {Q : Bool → Prop} (R : RelS K F Hs σ H ε) (r1 : RepV K Hs H v d1) (r2 : RepV K Hs H w d2) (q : eqD d1 d2 Q) :
    (scal v w = true ∧ Q (decide (v = w))) ∨ ∃ d e, Dp K H v d ∧ Dp K H w e ∧ SeqAt.shaped d = true ∧ SeqAt.shaped e = true ∧ Q (PyData.eqv d e) := by
  unfold eqD at q
  split at q
  · refine .inl ?_; rw [r1.int', r2.int']; refine ⟨rfl, ?_⟩; simpa using q
  · refine .inl ?_; rw [r1.str', r2.str']; refine ⟨rfl, ?_⟩; simpa using q
  · refine .inl ?_; rw [r1.bl', r2.bl']; refine ⟨rfl, ?_⟩; simpa using q
  · refine .inl ?_; rw [r1.non', r2.non']; exact ⟨rfl, q⟩
  · refine .inl ?_; rw [r1.non', r2.int']; exact ⟨rfl, q⟩
  · refine .inl ?_; rw [r1.int', r2.non']; exact ⟨rfl, q⟩
  · refine .inl ?_; rw [r1.non', r2.bl']; exact ⟨rfl, q⟩
  · refine .inl ?_; rw [r1.bl', r2.non']; exact ⟨rfl, q⟩
  · refine .inl ?_; rw [r1.non', r2.str']; exact ⟨rfl, q⟩
  · refine .inl ?_; rw [r1.str', r2.non']; exact ⟨rfl, q⟩
  · refine .inl ?_; rw [r1.int', r2.str']; exact ⟨rfl, q⟩
  · refine .inl ?_; rw [r1.str', r2.int']; exact ⟨rfl, q⟩
  · refine .inl ?_; rw [r1.bl', r2.str']; exact ⟨rfl, q⟩
  · refine .inl ?_; rw [r1.str', r2.bl']; exact ⟨rfl, q⟩
  · have q := gd_elim q
    exact .inr ⟨_, _, r1.dp R.ex (SeqAt.canLay_of_shaped q.1.1), r2.dp R.ex (SeqAt.canLay_of_shaped q.1.2), q.1.1, q.1.2, q.2⟩
theorem oy_eq (hu : X.A.units + 64 < cLine) : OpY X (compareOp .Eq) (oEq false) := by
  refine ⟨rEqA X.K, op_eq.or (op_eqD hu), fun F Hs σ H ε v w d1 d2 Q' Q R r1 r2 q k => ?_⟩
  rcases eqD_core R r1 r2 q with ⟨h1, h2⟩ | ⟨d, e, h1, h2, h3, h4, h5⟩
  · exact .inl ⟨h1, k _ H Hs _ (Evl.Ex.refl _) R (.bl _) h2⟩
  · exact .inr ⟨d, e, h1, h2, h3, h4, k _ H Hs _ (Evl.Ex.refl _) R (.bl _) h5⟩
theorem oy_ne (hu : X.A.units + 64 < cLine) : OpY X (compareOp .NotEq) (oEq true) := by
  refine ⟨rNeA X.K, op_ne.or (op_neD hu), fun F Hs σ H ε v w d1 d2 Q' Q R r1 r2 q k => ?_⟩
  rcases eqD_core R r1 r2 q with ⟨h1, h2⟩ | ⟨d, e, h1, h2, h3, h4, h5⟩
  · exact .inl ⟨h1, k _ H Hs _ (Evl.Ex.refl _) R (.bl _) h2⟩
  · exact .inr ⟨d, e, h1, h2, h3, h4, k _ H Hs _ (Evl.Ex.refl _) R (.bl _) h5⟩

/-! ### subscripts -/
def oIx : OP2
  | .lst xs, .int i, Q => opt (atI xs i) Q
  | .frl xs, .int i, Q => opt (atI xs i) Q
  | .tup xs, .int i, Q => opt (atI xs i) Q
  | .str x, .int i, Q => gd (x.length ≤ 16777216) (opt (atI x.cps.toList i) fun c => Q (.str ⟨#[c]⟩))
  | _, _, _ => False
theorem Reps.atI {K : PySem.W.Frag} {H : Hp} {vs : List V} {ds : List D} {i : Int} {d : D} (r : Reps K H vs ds) (h : L2.atI ds i = some d) : ∃ v, L2.atI vs i = some v ∧ Rep K H v d := by
  unfold L2.atI at h ⊢
  rw [r.len]
  cases e : ixN ds.length i with
  | none => rw [e] at h; cases h
  | some j =>
    rw [e] at h
    exact r.get (i := j) h
def yIx (ra rb : PTE) : PTE := yBin oIx ra rb
theorem ye_ix {W : WX} {Ξ : Xi} {a b : Expr} {pos : Pos} {ra rb : PTE} (ha : YE X W Ξ a ra) (hb : YE X W Ξ b rb) (hs : PlainIx b := by exact fun _ _ => rfl) : YE X W Ξ (.Subscript a b pos) (yIx ra rb) := by
  obtain ⟨ta, pa, ka⟩ := ha.ex
  obtain ⟨tb, pb, kb⟩ := hb.ex
  refine ⟨_, pe_ix ix_seq pa pb hs, fun F Hs σ H ε Q' Q R L q k => ?_⟩
  refine ka F Hs σ H ε _ _ R L q fun v H1 Hs1 t1 ε1 e1 R1 p1 q1 => ?_
  refine kb F Hs1 σ H1 ε1 _ _ R1 (L.mono e1) q1 fun w H2 Hs2 t2 ε2 e2 R2 p2 q2 => ?_
  obtain ⟨d1, v1, q3⟩ := R2.res (p1.mono e2) q2
  obtain ⟨d2, v2, q4⟩ := R2.res p2 q3
  unfold oIx at q4
  split at q4
  · obtain ⟨d, hd, q5⟩ := opt_elim q4
    obtain ⟨a, vs, g1, h1, p1⟩ := v1.lst' R2.ex
    obtain ⟨z, hz, rz⟩ := p1.atI hd
    exact .inl ⟨a, vs, _, z, g1, v2.int', SqL.of h1, hz, k z H2 Hs2 (.d d) ε2 (e1.trans e2) R2 rz q5⟩
  · obtain ⟨d, hd, q5⟩ := opt_elim q4
    obtain ⟨a, vs, g1, h1, p1⟩ := v1.frl' R2.ex
    obtain ⟨z, hz, rz⟩ := p1.atI hd
    exact .inl ⟨a, vs, _, z, g1, v2.int', h1, hz, k z H2 Hs2 (.d d) ε2 (e1.trans e2) R2 rz q5⟩
  · obtain ⟨d, hd, q5⟩ := opt_elim q4
    obtain ⟨a, vs, g1, h1, p1⟩ := v1.tup' R2.ex
    obtain ⟨z, hz, rz⟩ := p1.atI hd
    exact .inr (.inl ⟨a, vs, _, z, g1, v2.int', h1, hz, k z H2 Hs2 (.d d) ε2 (e1.trans e2) R2 rz q5⟩)
  · obtain ⟨hl, q4⟩ := gd_elim q4
    obtain ⟨c, hc, q5⟩ := opt_elim q4
    exact .inr (.inr ⟨_, _, c, v1.str', v2.int', line_le hl, hc, k _ H2 Hs2 (.d _) ε2 (e1.trans e2) R2 (.str _) q5⟩)
  · exact q4.elim
/-- an optional part of a slice -/
abbrev PTO := PEnv → (Option Int → PEnv → Prop) → Prop
structure YO (X : Cx) (W : WX) (Ξ : Xi) (e : Option Expr) (r : PTO) : Prop where
  ex : ∃ t, PO X e t ∧ ∀ (F Hs : Hp) (σ : St) (H : Hp) (ε : PEnv) (Q' : Option Int → PEnv → Prop) (Q : Option Int → Hp → Prop), RelS X.K F Hs σ H ε → Lk X.K F Hs W Ξ → r ε Q' →
    (∀ o H' Hs' ε', Ex Hs Hs' → RelS X.K F Hs' σ H' ε' → Q' o ε' → Q o H') → t σ H Q
def yoNone : PTO := fun ε Q => Q none ε
def yoSome (r : PTE) : PTO := fun ε Q => r ε fun t ε' => res ε' t (asI fun i => Q (some i) ε')
theorem yo_none {W : WX} {Ξ : Xi} : YO X W Ξ none yoNone := ⟨tNoPart, po_none, fun F Hs σ H ε Q' Q R _ q k => k none H Hs ε (Evl.Ex.refl _) R q⟩
theorem yo_some {W : WX} {Ξ : Xi} {a : Expr} {r : PTE} (h : YE X W Ξ a r) : YO X W Ξ (some a) (yoSome r) := by
  obtain ⟨t, p, k⟩ := h.ex
  refine ⟨_, po_some p, fun F Hs σ H ε Q' Q R L q kk => k F Hs σ H ε _ _ R L q fun v H' Hs' t ε' e R' p' q' => ?_⟩
  obtain ⟨d, rv, q2⟩ := R'.res p' q'
  cases d with
  | int i => exact ⟨i, rv.int', kk (some i) H' Hs' ε' e R' q2⟩
  | _ => exact False.elim q2
def cutD {α : Type} (xs : List α) (lo hi : Option Int) : List α := (xs.drop (HT.sIx xs.length 0 lo)).take (HT.sIx xs.length xs.length hi - HT.sIx xs.length 0 lo)
theorem Reps.cut {K : PySem.W.Frag} {H : Hp} {vs : List V} {ds : List D} (r : Reps K H vs ds) (lo hi : Option Int) : Reps K H (cutV vs lo hi) (cutD ds lo hi) := by
  unfold cutV cutD
  rw [r.len]
  exact (r.drop _).take _
def asL (Q : List D → Prop) : D → Prop
  | .lst xs => Q xs
  | _ => False
theorem asL_elim {d : D} {Q : List D → Prop} (h : asL Q d) : ∃ i, d = .lst i ∧ Q i := by
  cases d with
  | lst i => exact ⟨i, rfl, h⟩
  | _ => exact h.elim
/-- xs[a:b], a list -/
def ynSl (ra : PTE) (rl rh : PTO) : PTN := fun ε Q => ra ε fun t ε1 => rl ε1 fun lo ε2 => rh ε2 fun hi ε3 => res ε3 t (asL fun xs => Q (cutD xs lo hi) ε3)
theorem yn_sl {W : WX} {Ξ : Xi} {a : Expr} {lo hi : Option Expr} {pos p2 : Pos} {ra : PTE} {rl rh : PTO} (ha : YE X W Ξ a ra) (hl : YO X W Ξ lo rl) (hh : YO X W Ξ hi rh) : YN X W Ξ (.Subscript a (.Slice lo hi none p2) pos) (ynSl ra rl rh) := by
  obtain ⟨ta, pa, ka⟩ := ha.ex
  obtain ⟨tl, pl, kl⟩ := hl.ex
  obtain ⟨th, ph, kh⟩ := hh.ex
  refine ⟨_, pe_slice sl_list pa pl ph, fun F Hs σ H ε Q' Q R L q k => ?_⟩
  refine ka F Hs σ H ε _ _ R L q fun v H1 Hs1 t1 ε1 e1 R1 p1 q1 => ?_
  refine kl F Hs1 σ H1 ε1 _ _ R1 (L.mono e1) q1 fun l H2 Hs2 ε2 e2 R2 q2 => ?_
  refine kh F Hs2 σ H2 ε2 _ _ R2 (L.mono (e1.trans e2)) q2 fun h H3 Hs3 ε3 e3 R3 q3 => ?_
  obtain ⟨d, v1, q4⟩ := R3.res (p1.mono (e2.trans e3)) q3
  obtain ⟨xs, rfl, q4⟩ := asL_elim q4
  obtain ⟨a, vs, g1, h1, p1⟩ := v1.lst' R3.ex
  refine ⟨a, vs, g1, SqL.of h1, fun p hp => ?_⟩
  obtain ⟨n1, n2, n3⟩ := R3.nobody hp
  exact k p _ Hs3 _ _ ε3 ((e1.trans e2).trans e3) (R3.lay hp) upd_same n1 n2 n3 (p1.cut l h) q4

/-! ### built-ins -/
def oLen : OPC
  | [.lst xs], Q => Q (.int (xs.length : Nat))
  | [.frl xs], Q => Q (.int (xs.length : Nat))
  | [.tup xs], Q => Q (.int (xs.length : Nat))
  | [.str x], Q => gd (x.length ≤ 16777216) (Q (.int (x.length : Nat)))
  | _, _ => False
theorem RepVs.one {K : PySem.W.Frag} {Hs H : Hp} {vs : List V} {d : D} (h : RepVs K Hs H vs [d]) : ∃ v, vs = [v] ∧ RepV K Hs H v d := by
  cases h with
  | cons h t => cases t; exact ⟨_, rfl, h⟩
theorem RepVs.two {K : PySem.W.Frag} {Hs H : Hp} {vs : List V} {d e : D} (h : RepVs K Hs H vs [d, e]) : ∃ v w, vs = [v, w] ∧ RepV K Hs H v d ∧ RepV K Hs H w e := by
  cases h with
  | cons h t =>
    obtain ⟨w, rfl, r⟩ := t.one
    exact ⟨_, _, rfl, h, r⟩
theorem cy_len : CallY X (.builtin "len") oLen := by
  refine ⟨_, call_len, fun F Hs σ H ε vs ds Q' Q R r q k => ?_⟩
  unfold oLen at q
  split at q
  · obtain ⟨v, rfl, rv⟩ := r.one
    obtain ⟨a, ws, g1, h1, p1⟩ := rv.lst' R.ex
    subst g1
    exact ⟨_, ws.length, rfl, .inl ⟨ws, SqL.of h1, rfl⟩, by rw [p1.len]; exact k _ H Hs _ (Evl.Ex.refl _) R (.int _) q⟩
  · obtain ⟨v, rfl, rv⟩ := r.one
    obtain ⟨a, ws, g1, h1, p1⟩ := rv.frl' R.ex
    subst g1
    exact ⟨_, ws.length, rfl, .inl ⟨ws, h1, rfl⟩, by rw [p1.len]; exact k _ H Hs _ (Evl.Ex.refl _) R (.int _) q⟩
  · obtain ⟨v, rfl, rv⟩ := r.one
    obtain ⟨a, ws, g1, h1, p1⟩ := rv.tup' R.ex
    subst g1
    exact ⟨_, ws.length, rfl, .inr ⟨ws, h1, rfl⟩, by rw [p1.len]; exact k _ H Hs _ (Evl.Ex.refl _) R (.int _) q⟩
  · obtain ⟨v, rfl, rv⟩ := r.one
    have q := gd_elim q
    exact ⟨_, _, rfl, by rw [rv.str']; exact ⟨line_le q.1, rfl⟩, k _ H Hs _ (Evl.Ex.refl _) R (.int _) q.2⟩
  · exact q.elim
def oInt : OPC
  | [.int i], Q => Q (.int i)
  | [.bl b], Q => Q (.int (if b = true then 1 else 0))
  | _, _ => False
theorem cy_int : CallY X (.type "int") oInt := by
  refine ⟨_, call_int1, fun F Hs σ H ε vs ds Q' Q R r q k => ?_⟩
  unfold oInt at q
  split at q
  · obtain ⟨v, rfl, rv⟩ := r.one
    exact .inl ⟨_, by rw [rv.int'], k _ H Hs _ (Evl.Ex.refl _) R (.int _) q⟩
  · obtain ⟨v, rfl, rv⟩ := r.one
    exact .inr ⟨_, by rw [rv.bl'], k _ H Hs _ (Evl.Ex.refl _) R (.int _) q⟩
  · exact q.elim
def oMax2 : OPC
  | [.int i, .int j], Q => Q (.int (if j > i then j else i))
  | _, _ => False
theorem cy_max2 (hc : X.calm = true) : CallY X (.builtin "max") oMax2 := by
  refine ⟨_, call_max2 hc, fun F Hs σ H ε vs ds Q' Q R r q k => ?_⟩
  unfold oMax2 at q
  split at q
  · obtain ⟨v, w, rfl, rv, rw'⟩ := r.two
    exact ⟨_, _, by rw [rv.int', rw'.int'], k _ H Hs _ (Evl.Ex.refl _) R (.int _) q⟩
  · exact q.elim
def oMin2 : OPC
  | [.int i, .int j], Q => Q (.int (if j < i then j else i))
  | _, _ => False
theorem cy_min2 (hc : X.calm = true) : CallY X (.builtin "min") oMin2 := by
  refine ⟨_, call_min2 hc, fun F Hs σ H ε vs ds Q' Q R r q k => ?_⟩
  unfold oMin2 at q
  split at q
  · obtain ⟨v, w, rfl, rv, rw'⟩ := r.two
    exact ⟨_, _, by rw [rv.int', rw'.int'], k _ H Hs _ (Evl.Ex.refl _) R (.int _) q⟩
  · exact q.elim
def toInts : List D → Option (List Int)
  | [] => some []
  | .int i :: ds => match toInts ds with
    | some is => some (i :: is)
    | none => none
  | _ :: _ => none
theorem toInts_map : ∀ ns : List Int, toInts (ns.map D.int) = some ns
  | [] => rfl
  | n :: ns => by
    show (match toInts (ns.map D.int) with
      | some is => some (n :: is)
      | none => none) = some (n :: ns)
    rw [toInts_map ns]
theorem toInts_elim : ∀ {ds : List D} {ns : List Int}, toInts ds = some ns → ds = ns.map D.int
  | [], ns, h => by cases h; rfl
  | d :: ds, ns, h => by
    unfold toInts at h
    split at h
    · rename_i e
      cases e
    · rename_i i es e
      injection e with e1 e2
      subst e1 e2
      split at h
      · rename_i is e
        cases h
        rw [toInts_elim e] <;> rfl
      · cases h
    · cases h
def toBls : List D → Option (List Bool)
  | [] => some []
  | .bl i :: ds => match toBls ds with
    | some is => some (i :: is)
    | none => none
  | _ :: _ => none
theorem toBls_map : ∀ ns : List Bool, toBls (ns.map D.bl) = some ns
  | [] => rfl
  | n :: ns => by
    show (match toBls (ns.map D.bl) with
      | some is => some (n :: is)
      | none => none) = some (n :: ns)
    rw [toBls_map ns]
theorem toBls_elim : ∀ {ds : List D} {ns : List Bool}, toBls ds = some ns → ds = ns.map D.bl
  | [], ns, h => by cases h; rfl
  | d :: ds, ns, h => by
    unfold toBls at h
    split at h
    · rename_i e
      cases e
    · rename_i i es e
      injection e with e1 e2
      subst e1 e2
      split at h
      · rename_i is e
        cases h
        rw [toBls_elim e] <;> rfl
      · cases h
    · cases h
/-- of a list of ints -/
def ints1 (f : List Int → Prop) : List D → Prop
  | [.lst ds] => opt (toInts ds) f
  | _ => False
theorem ints1_core {K : PySem.W.Frag} {F Hs H : Hp} {σ : St} {ε : PEnv} {vs : List V} {ds : List D} {f : List Int → Prop} (R : RelS K F Hs σ H ε) (r : RepVs K Hs H vs ds) (q : ints1 f ds) : ∃ a ns, vs = [.ref a] ∧ SqL K H a (ns.map V.int) ∧ f ns := by
  unfold ints1 at q
  split at q
  · obtain ⟨ns, e0, q2⟩ := opt_elim q
    have e0 := toInts_elim e0
    subst e0
    obtain ⟨v, rfl, rv⟩ := r.one
    obtain ⟨a, ws, g1, h1, p1⟩ := rv.lst' R.ex
    subst g1
    have e := p1.inv_ints
    subst e
    exact ⟨a, ns, rfl, SqL.of h1, q2⟩
  · exact q.elim
def oSum : OPC := fun ds Q => ints1 (fun ns => Q (.int ns.sum)) ds
theorem cy_sum (hc : X.calm = true) : CallY X (.builtin "sum") oSum := by
  refine ⟨_, cr_sum hc, fun F Hs σ H ε vs ds Q' Q R r q k => ?_⟩
  obtain ⟨a, ns, rfl, h1, q⟩ := ints1_core R r q
  exact ⟨a, ns, rfl, h1, k _ H Hs _ (Evl.Ex.refl _) R (.int _) q⟩
def oMaxL : OPC := fun ds Q => ints1 (fun ns => 0 < ns.length ∧ ∀ m, m ∈ ns → (∀ y, y ∈ ns → y ≤ m) → Q (.int m)) ds
theorem cy_maxL (hc : X.calm = true) : CallY X (.builtin "max") oMaxL := by
  refine ⟨_, cr_max hc, fun F Hs σ H ε vs ds Q' Q R r q k => ?_⟩
  obtain ⟨a, ns, rfl, h1, q0, q⟩ := ints1_core R r q
  exact ⟨a, ns, rfl, h1, q0, fun m h2 h3 => k _ H Hs _ (Evl.Ex.refl _) R (.int _) (q m h2 h3)⟩
def oMinL : OPC := fun ds Q => ints1 (fun ns => 0 < ns.length ∧ ∀ m, m ∈ ns → (∀ y, y ∈ ns → m ≤ y) → Q (.int m)) ds
theorem cy_minL (hc : X.calm = true) : CallY X (.builtin "min") oMinL := by
  refine ⟨_, cr_min hc, fun F Hs σ H ε vs ds Q' Q R r q k => ?_⟩
  obtain ⟨a, ns, rfl, h1, q0, q⟩ := ints1_core R r q
  exact ⟨a, ns, rfl, h1, q0, fun m h2 h3 => k _ H Hs _ (Evl.Ex.refl _) R (.int _) (q m h2 h3)⟩
def oSorted : List D → (List D → Prop) → Prop := fun ds Q => ints1 (fun ns => ∀ ns' : List Int, ns'.Perm ns → ns'.Pairwise (· ≤ ·) → Q (ns'.map D.int)) ds
theorem cn_sorted : CallN X (.builtin "sorted") oSorted := by
  refine ⟨_, cr_sortedI, fun F Hs σ H ε vs ds Q' Q R r q k => ?_⟩
  obtain ⟨a, ns, rfl, h1, q⟩ := ints1_core R r q
  exact ⟨a, ns, rfl, h1, fun ns' p h2 h3 hp => k p _ _ hp (Reps.ints ns') (q ns' h2 h3)⟩
def bls1 (f : List Bool → Prop) : List D → Prop
  | [.lst ds] => opt (toBls ds) f
  | _ => False
theorem bls1_core {K : PySem.W.Frag} {F Hs H : Hp} {σ : St} {ε : PEnv} {vs : List V} {ds : List D} {f : List Bool → Prop} (R : RelS K F Hs σ H ε) (r : RepVs K Hs H vs ds) (q : bls1 f ds) : ∃ a ns, vs = [.ref a] ∧ SqL K H a (ns.map V.bl) ∧ f ns := by
  unfold bls1 at q
  split at q
  · obtain ⟨ns, e0, q2⟩ := opt_elim q
    have e0 := toBls_elim e0
    subst e0
    obtain ⟨v, rfl, rv⟩ := r.one
    obtain ⟨a, ws, g1, h1, p1⟩ := rv.lst' R.ex
    subst g1
    have e := p1.inv_bls
    subst e
    exact ⟨a, ns, rfl, SqL.of h1, q2⟩
  · exact q.elim
def oAll : OPC := fun ds Q => bls1 (fun ns => Q (.bl (ns.all id))) ds
def oAny : OPC := fun ds Q => bls1 (fun ns => Q (.bl (ns.any id))) ds
theorem cy_all (hc : X.calm = true) : CallY X (.builtin "all") oAll := by
  refine ⟨_, cr_all hc, fun F Hs σ H ε vs ds Q' Q R r q k => ?_⟩
  obtain ⟨a, ns, rfl, h1, q⟩ := bls1_core R r q
  exact ⟨a, ns, rfl, h1, k _ H Hs _ (Evl.Ex.refl _) R (.bl _) q⟩
theorem cy_any (hc : X.calm = true) : CallY X (.builtin "any") oAny := by
  refine ⟨_, cr_any hc, fun F Hs σ H ε vs ds Q' Q R r q k => ?_⟩
  obtain ⟨a, ns, rfl, h1, q⟩ := bls1_core R r q
  exact ⟨a, ns, rfl, h1, k _ H Hs _ (Evl.Ex.refl _) R (.bl _) q⟩
def oListOf : List D → (List D → Prop) → Prop
  | [.lst ds], Q => Q ds
  | [.frl ds], Q => Q ds
  | [.tup ds], Q => Q ds
  | _, _ => False
theorem cn_list : CallN X (.type "list") oListOf := by
  refine ⟨_, call_list_of, fun F Hs σ H ε vs ds Q' Q R r q k => ?_⟩
  unfold oListOf at q
  split at q
  · obtain ⟨v, rfl, rv⟩ := r.one
    obtain ⟨a, ws, g1, h1, p1⟩ := rv.lst' R.ex
    subst g1
    exact ⟨a, ws, rfl, .inl (SqL.of h1), fun p hp => k p _ _ hp p1 q⟩
  · obtain ⟨v, rfl, rv⟩ := r.one
    obtain ⟨a, ws, g1, h1, p1⟩ := rv.frl' R.ex
    subst g1
    exact ⟨a, ws, rfl, .inl h1, fun p hp => k p _ _ hp p1 q⟩
  · obtain ⟨v, rfl, rv⟩ := r.one
    obtain ⟨a, ws, g1, h1, p1⟩ := rv.tup' R.ex
    subst g1
    exact ⟨a, ws, rfl, .inr h1, fun p hp => k p _ _ hp p1 q⟩
  · exact q.elim
def oTupleOf : OPC
  | [.lst ds], Q => Q (.tup ds)
  | [.tup ds], Q => Q (.tup ds)
  | _, _ => False
theorem cy_tuple : CallY X (.type "tuple") oTupleOf := by
  refine ⟨_, call_tuple_of, fun F Hs σ H ε vs ds Q' Q R r q k => ?_⟩
  unfold oTupleOf at q
  split at q
  · obtain ⟨v, rfl, rv⟩ := r.one
    obtain ⟨a, ws, g1, h1, p1⟩ := rv.lst' R.ex
    subst g1
    refine ⟨a, ws, rfl, .inl ⟨SqL.of h1, fun p hp => ?_⟩⟩
    obtain ⟨R3, e3⟩ := R.new (o := .tup ws) hp
    exact k _ _ _ _ e3 R3 (.tup (SqT.of upd_same) (p1.mono e3)) q
  · obtain ⟨v, rfl, rv⟩ := r.one
    cases rv with
    | sc rv =>
      cases rv with
      | tup h1 p1 => exact ⟨_, _, rfl, .inr ⟨Evl.ex_t R.ex h1, k _ H Hs _ (Evl.Ex.refl _) R (.tup h1 p1) q⟩⟩
  · exact q.elim
def oStr : OPC
  | [.int i], Q => gd (i.natAbs.log2 < 1920) (Q (.str (toString i)))
  | _, _ => False
theorem cy_str : CallY X (.type "str") oStr := by
  refine ⟨_, call_str_int, fun F Hs σ H ε vs ds Q' Q R r q k => ?_⟩
  unfold oStr at q
  split at q
  · obtain ⟨v, rfl, rv⟩ := r.one
    have q := gd_elim q
    exact ⟨_, by rw [rv.int'], q.1, k _ H Hs _ (Evl.Ex.refl _) R (.str _) q.2⟩
  · exact q.elim

theorem RepV.up {K : PySem.W.Frag} {Hs H H' : Hp} {v : V} {d : D} (h : RepV K Hs H v d) (e : Ex H H') : RepV K Hs H' v d := by
  cases h with
  | sc h => exact .sc h
  | lst h r => exact .lst (e _ _ h) r
  | dic h k r => exact .dic (e _ _ h) k r
/-! ### isinstance -/
inductive Ty where
  | int | bool | str | list | tuple | dict
def Ty.nm : Ty → String
  | .int => "int" | .bool => "bool" | .str => "str" | .list => "list" | .tuple => "tuple" | .dict => "dict"
def isTy : Ty → D → (Bool → Prop) → Prop
  | .int, .int _, Q => Q true
  | .int, .bl _, Q => Q true
  | .bool, .bl _, Q => Q true
  | .str, .str _, Q => Q true
  | .list, .lst _, Q => Q true
  | .list, .frl _, Q => Q true
  | .tuple, .tup _, Q => Q true
  | .dict, .dic _, Q => Q true
  | _, .vl _, _ => False
  | _, .pool, _ => False
  | _, _, Q => Q false
def tyD : D → Option String
  | .non => some "NoneType"
  | .bl _ => some "bool"
  | .int _ => some "int"
  | .str _ => some "str"
  | .lst _ => some "list"
  | .frl _ => some "list"
  | .tup _ => some "tuple"
  | .dic _ => some "dict"
  | _ => none
theorem tyX_tup {K : PySem.W.Frag} {H : Hp} {a : Addr} {xs : List V} (h : SqT K H a xs) : TyX K H (.ref a) (.type "tuple") := by
  rcases h with (h | ⟨o, h⟩) | ⟨o, its, n, h, hc, _⟩
  · exact .base (.tup h)
  · exact .fTuple h
  · exact .kTuple h hc
theorem tyX_lst {K : PySem.W.Frag} {H : Hp} {a : Addr} {xs : List V} (h : SqL K H a xs) : TyX K H (.ref a) (.type "list") := by
  rcases h with (h | ⟨o, h⟩) | ⟨o, its, n, h, hc, _⟩
  · exact .base (.lst h)
  · exact .base (.frz h)
  · exact .kList h hc
theorem tyD_rep {K : PySem.W.Frag} {Hs H : Hp} {v : V} {d : D} {n : String} (h : RepV K Hs H v d) (ex : Ex Hs H) (e : tyD d = some n) : TyX K H v (.type n) := by
  cases d with
  | non => cases e; rw [h.non']; exact .base .non
  | bl b => cases e; rw [h.bl']; exact .base (.bl _)
  | int b => cases e; rw [h.int']; exact .base (.int _)
  | str b => cases e; rw [h.str']; exact .base (.str _)
  | lst b =>
    cases e
    obtain ⟨a, ws, rfl, h1, p1⟩ := h.lst' ex
    exact .base (.lst h1)
  | frl b =>
    cases e
    obtain ⟨a, ws, rfl, h1, p1⟩ := h.frl' ex
    exact tyX_lst h1
  | tup b =>
    cases e
    obtain ⟨a, ws, rfl, h1, p1⟩ := h.tup' ex
    exact tyX_tup h1
  | dic b =>
    cases e
    obtain ⟨a, ws, rfl, h1, p1⟩ := h.dic' ex
    exact .base (.dK h1)
  | _ => cases e
theorem isTy_kit (t : Ty) (d : D) (Q : Bool → Prop) (q : isTy t d Q) : ∃ n b, tyD d = some n ∧ kitB n t.nm = some b ∧ Q b := by
  cases t <;> cases d <;> first | exact False.elim q | exact ⟨_, true, rfl, by decide +kernel, q⟩ | exact ⟨_, false, rfl, by decide +kernel, q⟩
def yIs (t : Ty) (r : PTE) : PTE := fun ε Q => r ε fun t1 ε1 => res ε1 t1 fun d => isTy t d fun b => Q (.d (.bl b)) ε1
section
variable {W : WX} {Ξ : Xi} {a : Expr} {pos : Pos}
theorem ye_isA (t : Ty) {r : PTE} {c : Expr} {p : Pos} (h : YE X W Ξ a r) (hc : PE X c (tC (.ty t.nm))) (hg : Gl X "isinstance") (hm : X.mg "isinstance" = none)
    (hst : starEach [a, c] X.env = (false, eval a X.env) :: starEach [c] X.env := by rfl) (hs2 : starEach [c] X.env = (false, eval c X.env) :: starEach [] X.env := by rfl) (hpl : (backTo pos (starEach [c] X.env)).any (·.1) = false := by rfl) :
    YE X W Ξ (.Call (.Name "isinstance" p) [a, c] [] pos) (yIs t r) := by
  obtain ⟨ta, pa, ka⟩ := h.ex
  refine ⟨_, pe_callB call_isi hg hm PyProof.Rows.boot_isinstance (pa_cons pa (pa_cons hc pa_nil hs2) hst) (by decide) (by decide) hst hpl, fun F Hs σ H ε Q' Q R L q k => ?_⟩
  refine ka F Hs σ H ε _ _ R L q fun v H1 Hs1 t1 ε1 e1 R1 p1 q1 => ?_
  obtain ⟨d, v1, q2⟩ := R1.res p1 q1
  obtain ⟨n, b, h1, h2, h3⟩ := isTy_kit t d _ q2
  exact ⟨v, .ty t.nm, .type n, .type t.nm, b, rfl, .ty _, tyD_rep v1 R1.ex h1, kit_ty h2, k (.bl b) H1 Hs1 (.d (.bl b)) ε1 e1 R1 (.bl b) h3⟩
def yIs2 (t u : Ty) (r : PTE) : PTE := fun ε Q => r ε fun t1 ε1 => res ε1 t1 fun d => isTy t d fun b => isTy u d fun c => Q (.d (.bl (b || c))) ε1
theorem ye_isA2 (t u : Ty) {r : PTE} {c c2 : Expr} {p p2 : Pos} {kk : Nat} (h : YE X W Ξ a r) (hc : PE X c (tC (.ty t.nm))) (hc2 : PE X c2 (tC (.ty u.nm))) (hg : Gl X "isinstance") (hm : X.mg "isinstance" = none)
    (hst : starEach [a, .Tuple [c, c2] kk p2] X.env = (false, eval a X.env) :: starEach [.Tuple [c, c2] kk p2] X.env := by rfl) (hs2 : starEach [.Tuple [c, c2] kk p2] X.env = (false, eval (.Tuple [c, c2] kk p2) X.env) :: starEach [] X.env := by rfl)
    (hs3 : starEach [c, c2] X.env = (false, eval c X.env) :: starEach [c2] X.env := by rfl) (hs4 : starEach [c2] X.env = (false, eval c2 X.env) :: starEach [] X.env := by rfl) (hpl : (backTo pos (starEach [.Tuple [c, c2] kk p2] X.env)).any (·.1) = false := by rfl) :
    YE X W Ξ (.Call (.Name "isinstance" p) [a, .Tuple [c, c2] kk p2] [] pos) (yIs2 t u r) := by
  obtain ⟨ta, pa, ka⟩ := h.ex
  refine ⟨_, pe_callB call_isiT hg hm PyProof.Rows.boot_isinstance (pa_cons pa (pa_cons (pe_tup (pa_cons hc (pa_cons hc2 pa_nil hs4) hs3)) pa_nil hs2) hst) (by decide) (by decide) hst hpl, fun F Hs σ H ε Q' Q R L q k => ?_⟩
  refine ka F Hs σ H ε _ _ R L q fun v H1 Hs1 t1 ε1 e1 R1 p1 q1 => ?_
  obtain ⟨d, v1, q2⟩ := R1.res p1 q1
  obtain ⟨n, b, h1, h2, q3⟩ := isTy_kit t d _ q2
  obtain ⟨n', b', h1', h2', h3⟩ := isTy_kit u d _ q3
  rw [h1] at h1'
  cases h1'
  refine ⟨by show 2 ≤ sizeLine; decide, fun tp htp => ?_⟩
  have R2 : RelS X.K F Hs1 σ (upd H1 tp (.tup [.ty t.nm, .ty u.nm])) ε1 := R1.lay htp
  have v2 : TyX X.K (upd H1 tp (.tup [.ty t.nm, .ty u.nm])) v (.type n) := tyD_rep (v1.up (Evl.Ex.new htp)) R2.ex h1
  exact ⟨v, tp, [.ty t.nm, .ty u.nm], .type n, [.type t.nm, .type u.nm], b || b', rfl, upd_same, .cons (.ty _) (.cons (.ty _) .nil), v2, kitAny_cons (kit_ty h2) (fun hb => kitAny_cons (kit_ty h2') (fun hb' => by rw [hb, hb']; exact kitAny_nil) (fun hb' => by rw [hb']; simp)) (fun hb => by rw [hb]; rfl), k (.bl (b || b')) _ Hs1 (.d (.bl (b || b'))) ε1 e1 R2 (.bl _) h3⟩
end
end
end PL

set_option Elab.async false
set_option linter.all false
set_option autoImplicit false
set_option maxRecDepth 100000
set_option maxHeartbeats 2000000
/-! Statements, loops, comprehensions, over plain data. -/
namespace PL
open PySem PySem.Spec PyProof.Rows L2
open Evl (Ex)

/-! ### readings that hang on the data alone -/
def cE (K : PySem.W.Frag) (W : WX) (Ξ : Xi) (r : PTE) : TE := fun σ H Q => ∃ (F Hs : Hp) (ε : PEnv) (Q' : T → PEnv → Prop), RelS K F Hs σ H ε ∧ Lk K F Hs W Ξ ∧ r ε Q' ∧ KE K F Hs σ Q' Q
def cT (K : PySem.W.Frag) (W : WX) (Ξ : Xi) (r : PTT) : TT := fun σ H Q => ∃ (F Hs : Hp) (ε : PEnv) (Q' : Bool → PEnv → Prop), RelS K F Hs σ H ε ∧ Lk K F Hs W Ξ ∧ r ε Q' ∧ KT K F Hs σ Q' Q
section
variable {X : Cx} {W : WX} {Ξ : Xi} {e : Expr}
theorem YE.canon {r : PTE} (h : YE X W Ξ e r) : PE X e (cE X.K W Ξ r) := by
  obtain ⟨t, p, k⟩ := h.ex
  exact ⟨fun pins s σ H Q I ⟨F, Hs, ε, Q', R, L, q, kk⟩ => p.run pins s σ H Q I (k F Hs σ H ε Q' Q R L q kk)⟩
theorem YT.canon {r : PTT} (h : YT X W Ξ e r) : PT X e (cT X.K W Ξ r) := by
  obtain ⟨t, p, k⟩ := h.ex
  exact ⟨fun pins s σ H Q I ⟨F, Hs, ε, Q', R, L, q, kk⟩ => p.run pins s σ H Q I (k F Hs σ H ε Q' Q R L q kk)⟩
end

/-! ### what another one owns, lent and taken back -/
section
variable {K : PySem.W.Frag} {F Hs H : Hp} {σ : St} {ε : PEnv}
def Nobody (σ : St) (ε : PEnv) (p : Addr) : Prop := ∀ (i : Nat) (s : S), ε[i]? = some (some s) → s.own = true → σ[i]? ≠ some (some (.ref p))
theorem RelS.lend (R : RelS K F Hs σ H ε) {p : Addr} {o : HO} (hH : H p = some o) (hp : Hs p = none) (hn : Nobody σ ε p) : RelS K (upd F p o) Hs σ H ε := by
  refine ⟨R.ex, fun a u q => ?_, R.len, fun j t q => ?_, R.ds⟩
  · by_cases ha : a = p
    · subst ha
      rw [upd_same] at q
      cases q
      exact ⟨hH, hp⟩
    · rw [upd_ne ha] at q
      exact R.fr a u q
  · have z := R.sl j t q
    cases t with
    | v d' => exact z
    | o ds =>
      obtain ⟨b, vs, h1, h2, h3, h4, h5⟩ := z
      have nb : b ≠ p := by
        intro z
        subst z
        exact hn j _ q rfl h1
      exact ⟨b, vs, h1, h2, by rw [upd_ne nb]; exact h3, h4, h5⟩
    | od ds =>
      obtain ⟨b, vs, h1, h2, h3, h4, h5, h6⟩ := z
      have nb : b ≠ p := by
        intro z
        subst z
        exact hn j _ q rfl h1
      exact ⟨b, vs, h1, h2, by rw [upd_ne nb]; exact h3, h4, h5, h6⟩
theorem RelS.back {p : Addr} {o : HO} (R : RelS K (upd F p o) Hs σ H ε) (hF : F p = none) : RelS K F Hs σ H ε ∧ H p = some o ∧ Hs p = none ∧ Nobody σ ε p := by
  have hp := R.fr p o upd_same
  have sub : ∀ b, upd F p o b = none → F b = none := fun b e => by
    by_cases hb : b = p
    · subst hb
      exact hF
    · rw [upd_ne hb] at e
      exact e
  refine ⟨⟨R.ex, fun a u q => ?_, R.len, fun j t q => ?_, R.ds⟩, hp.1, hp.2, fun j t q so z => ?_⟩
  · have ha : a ≠ p := by
      intro z
      subst z
      rw [hF] at q
      cases q
    exact R.fr a u (by rw [upd_ne ha]; exact q)
  · have z := R.sl j t q
    cases t with
    | v d' => exact z
    | o ds =>
      obtain ⟨b, vs, h1, h2, h3, h4, h5⟩ := z
      exact ⟨b, vs, h1, h2, sub _ h3, h4, h5⟩
    | od ds =>
      obtain ⟨b, vs, h1, h2, h3, h4, h5, h6⟩ := z
      exact ⟨b, vs, h1, h2, sub _ h3, h4, h5, h6⟩
  · have y := R.sl j t q
    cases t with
    | v d' => cases so
    | o ds =>
      obtain ⟨b, vs, h1, h2, h3, h4, h5⟩ := y
      rw [z] at h1
      cases h1
      rw [upd_same] at h3
      cases h3
    | od ds =>
      obtain ⟨b, vs, h1, h2, h3, h4, h5, h6⟩ := y
      rw [z] at h1
      cases h1
      rw [upd_same] at h3
      cases h3
/-- what is nobody's may change -/
theorem RelS.touch (R : RelS K F Hs σ H ε) {p : Addr} {o : HO} (hp : Hs p = none) (hF : F p = none) (hn : Nobody σ ε p) : RelS K F Hs σ (upd H p o) ε := by
  refine ⟨fun a u q => ?_, fun a u q => ?_, R.len, fun j t q => ?_, R.ds⟩
  · rw [upd_ne (ne_of_none q hp)]
    exact R.ex a u q
  · rw [upd_ne (ne_of_none q hF)]
    exact R.fr a u q
  · have z := R.sl j t q
    cases t with
    | v d' => exact z
    | o ds =>
      obtain ⟨b, vs, h1, h2, h3, h4, h5⟩ := z
      have nb : b ≠ p := by
        intro z
        subst z
        exact hn j _ q rfl h1
      exact ⟨b, vs, h1, h2, h3, by rw [upd_ne nb]; exact h4, h5⟩
    | od ds =>
      obtain ⟨b, vs, h1, h2, h3, h4, h5, h6⟩ := z
      have nb : b ≠ p := by
        intro z
        subst z
        exact hn j _ q rfl h1
      exact ⟨b, vs, h1, h2, h3, by rw [upd_ne nb]; exact h4, h5, h6⟩
end

/-! ### targets -/
abbrev PTG := D → PEnv → (PEnv → Prop) → Prop
def Only (sl : List Nat) (σ σ' : St) : Prop := ∀ vs : List Nat, (∀ i ∈ sl, i ∈ vs) → L2.wipe σ' vs = L2.wipe σ vs
theorem wipe_set {σ : St} {i : Nat} {x : Option V} : ∀ {vs : List Nat}, i ∈ vs → L2.wipe (σ.set i x) vs = L2.wipe σ vs
  | v :: vs, h => by
    unfold L2.wipe
    by_cases hv : i ∈ vs
    · rw [wipe_set hv]
    · have e : i = v := by
        rcases List.mem_cons.mp h with h | h
        · exact h
        · exact absurd h hv
      subst e
      have out : ∀ {ws : List Nat}, i ∉ ws → (L2.wipe (σ.set i x) ws) = (L2.wipe σ ws).set i x := by
        intro ws
        induction ws with
        | nil => intro _; rfl
        | cons w ws ih =>
          intro hw
          simp only [List.mem_cons, not_or] at hw
          unfold L2.wipe
          rw [ih hw.2, List.set_comm _ _ hw.1]
      rw [out hv, List.set_set]
theorem Only.refl {sl : List Nat} {σ : St} : Only sl σ σ := fun _ _ => rfl
theorem Only.set {i : Nat} {σ : St} {x : Option V} : Only [i] σ (σ.set i x) := fun vs h => wipe_set (h i (by simp))
def KG (K : PySem.W.Frag) (F Hs : Hp) (σ : St) (sl : List Nat) (Q' : PEnv → Prop) (Q : St → Hp → Prop) : Prop := ∀ (σ' : St) (H' Hs' : Hp) (ε' : PEnv), Ex Hs Hs' → Only sl σ σ' → RelS K F Hs' σ' H' ε' → Q' ε' → Q σ' H'
structure YG (X : Cx) (tg : Expr) (g : PTG) (sl : List Nat) : Prop where
  ex : ∃ t, PG X tg t ∧ ∀ (F Hs : Hp) (σ : St) (H : Hp) (ε : PEnv) (v : V) (d : D) (Q' : PEnv → Prop) (Q : St → Hp → Prop), RelS X.K F Hs σ H ε → Rep X.K Hs v d → g d ε Q' → KG X.K F Hs σ sl Q' Q → t v σ H Q
def cG (K : PySem.W.Frag) (g : PTG) (sl : List Nat) : TG := fun v σ H Q => ∃ (F Hs : Hp) (ε : PEnv) (d : D) (Q' : PEnv → Prop), RelS K F Hs σ H ε ∧ Rep K Hs v d ∧ g d ε Q' ∧ KG K F Hs σ sl Q' Q
theorem YG.canon {X : Cx} {tg : Expr} {g : PTG} {sl : List Nat} (h : YG X tg g sl) : PG X tg (cG X.K g sl) := by
  obtain ⟨t, p, k⟩ := h.ex
  exact ⟨fun pins s σ H v u Q I r ⟨F, Hs, ε, d, Q', R, rv, q, kk⟩ => p.run pins s σ H v u Q I r (k F Hs σ H ε v d Q' Q R rv q kk)⟩
def gN (i : Nat) : PTG := fun d ε Q => Q (ε.set i (some (.v d)))
section
variable {X : Cx} {pos : Pos}
theorem yg_name {x : Str} (i : Nat) (hN : X.N.Nodup) (hi : X.N[i]? = some x) (hx : Loc X.env.scope x) (hf : X.fn x = true ∨ X.env.scope.names.lookup x = some .local := by first | exact .inl rfl | exact .inr rfl | assumption) : YG X (.Name x pos) (gN i) [i] :=
  ⟨_, pg_name hN hi hx hf, fun F Hs σ H ε v d Q' Q R rv q k => k _ H Hs _ (Evl.Ex.refl _) Only.set (R.store rv i) q⟩
def gAll : List PTG → List D → PEnv → (PEnv → Prop) → Prop
  | [], [], ε, Q => Q ε
  | g :: gs, d :: ds, ε, Q => g d ε fun ε' => gAll gs ds ε' Q
  | _, _, _, _ => False
structure YGs (X : Cx) (tgs : List Expr) (gs : List PTG) (sl : List Nat) : Prop where
  ex : ∃ t, PGs X tgs t ∧ ∀ (F Hs : Hp) (σ : St) (H : Hp) (ε : PEnv) (vs : List V) (ds : List D) (Q' : PEnv → Prop) (Q : St → Hp → Prop), RelS X.K F Hs σ H ε → Reps X.K Hs vs ds → gAll gs ds ε Q' → KG X.K F Hs σ sl Q' Q → t vs σ H Q
theorem ygs_nil : YGs X [] [] [] := ⟨_, pgs_nil, fun F Hs σ H ε vs ds Q' Q R rv q k => by
  cases rv with
  | nil => exact ⟨rfl, k _ H Hs _ (Evl.Ex.refl _) Only.refl R q⟩
  | cons _ _ => exact q.elim⟩
theorem ygs_cons {e : Expr} {es : List Expr} {g : PTG} {gs : List PTG} {sl ss : List Nat} (h : YG X e g sl) (hs : YGs X es gs ss) (hst : (assignEach (e :: es) X.env).map (·.2) = assign e X.env :: (assignEach es X.env).map (·.2) := by rfl) : YGs X (e :: es) (g :: gs) (sl ++ ss) := by
  obtain ⟨t, p, k⟩ := h.ex
  obtain ⟨ts, ps, ks⟩ := hs.ex
  refine ⟨_, pgs_cons p ps hst, fun F Hs σ H ε vs ds Q' Q R rv q kk => ?_⟩
  cases rv with
  | nil => exact q.elim
  | cons r rs => exact ⟨_, _, rfl, k F Hs σ H ε _ _ _ _ R r q fun σ1 H1 Hs1 ε1 e1 o1 R1 q1 => ks F Hs1 σ1 H1 ε1 _ _ _ _ R1 (rs.mono e1) q1 fun σ2 H2 Hs2 ε2 e2 o2 R2 q2 => kk σ2 H2 Hs2 ε2 (e1.trans e2) (fun vs hv => (o2 vs fun i hi => hv i (List.mem_append_right _ hi)).trans (o1 vs fun i hi => hv i (List.mem_append_left _ hi))) R2 q2⟩
theorem gAll_len : ∀ {gs : List PTG} {ds : List D} {ε : PEnv} {Q : PEnv → Prop}, gAll gs ds ε Q → (∀ g ∈ gs, ∀ d ε Q, g d ε Q → ∃ ε', Q ε') → ds.length = gs.length
  | [], [], _, _, _, _ => rfl
  | g :: gs, d :: ds, ε, Q, h, m => by
    obtain ⟨ε', h2⟩ := m g (List.mem_cons_self ..) d ε _ h
    rw [List.length_cons, List.length_cons, gAll_len h2 fun g hg => m g (List.mem_cons_of_mem _ hg)]
/-- a, b, .. = a tuple -/
def gTupY (n : Nat) (gs : List PTG) : PTG := fun d ε Q => match d with
  | .tup ds => gd (ds.length = n) (gAll gs ds ε Q)
  | _ => False
theorem yg_tup {es : List Expr} {k : Nat} {gs : List PTG} {n : Nat} {sl : List Nat} (hc : X.calm = true) (h : YGs X es gs sl) (hn : (assignEach es X.env).length = n := by rfl) (hst : (assignEach es X.env).findIdx? (·.1) = none := by rfl) : YG X (.Tuple es k pos) (gTupY n gs) sl := by
  obtain ⟨ts, ps, ks⟩ := h.ex
  refine ⟨_, pg_tup hc ps hn hst, fun F Hs σ H ε v d Q' Q R rv q kk => ?_⟩
  unfold gTupY at q
  split at q
  · obtain ⟨hl, q⟩ := gd_elim q
    cases rv with
    | tup h1 r1 => exact ⟨_, _, rfl, Evl.ex_t R.ex h1, by rw [r1.len]; exact hl, ks F Hs σ H ε _ _ _ _ R r1 q kk⟩
  · exact q.elim
/-- a, b, .. = a list -/
def gLstY (n : Nat) (gs : List PTG) : PTG := fun d ε Q => match d with
  | .lst ds => gd (ds.length = n) (gAll gs ds ε Q)
  | _ => False
theorem yg_lst {es : List Expr} {k : Nat} {gs : List PTG} {n : Nat} {sl : List Nat} (hc : X.calm = true) (h : YGs X es gs sl) (hn : (assignEach es X.env).length = n := by rfl) (hst : (assignEach es X.env).findIdx? (·.1) = none := by rfl) : YG X (.Tuple es k pos) (gLstY n gs) sl := by
  obtain ⟨ts, ps, ks⟩ := h.ex
  refine ⟨_, pg_lst hc ps hn hst, fun F Hs σ H ε v d Q' Q R rv q kk => ?_⟩
  unfold gLstY at q
  split at q
  · obtain ⟨hl, q⟩ := gd_elim q
    cases rv with
    | lst h1 r1 => exact ⟨_, _, rfl, SqL.of (R.ex _ _ h1), by rw [r1.len]; exact hl, ks F Hs σ H ε _ _ _ _ R r1 q kk⟩
  · exact q.elim
end

/-! ### what is walked -/
structure Seqs (K : PySem.W.Frag) (Hs : Hp) (J : It) (ds : List D) : Prop where
  go : ∀ i H, Ex Hs H → i < ds.length → J.go i H
  stop : ∀ i H, Ex Hs H → ds.length ≤ i → J.stop i H
  yld : ∀ (i : Nat) (F Hc : Hp) (σ : St) (H : Hp) (ε : PEnv) (x : V) (H' : Hp), Ex Hs Hc → RelS K F Hc σ H ε → i < ds.length → J.yld i H x H' → ∃ Hc' d, Ex Hc Hc' ∧ RelS K F Hc' σ H' ε ∧ ds[i]? = some d ∧ Rep K Hc' x d
structure YI (X : Cx) (W : WX) (Ξ : Xi) (tg iter : Expr) (r : PTN) : Prop where
  ex : ∃ wi, PI X tg iter wi ∧ ∀ (F Hs : Hp) (σ : St) (H : Hp) (ε : PEnv) (Q' : List D → PEnv → Prop) (R' : It → Hp → Prop), RelS X.K F Hs σ H ε → Lk X.K F Hs W Ξ → r ε Q' →
    (∀ J H' Hs' ds ε', Ex Hs Hs' → RelS X.K F Hs' σ H' ε' → Seqs X.K Hs' J ds → Q' ds ε' → R' J H') → wi σ H R'
theorem seqs_list {K : PySem.W.Frag} {Hs : Hp} {a : Addr} {vs : List V} {ds : List D} (h : SqL K Hs a vs) (r : Reps K Hs vs ds) : Seqs K Hs (Itl K a) ds where
  go := fun i H e hi => by
    rw [← r.len] at hi
    exact ⟨vs, vs[i], Evl.ex_l e h, by simp [hi]⟩
  stop := fun i H e hi => ⟨vs, Evl.ex_l e h, by rw [r.len]; exact hi⟩
  yld := fun i F Hc σ H ε x H' e R hi y => by
    obtain ⟨rfl, y⟩ := y
    have e2 := y vs (Evl.ex_l (e.trans R.ex) h)
    obtain ⟨d, h1, h2⟩ := r.getV e2
    exact ⟨Hc, d, Evl.Ex.refl _, R, h1, h2.mono e⟩
theorem seqs_tup {K : PySem.W.Frag} {Hs : Hp} {a : Addr} {vs : List V} {ds : List D} (h : SqT K Hs a vs) (r : Reps K Hs vs ds) : Seqs K Hs (Itt K a) ds where
  go := fun i H e hi => by
    rw [← r.len] at hi
    exact ⟨vs, vs[i], Evl.ex_t e h, by simp [hi]⟩
  stop := fun i H e hi => ⟨vs, Evl.ex_t e h, by rw [r.len]; exact hi⟩
  yld := fun i F Hc σ H ε x H' e R hi y => by
    obtain ⟨rfl, y⟩ := y
    have e2 := y vs (Evl.ex_t (e.trans R.ex) h)
    obtain ⟨d, h1, h2⟩ := r.getV e2
    exact ⟨Hc, d, Evl.Ex.refl _, R, h1, h2.mono e⟩
def rangeD (lo : Int) (n : Nat) : List D := (List.range n).map fun (i : Nat) => D.int (lo + (i : Int))
theorem rangeD_len {lo : Int} {n : Nat} : (rangeD lo n).length = n := by unfold rangeD; rw [List.length_map, List.length_range]
theorem rangeD_get {lo : Int} {n i : Nat} {d : D} (h : (rangeD lo n)[i]? = some d) : i < n ∧ d = .int (lo + (i : Int)) := by
  unfold rangeD at h
  rw [List.getElem?_map] at h
  by_cases hi : i < n
  · rw [List.getElem?_range hi] at h
    exact ⟨hi, (Option.some.inj h).symm⟩
  · rw [List.getElem?_eq_none (by rw [List.length_range]; omega)] at h
    cases h
theorem seqs_range {K : PySem.W.Frag} {Hs : Hp} {lo : Int} {n : Nat} : Seqs K Hs (Itr lo n) (rangeD lo n) where
  go := fun i H e hi => by rw [rangeD_len] at hi; exact hi
  stop := fun i H e hi => by rw [rangeD_len] at hi; exact hi
  yld := fun i F Hc σ H ε x H' e R hi y => by
    rw [rangeD_len] at hi
    obtain ⟨rfl, rfl⟩ := y
    refine ⟨Hc, .int (lo + i), Evl.Ex.refl _, R, ?_, .int _⟩
    unfold rangeD
    rw [List.getElem?_map, List.getElem?_range hi] <;> rfl
section
variable {X : Cx} {W : WX} {Ξ : Xi} {tg a b : Expr} {pos p : Pos}
/-- for x in a list -/
def yiLst (r : PTE) : PTN := fun ε Q => r ε fun t ε' => out ε' t fun d ε2 => match d with
  | .lst ds => Q ds ε2
  | _ => False
theorem yi_lst {r : PTE} (h : YE X W Ξ a r) : YI X W Ξ tg a (yiLst r) := by
  obtain ⟨t, p, k⟩ := h.ex
  refine ⟨_, pi_list p, fun F Hs σ H ε Q' R' R L q kk => k F Hs σ H ε _ _ R L q fun v H1 Hs1 t ε1 e1 R1 p1 q1 => ?_⟩
  obtain ⟨d, ε2, Hs2, e2, R2, rv, q2⟩ := R1.out p1 q1
  split at q2
  · cases rv with
    | lst h1 r1 => exact ⟨_, rfl, ⟨_, SqL.of (R2.ex _ _ h1)⟩, kk _ H1 Hs2 _ ε2 (e1.trans e2) R2 (seqs_list (SqL.of h1) r1) q2⟩
  · exact q2.elim
/-- for x in a list that is only read -/
def yiFrl (r : PTE) : PTN := fun ε Q => r ε fun t ε' => out ε' t fun d ε2 => match d with
  | .frl ds => Q ds ε2
  | _ => False
theorem yi_frl {r : PTE} (h : YE X W Ξ a r) : YI X W Ξ tg a (yiFrl r) := by
  obtain ⟨t, p, k⟩ := h.ex
  refine ⟨_, pi_list p, fun F Hs σ H ε Q' R' R L q kk => k F Hs σ H ε _ _ R L q fun v H1 Hs1 t ε1 e1 R1 p1 q1 => ?_⟩
  obtain ⟨d, ε2, Hs2, e2, R2, rv, q2⟩ := R1.out p1 q1
  split at q2
  · cases rv with
    | frl h1 r1 => exact ⟨_, rfl, ⟨_, Evl.ex_l R2.ex h1.sq⟩, kk _ H1 Hs2 _ ε2 (e1.trans e2) R2 (seqs_list h1.sq r1) q2⟩
  · exact q2.elim
def yiTup (r : PTE) : PTN := fun ε Q => r ε fun t ε' => out ε' t fun d ε2 => match d with
  | .tup ds => Q ds ε2
  | _ => False
theorem yi_tup {r : PTE} (h : YE X W Ξ a r) : YI X W Ξ tg a (yiTup r) := by
  obtain ⟨t, p, k⟩ := h.ex
  refine ⟨_, pi_tup p, fun F Hs σ H ε Q' R' R L q kk => k F Hs σ H ε _ _ R L q fun v H1 Hs1 t ε1 e1 R1 p1 q1 => ?_⟩
  obtain ⟨d, ε2, Hs2, e2, R2, rv, q2⟩ := R1.out p1 q1
  split at q2
  · cases rv with
    | tup h1 r1 => exact ⟨_, rfl, ⟨_, Evl.ex_t R2.ex h1⟩, kk _ H1 Hs2 _ ε2 (e1.trans e2) R2 (seqs_tup h1 r1) q2⟩
  · exact q2.elim
def smallB : Int → Bool
  | .ofNat n => Nat.ble n 4611686018427387903
  | .negSucc n => Nat.ble n 4611686018427387903
theorem small_of {j : Int} (h : smallB j = true) : -4611686018427387904 ≤ j ∧ j < 4611686018427387904 := by
  cases j with
  | ofNat n =>
    have h := Nat.le_of_ble_eq_true h
    constructor
    · show _ ≤ ((n : Nat) : Int)
      omega
    · show ((n : Nat) : Int) < _
      omega
  | negSucc n =>
    have h := Nat.le_of_ble_eq_true h
    rw [Int.negSucc_eq]
    omega
theorem small_by {j : Int} (h0 : 0 ≤ j) (h : j < 4611686018427387904) : smallB j = true := by
  cases j with
  | ofNat n =>
    replace h : ((n : Nat) : Int) < _ := h
    exact Nat.ble_eq_true_of_le (by omega)
  | negSucc n =>
    rw [Int.negSucc_eq] at h0
    omega
def rg1 (Q : List D → Prop) : List D → Prop
  | [.int j] => gd (smallB j = true) (Q (rangeD 0 j.toNat))
  | _ => False
def rg2 (Q : List D → Prop) : List D → Prop
  | [.int i, .int j] => gd (smallB i = true ∧ smallB j = true) (Q (rangeD i (j - i).toNat))
  | _ => False
def yiRg1 (rs : PTL) : PTN := fun ε Q => rs ε fun ts ε1 => ress ε1 ts (rg1 fun ds => Q ds ε1)
def yiRg2 (rs : PTL) : PTN := fun ε Q => rs ε fun ts ε1 => ress ε1 ts (rg2 fun ds => Q ds ε1)
theorem yi_range1 {rs : PTL} (hg : Gl X "range") (hm : X.mg "range" = none) (h : YL X W Ξ [a] rs) (hs : starEach [a] X.env = [(false, eval a X.env)] := by rfl) : YI X W Ξ tg (.Call (.Name "range" p) [a] [] pos) (yiRg1 rs) := by
  obtain ⟨t, pa, k⟩ := h.ex
  refine ⟨_, pi_range1 hg hm pa hs, fun F Hs σ H ε Q' R' R L q kk => k F Hs σ H ε _ _ R L q fun vs H1 Hs1 ts ε1 e1 R1 p1 q1 => ?_⟩
  obtain ⟨ds, rv, q2⟩ := R1.ress p1 q1
  unfold rg1 at q2
  split at q2
  · obtain ⟨v, rfl, r⟩ := rv.one
    have q2 := gd_elim q2
    exact ⟨_, by rw [r.int'], (small_of q2.1).1, (small_of q2.1).2, kk _ H1 Hs1 _ ε1 e1 R1 seqs_range q2.2⟩
  · exact q2.elim
theorem yi_range2 {rs : PTL} (hg : Gl X "range") (hm : X.mg "range" = none) (h : YL X W Ξ [a, b] rs) (hs : starEach [a, b] X.env = [(false, eval a X.env), (false, eval b X.env)] := by rfl) (hs2 : starEach [b] X.env = [(false, eval b X.env)] := by rfl) : YI X W Ξ tg (.Call (.Name "range" p) [a, b] [] pos) (yiRg2 rs) := by
  obtain ⟨t, pa, k⟩ := h.ex
  refine ⟨_, pi_range2 hg hm pa hs hs2, fun F Hs σ H ε Q' R' R L q kk => k F Hs σ H ε _ _ R L q fun vs H1 Hs1 ts ε1 e1 R1 p1 q1 => ?_⟩
  obtain ⟨ds, rv, q2⟩ := R1.ress p1 q1
  unfold rg2 at q2
  split at q2
  · obtain ⟨v, w, rfl, r1, r2⟩ := rv.two
    have q2 := gd_elim q2
    exact ⟨_, _, by rw [r1.int', r2.int'], ⟨(small_of q2.1.1).1, (small_of q2.1.1).2, (small_of q2.1.2).1, (small_of q2.1.2).2⟩, kk _ H1 Hs1 _ ε1 e1 R1 seqs_range q2.2⟩
  · exact q2.elim

/-! ### comprehensions -/
def wipeE (ε : PEnv) : List Nat → PEnv
  | [] => ε
  | v :: vs => (wipeE ε vs).set v none
/-- nothing that is owned stands in these slots -/
def freeE (ε : PEnv) : List Nat → Prop
  | [] => True
  | v :: vs => (match ε[v]? with
    | some (some (.o _)) => False
    | some (some (.od _)) => False
    | _ => True) ∧ freeE ε vs
theorem wipeE_len (ε : PEnv) : ∀ vs : List Nat, (wipeE ε vs).length = ε.length
  | [] => rfl
  | v :: vs => by unfold wipeE; rw [List.length_set, wipeE_len ε vs]
theorem wipeE_some {ε : PEnv} {i : Nat} {s : S} : ∀ {vs : List Nat}, (wipeE ε vs)[i]? = some (some s) → ε[i]? = some (some s) ∧ i ∉ vs
  | [], h => ⟨h, by simp⟩
  | v :: vs, h => by
    unfold wipeE at h
    by_cases hi : v = i
    · subst hi
      by_cases hv : v < (wipeE ε vs).length
      · rw [List.getElem?_set_self hv] at h; cases h
      · rw [List.getElem?_eq_none (by simpa using hv)] at h; cases h
    · rw [List.getElem?_set_ne hi] at h
      obtain ⟨h1, h2⟩ := wipeE_some h
      exact ⟨h1, by simp only [List.mem_cons, not_or]; exact ⟨fun e => hi e.symm, h2⟩⟩
theorem wipeE_get {ε : PEnv} {i : Nat} : ∀ {vs : List Nat}, i ∉ vs → (wipeE ε vs)[i]? = ε[i]?
  | [], _ => rfl
  | v :: vs, h => by
    simp only [List.mem_cons, not_or] at h
    unfold wipeE
    rw [List.getElem?_set_ne (Ne.symm h.1), wipeE_get h.2]
theorem wipe_get {σ : St} {i : Nat} : ∀ {vs : List Nat}, i ∉ vs → (wipe σ vs)[i]? = σ[i]?
  | [], _ => rfl
  | v :: vs, h => by
    simp only [List.mem_cons, not_or] at h
    unfold wipe
    rw [List.getElem?_set_ne (Ne.symm h.1), wipe_get h.2]
theorem freeE_own {ε : PEnv} {i : Nat} {s : S} (e : ε[i]? = some (some s)) (so : s.own = true) : ∀ {vs : List Nat}, freeE ε vs → i ∉ vs
  | [], _ => by simp
  | v :: vs, h => by
    simp only [List.mem_cons, not_or]
    refine ⟨fun z => ?_, freeE_own e so h.2⟩
    subst z
    have h1 := h.1
    rw [e] at h1
    cases s <;> first | exact h1 | cases so
section
variable {K : PySem.W.Frag} {F Hs Hs' H H' : Hp} {σ : St} {ε : PEnv}
theorem SlotOk.at {i : Nat} {s : S} {σ' : St} (h : SlotOk K F Hs σ H i s) (e : σ'[i]? = σ[i]?) : SlotOk K F Hs σ' H i s := by
  cases s <;> (unfold SlotOk at h ⊢; dsimp only at h ⊢; rw [e]; exact h)
theorem RelS.wipe (R : RelS K F Hs σ H ε) (vs : List Nat) : RelS K F Hs (L2.wipe σ vs) H (wipeE ε vs) := by
  refine ⟨R.ex, R.fr, by rw [wipe_length, wipeE_len]; exact R.len, fun j t q => ?_, fun j k t u hn h1 h2 h3 h4 => ?_⟩
  · obtain ⟨h1, h2⟩ := wipeE_some q
    exact (R.sl j t h1).at (wipe_get h2)
  · obtain ⟨g1, n1⟩ := wipeE_some h1
    obtain ⟨g2, n2⟩ := wipeE_some h2
    rw [wipe_get n1, wipe_get n2]
    exact R.ds j k t u hn g1 g2 h3 h4
theorem RelS.unwipe {vs : List Nat} (R : RelS K F Hs σ H ε) (R' : RelS K F Hs' (L2.wipe σ vs) H' (wipeE ε vs)) (e : Ex Hs Hs') (hf : freeE ε vs) : RelS K F Hs' σ H' ε := by
  refine ⟨R'.ex, R'.fr, R.len, fun j t q => ?_, R.ds⟩
  by_cases hj : j ∈ vs
  · have z := R.sl j t q
    cases t with
    | v d =>
      obtain ⟨v, h1, h2⟩ := z
      exact ⟨v, h1, h2.mono e⟩
    | o ds => exact absurd hj (freeE_own q rfl hf)
    | od ds => exact absurd hj (freeE_own q rfl hf)
  · exact (R'.sl j t (by rw [wipeE_get hj]; exact q)).at (wipe_get hj).symm
end
/-- [e for target in iter if test] -/
def ynLc (ri : PTN) (g : PTG) (rt : PTT) (re : PTE) (vs : List Nat) : PTN := fun ε Q => ri ε fun ds ε1 => freeE ε1 vs ∧ ds.length ≤ 16777216 ∧ ∃ Wp : Nat → List D → Prop, Wp 0 [] ∧
  (∀ i d acc, i < ds.length → ds[i]? = some d → acc.length ≤ i → Wp i acc → g d (wipeE ε1 vs) fun ε2 => rt ε2 fun k ε3 => match k with
    | true => re ε3 fun t ε4 => out ε4 t fun y ε5 => wipeE ε5 vs = wipeE ε1 vs ∧ Wp (i + 1) (acc ++ [y])
    | false => wipeE ε3 vs = wipeE ε1 vs ∧ Wp (i + 1) acc) ∧ ∀ acc, acc.length ≤ ds.length → Wp ds.length acc → Q acc ε1
def yYes : PTT := fun ε Q => Q true ε
/-- a clause's tests -/
structure YTs (X : Cx) (W : WX) (Ξ : Xi) (es : List Expr) (r : PTT) : Prop where
  ex : ∃ t, PTs X es t ∧ ∀ (F Hs : Hp) (σ : St) (H : Hp) (ε : PEnv) (Q' : Bool → PEnv → Prop) (Q : Bool → Hp → Prop), RelS X.K F Hs σ H ε → Lk X.K F Hs W Ξ → r ε Q' → KT X.K F Hs σ Q' Q → t σ H Q
theorem yts_nil : YTs X W Ξ [] yYes := ⟨_, pts_nil, fun F Hs σ H ε Q' Q R _ q k => k true H Hs ε (Evl.Ex.refl _) R q⟩
theorem yts_one {r : PTT} (h : YT X W Ξ a r) : YTs X W Ξ [a] r := by
  obtain ⟨t, p, k⟩ := h.ex
  exact ⟨t, pts_one p, k⟩
theorem YTs.canon {es : List Expr} {r : PTT} (h : YTs X W Ξ es r) : PTs X es (cT X.K W Ξ r) := by
  obtain ⟨t, p, k⟩ := h.ex
  exact ⟨fun pins s σ H Q I ⟨F, Hs, ε, Q', R, L, q, kk⟩ => p.run pins s σ H Q I (k F Hs σ H ε Q' Q R L q kk)⟩


theorem lc_reads {X : Cx} {W : WX} {Ξ : Xi} {own : List (Str × Nat)} {ri : PTN} {g : PTG} {rt : PTT} {re : PTE} {sl : List Nat} {wi : TI}
    (ki : ∀ (F Hs : Hp) (σ : St) (H : Hp) (ε : PEnv) (Q' : List D → PEnv → Prop) (R' : It → Hp → Prop), RelS X.K F Hs σ H ε → Lk X.K F Hs W Ξ → ri ε Q' →
      (∀ J H' Hs' ds ε', Ex Hs Hs' → RelS X.K F Hs' σ H' ε' → Seqs X.K Hs' J ds → Q' ds ε' → R' J H') → wi σ H R')
    (hsl : (sl.all fun i => (own.map (·.2)).contains i) = true) (F Hs : Hp) (σ : St) (H : Hp) (ε : PEnv) (Q' : List D → PEnv → Prop) (Q : VK) (R : RelS X.K F Hs σ H ε) (L : Lk X.K F Hs W Ξ) (q : ynLc ri g rt re (own.map (·.2)) ε Q') (k : KN X.K F Hs σ Q' Q) :
    tLc wi (cG X.K g sl) (cT X.K W0 Ξ0 rt) (cE X.K W0 Ξ0 re) (own.map (·.2)) σ H Q := by
  have hsl' : ∀ i ∈ sl, i ∈ own.map (·.2) := fun i hi => by simpa using List.all_eq_true.mp hsl i hi
  generalize own.map (·.2) = ws at hsl' q ⊢
  refine ki F Hs σ H ε _ _ R L q fun J H1 Hs1 ds ε1 e1 R1 sq ⟨hf, hl, Wp, w0, wt, wd⟩ => fun Dl hD => ?_
  obtain ⟨n1, n2, n3⟩ := R1.nobody hD
  have R2 : RelS X.K F Hs1 σ (upd H1 Dl (.lst [])) ε1 := R1.lay hD
  have lt' : Lk X.K F Hs1 W Ξ := L.mono e1
  -- the turns
  refine ⟨fun i m H => m = ds.length - i ∧ i ≤ ds.length ∧ ∃ (Hc : Hp) (av : List V) (acc : List D), Ex Hs1 Hc ∧ RelS X.K (upd F Dl (.lst av)) Hc (L2.wipe σ ws) H (wipeE ε1 ws) ∧ Reps X.K Hc av acc ∧ acc.length ≤ i ∧ Wp i acc, ⟨ds.length, by simp, Nat.zero_le _, Hs1, [], [], Evl.Ex.refl _, ?_, .nil, Nat.le_refl _, w0⟩, ?_⟩
  · refine (R2.wipe ws).lend upd_same n1 fun i s e so z => ?_
    obtain ⟨g1, g2⟩ := wipeE_some e
    rw [wipe_get g2] at z
    exact n3 i s g1 so z
  · rintro i m H2 ⟨rfl, hil, Hc, av, acc, ec, Rc, ra, hla, wp⟩
    by_cases hlt : i < ds.length
    · refine .inr ⟨sq.go i H2 (ec.trans Rc.ex) hlt, fun H' => i + 1 ≤ ds.length ∧ ∃ (Hc : Hp) (av : List V) (acc : List D), Ex Hs1 Hc ∧ RelS X.K (upd F Dl (.lst av)) Hc (L2.wipe σ ws) H' (wipeE ε1 ws) ∧ Reps X.K Hc av acc ∧ acc.length ≤ i + 1 ∧ Wp (i + 1) acc,
        fun H' n' => ⟨ds.length - (i + 1), by omega, rfl, n'.1, n'.2⟩, fun x H3 y => ?_⟩
      obtain ⟨Hc3, d, e3, R3, hd, rx⟩ := sq.yld i _ Hc _ H2 _ x H3 ec Rc hlt y
      refine ⟨_, Hc3, _, d, _, R3, rx, wt i d acc hlt hd hla wp, fun σ4 H4 Hc4 ε4 e4 o4 R4 q4 => ?_⟩
      have w4 : L2.wipe σ4 ws = L2.wipe σ ws := by
        rw [o4 ws hsl']
        have idem : ∀ (vs us : List Nat), (∀ v ∈ vs, v ∈ us) → L2.wipe (L2.wipe σ us) vs = L2.wipe σ us := by
          intro vs
          induction vs with
          | nil => intro _ _; rfl
          | cons v vs ih =>
            intro us hv
            show (L2.wipe (L2.wipe σ us) vs).set v none = L2.wipe σ us
            rw [ih us fun w hw => hv w (List.mem_cons_of_mem _ hw)]
            have in_ : ∀ {us : List Nat}, v ∈ us → (L2.wipe σ us).set v none = L2.wipe σ us := by
              intro us
              induction us with
              | nil => intro h; cases h
              | cons u us ih =>
                intro h
                show ((L2.wipe σ us).set u none).set v none = (L2.wipe σ us).set u none
                by_cases e : u = v
                · subst e
                  rw [List.set_set]
                · rw [List.set_comm _ _ e, ih (by
                    rcases List.mem_cons.mp h with h | h
                    · exact absurd h.symm e
                    · exact h)]
            exact in_ (hv v (List.mem_cons_self ..))
        exact idem ws ws fun _ h => h
      refine ⟨w4, ⟨_, Hc4, ε4, _, R4, Lk.none, q4, fun b H5 Hc5 ε5 e5 R5 q5 => ?_⟩⟩
      cases b with
      | true =>
        show (if true = true then _ else _)
        rw [if_pos rfl]
        refine ⟨_, Hc5, ε5, _, R5, Lk.none, q5, fun z H6 Hc6 t6 ε6 e6 R6 p6 q6 => ?_⟩
        obtain ⟨yd, ε7, Hc7, e7, R7, ry, we, wp7⟩ := R6.out p6 q6
        have ex : Ex Hc Hc7 := (((e3.trans e4).trans e5).trans e6).trans e7
        have R8 := R7.wipe ws
        rw [w4, we] at R8
        obtain ⟨R9, b1, b2, b3⟩ := R8.back n2
        refine ⟨av, b1, by rw [ra.len]; exact line_lt (by omega), hlt, Hc7, av ++ [z], acc ++ [yd], ec.trans ex, ?_, (ra.mono ex).append (.cons ry .nil), by rw [List.length_append]; simp; omega, wp7⟩
        exact (R9.touch b2 n2 b3).lend upd_same b2 b3
      | false =>
        show (if false = true then _ else _)
        rw [if_neg Bool.false_ne_true]
        obtain ⟨we, wp7⟩ := q5
        have ex : Ex Hc Hc5 := (e3.trans e4).trans e5
        have R8 := R5.wipe ws
        rw [w4, we] at R8
        exact ⟨hlt, Hc5, av, acc, ec.trans ex, R8, ra.mono ex, by omega, wp7⟩
    · have ei : i = ds.length := by omega
      subst ei
      refine .inl ⟨sq.stop _ H2 (ec.trans Rc.ex) (Nat.le_refl _), ?_⟩
      obtain ⟨R9, b1, b2, b3⟩ := Rc.back n2
      have R10 := R2.unwipe R9 ec hf
      refine k Dl H2 Hc av acc ε1 (e1.trans ec) R10 b1 b2 n2 (fun i s e so z => ?_) ra (wd acc hla wp)
      have hi := freeE_own e so hf
      exact b3 i s (by rw [wipeE_get hi]; exact e) so (by rw [wipe_get hi]; exact z)
theorem yn_lc {tg iter elt : Expr} {ifs : List Expr} {scope : Scope} {own : List (Str × Nat)} {ri : PTN} {g : PTG} {rt : PTT} {re : PTE} {sl : List Nat} (hc : X.calm = true) (hN : X.N.Nodup) (hi : YI X W Ξ tg iter ri) (ok : BlkOk X.N X.env.scope scope own)
    (hg : ∀ (s : Shared) (H : Hp) (C : Addr) (cl : List (Str × Addr)) (fp : List Addr), YG (X.blk s H scope (compEnvC scope cl C X.env) fp) tg g sl)
    (ht : ∀ (s : Shared) (H : Hp) (C : Addr) (cl : List (Str × Addr)) (fp : List Addr), YTs (X.blk s H scope (compEnvC scope cl C X.env) fp) W0 Ξ0 ifs rt)
    (he : ∀ (s : Shared) (H : Hp) (C : Addr) (cl : List (Str × Addr)) (fp : List Addr), YE (X.blk s H scope (compEnvC scope cl C X.env) fp) W0 Ξ0 elt re)
    (hsl : (sl.all fun i => (own.map (·.2)).contains i) = true := by decide) (hs : ∀ x, foldedSetIterable iter X.env x = pure x := by intro _; rfl) :
    YN X W Ξ (.ListComp elt [⟨tg, iter, ifs, 0⟩] scope pos) (ynLc ri g rt re (own.map (·.2))) := by
  obtain ⟨wi, pi, ki⟩ := hi.ex
  exact ⟨_, pe_lc (g := cG X.K g sl) (tt := cT X.K W0 Ξ0 rt) (te := cE X.K W0 Ξ0 re) hc hN pi ok (fun s H C cl fp => (hg s H C cl fp).canon) (fun s H C cl fp => (ht s H C cl fp).canon) (fun s H C cl fp => (he s H C cl fp).canon) hs, lc_reads ki hsl⟩
end
end PL

set_option Elab.async false
set_option linter.all false
set_option autoImplicit false
set_option maxRecDepth 100000
set_option maxHeartbeats 2000000
/-! Statements and defs, over plain data. -/
namespace PL
open PySem PySem.Spec PyProof.Rows L2
open Evl (Ex)

structure PEnds where
  nx : PEnv → Prop
  rt : D → PEnv → Prop
  bk : PEnv → Prop := fun _ => False
  ct : PEnv → Prop := fun _ => False
abbrev PTS := PEnds → PEnv → Prop
structure EOk (K : PySem.W.Frag) (F Hs : Hp) (Δ : PEnds) (Dd : Ends) : Prop where
  nx : ∀ (σ' : St) (H' Hs' : Hp) (ε' : PEnv), Ex Hs Hs' → RelS K F Hs' σ' H' ε' → Δ.nx ε' → Dd.nx σ' H'
  rt : ∀ (v : V) (σ' : St) (H' Hs' : Hp) (d : D) (ε' : PEnv), Ex Hs Hs' → RelS K F Hs' σ' H' ε' → Rep K Hs' v d → Δ.rt d ε' → Dd.rt v H'
  bk : ∀ (σ' : St) (H' Hs' : Hp) (ε' : PEnv), Ex Hs Hs' → RelS K F Hs' σ' H' ε' → Δ.bk ε' → Dd.bk σ' H'
  ct : ∀ (σ' : St) (H' Hs' : Hp) (ε' : PEnv), Ex Hs Hs' → RelS K F Hs' σ' H' ε' → Δ.ct ε' → Dd.ct σ' H'
theorem EOk.mono {K : PySem.W.Frag} {F Hs Hs' : Hp} {Δ : PEnds} {Dd : Ends} (e : Ex Hs Hs') (h : EOk K F Hs Δ Dd) : EOk K F Hs' Δ Dd :=
  ⟨fun σ' H' Hs' ε' e2 => h.nx σ' H' Hs' ε' (e.trans e2), fun v σ' H' Hs' d ε' e2 => h.rt v σ' H' Hs' d ε' (e.trans e2), fun σ' H' Hs' ε' e2 => h.bk σ' H' Hs' ε' (e.trans e2), fun σ' H' Hs' ε' e2 => h.ct σ' H' Hs' ε' (e.trans e2)⟩
structure YS (X : Cx) (W : WX) (Ξ : Xi) (st : Stmt) (r : PTS) : Prop where
  ex : ∃ t, PS X st t ∧ ∀ (F Hs : Hp) (σ : St) (H : Hp) (ε : PEnv) (Δ : PEnds) (Dd : Ends), RelS X.K F Hs σ H ε → Lk X.K F Hs W Ξ → r Δ ε → EOk X.K F Hs Δ Dd → t Dd σ H
structure YSs (X : Cx) (W : WX) (Ξ : Xi) (st : List Stmt) (r : PTS) : Prop where
  ex : ∃ t, PSs X st t ∧ ∀ (F Hs : Hp) (σ : St) (H : Hp) (ε : PEnv) (Δ : PEnds) (Dd : Ends), RelS X.K F Hs σ H ε → Lk X.K F Hs W Ξ → r Δ ε → EOk X.K F Hs Δ Dd → t Dd σ H
def cSs (K : PySem.W.Frag) (W : WX) (Ξ : Xi) (r : PTS) : TS := fun Dd σ H => ∃ (F Hs : Hp) (ε : PEnv) (Δ : PEnds), RelS K F Hs σ H ε ∧ Lk K F Hs W Ξ ∧ r Δ ε ∧ EOk K F Hs Δ Dd
theorem YSs.canon {X : Cx} {W : WX} {Ξ : Xi} {st : List Stmt} {r : PTS} (h : YSs X W Ξ st r) : PSs X st (cSs X.K W Ξ r) := by
  obtain ⟨t, p, k⟩ := h.ex
  exact ⟨fun pins s σ H Dd I ⟨F, Hs, ε, Δ, R, L, q, kk⟩ => p.run pins s σ H Dd I (k F Hs σ H ε Δ Dd R L q kk)⟩

section
variable {X : Cx} {W : WX} {Ξ : Xi} {st : Stmt} {rest : List Stmt} {r u : PTS} {e : Expr} {pos : Pos}
def ysNext : PTS := fun Δ ε => Δ.nx ε
def ysSeq (r u : PTS) : PTS := fun Δ ε => r { Δ with nx := fun ε' => u Δ ε' } ε
theorem yss_nil : YSs X W Ξ [] ysNext := ⟨_, pss_nil, fun F Hs σ H ε Δ Dd R L q k => k.nx σ H Hs ε (Evl.Ex.refl _) R q⟩
theorem yss_cons (h1 : YS X W Ξ st r) (h2 : YSs X W Ξ rest u) : YSs X W Ξ (st :: rest) (ysSeq r u) := by
  obtain ⟨t, p, k⟩ := h1.ex
  obtain ⟨t2, p2, k2⟩ := h2.ex
  refine ⟨_, pss_cons p p2, fun F Hs σ H ε Δ Dd R L q kk => k F Hs σ H ε _ _ R L q ⟨fun σ' H' Hs' ε' e R' q' => ?_, kk.rt, kk.bk, kk.ct⟩⟩
  exact k2 F Hs' σ' H' ε' Δ Dd R' (L.mono e) q' (kk.mono e)
theorem yss_one (h1 : YS X W Ξ st r) : YSs X W Ξ [st] r := by
  obtain ⟨t, p, k⟩ := h1.ex
  exact ⟨_, pss_one p, k⟩
theorem ys_pass : YS X W Ξ (.Pass pos) ysNext := ⟨_, ps_pass, fun F Hs σ H ε Δ Dd R L q k => k.nx σ H Hs ε (Evl.Ex.refl _) R q⟩
def ysBrk : PTS := fun Δ ε => Δ.bk ε
def ysCnt : PTS := fun Δ ε => Δ.ct ε
theorem ys_break : YS X W Ξ (.Break pos) ysBrk := ⟨_, ps_break, fun F Hs σ H ε Δ Dd R L q k => k.bk σ H Hs ε (Evl.Ex.refl _) R q⟩
theorem ys_continue : YS X W Ξ (.Continue pos) ysCnt := ⟨_, ps_continue, fun F Hs σ H ε Δ Dd R L q k => k.ct σ H Hs ε (Evl.Ex.refl _) R q⟩
/-- x = e -/
def ysAsg (re : PTE) (i : Nat) : PTS := fun Δ ε => re ε fun t ε' => out ε' t fun d ε2 => Δ.nx (ε2.set i (some (.v d)))
theorem ys_set (i : Nat) {x : Str} {pos' : Pos} {re : PTE} (hN : X.N.Nodup) (hi : X.N[i]? = some x) (hx : Loc X.env.scope x) (he : YE X W Ξ e re) (hs : swapsWith e (some (.Name x pos')) pos.line X.env = pure false := by rfl)
    (hf : X.fn x = true ∨ X.env.scope.names.lookup x = some .local := by first | exact .inl rfl | exact .inr rfl | assumption) : YS X W Ξ (.Assign [.Name x pos'] e pos) (ysAsg re i) := by
  obtain ⟨t, p, k⟩ := he.ex
  refine ⟨_, ps_set hN hi hx p hs hf, fun F Hs σ H ε Δ Dd R L q kk => k F Hs σ H ε _ _ R L q fun v H1 Hs1 t1 ε1 e1 R1 p1 q1 => ?_⟩
  obtain ⟨d, ε2, Hs2, e2, R2, rv, q2⟩ := R1.out p1 q1
  exact kk.nx _ H1 Hs2 _ (e1.trans e2) (R2.store rv i) q2
/-- x = a new list, that x owns -/
def ysAsgO (rn : PTN) (i : Nat) : PTS := fun Δ ε => rn ε fun ds ε' => Δ.nx (ε'.set i (some (.o ds)))
theorem storeO_of {K : PySem.W.Frag} {F Hs H : Hp} {σ : St} {ε : PEnv} {p : Addr} {vs : List V} {ds : List D} (R : RelS K F Hs σ H ε) (i : Nat) (hH : H p = some (.lst vs)) (hp : Hs p = none) (hF : F p = none) (hn : Nobody σ ε p) (r : Reps K Hs vs ds) :
    RelS K F Hs (σ.set i (some (.ref p))) H (ε.set i (some (.o ds))) := by
  refine R.storeO rfl i hn fun hi => ?_
  exact ⟨p, vs, by rw [List.getElem?_set_self (by rw [R.len]; exact hi)], hp, hF, hH, r⟩
theorem ys_setO (i : Nat) {x : Str} {pos' : Pos} {rn : PTN} (hN : X.N.Nodup) (hi : X.N[i]? = some x) (hx : Loc X.env.scope x) (he : YN X W Ξ e rn) (hs : swapsWith e (some (.Name x pos')) pos.line X.env = pure false := by rfl)
    (hf : X.fn x = true ∨ X.env.scope.names.lookup x = some .local := by first | exact .inl rfl | exact .inr rfl | assumption) : YS X W Ξ (.Assign [.Name x pos'] e pos) (ysAsgO rn i) := by
  obtain ⟨t, p, k⟩ := he.ex
  refine ⟨_, ps_set hN hi hx p hs hf, fun F Hs σ H ε Δ Dd R L q kk => k F Hs σ H ε _ _ R L q fun p H' Hs' vs ds ε' e R' g1 g2 g3 g4 rs q' => ?_⟩
  exact kk.nx _ H' Hs' _ e (storeO_of R' i g1 g2 g3 g4 rs) q'
/-- x = [.. for ..] -/
theorem ys_setLc (i : Nat) {y : Str} {py spos : Pos} {tg iter elt : Expr} {ifs : List Expr} {scope : Scope} {own : List (Str × Nat)} {ri : PTN} {g : PTG} {rt : PTT} {re : PTE} {sl : List Nat} (o : Bool) (hc : X.calm = true) (hN : X.N.Nodup) (hy : X.N[i]? = some y) (hyl : X.env.scope.names.lookup y = some .local)
    (hsw : swapsWith (.ListComp elt [⟨tg, iter, ifs, 0⟩] scope pos) (some (.Name y py)) spos.line X.env = pure true) (hi : YI X W Ξ tg iter ri) (ok : BlkOk X.N X.env.scope scope own)
    (hg : ∀ (s : Shared) (H : Hp) (C : Addr) (cl : List (Str × Addr)) (fp : List Addr), YG (X.blk s H scope (compEnvC scope cl C X.env) fp) tg g sl)
    (ht : ∀ (s : Shared) (H : Hp) (C : Addr) (cl : List (Str × Addr)) (fp : List Addr), YTs (X.blk s H scope (compEnvC scope cl C X.env) fp) W0 Ξ0 ifs rt)
    (he : ∀ (s : Shared) (H : Hp) (C : Addr) (cl : List (Str × Addr)) (fp : List Addr), YE (X.blk s H scope (compEnvC scope cl C X.env) fp) W0 Ξ0 elt re)
    (hsl : (sl.all fun i => (own.map (·.2)).contains i) = true := by decide) (hs : ∀ x, foldedSetIterable iter X.env x = pure x := by intro _; rfl) :
    YS X W Ξ (.Assign [.Name y py] (.ListComp elt [⟨tg, iter, ifs, 0⟩] scope pos) spos) (match o with
      | true => ysAsgO (ynLc ri g rt re (own.map (·.2))) i
      | false => ysAsg (yNew (ynLc ri g rt re (own.map (·.2)))) i) := by
  obtain ⟨wi, pi, ki⟩ := hi.ex
  refine ⟨_, ps_setLc (g := cG X.K g sl) (tt := cT X.K W0 Ξ0 rt) (te := cE X.K W0 Ξ0 re) hc hN hy hyl hsw pi ok (fun s H C cl fp => (hg s H C cl fp).canon) (fun s H C cl fp => (ht s H C cl fp).canon) (fun s H C cl fp => (he s H C cl fp).canon) hs, fun F Hs σ H ε Δ Dd R L q kk => ?_⟩
  cases o with
  | true =>
    refine lc_reads ki hsl F Hs σ H ε _ _ R L q fun p H' Hs' vs ds ε' e R' g1 g2 g3 g4 rs q' => ?_
    exact kk.nx _ H' Hs' _ e (storeO_of R' i g1 g2 g3 g4 rs) q'
  | false =>
    refine lc_reads ki hsl F Hs σ H ε _ _ R L q fun p H' Hs' vs ds ε' e R' g1 g2 g3 g4 rs q' => ?_
    exact kk.nx _ H' _ _ (e.trans (ex_upd g2)) ((R'.adopt g1 g2 g3 g4).store (.lst upd_same (rs.mono (ex_upd g2))) i) q'
/-- targets = e -/
def ysAsgG (re : PTE) (g : PTG) : PTS := fun Δ ε => re ε fun t ε' => out ε' t fun d ε2 => g d ε2 Δ.nx
theorem ys_asg {tg : Expr} {re : PTE} {g : PTG} {sl : List Nat} (he : YE X W Ξ e re) (hg : YG X tg g sl) (hs : swapsWithSole [tg] e pos.line X.env = pure false := by rfl) (hw : swappedStores [tg] e X.env = pure none := by rfl)
    (h1 : (assignEach [tg] X.env).map (·.2) = [assign tg X.env] := by rfl) : YS X W Ξ (.Assign [tg] e pos) (ysAsgG re g) := by
  obtain ⟨t, p, k⟩ := he.ex
  obtain ⟨tg', pg, kg⟩ := hg.ex
  refine ⟨_, ps_asg p pg hs hw h1, fun F Hs σ H ε Δ Dd R L q kk => k F Hs σ H ε _ _ R L q fun v H1 Hs1 t1 ε1 e1 R1 p1 q1 => ?_⟩
  obtain ⟨d, ε2, Hs2, e2, R2, rv, q2⟩ := R1.out p1 q1
  exact kg F Hs2 σ H1 ε2 v d _ _ R2 rv q2 fun σ3 H3 Hs3 ε3 e3 _ R3 q3 => kk.nx σ3 H3 Hs3 ε3 ((e1.trans e2).trans e3) R3 q3
/-- x += e -/
def ysAug (f : Int → Int → Int) (i : Nat) (re : PTE) : PTS := fun Δ ε => match ε[i]? with
  | some (some (.v (.int a))) => re ε fun t ε' => res ε' t (asI fun b => Δ.nx (ε'.set i (some (.v (.int (f a b))))))
  | _ => False
theorem ys_aug (i : Nat) {x : Str} {pos' : Pos} {op : Operator} {f : Int → Int → Int} {re : PTE} (ho : PIp X op (ipI f)) (hN : X.N.Nodup) (hi : X.N[i]? = some x) (hx : Loc X.env.scope x) (he : YE X W Ξ e re) (hf : X.fn x = true ∨ X.env.scope.names.lookup x = some .local := by first | exact .inl rfl | exact .inr rfl | assumption) :
    YS X W Ξ (.AugAssign (.Name x pos') op e pos) (ysAug f i re) := by
  obtain ⟨t, p, k⟩ := he.ex
  refine ⟨_, ps_aug hN hi hx p ho hf, fun F Hs σ H ε Δ Dd R L q kk => ?_⟩
  unfold ysAug at q
  split at q
  · rename_i a ea
    obtain ⟨v, h1, h2⟩ := R.sl i _ ea
    cases h2
    refine ⟨_, h1, k F Hs σ H ε _ _ R L q fun v H1 Hs1 t1 ε1 e1 R1 p1 q1 => ?_⟩
    obtain ⟨d, rv, q2⟩ := R1.res p1 q1
    cases d with
    | int b => exact ⟨a, b, rfl, rv.int', kk.nx _ H1 Hs1 _ e1 (R1.store (.int _) i) q2⟩
    | _ => exact False.elim q2
  · exact q.elim
theorem ys_augAdd (i : Nat) {x : Str} {pos' : Pos} {re : PTE} (hN : X.N.Nodup) (hi : X.N[i]? = some x) (hx : Loc X.env.scope x) (he : YE X W Ξ e re) (hf : X.fn x = true ∨ X.env.scope.names.lookup x = some .local := by first | exact .inl rfl | exact .inr rfl | assumption) :
    YS X W Ξ (.AugAssign (.Name x pos') .Add e pos) (ysAug (fun a b => a + b) i re) := ys_aug i ip_add hN hi hx he hf
/-- e -/
def ysDrop (re : PTE) : PTS := fun Δ ε => re ε fun _ ε' => Δ.nx ε'
theorem ys_expr {re : PTE} (he : YE X W Ξ e re) (hs : swapsWith e none pos.line X.env = pure false := by rfl) : YS X W Ξ (.Expr e pos) (ysDrop re) := by
  obtain ⟨t, p, k⟩ := he.ex
  exact ⟨_, ps_expr p hs, fun F Hs σ H ε Δ Dd R L q kk => k F Hs σ H ε _ _ R L q fun v H1 Hs1 t1 ε1 e1 R1 p1 q1 => kk.nx σ H1 Hs1 ε1 e1 R1 q1⟩
def ysRet (re : PTE) : PTS := fun Δ ε => re ε fun t ε' => out ε' t fun d ε2 => Δ.rt d ε2
theorem ys_ret {re : PTE} (he : YE X W Ξ e re) : YS X W Ξ (.Return (some e) pos) (ysRet re) := by
  obtain ⟨t, p, k⟩ := he.ex
  refine ⟨_, ps_ret p, fun F Hs σ H ε Δ Dd R L q kk => k F Hs σ H ε _ _ R L q fun v H1 Hs1 t1 ε1 e1 R1 p1 q1 => ?_⟩
  obtain ⟨d, ε2, Hs2, e2, R2, rv, q2⟩ := R1.out p1 q1
  exact kk.rt v σ H1 Hs2 d ε2 (e1.trans e2) R2 rv q2
def ysIf (rt : PTT) (r u : PTS) : PTS := fun Δ ε => rt ε fun k ε' => match k with
  | true => r Δ ε'
  | false => u Δ ε'
theorem ys_if {c : Expr} {a b : List Stmt} {rt : PTT} (hc : YT X W Ξ c rt) (ha : YSs X W Ξ a r) (hb : YSs X W Ξ b u) : YS X W Ξ (.If c a b pos) (ysIf rt r u) := by
  obtain ⟨t, p, k⟩ := hc.ex
  obtain ⟨t1, p1, k1⟩ := ha.ex
  obtain ⟨t2, p2, k2⟩ := hb.ex
  refine ⟨_, ps_if p p1 p2, fun F Hs σ H ε Δ Dd R L q kk => k F Hs σ H ε _ _ R L q fun b H1 Hs1 ε1 e1 R1 q1 => ?_⟩
  cases b with
  | true =>
    show (if true = true then _ else _)
    rw [if_pos rfl]
    exact k1 F Hs1 σ H1 ε1 Δ Dd R1 (L.mono e1) q1 (kk.mono e1)
  | false =>
    show (if false = true then _ else _)
    rw [if_neg Bool.false_ne_true]
    exact k2 F Hs1 σ H1 ε1 Δ Dd R1 (L.mono e1) q1 (kk.mono e1)
/-- while, by an invariant and a measure -/
def ysWhile (rt : PTT) (rb : PTS) : PTS := fun Δ ε => ∃ Wp : Nat → PEnv → Prop, (∃ m, Wp m ε) ∧ ∀ m ε, Wp m ε → rt ε fun k ε' => match k with
  | true => rb { Δ with nx := fun ε2 => ∃ m', m' < m ∧ Wp m' ε2, ct := fun ε2 => ∃ m', m' < m ∧ Wp m' ε2, bk := Δ.nx } ε'
  | false => Δ.nx ε'
theorem ys_while {c : Expr} {body : List Stmt} {rt : PTT} {rb : PTS} (hp : PassesOwn (model X.prog X.w) X.A X.env X.xe) (hc : YT X W Ξ c rt) (hb : YSs X W Ξ body rb) : YS X W Ξ (.While c body [] pos) (ysWhile rt rb) := by
  obtain ⟨t, p, k⟩ := hc.ex
  obtain ⟨t1, p1, k1⟩ := hb.ex
  refine ⟨_, ps_while hp p p1, fun F Hs σ H ε Δ Dd R L q kk => ?_⟩
  obtain ⟨Wp, ⟨m0, w0⟩, turn⟩ := q
  refine ⟨fun m σ H => ∃ Hc ε, Ex Hs Hc ∧ RelS X.K F Hc σ H ε ∧ Wp m ε, ⟨m0, Hs, ε, Evl.Ex.refl _, R, w0⟩, ?_⟩
  rintro m σ1 H1 ⟨Hc, ε1, ec, R1, w1⟩
  refine k F Hc σ1 H1 ε1 _ _ R1 (L.mono ec) (turn m ε1 w1) fun b H2 Hs2 ε2 e2 R2 q2 => ?_
  cases b with
  | true =>
    show (if true = true then _ else _)
    rw [if_pos rfl]
    refine ⟨fun σ' H' => ∃ m', m' < m ∧ ∃ Hc ε, Ex Hs Hc ∧ RelS X.K F Hc σ' H' ε ∧ Wp m' ε, fun σ' H' ⟨m', hm, z⟩ => ⟨m', hm, z⟩, ?_⟩
    have again : ∀ (σ' : St) (H' Hs' : Hp) (ε' : PEnv), Ex Hs2 Hs' → RelS X.K F Hs' σ' H' ε' → (∃ m', m' < m ∧ Wp m' ε') → ∃ m', m' < m ∧ ∃ Hc ε, Ex Hs Hc ∧ RelS X.K F Hc σ' H' ε ∧ Wp m' ε :=
      fun σ' H' Hs' ε' e' R' ⟨m', hm, w'⟩ => ⟨m', hm, Hs', ε', (ec.trans e2).trans e', R', w'⟩
    exact k1 F Hs2 σ1 H2 ε2 _ _ R2 (L.mono (ec.trans e2)) q2 ⟨again, fun v σ' H' Hs' d ε' e' => kk.rt v σ' H' Hs' d ε' ((ec.trans e2).trans e'), fun σ' H' Hs' ε' e' => kk.nx σ' H' Hs' ε' ((ec.trans e2).trans e'), again⟩
  | false =>
    show (if false = true then _ else _)
    rw [if_neg Bool.false_ne_true]
    exact kk.nx σ1 H2 Hs2 ε2 (ec.trans e2) R2 q2
/-- for, by an invariant over the turn -/
def ysFor (ri : PTN) (g : PTG) (rb : PTS) : PTS := fun Δ ε => ri ε fun ds ε1 => ∃ Wp : Nat → PEnv → Prop, Wp 0 ε1 ∧
  (∀ i d ε, i < ds.length → ds[i]? = some d → Wp i ε → g d ε fun ε2 => rb { Δ with nx := Wp (i + 1), ct := Wp (i + 1), bk := Δ.nx } ε2) ∧ ∀ ε, Wp ds.length ε → Δ.nx ε
theorem ys_for {tg iter : Expr} {body : List Stmt} {ri : PTN} {g : PTG} {rb : PTS} {sl : List Nat} (hp : PassesOwn (model X.prog X.w) X.A X.env X.xe) (hc : X.calm = true) (hi : YI X W Ξ tg iter ri) (hg : YG X tg g sl) (hb : YSs X W Ξ body rb)
    (hs : ∀ x, foldedSetIterable iter X.env x = pure x := by intro _; rfl) : YS X W Ξ (.For tg iter body [] pos) (ysFor ri g rb) := by
  obtain ⟨wi, pi, ki⟩ := hi.ex
  obtain ⟨tg', pg, kg⟩ := hg.ex
  obtain ⟨t1, p1, k1⟩ := hb.ex
  refine ⟨_, ps_for hp hc pi pg p1 hs, fun F Hs σ H ε Δ Dd R L q kk => ?_⟩
  refine ki F Hs σ H ε _ _ R L q fun J H1 Hs1 ds ε1 e1 R1 sq ⟨Wp, w0, turn, done⟩ => ?_
  refine ⟨fun i m σ H => m = ds.length - i ∧ i ≤ ds.length ∧ ∃ Hc ε, Ex Hs1 Hc ∧ RelS X.K F Hc σ H ε ∧ Wp i ε, ⟨ds.length, by simp, Nat.zero_le _, Hs1, ε1, Evl.Ex.refl _, R1, w0⟩, ?_⟩
  rintro i m σ2 H2 ⟨rfl, hil, Hc, ε2, ec, R2, w2⟩
  by_cases hlt : i < ds.length
  · refine .inr ⟨sq.go i H2 (ec.trans R2.ex) hlt, fun σ' H' => ∃ Hc ε, Ex Hs1 Hc ∧ RelS X.K F Hc σ' H' ε ∧ Wp (i + 1) ε, fun σ' H' n' => ⟨ds.length - (i + 1), by omega, rfl, hlt, n'⟩, fun x H3 y => ?_⟩
    obtain ⟨Hc3, d, e3, R3, hd, rx⟩ := sq.yld i F Hc σ2 H2 ε2 x H3 ec R2 hlt y
    refine kg F Hc3 σ2 H3 ε2 x d _ _ R3 rx (turn i d ε2 hlt hd w2) fun σ4 H4 Hc4 ε4 e4 _ R4 q4 => ?_
    have ex4 : Ex Hs1 Hc4 := (ec.trans e3).trans e4
    have again : ∀ (σ' : St) (H' Hs' : Hp) (ε' : PEnv), Ex Hc4 Hs' → RelS X.K F Hs' σ' H' ε' → Wp (i + 1) ε' → ∃ Hc ε, Ex Hs1 Hc ∧ RelS X.K F Hc σ' H' ε ∧ Wp (i + 1) ε := fun σ' H' Hs' ε' e' R' w' => ⟨Hs', ε', ex4.trans e', R', w'⟩
    exact k1 F Hc4 σ4 H4 ε4 _ _ R4 (L.mono (e1.trans ex4)) q4 ⟨again, fun v σ' H' Hs' d ε' e' => kk.rt v σ' H' Hs' d ε' ((e1.trans ex4).trans e'), fun σ' H' Hs' ε' e' => kk.nx σ' H' Hs' ε' ((e1.trans ex4).trans e'), again⟩
  · have ei : i = ds.length := by omega
    subst ei
    exact .inl ⟨sq.stop _ H2 (ec.trans R2.ex) (Nat.le_refl _), kk.nx σ2 H2 Hc ε2 (e1.trans ec) R2 (done ε2 w2)⟩

/-! ### a name's own list: append, extend, pop, an item stored -/
def ysApp (i : Nat) (re : PTE) : PTS := fun Δ ε => match ε[i]? with
  | some (some (.o _)) => re ε fun t ε' => out ε' t fun d ε2 => match ε2[i]? with
    | some (some (.o ds)) => gd (ds.length < 16777216) (Δ.nx (ε2.set i (some (.o (ds ++ [d])))))
    | _ => False
  | _ => False
theorem ys_app (i : Nat) {x : Str} {px pa pc : Pos} {re : PTE} (hN : X.N[i]? = some x) (hv : Vis X.env.scope x) (he : YE X W Ξ e re) (hd : (x == ("__debug__" : Str)) = false := by decide) (hcd : (x == ("__classdict__" : Str)) = false := by decide)
    (hbase : attributeBase (.Name x px) "append" X.env (eval (.Name x px) X.env) = eval (.Name x px) X.env := by rfl)
    (hfew : ((backTo pc (starEach (e :: []) X.env)).all (fun x => !x.1) && (backToKw pc (keywordEach [] X.env)).all (fun x => x.1.isSome)
      && decide ((e :: []).length + ([] : List Keyword).length + (if ([] : List Keyword).isEmpty then 0 else 1) < 30)) = true := by rfl)
    (hline : (pa.endLine == pc.line) = true := by rfl) (hs : starEach (e :: []) X.env = (false, eval e X.env) :: starEach [] X.env := by rfl) (hplain : (backTo pc (starEach [] X.env)).any (·.1) = false := by rfl)
    (hsw : swapsWith (.Call (.Attribute (.Name x px) "append" pa) [e] [] pc) none pos.line X.env = pure false := by rfl) :
    YS X W Ξ (.Expr (.Call (.Attribute (.Name x px) "append" pa) [e] [] pc) pos) (ysApp i re) := by
  obtain ⟨t, p, k⟩ := he.ex
  refine ⟨_, ps_expr (pe_bm PySem.F.plainAttrs_list PySem.F.slot_list_append PySem.F.type_list_append mt_append (pe_var hN hv hd hcd) (pa_cons p pa_nil hs) hbase hfew hline hs hplain) hsw, fun F Hs σ H ε Δ Dd R L q kk => ?_⟩
  unfold ysApp at q
  split at q
  · rename_i ds0 e0
    obtain ⟨p0, vs0, h1, h2, h3, h4, h5⟩ := R.sl i _ e0
    refine ⟨_, h1, .inl ⟨rfl, _, SqL.of h4⟩, ?_⟩
    refine k F Hs σ H ε _ _ R L q fun v H1 Hs1 t1 ε1 e1 R1 p1 q1 => ?_
    obtain ⟨d, ε2, Hs2, e2, R2, rv, q2⟩ := R1.out p1 q1
    split at q2
    · rename_i ds ei
      obtain ⟨p3, vs, g1, g2, g3, g4, g5⟩ := R2.sl i _ ei
      rw [h1] at g1
      cases g1
      have q2 := gd_elim q2
      refine ⟨_, vs, v, rfl, rfl, g4, by rw [g5.len]; exact line_lt q2.1, ?_⟩
      refine kk.nx σ _ Hs2 _ (e1.trans e2) (R2.change (s' := .o (ds ++ [d])) ei rfl rfl h1 g2 g3 ⟨_, _, h1, g2, g3, upd_same, g5.append (.cons rv .nil)⟩) q2.2
    · exact q2.elim
  · exact q.elim
def ysExt (i : Nat) (re : PTE) : PTS := fun Δ ε => match ε[i]? with
  | some (some (.o _)) => re ε fun t ε' => out ε' t fun d ε2 => match d, ε2[i]? with
    | .lst es, some (some (.o ds)) => gd (ds.length + es.length ≤ 16777216) (Δ.nx (ε2.set i (some (.o (ds ++ es)))))
    | _, _ => False
  | _ => False
theorem ys_ext (i : Nat) {x : Str} {px pa pc : Pos} {re : PTE} (hN : X.N[i]? = some x) (hv : Vis X.env.scope x) (he : YE X W Ξ e re) (hd : (x == ("__debug__" : Str)) = false := by decide) (hcd : (x == ("__classdict__" : Str)) = false := by decide)
    (hbase : attributeBase (.Name x px) "extend" X.env (eval (.Name x px) X.env) = eval (.Name x px) X.env := by rfl)
    (hfew : ((backTo pc (starEach (e :: []) X.env)).all (fun x => !x.1) && (backToKw pc (keywordEach [] X.env)).all (fun x => x.1.isSome)
      && decide ((e :: []).length + ([] : List Keyword).length + (if ([] : List Keyword).isEmpty then 0 else 1) < 30)) = true := by rfl)
    (hline : (pa.endLine == pc.line) = true := by rfl) (hs : starEach (e :: []) X.env = (false, eval e X.env) :: starEach [] X.env := by rfl) (hplain : (backTo pc (starEach [] X.env)).any (·.1) = false := by rfl)
    (hsw : swapsWith (.Call (.Attribute (.Name x px) "extend" pa) [e] [] pc) none pos.line X.env = pure false := by rfl) :
    YS X W Ξ (.Expr (.Call (.Attribute (.Name x px) "extend" pa) [e] [] pc) pos) (ysExt i re) := by
  obtain ⟨t, p, k⟩ := he.ex
  refine ⟨_, ps_expr (pe_bm PySem.F.plainAttrs_list PySem.F.slot_list_extend PySem.F.type_list_extend mt_extend (pe_var hN hv hd hcd) (pa_cons p pa_nil hs) hbase hfew hline hs hplain) hsw, fun F Hs σ H ε Δ Dd R L q kk => ?_⟩
  unfold ysExt at q
  split at q
  · rename_i ds0 e0
    obtain ⟨p0, vs0, h1, h2, h3, h4, h5⟩ := R.sl i _ e0
    refine ⟨_, h1, .inl ⟨rfl, _, SqL.of h4⟩, ?_⟩
    refine k F Hs σ H ε _ _ R L q fun v H1 Hs1 t1 ε1 e1 R1 p1 q1 => ?_
    obtain ⟨d, ε2, Hs2, e2, R2, rv, q2⟩ := R1.out p1 q1
    split at q2
    · rename_i es ds ei
      obtain ⟨p3, vs, g1, g2, g3, g4, g5⟩ := R2.sl i _ ei
      rw [h1] at g1
      cases g1
      have q2 := gd_elim q2
      cases rv with
      | lst hb rb =>
        refine ⟨_, _, vs, _, rfl, rfl, g4, R2.ex _ _ hb, by rw [g5.len, rb.len]; exact line_le q2.1, ?_⟩
        exact kk.nx σ _ Hs2 _ (e1.trans e2) (R2.change (s' := .o (ds ++ es)) ei rfl rfl h1 g2 g3 ⟨_, _, h1, g2, g3, upd_same, g5.append rb⟩) q2.2
    · exact q2.elim
  · exact q.elim
def unsnoc : List D → Option (List D × D)
  | [] => none
  | [d] => some ([], d)
  | d :: e :: ds => match unsnoc (e :: ds) with
    | some (es, x) => some (d :: es, x)
    | none => none
theorem unsnoc_snoc : ∀ (es : List D) (d : D), unsnoc (es ++ [d]) = some (es, d)
  | [], d => rfl
  | [e], d => rfl
  | e :: e2 :: es, d => by
    show (match unsnoc ((e2 :: es) ++ [d]) with
      | some (es, x) => some (e :: es, x)
      | none => none) = some (e :: e2 :: es, d)
    rw [unsnoc_snoc (e2 :: es) d]
theorem unsnoc_elim : ∀ {ds es : List D} {d : D}, unsnoc ds = some (es, d) → ds = es ++ [d]
  | [], _, _, h => by cases h
  | [x], _, _, h => by cases h; rfl
  | x :: y :: ds, es, d, h => by
    have h2 : (match unsnoc (y :: ds) with
      | some (es, z) => some (x :: es, z)
      | none => none) = some (es, d) := h
    split at h2
    · rename_i e
      cases h2
      rw [unsnoc_elim e] <;> rfl
    · cases h2
def yPop (i : Nat) : PTE := fun ε Q => match ε[i]? with
  | some (some (.o ds)) => opt (unsnoc ds) fun p => Q (.d p.2) (ε.set i (some (.o p.1)))
  | _ => False
theorem Reps.last {K : PySem.W.Frag} {H : Hp} {vs : List V} {es : List D} {d : D} (r : Reps K H vs (es ++ [d])) : ∃ v, vs[vs.length - 1]? = some v ∧ Rep K H v d ∧ Reps K H vs.dropLast es := by
  have hl := r.len
  rw [List.length_append] at hl
  have h1 : (es ++ [d])[vs.length - 1]? = some d := by
    have e : vs.length - 1 = es.length := by
      have : ([d] : List D).length = 1 := rfl
      omega
    rw [e]
    simp
  obtain ⟨v, h2, h3⟩ := r.get h1
  refine ⟨v, h2, h3, ?_⟩
  rw [List.dropLast_eq_take]
  have h4 := r.take (vs.length - 1)
  have e : (es ++ [d]).take (vs.length - 1) = es := by
    have e : vs.length - 1 = es.length := by
      have : ([d] : List D).length = 1 := rfl
      omega
    rw [e]
    simp
  rw [e] at h4
  exact h4
theorem ye_pop (i : Nat) {x : Str} {px pa pc : Pos} (hN : X.N[i]? = some x) (hv : Vis X.env.scope x) (hd : (x == ("__debug__" : Str)) = false := by decide) (hcd : (x == ("__classdict__" : Str)) = false := by decide)
    (hbase : attributeBase (.Name x px) "pop" X.env (eval (.Name x px) X.env) = eval (.Name x px) X.env := by rfl) (hline : (pa.endLine == pc.line) = true := by rfl) :
    YE X W Ξ (.Call (.Attribute (.Name x px) "pop" pa) [] [] pc) (yPop i) := by
  refine ⟨_, pe_bm0 PySem.F.plainAttrs_list PySem.F.slot_list_pop PySem.F.type_list_pop mt_pop (pe_var hN hv hd hcd) hbase hline, fun F Hs σ H ε Q' Q R L q k => ?_⟩
  unfold yPop at q
  split at q
  · rename_i ds e0
    obtain ⟨⟨es, d⟩, eu, q2⟩ := opt_elim q
    have eu := unsnoc_elim eu
    subst eu
    obtain ⟨p0, vs, h1, h2, h3, h4, h5⟩ := R.sl i _ e0
    obtain ⟨v, l1, l2, l3⟩ := h5.last
    refine ⟨_, h1, .inl ⟨rfl, _, SqL.of h4⟩, _, vs, v, rfl, rfl, h4, l1, ?_⟩
    exact k v _ Hs (.d d) _ (Evl.Ex.refl _) (R.change (s' := .o es) e0 rfl rfl h1 h2 h3 ⟨_, _, h1, h2, h3, upd_same, l3⟩) l2 q2
  · exact q.elim
def ysSetIx (i : Nat) (rj re : PTE) : PTS := fun Δ ε => re ε fun t ε1 => out ε1 t fun d ε2 => (match ε2[i]? with
  | some (some (.o _)) => rj ε2 fun t2 ε3 => res ε3 t2 (asI fun j => match ε3[i]? with
    | some (some (.o ds)) => opt (ixN ds.length j) fun n => Δ.nx (ε3.set i (some (.o (ds.set n d))))
    | _ => False)
  | _ => False)
theorem ys_setIx (i : Nat) {x : Str} {px ps : Pos} {j : Expr} {rj re : PTE} (hN : X.N[i]? = some x) (hv : Vis X.env.scope x) (hj : YE X W Ξ j rj) (he : YE X W Ξ e re) (hd : (x == ("__debug__" : Str)) = false := by decide) (hcd : (x == ("__classdict__" : Str)) = false := by decide)
    (ha : ∀ v, assign (.Subscript (.Name x px) j ps) X.env v = (do
      let ov ← holding [v] (eval (.Name x px) X.env)
      let iv ← holding [v, ov] (eval j X.env)
      standAt ps
      holding [v, ov, iv] (setItem ov iv v)
      release [v, ov, iv] []) := by intro _; rfl) (hs : swapsWithSole [.Subscript (.Name x px) j ps] e pos.line X.env = pure false := by rfl) (hw : swappedStores [.Subscript (.Name x px) j ps] e X.env = pure none := by rfl)
    (h1 : (assignEach [.Subscript (.Name x px) j ps] X.env).map (·.2) = [assign (.Subscript (.Name x px) j ps) X.env] := by rfl) :
    YS X W Ξ (.Assign [.Subscript (.Name x px) j ps] e pos) (ysSetIx i rj re) := by
  obtain ⟨t, p, k⟩ := he.ex
  obtain ⟨t2, p2, k2⟩ := hj.ex
  refine ⟨_, ps_asg p (pg_sub (pe_var hN hv hd hcd) p2 set_list ha) hs hw h1, fun F Hs σ H ε Δ Dd R L q kk => ?_⟩
  refine k F Hs σ H ε _ _ R L q fun v H1 Hs1 t1 ε1 e1 R1 p1 q1 => ?_
  obtain ⟨d, ε2, Hs2, e2, R2, rv, q2⟩ := R1.out p1 q1
  split at q2
  · rename_i ds0 e0
    obtain ⟨p0, vs0, g1, _⟩ := R2.sl i _ e0
    refine ⟨_, g1, ?_⟩
    refine k2 F Hs2 σ H1 ε2 _ _ R2 (L.mono (e1.trans e2)) q2 fun w H3 Hs3 t3 ε3 e3 R3 p3 q3 => ?_
    obtain ⟨dj, rj, q4⟩ := R3.res p3 q3
    cases dj with
    | int jj =>
      have q4 : (match ε3[i]? with
        | some (some (.o ds)) => opt (ixN ds.length jj) fun n => Δ.nx (ε3.set i (some (.o (ds.set n d))))
        | _ => False) := q4
      split at q4
      · rename_i ds ei
        obtain ⟨n, hn, q5⟩ := opt_elim q4
        obtain ⟨p3, vs, f1, f2, f3, f4, f5⟩ := R3.sl i _ ei
        rw [g1] at f1
        cases f1
        refine ⟨_, vs, jj, n, rfl, rj.int', f4, by rw [f5.len]; exact hn, ?_⟩
        exact kk.nx σ _ Hs3 _ ((e1.trans e2).trans e3) (R3.change (s' := .o (ds.set n d)) ei rfl rfl g1 f2 f3 ⟨_, _, g1, f2, f3, upd_same, f5.set (rv.mono e3) n⟩) q5
      · exact q4.elim
    | _ => exact False.elim q4
  · exact q2.elim

/-! ### raise -/
def ysRaise (c : Nat) (Ξ : Xi) : PTS := fun _ ε => Ξ c ε
theorem pmk_own0 {C : Addr} {bmB : List Value} {B newId initId : String} {x : Str} {p : Pos} (F : ExcBaseFacts B newId initId bmB) (q : PySem.W.excIn X.K C bmB newId = true) (gC : X.mg x = some (.ref C))
    (kC : PySem.W.keepIn X.K (.ref C) = true) (r : Raises X (.ref C)) (hg : Gl X x) (hdb : (x == ("__debug__" : Str)) = false := by decide) : PMk X (.Call (.Name x p) [] [] pos) (fun _ H Q => Q (.ref C) none H) := by
  intro pins s σ H Q I h
  refine wpAny_Call_Name_kw (ld_glob I hg gC ?_ hdb)
  refine PySem.W.callWith_K0 I.kIn kC ?_
  obtain ⟨bm, N, nm, qn, bs, hdct, sn, sub, ab, col, dd, k0, k1, k2, k3, k5, mN, hC, hN, hni, T⟩ := exc_obj I.kIn q
  refine wpAny_call_exc_subT F T hC hN hni (fun h' e hm => ?_) (by decide)
  exact mk_of I hm r h (I.hok.gone hm.new)
theorem ys_raise (c : Nat) {bmB : List Value} {B newId initId : String} {p p2 : Pos} (hc : X.calm = true) (tk : Takes X W) (F : ExcBaseFacts B newId initId bmB) (q : PySem.W.excIn X.K (exA X.K c) bmB newId = true) (gC : X.mg (exS c) = some (.ref (exA X.K c)))
    (kC : PySem.W.keepIn X.K (.ref (exA X.K c)) = true) (r : Raises X (.ref (exA X.K c))) {x : Str} (hx : exS c = x := by rfl) (hg : Gl X x) (hdb : (x == ("__debug__" : Str)) = false := by decide) : YS X W Ξ (.Raise (some (.Call (.Name x p) [] [] p2)) none pos) (ysRaise c Ξ) := by
  subst hx
  exact
  ⟨_, ps_raise hc tk (pmk_own0 F q gC kC r hg hdb), fun F Hs σ H ε Δ Dd R L q k => L c σ H Hs ε q (Evl.Ex.refl _) R⟩
end

/-! ### a def -/
def startE (N : List Str) (ds : List D) : PEnv := ds.map (fun d => some (.v d)) ++ List.replicate (N.length - ds.length) none
def foreign (Hs H : Hp) : Hp := fun p => match Hs p with
  | none => H p
  | some _ => none
theorem foreign_some {Hs H : Hp} {p : Addr} {o : HO} (h : foreign Hs H p = some o) : H p = some o ∧ Hs p = none := by
  unfold foreign at h
  cases e : Hs p with
  | none => rw [e] at h; exact ⟨h, rfl⟩
  | some u => rw [e] at h; cases h
theorem foreign_of {Hs H : Hp} {p : Addr} {o : HO} (h : H p = some o) (hn : Hs p = none) : foreign Hs H p = some o := by
  unfold foreign
  rw [hn]
  exact h
theorem RelS.keeps {K : PySem.W.Frag} {Hs H Hs' H' : Hp} {σ' : St} {ε' : PEnv} (R : RelS K (foreign Hs H) Hs' σ' H' ε') (e : Ex Hs Hs') : Keeps Hs H Hs' H' := ⟨e, R.ex, fun p o h hn => R.fr p o (foreign_of h hn)⟩
theorem start_get {N : List Str} {ds : List D} {i : Nat} {s : S} (h : (startE N ds)[i]? = some (some s)) : ∃ d, ds[i]? = some d ∧ s = .v d := by
  unfold startE at h
  by_cases hi : i < ds.length
  · rw [List.getElem?_append_left (by rw [List.length_map]; exact hi), List.getElem?_map] at h
    cases e : ds[i]? with
    | none => rw [e] at h; cases h
    | some d =>
      rw [e] at h
      refine ⟨d, rfl, ?_⟩
      exact (Option.some.inj (Option.some.inj h)).symm
  · rw [List.getElem?_append_right (by rw [List.length_map]; omega), List.getElem?_replicate] at h
    split at h <;> cases h
theorem start_at {N : List Str} {vs : List V} {i : Nat} {v : V} (h : vs[i]? = some v) : (L2.start N vs)[i]? = some (some v) := by
  unfold L2.start
  have hi : i < vs.length := (List.getElem?_eq_some_iff.mp h).1
  rw [List.getElem?_append_left (by rw [List.length_map]; exact hi), List.getElem?_map, h] <;> rfl
theorem rel_start {K : PySem.W.Frag} {Hs H : Hp} {N : List Str} {vs : List V} {ds : List D} (e : Ex Hs H) (r : Reps K Hs vs ds) : RelS K (foreign Hs H) Hs (L2.start N vs) H (startE N ds) := by
  refine ⟨e, fun p o h => foreign_some h, ?_, fun i s h => ?_, fun i j s t hn h1 h2 h3 h4 => ?_⟩
  · unfold L2.start startE
    rw [List.length_append, List.length_append, List.length_map, List.length_map, List.length_replicate, List.length_replicate, r.len]
  · obtain ⟨d, hd, rfl⟩ := start_get h
    obtain ⟨v, hv, rv⟩ := r.get hd
    exact ⟨v, start_at hv, rv⟩
  · obtain ⟨d, hd, rfl⟩ := start_get h1
    cases h3
section
variable {P : Program} {w : World} {K : PySem.W.Frag} {mg : Str → Option Value} {base : Heap} {x qual : Str} {params : Arguments} {body : List Stmt} {scope : Scope} {dvs : List V} {kws : List (Str × V)} {f : Addr} {fd : FuncData} {N ps : List Str} {k : Nat} {φ : Spec}
abbrev cxY (P : Program) (w : World) (K : PySem.W.Frag) (mg : Str → Option Value) (base : Heap) (N : List Str) (qual : Str) (scope : Scope) (f : Addr) (cdv : Value) (A : Around) (outer : List Env) (s : Shared) (H : Hp) (E : XK) : Cx := cxOf (L2.CX P w) P w K mg base N qual scope f cdv A outer s H E
abbrev wY (E : XK) : WX := fun cls d _ H => E cls d H
theorem fun_ok (F : FunD K x qual params body scope dvs kws f fd) (S : FnScope N ps scope) (len : ∀ ds Q E, φ ds Q E → ds.length = ps.length) (r : Xi → PTS)
    (hbody : ∀ (cdv : Value) (A : Around) (outer : List Env) (s : Shared) (H : Hp) (E : XK) (Ξ : Xi), Room k (A.deeper (envOfC qual scope s.heap.objs.size f cdv)) → YSs (cxY P w K mg base N qual scope f cdv A outer s H E) (wY E) Ξ body (r Ξ))
    (vc : ∀ (ds : List D) (Q' : D → Prop) (E' : Nat → Prop), φ ds Q' E' → r (fun c _ => E' c) { nx := fun _ => Q' .non, rt := fun d _ => Q' d } (startE N ds)) : FnOk P w K mg base (L2.CX P w) (k + 1) f fd ps (pSp K φ) := by
  refine F.ok S (fun vs H Q E h => ?_) (fun cdv A outer s H vs Q E hr h => ?_)
  · obtain ⟨Hs, ds, Q', E', _, rs, h, _⟩ := h
    rw [rs.len]
    exact len ds Q' E' h
  · obtain ⟨Hs, ds, Q', E', ex, rs, h, hq, he⟩ := h
    obtain ⟨t, p, kk⟩ := (hbody cdv A outer s H E (fun c _ => E' c) hr).ex
    refine ⟨t, p, kk (foreign Hs H) Hs _ H _ _ _ (rel_start ex rs) (fun c σ' H' Hs' ε' hc e' R' => he c hc H' Hs' (R'.keeps e')) (vc ds Q' E' h) ⟨fun σ' H' Hs' ε' e' R' q' => ?_, fun v σ' H' Hs' d ε' e' R' rv q' => ?_, fun _ _ _ _ _ _ q => q.elim, fun _ _ _ _ _ _ q => q.elim⟩⟩
    · exact hq .non q' .non H' Hs' (R'.keeps e') .non
    · exact hq d q' v H' Hs' (R'.keeps e') rv
end
end PL

set_option Elab.async false
set_option linter.all false
set_option autoImplicit false
set_option maxRecDepth 100000
set_option maxHeartbeats 2000000
/-! try, a pair stored, the pool opened in a def, the law's end. -/
namespace PL
open PySem PySem.Spec PyProof.Rows L2
open Evl (Ex)

/-! ### try: .. except PageError as e: .. -/
/-- is class c one that an except clause of class t takes (0: the base of all) -/
def exSub (c t : Nat) : Bool := c == t || t == 0
/-- what the written part says of the classes in cs -/
structure ExK (K : PySem.W.Frag) (cs : List Nat) : Prop where
  exm : ∀ c ∈ cs, PySem.W.exmOne K (.ref (exA K c)) (.ref (exA K 0)) = some true
  kit : ∀ c ∈ cs, ∀ t ∈ cs, PySem.W.kitOne K (.ref (exA K c)) (.ref (exA K t)) = some (exSub c t)
  exc : ∀ c ∈ cs, ExcC K (exA K c)
section
variable {X : Cx} {W : WX} {Ξ : Xi}
/-- the suite sees the error's class as a datum -/
def excD (a : Addr) : D := .vl (.ref a)
def ysTry (cs : List Nat) (i : Nat) (rb : Xi → PTS) (rs : Addr → Nat → PTS) : PTS := fun Δ ε =>
  rb (fun c ε' => c ∈ cs ∧ ∀ a : Addr, rs a c { nx := fun ε2 => Δ.nx (ε2.set i none), rt := fun d ε2 => Δ.rt d (ε2.set i none), bk := fun ε2 => Δ.bk (ε2.set i none), ct := fun ε2 => Δ.ct (ε2.set i none) } (ε'.set i (some (.v (excD a))))) Δ ε
theorem RelS.drop {K : PySem.W.Frag} {F Hs H : Hp} {σ : St} {ε : PEnv} (R : RelS K F Hs σ H ε) (i : Nat) : RelS K F Hs (σ.set i none) H (ε.set i none) := by
  refine ⟨R.ex, R.fr, by rw [List.length_set, List.length_set]; exact R.len, fun j t q => ?_, fun j k t u hn h1 h2 h3 h4 => ?_⟩
  · have hj : i ≠ j := by
      rintro rfl
      by_cases hi : i < ε.length
      · rw [List.getElem?_set_self hi] at q; cases q
      · rw [List.getElem?_eq_none (by rw [List.length_set]; omega)] at q; cases q
    rw [List.getElem?_set_ne hj] at q
    exact (R.sl j t q).at (List.getElem?_set_ne hj)
  · have ne : ∀ (j : Nat) (t : S), (ε.set i none)[j]? = some (some t) → i ≠ j := by
      rintro j t q rfl
      by_cases hi : i < ε.length
      · rw [List.getElem?_set_self hi] at q; cases q
      · rw [List.getElem?_eq_none (by rw [List.length_set]; omega)] at q; cases q
    have nj := ne j t h1
    have nk := ne k u h2
    rw [List.getElem?_set_ne nj] at h1 ⊢
    rw [List.getElem?_set_ne nk] at h2 ⊢
    exact R.ds j k t u hn h1 h2 h3 h4
theorem ys_try {cs : List Nat} (i : Nat) {n x : Str} {body suite : List Stmt} {b₀ : Stmt} {np pos pos' : Pos} {rb : Xi → PTS} {rs : Addr → Nat → PTS} (xk : ExK X.K cs) (hs : X.stack = X.env :: X.outer) (hf : X.env.frame = some X.env.locals) (hN : X.N.Nodup) (hi : X.N[i]? = some n)
    (hln : X.env.kindOf n = some .local) (hx : exS 0 = x) (hc : Names X x (.ref (exA X.K 0))) (tk : Takes X W)
    (hb : ∀ (W : WX) (Ξ : Xi) (pn : List (Addr × Obj)) (xe : Value → Shared → Prop), Takes (X.tr pn xe) W → PassesOwn (model X.prog X.w) X.A X.env xe → YSs (X.tr pn xe) W Ξ body (rb Ξ))
    (hsu : ∀ (c : Nat) (a : Addr) (oe : Obj) (pn : List (Addr × Obj)), c ∈ cs → ExcC X.K (exA X.K c) → Zc (.ref (exA X.K c)) none oe → (∃ vs, oe.data = .fields vs) → YSs (X.suite a ((a, oe) :: pn)) W0 Ξ0 (b₀ :: suite) (rs a c)) :
    YS X W Ξ (.Try body [.ExceptHandler (some (.Name x np)) (some n) (b₀ :: suite) pos'] [] [] pos) (ysTry cs i rb rs) := by
  subst hx
  let ts : Addr → Value → Option Addr → TS := fun a cls d Dd σ H => ∃ c, c ∈ cs ∧ cls = .ref (exA X.K c) ∧ d = none ∧ cSs X.K W0 Ξ0 (rs a c) Dd σ H
  have hsu' : ∀ (a : Addr) (oe : Obj) (cls : Value) (d : Option Addr) (pn : List (Addr × Obj)), Zc cls d oe → (∃ vs, oe.data = .fields vs) → PSs (X.suite a ((a, oe) :: pn)) (b₀ :: suite) (ts a cls d) := by
    intro a oe cls d pn hz hfv
    refine ⟨fun pins s σ H Dd I ⟨c, hc1, e1, e2, q⟩ => ?_⟩
    subst e1 e2
    exact (hsu c a oe pn hc1 (xk.exc c hc1) hz hfv).canon.run pins s σ H Dd I q
  -- the body, for any wish
  let tb : WX → TS := fun Wb Dd σ H => ∃ (Ξb : Xi), cSs X.K Wb Ξb (rb Ξb) Dd σ H
  have hb' : ∀ (W : WX) (pn : List (Addr × Obj)) (xe : Value → Shared → Prop), Takes (X.tr pn xe) W → PassesOwn (model X.prog X.w) X.A X.env xe → PSs (X.tr pn xe) body (tb W) := by
    intro W pn xe tk po
    exact ⟨fun pins s σ H Dd I ⟨Ξb, q⟩ => (hb W Ξb pn xe tk po).canon.run pins s σ H Dd I q⟩
  refine ⟨_, ps_try_as (ts := ts) (tb := tb) hs hf hN hi hln hc tk hb' hsu', fun F Hs σ H ε Δ Dd R L q kk => ?_⟩
  refine ⟨_, F, Hs, ε, Δ, R, ?_, q, kk⟩
  intro c σ' H' Hs' ε' hq e' R'
  obtain ⟨hc1, hq⟩ := hq
  refine ⟨true, xk.exm c hc1, fun _ a na => ?_, fun h => Bool.noConfusion h⟩
  have R2 : RelS X.K F Hs' (σ'.set i (some (.ref a))) H' (ε'.set i (some (.v (excD a)))) := R'.store (.vl (.ref a)) i
  refine ⟨c, hc1, rfl, rfl, F, Hs', _, _, R2, Lk.none, hq a, ⟨fun σ3 H3 Hs3 ε3 e3 R3 q3 => ?_, fun v σ3 H3 Hs3 d ε3 e3 R3 rv q3 => ?_, fun σ3 H3 Hs3 ε3 e3 R3 q3 => ?_, fun σ3 H3 Hs3 ε3 e3 R3 q3 => ?_⟩⟩
  · exact kk.nx _ H3 Hs3 _ (e'.trans e3) (R3.drop i) q3
  · exact kk.rt v _ H3 Hs3 d _ (e'.trans e3) (R3.drop i) rv q3
  · exact kk.bk _ H3 Hs3 _ (e'.trans e3) (R3.drop i) q3
  · exact kk.ct _ H3 Hs3 _ (e'.trans e3) (R3.drop i) q3
/-- isinstance(e, C), e what the suite holds -/
def yIsE (i : Nat) (a : Addr) (c t : Nat) : PTE := fun ε Q => ε[i]? = some (some (.v (excD a))) ∧ Q (.d (.bl (exSub c t))) ε
theorem ye_isE {a : Addr} {oe : Obj} {pn : List (Addr × Obj)} {cs : List Nat} (c t i : Nat) {n x : Str} {p p1 p2 pos : Pos} (xk : ExK X.K cs) (hc1 : c ∈ cs) (ht1 : t ∈ cs) (hz : Zc (.ref (exA X.K c)) none oe) (hf : ∃ vs, oe.data = .fields vs) (hg : Gl X "isinstance") (hm : X.mg "isinstance" = none)
    (hN : X.N[i]? = some n) (hv : Vis X.env.scope n) (hx : exS t = x) (hgx : Gl X x) (hmx : X.mg x = some (.ref (exA X.K t))) (hd : (n == ("__debug__" : Str)) = false := by decide) (hcd : (n == ("__classdict__" : Str)) = false := by decide) (hdx : (x == ("__debug__" : Str)) = false := by decide)
    (hst : starEach [.Name n p1, .Name x p2] X.env = (false, eval (.Name n p1) X.env) :: starEach [.Name x p2] X.env := by rfl) (hs2 : starEach [.Name x p2] X.env = (false, eval (.Name x p2) X.env) :: starEach [] X.env := by rfl) (hpl : (backTo pos (starEach [.Name x p2] X.env)).any (·.1) = false := by rfl) :
    YE (X.suite a ((a, oe) :: pn)) W Ξ (.Call (.Name "isinstance" p) [.Name n p1, .Name x p2] [] pos) (yIsE i a c t) := by
  subst hx
  have C := xk.exc c hc1
  refine ⟨_, pe_callB (X := X.suite a ((a, oe) :: pn)) (call_isE (X := X) C hz hf) hg hm PyProof.Rows.boot_isinstance (pa_cons (X := X.suite a ((a, oe) :: pn)) (pe_var (X := X.suite a ((a, oe) :: pn)) hN hv hd hcd) (pa_cons (X := X.suite a ((a, oe) :: pn)) (pe_glob (X := X.suite a ((a, oe) :: pn)) (v := .ref (exA X.K t)) hgx hmx rfl hdx) pa_nil hs2) hst) (by decide) (by decide) hst hpl, fun F Hs σ H ε Q' Q R L q k => ?_⟩
  obtain ⟨e0, q⟩ := q
  obtain ⟨v, h1, h2⟩ := R.sl i _ e0
  cases h2
  refine ⟨_, h1, ?_⟩
  exact ⟨.ref (exA X.K t), .ref (exA X.K t), exSub c t, rfl, fun u r => r, xk.kit c hc1 t ht1, k (.bl _) H Hs (.d (.bl _)) ε (Evl.Ex.refl _) R (.bl _) q⟩
end
end PL

set_option Elab.async false
set_option linter.all false
set_option autoImplicit false
set_option maxRecDepth 100000
set_option maxHeartbeats 2000000
/-! The stream of numbers, made, drawn from; a pair stored; the law's end. -/
namespace PL
open PySem PySem.Spec PyProof.Rows L2
open Evl (Ex)

/-! ### one tracked object told otherwise -/
section
variable {P : Program} {w : World} {H : Hp} {h h' : Heap} {p : Addr} {o o' : HO}
theorem retell_ok (ok : HOk P w H h) (hp : H p = some o) (n1 : ∀ a, o ≠ .own a) (n2 : ∀ xs, o ≠ .tup xs) (new : ObjOk P w (upd H p o') h p o') : HOk P w (upd H p o') h := fun b u e => by
  by_cases hb : b = p
  · subst hb
    rw [upd_same] at e
    cases e
    exact new
  · rw [upd_ne hb] at e
    have ne1 : ∀ c a, H c = some (.own a) → c ≠ p := fun c a q z => by
      subst z
      rw [hp] at q
      exact n1 a (Option.some.inj q)
    have ne2 : ∀ c xs, H c = some (.tup xs) → c ≠ p := fun c xs q z => by
      subst z
      rw [hp] at q
      exact n2 xs (Option.some.inj q)
    exact (ok b u e).stay (fun c v _ q => q) (fun c q => by rw [upd_ne (ne1 c b q)]; exact q) fun c xs q => by rw [upd_ne (ne2 c xs q)]; exact q
end
theorem pool_obj {P : Program} {w : World} {H : Hp} {h : Heap} {p : Addr} {ns : List Int} (x : ObjOk P w H h p (.lst (ns.map V.int))) (ok : PoolOk ns) (H' : Hp) : ObjOk P w H' h p (.ext (PoolAt p)) := by
  obtain ⟨z, its, n, r, e⟩ := x
  refine ⟨⟨its, n, ns, e, r, ok⟩, ⟨_, e⟩, fun h1 h2 ⟨its, n, ns, e, r, ok⟩ k => ⟨its, n, ns, k _ e, r, ok⟩⟩
theorem obj_pool {P : Program} {w : World} {H : Hp} {h : Heap} {p : Addr} (x : ObjOk P w H h p (.ext (PoolAt p))) (H' : Hp) : ∃ ns, PoolOk ns ∧ ObjOk P w H' h p (.lst (ns.map V.int)) := by
  obtain ⟨⟨its, n, ns, e, r, ok⟩, _⟩ := x
  refine ⟨ns, ok, ?_, its, n, r, e⟩
  rw [List.length_map, sizeLine_eq]
  exact Nat.le_trans ok.2.1 (by decide)
/-! ### drawing -/
/-- a draw, with the list in sight -/
def spPick : Sp := fun vs H Q _ => ∃ (p : Addr) (n : Int) (ns : List Int), vs = [.ref p, .int n] ∧ H p = some (.lst (ns.map V.int)) ∧ PoolOk ns ∧ 0 < n ∧
  ∀ (r : Int) (ns' : List Int), 0 ≤ r → r < n → PoolOk ns' → Q (.int r) (upd H p (.lst (ns'.map V.int)))
def φPick : Spec
  | [.pool, .int n], Q, _ => gd (0 < n) (∀ r : Int, 0 ≤ r → r < n → Q (.int r))
  | _, _, _ => False
theorem φPick_inv {ds : List D} {Q : D → Prop} {E : Nat → Prop} (h : φPick ds Q E) : ∃ n, ds = [.pool, .int n] ∧ 0 < n ∧ ∀ r : Int, 0 ≤ r → r < n → Q (.int r) := by
  unfold φPick at h
  split at h
  · exact ⟨_, rfl, gd_elim h⟩
  · exact h.elim
theorem cx_never {P : Program} {w : World} {outer : List Env} {H : Hp} {s s' : Shared} {u : Value} (h : L2.CX P w outer H s (fun _ _ _ => False) u s') : False := by
  obtain ⟨_, _, _, _, _, _, _, _, _, _, _, _, z⟩ := h
  exact z
section
variable {P : Program} {w : World} {K : PySem.W.Frag} {mg : Str → Option Value} {base : Heap} {k : Nat} {f : Addr} {fd : FuncData} {ps : List Str}
theorem env0_retell {A : Around} {outer : List Env} {s : Shared} {H : Hp} {p : Addr} {o o' : HO} (e : Env0 P w K mg base A outer s H) (hp : H p = some o) (n1 : ∀ a, o ≠ .own a) (n2 : ∀ xs, o ≠ .tup xs) (new : ObjOk P w (upd H p o') s.heap p o') : Env0 P w K mg base A outer s (upd H p o') :=
  
  have h1 : ∀ b, H b = none → upd H p o' b = none := fun b q => by
    have ne : b ≠ p := fun z => by
      subst z
      rw [q] at hp
      cases hp
    rw [upd_ne ne]
    exact q
  ⟨e.frames, e.mod, fun b u q => ⟨(e.bs b u q).1, h1 b (e.bs b u q).2⟩, e.bsz, e.funs, fun b hb => h1 b (e.frf b hb), retell_ok e.hok hp n1 n2 new, e.bare⟩
theorem pick_close (F : FnOk P w K mg base (L2.CX P w) k f fd ps spPick) : FnOk P w K mg base (L2.CX P w) k f fd ps (pSp K φPick) := by
  refine ⟨fun vs H Q E h => ?_, fun A outer s H args us vs Q E hr e0 hb hv h => ?_⟩
  · obtain ⟨Hs, ds, Q', E', ex, rs, h, _⟩ := h
    obtain ⟨n, rfl, h0n, hn⟩ := φPick_inv h
    · cases rs with
      | cons r1 r2 =>
        cases r2 with
        | cons r2 r3 =>
          cases r3
          cases r1
          cases r2
          exact F.len [.ref _, .int _] (upd H _ (.lst ([1, 1].map V.int))) (fun _ _ => True) (fun _ _ _ => False) ⟨_, _, [1, 1], rfl, upd_same, ⟨by decide, by decide, 1, rfl, by decide, by decide⟩, h0n, fun _ _ _ _ _ => trivial⟩
  · obtain ⟨Hs, ds, Q', E', ex, rs, h, hq, _⟩ := h
    obtain ⟨n, rfl, h0n, hn⟩ := φPick_inv h
    · cases rs with
      | cons r1 r2 =>
        cases r2 with
        | cons r2 r3 =>
          cases r3
          cases r1 with
          | pool hsp =>
            rename_i p
            cases r2
            have hp : H p = some (.ext (PoolAt p)) := ex _ _ hsp
            obtain ⟨ns, ok, ob⟩ := obj_pool (e0.hok p _ hp) (upd H p (.lst ([] : List V)))
            obtain ⟨ns, ok, ob⟩ := obj_pool (e0.hok p _ hp) (upd H p (.lst (ns.map V.int)))
            have ob2 : ObjOk P w (upd H p (.lst (ns.map V.int))) s.heap p (.lst (ns.map V.int)) := ob
            have e1 := env0_retell (o' := .lst (ns.map V.int)) e0 hp (fun a z => by cases z) (fun a z => by cases z) ob2
            refine codeAny_mono (F.run A outer s (upd H p (.lst (ns.map V.int))) args us [.ref p, .int n] (fun v H' => ∃ (r : Int) (ns' : List Int), v = .int r ∧ 0 ≤ r ∧ r < n ∧ PoolOk ns' ∧ H' = upd H p (.lst (ns'.map V.int))) (fun _ _ _ => False) hr e1 hb hv
              ⟨p, n, ns, rfl, upd_same, ok, h0n, fun r ns' h0 h1 ok' => ⟨r, ns', rfl, h0, h1, ok', upd_upd⟩⟩) fun rr s' hrr => ?_
            cases rr with
            | error e => exact (cx_never hrr).elim
            | ok fl =>
              cases fl with
              | ret u =>
                obtain ⟨v, H', os, bare, un, hok, rv, r, ns', rfl, h0, h1, ok', rfl⟩ := hrr
                have hpe : upd H p (.ext (PoolAt p)) = H := by
                  funext b
                  by_cases hb : b = p
                  · subst hb; rw [upd_same, hp]
                  · rw [upd_ne hb]
                have hok2 : HOk P w H s'.heap := by
                  have z := retell_ok (o' := .ext (PoolAt p)) hok (p := p) upd_same (fun a z => by cases z) (fun a z => by cases z) (pool_obj (hok p _ upd_same) ok' _)
                  rw [upd_upd, hpe] at z
                  exact z
                refine ⟨.int r, H, os, bare, ⟨fun b ob q n hf hx => un.keep b ob q ?_ hf hx, fun b ob q n hf hx => un.slot b ob q ?_ hf hx, fun b ob q n hx => n, un.there, fun b xs q => q, fun b ob u q => q, fun b ps q => ⟨#[], by rw [q]; simp⟩⟩, hok2, rv, ?_⟩
                · rw [upd_ne]
                  · exact n
                  · intro z; subst z; rw [hp] at n; cases n
                · rw [upd_ne]
                  · exact n
                  · intro z; subst z; rw [hp] at n; cases n
                · exact hq (.int r) (hn r h0 h1) (.int r) H Hs ⟨Evl.Ex.refl _, ex, fun b o q1 q2 => ⟨q1, q2⟩⟩ (.int r)
              | next => exact False.elim hrr
              | brk => exact False.elim hrr
              | cont => exact False.elim hrr
/-- the stream is made: a new list becomes the stream -/
def φList : Spec
  | [.frl ds], Q, _ => ∃ xs : List Int, ds = xs.map D.int ∧ xs.length ≤ 63 ∧ ∀ ns : List Int, PoolOk ns → Q (.lst (ns.map D.int))
  | _, _, _ => False
def φStream : Spec
  | [.frl ds], Q, _ => (∃ xs : List Int, ds = xs.map D.int ∧ xs.length ≤ 63) ∧ Q .pool
  | _, _, _ => False
/-- what is locked in H alone -/
def locked (H : Hp) : Hp := fun b => match H b with
  | some (.frz o u) => some (.frz o u)
  | _ => none
theorem locked_ex {H : Hp} : Ex (locked H) H := fun b o e => by
  unfold locked at e
  split at e
  · rename_i o' u h
    rw [h]
    exact e
  · cases e
theorem stream_close (F : FnOk P w K mg base (L2.CX P w) k f fd ps (pSp K φList)) : FnOk P w K mg base (L2.CX P w) k f fd ps (pSp K φStream) := by
  have conv : ∀ {vs H Q E}, pSp K φStream vs H Q E → pSp K φList vs H (fun v H' => ∃ (p : Addr) (ns : List Int) (Hs' : Hp), v = .ref p ∧ PoolOk ns ∧ Keeps (locked H) H Hs' H' ∧ Hs' p = some (.lst (ns.map V.int))) (fun _ _ _ => False) := by
    intro vs H Q E h
    obtain ⟨Hs, ds, Q', E', ex, rs, h, hq, he⟩ := h
    unfold φStream at h
    split at h
    · obtain ⟨⟨xs, rfl, hx⟩, h⟩ := h
      cases rs with
      | cons r1 r2 =>
        cases r2
        cases r1 with
        | frl hs rr =>
          rename_i a ws
          have er := rr.inv_ints
          subst er
          have hs2 : FrL K (locked H) a (xs.map V.int) := by
            rcases hs with ⟨o, hs⟩ | hs
            · refine .inl ⟨o, ?_⟩
              unfold locked
              rw [ex _ _ hs]
            · exact .inr hs
          refine ⟨locked H, _, fun d => ∃ ns, PoolOk ns ∧ d = .lst (ns.map D.int), fun _ => False, locked_ex, .cons (.frl hs2 (Reps.ints xs)) .nil, ⟨xs, rfl, hx, fun ns ok => ⟨ns, ok, rfl⟩⟩, fun d ⟨ns, ok, e⟩ v H' Hs' kp rv => ?_, fun _ z => z.elim⟩
          subst e
          cases rv with
          | lst hp rr2 =>
            have e2 := rr2.inv_ints
            subst e2
            exact ⟨_, ns, Hs', rfl, ok, kp, hp⟩
    · exact h.elim
  refine ⟨fun vs H Q E h => F.len _ _ _ _ (conv h), fun A outer s H args us vs Q E hr e0 hb hv h => ?_⟩
  refine codeAny_mono (F.run A outer s H args us vs _ (fun _ _ _ => False) hr e0 hb hv (conv h)) fun rr s' hrr => ?_
  obtain ⟨Hs, ds, Q', E', ex, rs, h, hq, he⟩ := h
  unfold φStream at h
  split at h
  · obtain ⟨_, h⟩ := h
    cases rr with
    | error e => exact (cx_never hrr).elim
    | ok fl =>
      cases fl with
      | ret u =>
        obtain ⟨v, H', os, bare, un, hok, rv, p, ns, Hs', rfl, ok, kp, hp⟩ := hrr
        have hp' : H' p = some (.lst (ns.map V.int)) := kp.2.1 _ _ hp
        have lp : locked H p = none := by
          cases e : locked H p with
          | none => rfl
          | some o =>
            have e2 := kp.1 _ _ e
            rw [hp] at e2
            unfold locked at e
            split at e
            · cases e
              cases e2
            · cases e
        have hH : H p = none := by
          cases e : H p with
          | none => rfl
          | some o =>
            have e2 := (kp.2.2 p o e lp).2
            rw [hp] at e2
            cases e2
        have hh : s.heap.get? p = none := by
          cases e : s.heap.get? p with
          | none => rfl
          | some o =>
            have e2 := un.free p o e hH (by simp)
            rw [hp'] at e2
            cases e2
        have old : ∀ b o, H b = some o → H' b = some o := fun b o q => by
          cases e : locked H b with
          | none => exact (kp.2.2 b o q e).1
          | some o' =>
            have q2 := locked_ex b o' e
            rw [q] at q2
            cases q2
            exact kp.2.1 _ _ (kp.1 _ _ e)
        have nep : ∀ b, H b ≠ none → b ≠ p := fun b q z => by
          subst z
          exact q hH
        have hok2 : HOk P w (upd H' p (.ext (PoolAt p))) s'.heap := retell_ok hok hp' (fun a z => by cases z) (fun a z => by cases z) (pool_obj (hok p _ hp') ok _)
        refine ⟨.ref p, upd H' p (.ext (PoolAt p)), os, bare, ⟨un.keep, un.slot, fun b ob q n hx => ?_, un.there, fun b xs q => ?_, fun b ob u q => ?_, fun b ps q => ?_⟩, hok2, rv, ?_⟩
        · have ne : b ≠ p := by
            intro z
            subst z
            rw [hh] at q
            cases q
          rw [upd_ne ne]
          exact un.free b ob q n hx
        · rw [upd_ne (nep b (by rw [q]; simp))]
          exact un.tups b xs q
        · rw [upd_ne (nep b (by rw [q]; simp))]
          exact un.frzs b ob u q
        · rw [upd_ne (nep b (by rw [q]; simp))]
          exact un.tbls b ps q
        · have hsp : Hs p = none := Evl.fresh_back ex hH
          refine hq .pool h (.ref p) _ (upd Hs p (.ext (PoolAt p))) ⟨ex_upd hsp, fun b o q => ?_, fun b o q1 q2 => ?_⟩ (.pool upd_same)
          · by_cases hb : b = p
            · subst hb
              rw [upd_same] at q ⊢
              exact q
            · rw [upd_ne hb] at q ⊢
              exact old b o (ex b o q)
          · have ne := nep b (by rw [q1]; simp)
            rw [upd_ne ne, upd_ne ne]
            exact ⟨old b o q1, q2⟩
      | next => exact False.elim hrr
      | brk => exact False.elim hrr
      | cont => exact False.elim hrr
  · exact h.elim
/-- the law's promise, as the head asks it -/
def φLaw : Spec
  | [.frl ds], Q, _ => ∃ xs : List Int, ds = xs.map D.int ∧ xs.length ≤ 63 ∧ Q (.bl true)
  | _, _, _ => False
theorem law_sp {H : Hp} {a : Addr} {ns : List Int} (hl : ns.length ≤ 63) (ho : L2.Only H) (hs : SqL K H a (ns.map V.int)) : pSp K φLaw [.ref a] H (fun v _ => v = .bl true) (fun _ _ _ => False) := by
  have hs2 : FrL K H a (ns.map V.int) := by
    rcases hs with (hs | ⟨o, hs⟩) | hs
    · rcases ho a with h | ⟨o, xs, h⟩
      · rw [hs] at h; cases h
      · rw [hs] at h; cases h
    · exact .inl ⟨o, hs⟩
    · exact .inr hs
  refine ⟨H, [.frl (ns.map D.int)], fun d => d = .bl true, fun _ => False, Evl.Ex.refl _, .cons (.frl hs2 (Reps.ints ns)) .nil, ⟨ns, rfl, hl, rfl⟩, fun d e v H' Hs' kp rv => ?_, fun _ z => z.elim⟩
  subst e
  cases rv
  rfl
end
end PL

set_option Elab.async false
set_option linter.all false
set_option autoImplicit false
set_option maxRecDepth 100000
set_option maxHeartbeats 2000000
/-! a, b = x, y -/
namespace PL
open PySem PySem.Spec PyProof.Rows L2
open Evl (Ex)
/-- what a name is to hold, on the way: a datum, or a new list that is nobody's yet -/
def Pend (K : PySem.W.Frag) (F Hs : Hp) (σ : St) (H : Hp) (ε : PEnv) (v : V) : S → Prop
  | .v d => Rep K Hs v d
  | .o ds => ∃ p vs, v = .ref p ∧ H p = some (.lst vs) ∧ Hs p = none ∧ F p = none ∧ Nobody σ ε p ∧ Reps K Hs vs ds
  | .od _ => False
abbrev PTX := PEnv → (S → PEnv → Prop) → Prop
structure YX (X : Cx) (W : WX) (Ξ : Xi) (e : Expr) (r : PTX) : Prop where
  ex : ∃ t, PE X e t ∧ ∀ (F Hs : Hp) (σ : St) (H : Hp) (ε : PEnv) (Q' : S → PEnv → Prop) (Q : VK), RelS X.K F Hs σ H ε → Lk X.K F Hs W Ξ → r ε Q' →
    (∀ (v : V) (H' Hs' : Hp) (s : S) (ε' : PEnv), Ex Hs Hs' → RelS X.K F Hs' σ H' ε' → Pend X.K F Hs' σ H' ε' v s → Q' s ε' → Q v H') → t σ H Q
section
variable {X : Cx} {W : WX} {Ξ : Xi} {e : Expr} {pos : Pos}
def yxE (r : PTE) : PTX := fun ε Q => r ε fun t ε1 => out ε1 t fun d ε2 => Q (.v d) ε2
def yxN (r : PTN) : PTX := fun ε Q => r ε fun ds ε1 => Q (.o ds) ε1
theorem yx_e {r : PTE} (h : YE X W Ξ e r) : YX X W Ξ e (yxE r) := by
  obtain ⟨t, p, k⟩ := h.ex
  refine ⟨t, p, fun F Hs σ H ε Q' Q R L q kk => k F Hs σ H ε _ _ R L q fun v H1 Hs1 t1 ε1 e1 R1 p1 q1 => ?_⟩
  obtain ⟨d, ε2, Hs2, e2, R2, rv, q2⟩ := R1.out p1 q1
  exact kk v H1 Hs2 (.v d) ε2 (e1.trans e2) R2 rv q2
theorem yx_n {r : PTN} (h : YN X W Ξ e r) : YX X W Ξ e (yxN r) := by
  obtain ⟨t, p, k⟩ := h.ex
  exact ⟨t, p, fun F Hs σ H ε Q' Q R L q kk => k F Hs σ H ε _ _ R L q fun p H' Hs' vs ds ε' e R' g1 g2 g3 g4 rs q' => kk (.ref p) H' Hs' (.o ds) ε' e R' ⟨p, vs, rfl, g1, g2, g3, g4, rs⟩ q'⟩
theorem pend_store {K : PySem.W.Frag} {F Hs H : Hp} {σ : St} {ε : PEnv} {v : V} {s : S} (R : RelS K F Hs σ H ε) (h : Pend K F Hs σ H ε v s) (i : Nat) : RelS K F Hs (σ.set i (some v)) H (ε.set i (some s)) := by
  cases s with
  | v d => exact R.store h i
  | o ds =>
    obtain ⟨p, vs, rfl, g1, g2, g3, g4, rs⟩ := h
    exact storeO_of R i g1 g2 g3 g4 rs
  | od _ => exact h.elim
def ysPar (i j : Nat) (ra rb : PTX) : PTS := fun Δ ε => ra ε fun s1 ε1 => rb ε1 fun s2 ε2 => Δ.nx ((ε2.set i (some s1)).set j (some s2))
theorem nobody_set {σ : St} {ε : PEnv} {p q : Addr} {s : S} {i : Nat} (h : Nobody σ ε p) (hq : q ≠ p) : Nobody (σ.set i (some (.ref q))) (ε.set i (some s)) p := fun k t e so z => by
  by_cases hk : i = k
  · subst hk
    by_cases hi : i < σ.length
    · rw [List.getElem?_set_self hi] at z
      exact hq (V.ref.inj (Option.some.inj (Option.some.inj z)))
    · rw [List.getElem?_eq_none (by rw [List.length_set]; omega)] at z
      cases z
  · rw [List.getElem?_set_ne hk] at e z
    exact h k t e so z
theorem nobody_setV {σ : St} {ε : PEnv} {p : Addr} {d : D} {v : V} {i : Nat} (h : Nobody σ ε p) : Nobody (σ.set i (some v)) (ε.set i (some (.v d))) p := fun k t e so z => by
  by_cases hk : i = k
  · subst hk
    by_cases hi : i < ε.length
    · rw [List.getElem?_set_self hi] at e
      cases e
      cases so
    · rw [List.getElem?_eq_none (by rw [List.length_set]; omega)] at e
      cases e
  · rw [List.getElem?_set_ne hk] at e z
    exact h k t e so z
theorem ys_par (i j : Nat) {x y : Str} {a b : Expr} {ra rb : PTX} {px py pt : Pos} {kt k2 : Nat} {pt2 : Pos} (hc : X.calm = true) (hN : X.N.Nodup) (hi : X.N[i]? = some x) (hj : X.N[j]? = some y) (hij : i ≠ j)
    (hx : X.env.scope.names.lookup x = some .local) (hy : X.env.scope.names.lookup y = some .local) (ha : YX X W Ξ a ra) (hb : YX X W Ξ b rb)
    (hst : starEach [a, b] X.env = (false, eval a X.env) :: starEach [b] X.env := by rfl) (hst2 : starEach [b] X.env = (false, eval b X.env) :: starEach [] X.env := by rfl)
    (hw : swappedStores [.Tuple [.Name x px, .Name y py] kt pt] (.Tuple [a, b] k2 pt2) X.env = pure (some [x, y]) := by rfl)
    (hs : swapsWithSole [.Tuple [.Name x px, .Name y py] kt pt] (.Tuple [a, b] k2 pt2) pos.line X.env = pure false := by rfl) :
    YS X W Ξ (.Assign [.Tuple [.Name x px, .Name y py] kt pt] (.Tuple [a, b] k2 pt2) pos) (ysPar i j ra rb) := by
  obtain ⟨ta, pa, ka⟩ := ha.ex
  obtain ⟨tb, pb, kb⟩ := hb.ex
  refine ⟨_, ps_par hc hN hi hj hij hx hy (pa_cons pa (pa_cons pb pa_nil hst2) hst) hw hs, fun F Hs σ H ε Δ Dd R L q kk => ?_⟩
  refine ka F Hs σ H ε _ _ R L q fun v H1 Hs1 s1 ε1 e1 R1 p1 q1 => ?_
  cases s1 with
  | v d =>
    refine kb F Hs1 σ H1 ε1 _ _ R1 (L.mono e1) q1 fun w H2 Hs2 s2 ε2 e2 R2 p2 q2 => ?_
    refine ⟨v, w, rfl, ?_⟩
    have R3 := R2.store (Rep.mono e2 p1) i
    refine kk.nx _ H2 Hs2 _ (e1.trans e2) (pend_store R3 ?_ j) q2
    cases s2 with
    | v d2 => exact p2
    | o ds =>
      obtain ⟨p, vs, rfl, g1, g2, g3, g4, rs⟩ := p2
      exact ⟨p, vs, rfl, g1, g2, g3, nobody_setV g4, rs⟩
    | od _ => exact p2.elim
  | o ds =>
    obtain ⟨p, vs, rfl, g1, g2, g3, g4, rs⟩ := p1
    have R1' := R1.lend g1 g2 g4
    have L' : Lk X.K (upd F p (.lst vs)) Hs1 W Ξ := fun c σ' H' Hs' ε' xc e' R' => L c σ' H' Hs' ε' xc (e1.trans e') (R'.back g3).1
    refine kb _ Hs1 σ H1 ε1 _ _ R1' L' q1 fun w H2 Hs2 s2 ε2 e2 R2 p2 q2 => ?_
    refine ⟨.ref p, w, rfl, ?_⟩
    obtain ⟨R2', b1, b2, b3⟩ := R2.back g3
    have R3 := storeO_of R2' i b1 b2 g3 b3 (rs.mono e2)
    refine kk.nx _ H2 Hs2 _ (e1.trans e2) (pend_store R3 ?_ j) q2
    cases s2 with
    | v d2 => exact p2
    | o ds2 =>
      obtain ⟨p', vs', rfl, f1, f2, f3, f4, rs'⟩ := p2
      have ne : p ≠ p' := by
        intro z
        subst z
        rw [upd_same] at f3
        cases f3
      exact ⟨p', vs', rfl, f1, f2, by rw [upd_ne (Ne.symm ne)] at f3; exact f3, nobody_set f4 ne, rs'⟩
    | od _ => exact p2.elim
  | od _ => exact p1.elim
end
end PL

set_option Elab.async false
set_option linter.all false
set_option autoImplicit false
set_option maxRecDepth 100000
set_option maxHeartbeats 2000000
/-! Short words for the printed derivations. -/
namespace PL
open PySem PySem.Spec PyProof.Rows L2
open Evl (Ex)
theorem atI_in {α : Type} {xs : List α} {i : Int} (h0 : 0 ≤ i) (h1 : i < (xs.length : Int)) : ∃ d, atI xs i = some d ∧ d ∈ xs := by
  obtain ⟨j, rfl⟩ := Int.eq_ofNat_of_zero_le h0
  have hn : j < xs.length := Int.ofNat_lt.mp h1
  exact ⟨xs[j], atI_nat (List.getElem?_eq_getElem hn), List.getElem_mem hn⟩
/-- an item at a place that is drawn -/
theorem pick_of {xs : List D} {i : Int} {Q : D → Prop} (h0 : 0 ≤ i) (h1 : i < (xs.length : Int)) (k : ∀ d, d ∈ xs → Q d) : opt (atI xs i) Q := by
  obtain ⟨d, e, hd⟩ := atI_in h0 h1
  exact opt_of e (k d hd)
/-- a def that may be called -/
structure CallOk (P : Program) (w : World) (K : PySem.W.Frag) (mg : Str → Option Value) (base : Heap) (k : Nat) (x : Str) (ps : List Str) (φ : Spec) : Prop where
  fn : ∃ fd, FnOk P w K mg base (L2.CX P w) k (He.ga K x) fd ps (pSp K φ) ∧ (∃ oc od sl, K.lookup (He.ga K x) = some ⟨oc, od, .func fd, sl⟩) ∧ ∀ (s : Shared) (us : List Value), us.length = ps.length → BindsTo s fd ⟨us, []⟩ (ps.zip us)
  kp : PySem.W.keepIn K (.ref (He.ga K x)) = true
  gl : mg x = some (.ref (He.ga K x))
theorem funLook {K : PySem.W.Frag} {x qual : Str} {params : Arguments} {body : List Stmt} {scope : Scope} {dvs : List V} {kws : List (Str × V)} {f : Addr} {fd : FuncData} (F : FunD K x qual params body scope dvs kws f fd) : ∃ oc od sl, K.lookup f = some ⟨oc, od, .func fd, sl⟩ := by
  obtain ⟨oc, od, dV, kV, doc, pm, an, cdv, ct, osl, rfl, lk, _⟩ := F.ex
  exact ⟨_, _, _, lk⟩
theorem CallOk.imp {P : Program} {w : World} {K : PySem.W.Frag} {mg : Str → Option Value} {base : Heap} {k : Nat} {x : Str} {ps : List Str} {φ ψ : Spec} (h : CallOk P w K mg base k x ps φ) (i : ∀ ds Q E, ψ ds Q E → φ ds Q E) : CallOk P w K mg base k x ps ψ := by
  obtain ⟨⟨fd, F, lk, b⟩, kp, gl⟩ := h
  exact ⟨⟨fd, F.imp fun vs H Q E ⟨Hs, ds, Q', E', a, b, c, d⟩ => ⟨Hs, ds, Q', E', a, b, i _ _ _ c, d⟩, lk, b⟩, kp, gl⟩
section
variable {X : Cx} {W : WX} {Ξ : Xi} {a b c : Expr} {es : List Expr} {pos : Pos}
theorem yeCall {φ : Spec} {rs : PTL} {k : Nat} {ps : List Str} {x : Str} {p : Pos} (C : CallOk X.prog X.w X.K X.mg X.base k x ps φ) (tk : Takes X W) (hr : Room k X.A) (h : YL X W Ξ (a :: es) rs) (hg : Gl X x := by rfl) (hdb : (x == ("__debug__" : Str)) = false := by decide)
    (he : starEach (a :: es) X.env = (false, eval a X.env) :: starEach es X.env := by rfl) (hpl : (backTo pos (starEach es X.env)).any (·.1) = false := by rfl) :
    YE X W Ξ (.Call (.Name x p) (a :: es) [] pos) (yCall φ Ξ rs) := by
  obtain ⟨⟨fd, F, _, b⟩, kp, gl⟩ := C
  exact ye_call F tk hr hg gl kp (fun s us _ hl => by rw [List.append_nil] at hl ⊢; exact b s us hl) h hdb he hpl
/-- a name is stored: the plain ways -/
theorem ysSet (i : Nat) {x : Str} {pos' : Pos} {re : PTE} (hN : X.N.Nodup) (he : YE X W Ξ a re) (hi : X.N[i]? = some x := by rfl) (hx : Loc X.env.scope x := by first | exact Or.inl rfl | exact Or.inr rfl) (hs : swapsWith a (some (.Name x pos')) pos.line X.env = pure false := by rfl)
    (hf : X.fn x = true ∨ X.env.scope.names.lookup x = some .local := by first | exact .inl rfl | exact .inr rfl) : YS X W Ξ (.Assign [.Name x pos'] a pos) (ysAsg re i) := ys_set i hN hi hx he hs hf
theorem ysSetO (i : Nat) {x : Str} {pos' : Pos} {rn : PTN} (hN : X.N.Nodup) (he : YN X W Ξ a rn) (hi : X.N[i]? = some x := by rfl) (hx : Loc X.env.scope x := by first | exact Or.inl rfl | exact Or.inr rfl) (hs : swapsWith a (some (.Name x pos')) pos.line X.env = pure false := by rfl)
    (hf : X.fn x = true ∨ X.env.scope.names.lookup x = some .local := by first | exact .inl rfl | exact .inr rfl) : YS X W Ξ (.Assign [.Name x pos'] a pos) (ysAsgO rn i) := ys_setO i hN hi hx he hs hf
theorem ygN {x : Str} (i : Nat) (hN : X.N.Nodup) (hi : X.N[i]? = some x := by rfl) (hx : Loc X.env.scope x := by first | exact Or.inl rfl | exact Or.inr rfl) (hf : X.fn x = true ∨ X.env.scope.names.lookup x = some .local := by first | exact .inl rfl | exact .inr rfl) : YG X (.Name x pos) (gN i) [i] := yg_name i hN hi hx hf
theorem ysApp' (i : Nat) {x : Str} {px pa pc : Pos} {re : PTE} (he : YE X W Ξ a re) (hN : X.N[i]? = some x := by rfl) (hv : Vis X.env.scope x := by first | exact Or.inl rfl | exact Or.inr (Or.inl rfl) | exact Or.inr (Or.inr rfl)) (hd : (x == ("__debug__" : Str)) = false := by decide) (hcd : (x == ("__classdict__" : Str)) = false := by decide)
    (hbase : attributeBase (.Name x px) "append" X.env (eval (.Name x px) X.env) = eval (.Name x px) X.env := by rfl)
    (hfew : ((backTo pc (starEach (a :: []) X.env)).all (fun x => !x.1) && (backToKw pc (keywordEach [] X.env)).all (fun x => x.1.isSome)
      && decide ((a :: []).length + ([] : List Keyword).length + (if ([] : List Keyword).isEmpty then 0 else 1) < 30)) = true := by rfl)
    (hline : (pa.endLine == pc.line) = true := by rfl) (hs : starEach (a :: []) X.env = (false, eval a X.env) :: starEach [] X.env := by rfl) (hplain : (backTo pc (starEach [] X.env)).any (·.1) = false := by rfl)
    (hsw : swapsWith (.Call (.Attribute (.Name x px) "append" pa) [a] [] pc) none pos.line X.env = pure false := by rfl) :
    YS X W Ξ (.Expr (.Call (.Attribute (.Name x px) "append" pa) [a] [] pc) pos) (ysApp i re) := ys_app i hN hv he hd hcd hbase hfew hline hs hplain hsw
theorem ysExt' (i : Nat) {x : Str} {px pa pc : Pos} {re : PTE} (he : YE X W Ξ a re) (hN : X.N[i]? = some x := by rfl) (hv : Vis X.env.scope x := by first | exact Or.inl rfl | exact Or.inr (Or.inl rfl) | exact Or.inr (Or.inr rfl)) (hd : (x == ("__debug__" : Str)) = false := by decide) (hcd : (x == ("__classdict__" : Str)) = false := by decide)
    (hbase : attributeBase (.Name x px) "extend" X.env (eval (.Name x px) X.env) = eval (.Name x px) X.env := by rfl)
    (hfew : ((backTo pc (starEach (a :: []) X.env)).all (fun x => !x.1) && (backToKw pc (keywordEach [] X.env)).all (fun x => x.1.isSome)
      && decide ((a :: []).length + ([] : List Keyword).length + (if ([] : List Keyword).isEmpty then 0 else 1) < 30)) = true := by rfl)
    (hline : (pa.endLine == pc.line) = true := by rfl) (hs : starEach (a :: []) X.env = (false, eval a X.env) :: starEach [] X.env := by rfl) (hplain : (backTo pc (starEach [] X.env)).any (·.1) = false := by rfl)
    (hsw : swapsWith (.Call (.Attribute (.Name x px) "extend" pa) [a] [] pc) none pos.line X.env = pure false := by rfl) :
    YS X W Ξ (.Expr (.Call (.Attribute (.Name x px) "extend" pa) [a] [] pc) pos) (ysExt i re) := ys_ext i hN hv he hd hcd hbase hfew hline hs hplain hsw
theorem yePop' (i : Nat) {x : Str} {px pa pc : Pos} (hN : X.N[i]? = some x := by rfl) (hv : Vis X.env.scope x := by first | exact Or.inl rfl | exact Or.inr (Or.inl rfl) | exact Or.inr (Or.inr rfl)) (hd : (x == ("__debug__" : Str)) = false := by decide) (hcd : (x == ("__classdict__" : Str)) = false := by decide)
    (hbase : attributeBase (.Name x px) "pop" X.env (eval (.Name x px) X.env) = eval (.Name x px) X.env := by rfl) (hline : (pa.endLine == pc.line) = true := by rfl) :
    YE X W Ξ (.Call (.Attribute (.Name x px) "pop" pa) [] [] pc) (yPop i) := ye_pop i hN hv hd hcd hbase hline
/-- a module's constant: an int, a text -/
structure GlI (mg : Str → Option Value) (x : Str) (i : Int) : Prop where
  ex : ∃ t, mg x = some (.int i t)
structure GlS (mg : Str → Option Value) (x z : Str) : Prop where
  ex : ∃ t, mg x = some (.str z t)
theorem yeGlI {x : Str} {i : Int} (h : GlI X.mg x i) (hg : Gl X x := by rfl) (hd : (x == ("__debug__" : Str)) = false := by decide) : YE X W Ξ (.Name x pos) (yC (.int i)) := by
  obtain ⟨t, e⟩ := h.ex
  exact ye_glob (v := .int i) hg e ⟨t, rfl⟩ (fun _ _ => .int i) hd
theorem yeGlS {x z : Str} (h : GlS X.mg x z) (hg : Gl X x := by rfl) (hd : (x == ("__debug__" : Str)) = false := by decide) : YE X W Ξ (.Name x pos) (yC (.str z)) := by
  obtain ⟨t, e⟩ := h.ex
  exact ye_glob (v := .str z) hg e ⟨t, rfl⟩ (fun _ _ => .str z) hd
theorem peTy {x : Str} {n : String} (hm : X.mg x = none) (hv : bootBuiltins x = some (.type n)) (hg : Gl X x := by rfl) (hn : x ≠ "__name__" := by decide) (hd : (x == ("__debug__" : Str)) = false := by decide) : PE X (.Name x pos) (tC (.ty n)) := pe_bltn hg hm hv rfl hn hd
theorem ye_chain {op op' : CmpOp} {o o' : OP2} {ra rb rc : PTE} (ho : OpY X (compareOp op) o) (ho' : OpY X (compareOp op') o') (ha : YE X W Ξ a ra) (hb : YE X W Ξ b rb) (hc : YE X W Ξ c rc) (hm : lastMarks [op, op'] [b, c] = false := by with_unfolding_all rfl) :
    YE X W Ξ (.Compare a [op, op'] [b, c] pos) (yChain o o' ra rb rc) := by
  obtain ⟨r, hr, h⟩ := ho
  obtain ⟨r', hr', h'⟩ := ho'
  obtain ⟨ta, pa, ka⟩ := ha.ex
  obtain ⟨tb, pb, kb⟩ := hb.ex
  obtain ⟨tc, pc, kc⟩ := hc.ex
  refine ⟨_, pe_chain hr hr' pa pb pc hm, fun F Hs σ H ε Q' Q R L q k => ?_⟩
  refine ka F Hs σ H ε _ _ R L q fun v H1 Hs1 t1 ε1 e1 R1 p1 q1 => ?_
  refine kb F Hs1 σ H1 ε1 _ _ R1 (L.mono e1) q1 fun w H2 Hs2 t2 ε2 e2 R2 p2 q2 => ?_
  obtain ⟨d1, v1, q3⟩ := R2.res (p1.mono e2) q2
  obtain ⟨d2, v2, q4⟩ := R2.res p2 q3
  refine h F Hs2 σ H2 ε2 v w d1 d2 _ _ R2 v1 v2 q4 fun z H3 Hs3 d e3 R3 p3 q5 => ?_
  obtain ⟨kk, e4, q6⟩ := asB_rep p3 q5
  refine ⟨kk, e4, ?_⟩
  cases kk with
  | true =>
    show (if true = true then _ else _)
    rw [if_pos rfl]
    refine kc F Hs3 σ H3 ε2 _ _ R3 (L.mono ((e1.trans e2).trans e3)) q6 fun u H4 Hs4 t3 ε4 e5 R4 p4 q7 => ?_
    obtain ⟨d2', v2', q8⟩ := R4.res ((p2.mono e3).mono e5) q7
    obtain ⟨d3, v3, q9⟩ := R4.res p4 q8
    exact h' F Hs4 σ H4 ε4 w u d2' d3 _ Q R4 v2' v3 q9 fun z H' Hs' d e6 R6 p6 q => k z H' Hs' (.d d) ε4 ((((e1.trans e2).trans e3).trans e5).trans e6) R6 p6 q
  | false =>
    show (if false = true then _ else _)
    rw [if_neg Bool.false_ne_true]
    exact k _ H3 Hs3 (.d (.bl false)) ε2 ((e1.trans e2).trans e3) R3 (.bl false) q6
/-- {} -/
def yDic0 : PTE := fun ε Q => Q (.d (.dic [])) ε
theorem ye_dic0 : YE X W Ξ (.Dict [] [] pos) yDic0 := by
  refine ⟨_, pe_dnewK, fun F Hs σ H ε Q' Q R L q k => fun p hp => ?_⟩
  obtain ⟨R3, e3⟩ := R.new (o := .dK []) hp
  exact k (.ref p) _ _ (.d (.dic [])) ε e3 R3 (.dic upd_same rfl .nil) q
/-- not a, by truth -/
def yNotB (r : PTE) : PTE := fun ε Q => r ε fun t ε' => res ε' t (asB fun k => Q (.d (.bl (!k))) ε')
theorem ye_not {r : PTE} (h : YE X W Ξ a r) : YE X W Ξ (.UnaryOp .Not a pos) (yNotB r) := by
  obtain ⟨t, p, k⟩ := h.ex
  refine ⟨_, pe_not p, fun F Hs σ H ε Q' Q R L q kk => k F Hs σ H ε _ _ R L q fun v H1 Hs1 t1 ε1 e1 R1 p1 q1 => ?_⟩
  obtain ⟨d, rv, q2⟩ := R1.res p1 q1
  cases d with
  | bl b => exact ⟨b, rv.bl', kk _ H1 Hs1 (.d (.bl (!b))) ε1 e1 R1 (.bl _) q2⟩
  | _ => exact False.elim q2
/-- for x in a list, a tuple -/
def yiSeq (r : PTE) : PTN := fun ε Q => r ε fun t ε' => out ε' t fun d ε2 => match d with
  | .lst ds => Q ds ε2
  | .frl ds => Q ds ε2
  | .tup ds => Q ds ε2
  | _ => False
def iSeq (K : PySem.W.Frag) (tl : TE) : TI := fun σ H R => tl σ H fun x H1 => ∃ a, x = .ref a ∧ (((∃ xs, SqL K H1 a xs) ∧ R (Itl K a) H1) ∨ ((∃ xs, SqT K H1 a xs) ∧ R (Itt K a) H1))
theorem pi_seq {tg l : Expr} {tl : TE} (hl : PE X l tl) : PI X tg l (iSeq X.K tl) := by
  refine ⟨fun pins s σ H R I h => ?_⟩
  refine thn (hl.run pins s σ H _ I h) fun v s1 ⟨x, H1, I1, r1, q1⟩ => ?_
  obtain ⟨a, e, q⟩ := q1
  subst e
  cases r1
  rcases q with ⟨⟨xs, hq⟩, q⟩ | ⟨⟨xs, hq⟩, q⟩
  · obtain ⟨its, rv, p, hz⟩ := I1.list hq
    refine wpAny_pyIter_list p.isList ?_
    refine ⟨s1.heap.objs.size, [s1.heap.objs.size], _, _, H1, rfl, I1.kept (t' := s1.toks) fun b o e => Heap.get?_push_of_some _ e, turn_list a _, ⟨_, Heap.get?_push_size _ rfl, rfl, rfl⟩, fun b hb => ?_, q⟩
    have e : b = s1.heap.objs.size := by simpa using hb
    subst e
    exact I1.fpOk (Nat.le_refl _) (I1.hok.fresh (Nat.le_refl _))
  · obtain ⟨its, rv, p, hz⟩ := I1.tuple hq
    refine wpAny_pyIter_tuple (show s1.heap.IsTuple a its.toArray from p) ?_
    refine ⟨s1.heap.objs.size, [s1.heap.objs.size], _, _, H1, rfl, I1.kept (t' := s1.toks) fun b o e => Heap.get?_push_of_some _ e, turn_tuple a _, ⟨_, Heap.get?_push_size _ rfl, rfl, rfl⟩, fun b hb => ?_, q⟩
    have e : b = s1.heap.objs.size := by simpa using hb
    subst e
    exact I1.fpOk (Nat.le_refl _) (I1.hok.fresh (Nat.le_refl _))
theorem yi_seq {tg : Expr} {r : PTE} (h : YE X W Ξ a r) : YI X W Ξ tg a (yiSeq r) := by
  obtain ⟨t, p, k⟩ := h.ex
  refine ⟨_, pi_seq p, fun F Hs σ H ε Q' R' R L q kk => k F Hs σ H ε _ _ R L q fun v H1 Hs1 t ε1 e1 R1 p1 q1 => ?_⟩
  obtain ⟨d, ε2, Hs2, e2, R2, rv, q2⟩ := R1.out p1 q1
  split at q2
  · cases rv with
    | lst h1 r1 => exact ⟨_, rfl, .inl ⟨⟨_, SqL.of (R2.ex _ _ h1)⟩, kk _ H1 Hs2 _ ε2 (e1.trans e2) R2 (seqs_list (SqL.of h1) r1) q2⟩⟩
  · cases rv with
    | frl h1 r1 => exact ⟨_, rfl, .inl ⟨⟨_, Evl.ex_l R2.ex h1.sq⟩, kk _ H1 Hs2 _ ε2 (e1.trans e2) R2 (seqs_list h1.sq r1) q2⟩⟩
  · cases rv with
    | tup h1 r1 => exact ⟨_, rfl, .inr ⟨⟨_, Evl.ex_t R2.ex h1⟩, kk _ H1 Hs2 _ ε2 (e1.trans e2) R2 (seqs_tup h1 r1) q2⟩⟩
  · exact q2.elim
def yChainT (o o' : OP2) (ra rb rc : PTE) : PTT := yB (yChain o o' ra rb rc)
theorem yt_chain {op op' : CmpOp} {o o' : OP2} {ra rb rc : PTE} (ho : OpY X (compareOp op) o) (ho' : OpY X (compareOp op') o') (ha : YE X W Ξ a ra) (hb : YE X W Ξ b rb) (hc : YE X W Ξ c rc) (hm : lastMarks [op, op'] [b, c] = false := by with_unfolding_all rfl) :
    YT X W Ξ (.Compare a [op, op'] [b, c] pos) (yChainT o o' ra rb rc) := by
  obtain ⟨r, hr, h⟩ := ho
  obtain ⟨r', hr', h'⟩ := ho'
  obtain ⟨ta, pa, ka⟩ := ha.ex
  obtain ⟨tb, pb, kb⟩ := hb.ex
  obtain ⟨tc, pc, kc⟩ := hc.ex
  refine ⟨_, pt_chain hr hr' pa pb pc hm, fun F Hs σ H ε Q' Q R L q k => ?_⟩
  refine ka F Hs σ H ε _ _ R L q fun v H1 Hs1 t1 ε1 e1 R1 p1 q1 => ?_
  refine kb F Hs1 σ H1 ε1 _ _ R1 (L.mono e1) q1 fun w H2 Hs2 t2 ε2 e2 R2 p2 q2 => ?_
  obtain ⟨d1, v1, q3⟩ := R2.res (p1.mono e2) q2
  obtain ⟨d2, v2, q4⟩ := R2.res p2 q3
  refine h F Hs2 σ H2 ε2 v w d1 d2 _ _ R2 v1 v2 q4 fun z H3 Hs3 d e3 R3 p3 q5 => ?_
  obtain ⟨kk, e4, q6⟩ := asB_rep p3 q5
  refine ⟨kk, e4, ?_⟩
  cases kk with
  | true =>
    show (if true = true then _ else _)
    rw [if_pos rfl]
    refine kc F Hs3 σ H3 ε2 _ _ R3 (L.mono ((e1.trans e2).trans e3)) q6 fun u H4 Hs4 t3 ε4 e5 R4 p4 q7 => ?_
    obtain ⟨d2', v2', q8⟩ := R4.res ((p2.mono e3).mono e5) q7
    obtain ⟨d3, v3, q9⟩ := R4.res p4 q8
    refine h' F Hs4 σ H4 ε4 w u d2' d3 _ _ R4 v2' v3 q9 fun z H' Hs' d e6 R6 p6 q => ?_
    obtain ⟨b, e7, q7⟩ := asB_rep p6 q
    exact ⟨b, e7, k b H' Hs' ε4 ((((e1.trans e2).trans e3).trans e5).trans e6) R6 q7⟩
  | false =>
    show (if false = true then _ else _)
    rw [if_neg Bool.false_ne_true]
    exact ⟨false, rfl, k false H3 Hs3 ε2 ((e1.trans e2).trans e3) R3 q6⟩
def ysNever : PTS := fun _ _ => False
theorem ys_never {st : Stmt} : YS X W Ξ st ysNever := ⟨_, ps_never, fun _ _ _ _ _ _ _ _ _ q _ => q.elim⟩
def ysRetN : PTS := fun Δ ε => Δ.rt .non ε
theorem ys_retN : YS X W Ξ (.Return none pos) ysRetN := ⟨_, ps_retN, fun F Hs σ H ε Δ Dd R L q k => k.rt .non σ H Hs .non ε (Evl.Ex.refl _) R .non q⟩
abbrev exBase : List Value := [.type "Exception", .type "BaseException", .type "object"]
end
end PL

set_option Elab.async false
set_option linter.all false
set_option autoImplicit false
set_option maxRecDepth 100000
set_option maxHeartbeats 2000000
/-! Loops and comprehensions over lists that lie open. -/
namespace PL
open PySem PySem.Spec PyProof.Rows L2
def forRun (g : PTG) (rb : PTS) (Δ : PEnds) : List D → PEnv → Prop
  | [], ε => Δ.nx ε
  | d :: ds, ε => g d ε fun ε2 => rb { Δ with nx := forRun g rb Δ ds, ct := forRun g rb Δ ds, bk := Δ.nx } ε2
theorem drop_get {α : Type} {xs : List α} {i : Nat} {d : α} (h : xs[i]? = some d) : xs.drop i = d :: xs.drop (i + 1) := by
  obtain ⟨hi, e⟩ := List.getElem?_eq_some_iff.mp h
  rw [List.drop_eq_getElem_cons hi, e]
theorem for_run {g : PTG} {rb : PTS} {Δ : PEnds} {ds : List D} {ε1 : PEnv} (h : forRun g rb Δ ds ε1) : ∃ Wp : Nat → PEnv → Prop, Wp 0 ε1 ∧
    (∀ i d ε, i < ds.length → ds[i]? = some d → Wp i ε → g d ε fun ε2 => rb { Δ with nx := Wp (i + 1), ct := Wp (i + 1), bk := Δ.nx } ε2) ∧ ∀ ε, Wp ds.length ε → Δ.nx ε := by
  refine ⟨fun i ε => forRun g rb Δ (ds.drop i) ε, h, fun i d ε hi hd w => ?_, fun ε w => ?_⟩
  · replace w : forRun g rb Δ (ds.drop i) ε := w
    rw [drop_get hd] at w
    exact w
  · replace w : forRun g rb Δ (ds.drop ds.length) ε := w
    rw [List.drop_length] at w
    exact w
def lcRun (g : PTG) (rt : PTT) (re : PTE) (vs : List Nat) (ε1 : PEnv) (Q : List D → PEnv → Prop) : List D → List D → Prop
  | [], acc => Q acc ε1
  | d :: ds, acc => g d (wipeE ε1 vs) fun ε2 => rt ε2 fun k ε3 => match k with
    | true => re ε3 fun t ε4 => out ε4 t fun y ε5 => wipeE ε5 vs = wipeE ε1 vs ∧ lcRun g rt re vs ε1 Q ds (acc ++ [y])
    | false => wipeE ε3 vs = wipeE ε1 vs ∧ lcRun g rt re vs ε1 Q ds acc
theorem lc_run {g : PTG} {rt : PTT} {re : PTE} {vs : List Nat} {ε1 : PEnv} {Q : List D → PEnv → Prop} {ds : List D} (h : lcRun g rt re vs ε1 Q ds []) : ∃ Wp : Nat → List D → Prop, Wp 0 [] ∧
  (∀ i d acc, i < ds.length → ds[i]? = some d → acc.length ≤ i → Wp i acc → g d (wipeE ε1 vs) fun ε2 => rt ε2 fun k ε3 => match k with
    | true => re ε3 fun t ε4 => out ε4 t fun y ε5 => wipeE ε5 vs = wipeE ε1 vs ∧ Wp (i + 1) (acc ++ [y])
    | false => wipeE ε3 vs = wipeE ε1 vs ∧ Wp (i + 1) acc) ∧ ∀ acc, acc.length ≤ ds.length → Wp ds.length acc → Q acc ε1 := by
  refine ⟨fun i acc => lcRun g rt re vs ε1 Q (ds.drop i) acc, h, fun i d acc hi hd hl w => ?_, fun acc hl w => ?_⟩
  · replace w : lcRun g rt re vs ε1 Q (ds.drop i) acc := w
    rw [drop_get hd] at w
    exact w
  · replace w : lcRun g rt re vs ε1 Q (ds.drop ds.length) acc := w
    rw [List.drop_length] at w
    exact w
theorem seq_step {r u : PTS} {Δ : PEnds} {ε : PEnv} (ε' : PEnv) (h1 : ∀ K : PEnv → Prop, K ε' → r { Δ with nx := K } ε) (h2 : u Δ ε') : ysSeq r u Δ ε := h1 _ h2
theorem seq_post {r u : PTS} {Δ : PEnds} {ε : PEnv} (Po : PEnv → Prop) (h1 : ∀ K : PEnv → Prop, (∀ ε', Po ε' → K ε') → r { Δ with nx := K } ε) (h2 : ∀ ε', Po ε' → u Δ ε') : ysSeq r u Δ ε := h1 _ h2
theorem gtup2 {i j : Nat} {d1 d2 : D} {ε : PEnv} {Q : PEnv → Prop} (h : Q ((ε.set i (some (.v d1))).set j (some (.v d2)))) : gTupY 2 [gN i, gN j] (.tup [d1, d2]) ε Q := h
end PL

set_option Elab.async false
set_option linter.all false
set_option autoImplicit false
set_option maxRecDepth 100000
set_option maxHeartbeats 2000000
/-! A number is drawn, by hand. -/
namespace PL
open PySem PySem.Spec PyProof.Rows L2
section
variable {K : PySem.W.Frag}
def r_len (K : PySem.W.Frag) : List V → Hp → VK → Prop := fun xs H Q => ∃ x n, xs = [x] ∧ LenV K x H n ∧ Q (.int (n : Nat)) H
def t_pick (K : PySem.W.Frag) : TS :=
  tSeq (tAsg (tOp (rIxL K) (tVar 0) (tC (.int 0))) (gName 2))
    (tSeq (tAsg (tOp (rI0 fun i j => V.int (i + j)) (tVar 2) (tC (.int 1))) (gSub (tVar 0) (tC (.int 0)) rSetL))
      (tSeq (tIfS (tTest (tOp rEq (tOp (rIxL K) (tVar 0) (tC (.int 0))) (tCB (r_len K) (tCons (tVar 0) tNil))))
          (tAsg (tC (.int 1)) (gSub (tVar 0) (tC (.int 0)) rSetL)) tNext)
        (tRet (tOp (rI (fun _ j => 0 < j) fun i j => V.int (i % j))
            (tCB (fun xs H Q => (∃ i, xs = [V.int i] ∧ Q (V.int i) H) ∨ ∃ k, xs = [V.bl k] ∧ Q (V.int (if k = true then 1 else 0)) H)
              (tCons (tOp (rIxL K) (tVar 0) (tVar 2)) tNil))
            (tVar 1)))))
theorem atI_int {ns : List Int} {i : Int} {x : Int} (h : atI ns i = some x) : atI (ns.map V.int) i = some (.int x) := by
  unfold atI at h ⊢
  rw [List.length_map]
  cases e : ixN ns.length i with
  | none => rw [e] at h; cases h
  | some j =>
    rw [e] at h
    show (ns.map V.int)[j]? = some (.int x)
    replace h : ns[j]? = some x := h
    rw [List.getElem?_map, h]
    rfl
theorem ix0 {n : Nat} (h : 0 < n) : ixN n 0 = some 0 := by
  unfold ixN
  rw [if_pos (Int.le_refl 0), if_pos (by omega)]
  rfl
theorem at0 {x : V} {xs : List V} : atI (x :: xs) 0 = some x := atI_nat (j := 0) (v := x) rfl
theorem pick_pure {vs : List V} {H : Hp} {Q : VK} {E : XK} (h : spPick vs H Q E) : t_pick K { nx := fun _ H' => Q .non H', rt := Q } (L2.start ["pool", "many", "place"] vs) H := by
  obtain ⟨p, n, ns, rfl, hH, ⟨hl1, hl2, c, hc, c1, c2⟩, hn, hQ⟩ := h
  cases ns with
  | nil => cases hc
  | cons c' tl =>
    obtain rfl : c' = c := Option.some.inj hc
    have hx : ∀ (d : Int) (H : Hp), H p = some (.lst ((d :: tl).map V.int)) → 0 ≤ d → True := fun _ _ _ _ => trivial
    -- the item drawn: place c' of the list with another head
    have fin : ∀ (d : Int) (H' : Hp), H' = upd H p (.lst ((d :: tl).map V.int)) → PoolOk (d :: tl) →
        (tRet (tOp (rI (fun _ j => 0 < j) fun i j => V.int (i % j))
            (tCB (fun xs H Q => (∃ i, xs = [V.int i] ∧ Q (V.int i) H) ∨ ∃ k, xs = [V.bl k] ∧ Q (V.int (if k = true then 1 else 0)) H)
              (tCons (tOp (rIxL K) (tVar 0) (tVar 2)) tNil))
            (tVar 1))) { nx := fun _ H' => Q .non H', rt := Q } [some (.ref p), some (.int n), some (.int c')] H' := by
      intro d H' hH' ok
      subst hH'
      have hlen : c' < ((d :: tl).length : Int) := c2
      obtain ⟨x, hx, _⟩ := atI_in (xs := d :: tl) (i := c') (by omega) hlen
      refine ⟨_, rfl, _, rfl, p, (d :: tl).map V.int, c', .int x, rfl, rfl, SqL.of upd_same, atI_int hx, .inl ⟨x, rfl, _, rfl, x, n, rfl, rfl, hn, ?_⟩⟩
      exact hQ _ (d :: tl) (Int.emod_nonneg _ (by omega)) (Int.emod_lt_of_pos _ hn) ok
    refine ⟨_, rfl, p, _, 0, .int c', rfl, rfl, SqL.of hH, at0, ?_⟩
    refine ⟨_, rfl, c', 1, rfl, rfl, ?_⟩
    refine ⟨_, rfl, p, _, 0, 0, rfl, rfl, hH, ix0 (by rw [List.length_map]; exact Nat.succ_pos _), ?_⟩
    have e1 : upd H p (.lst (((c' :: tl).map V.int).set 0 (.int (c' + 1)))) = upd H p (.lst (((c' + 1) :: tl).map V.int)) := rfl
    refine ⟨_, rfl, p, _, 0, .int (c' + 1), rfl, rfl, SqL.of upd_same, at0, ?_⟩
    refine ⟨_, rfl, .ref p, (((c' + 1) :: tl).map V.int).length, rfl, .inl ⟨_, SqL.of upd_same, rfl⟩, ?_⟩
    refine ⟨rfl, _, rfl, ?_⟩
    have hm : (((c' + 1) :: tl).map V.int).length = tl.length + 1 := by rw [List.length_map]; rfl
    have hd : decide (V.int (c' + 1) = V.int ((((c' + 1) :: tl).map V.int).length : Nat)) = decide (c' + 1 = ((tl.length + 1 : Nat) : Int)) := by
      rw [hm]
      by_cases q : c' + 1 = ((tl.length + 1 : Nat) : Int)
      · rw [decide_eq_true q, decide_eq_true (by rw [q])]
      · rw [decide_eq_false q, decide_eq_false (fun z => q (V.int.inj z))]
    show (if decide (V.int (c' + 1) = V.int ((((c' + 1) :: tl).map V.int).length : Nat)) = true then _ else _)
    rw [hd]
    have hl : (((c' :: tl).length : Nat) : Int) = ((tl.length + 1 : Nat) : Int) := rfl
    by_cases q : c' + 1 = ((tl.length + 1 : Nat) : Int)
    · rw [if_pos (decide_eq_true q)]
      refine ⟨_, rfl, p, _, 0, 0, rfl, rfl, upd_same, ix0 (by rw [List.length_set, List.length_map]; exact Nat.succ_pos _), ?_⟩
      refine fin 1 _ ?_ ⟨hl1, hl2, 1, rfl, by decide, by show (1 : Int) < ((tl.length + 1 : Nat) : Int); replace hl1 : 2 ≤ tl.length + 1 := hl1; omega⟩
      rw [upd_upd]
      rfl
    · rw [if_neg (by rw [decide_eq_false q]; exact Bool.false_ne_true)]
      refine fin (c' + 1) _ rfl ⟨hl1, hl2, c' + 1, rfl, by omega, by show c' + 1 < ((tl.length + 1 : Nat) : Int); rw [hl] at c2; omega⟩
end
end PL

set_option Elab.async false
set_option linter.all false
set_option autoImplicit false
set_option maxRecDepth 100000
set_option maxHeartbeats 2000000
/-! The head: what is looked at; the law's end. -/
namespace PL
open PySem PySem.Spec PyProof.Rows L2
def excB (K : PySem.W.Frag) (a : Addr) : Bool :=
  He.eqO (PySem.W.findIn K (.ref a) "__getattribute__") (some (some (.builtin "BaseException.__getattribute__"))) &&
  (He.eqO (PySem.W.findIn K (.ref a) "__getattr__") (some none) && (decide (PySem.W.subIn K (.ref a) (.type "BaseException") = some true) &&
  (PySem.W.hasDictIn K a && (He.eqO (PySem.W.findIn K (.ref a) "__class__") (some (some (.builtin "object.__class__"))) &&
  (He.eqO (PySem.W.specialIn K (.builtin "object.__class__") "__get__") (some (some (.builtin "getset_descriptor.__get__"))) &&
  (decide (PySem.W.takesIn K (.builtin "object.__class__") = some true) && decide (PySem.W.mroIn K a (.type "object") = some true)))))))
theorem excB_ok {K : PySem.W.Frag} {a : Addr} (h : excB K a = true) : ExcC K a := by
  obtain ⟨h1, h⟩ := He.ba h
  obtain ⟨h2, h⟩ := He.ba h
  obtain ⟨h3, h⟩ := He.ba h
  obtain ⟨h4, h⟩ := He.ba h
  obtain ⟨h5, h⟩ := He.ba h
  obtain ⟨h6, h⟩ := He.ba h
  obtain ⟨h7, h8⟩ := He.ba h
  exact ⟨He.eqO_ok h1, He.eqO_ok h2, of_decide_eq_true h3, h4, He.eqO_ok h5, He.eqO_ok h6, of_decide_eq_true h7, of_decide_eq_true h8⟩
def exB (cs : List Nat) (K : PySem.W.Frag) : Bool := cs.all fun c =>
  PySem.W.excIn K (exA K c) exBase "Exception.__new__" && (PySem.W.keepIn K (.ref (exA K c)) && (decide (PySem.W.subIn K (.ref (exA K c)) (.type "BaseException") = some true) &&
  (decide (PySem.W.typeIn K (.ref (exA K c)) = some (.type "type")) && (excB K (exA K c) && (decide (PySem.W.exmOne K (.ref (exA K c)) (.ref (exA K 0)) = some true) &&
  cs.all fun t => decide (PySem.W.kitOne K (.ref (exA K c)) (.ref (exA K t)) = some (exSub c t)))))))
structure ExF (K : PySem.W.Frag) (c : Nat) : Prop where
  x : PySem.W.excIn K (exA K c) exBase "Exception.__new__" = true
  k : PySem.W.keepIn K (.ref (exA K c)) = true
  s : PySem.W.subIn K (.ref (exA K c)) (.type "BaseException") = some true
  t : PySem.W.typeIn K (.ref (exA K c)) = some (.type "type")
theorem exB_at {cs : List Nat} {K : PySem.W.Frag} (h : exB cs K = true) {c : Nat} (hc : c ∈ cs) : ExF K c ∧ ExcC K (exA K c) ∧ PySem.W.exmOne K (.ref (exA K c)) (.ref (exA K 0)) = some true ∧ ∀ t ∈ cs, PySem.W.kitOne K (.ref (exA K c)) (.ref (exA K t)) = some (exSub c t) := by
  have h := List.all_eq_true.mp h c hc
  obtain ⟨h1, h⟩ := He.ba h
  obtain ⟨h2, h⟩ := He.ba h
  obtain ⟨h3, h⟩ := He.ba h
  obtain ⟨h4, h⟩ := He.ba h
  obtain ⟨h5, h⟩ := He.ba h
  obtain ⟨h6, h7⟩ := He.ba h
  exact ⟨⟨h1, h2, of_decide_eq_true h3, of_decide_eq_true h4⟩, excB_ok h5, of_decide_eq_true h6, fun t ht => of_decide_eq_true (List.all_eq_true.mp h7 t ht)⟩
theorem exB_k {cs : List Nat} {K : PySem.W.Frag} (h : exB cs K = true) : ExK K cs :=
  ⟨fun c hc => (exB_at h hc).2.2.1, fun c hc => (exB_at h hc).2.2.2, fun c hc => (exB_at h hc).2.1⟩
/-- the law's end -/
theorem walk_ofP {l : PySem.W.OpenLaw} {k : Nat} {q : Program} {loose : List Str} {XP : (Str → Option Value) → Heap → Prop} {YP : World → Heap → Prop} {d : DefRec}
    (hn : l.most = some 63) (hdf : d.params.defaults = []) (hr : Room k callerA)
    (F : ∀ (w : World) (mg : Str → Option Value) (h : Heap), YP w h → h.Ns mainGlobals mg →
      ∃ (K : PySem.W.Frag), K.In h ∧ mg d.name = some (.ref (He.ga K "law")) ∧ ∀ base : Heap, CallOk l.prog w K mg base k "law" ["script"] φLaw) :
    PySem.W.WalkO q loose XP YP l.row.toRowW d [] (fun f vs => PySem.call f vs) := by
  refine Att.attach_call hn hdf fun w s₀ s₁ mg mb fa o pm cd doc a vs ns G Y ho hd hcd hmg hobj hints hlen hg => ?_
  obtain ⟨K, KX, gl, hF⟩ := F w mg _ Y G.T.g
  obtain rfl : fa = He.ga K "law" := by
    have e := hmg.symm.trans gl
    cases e
    rfl
  obtain ⟨fd, _, lk, hb⟩ := (hF s₁.heap).fn
  have hF2 : ∀ base : Heap, K.In base → base.Ns mainGlobals mg → FnOk l.prog w K mg base (L2.CX l.prog w) k (He.ga K "law") fd ["script"] (pSp K φLaw) := fun base _ _ => by
    obtain ⟨fd', F', lk', _⟩ := (hF base).fn
    obtain ⟨_, _, _, e1⟩ := lk
    obtain ⟨_, _, _, e2⟩ := lk'
    rw [e1] at e2
    cases e2
    exact F'
  exact law_call KX G.T.g G.T.b G.T.builtins G.T.nolimit hg hobj hints (Nat.le_trans hlen (by rw [sizeLine_eq]; decide)) hr hF2 (fun s u => hb s [u] rfl) (fun H hO hS => law_sp hlen hO hS) fun H e s' h => cx_never h
theorem CallOk.stream {P : Program} {w : World} {K : PySem.W.Frag} {mg : Str → Option Value} {base : Heap} {k : Nat} {x : Str} {ps : List Str} (h : CallOk P w K mg base k x ps φList) : CallOk P w K mg base k x ps φStream := by
  obtain ⟨⟨fd, F, lk, b⟩, kp, gl⟩ := h
  exact ⟨⟨fd, stream_close F, lk, b⟩, kp, gl⟩
end PL

set_option Elab.async false
set_option linter.all false
set_option autoImplicit false
set_option maxRecDepth 100000
set_option maxHeartbeats 2000000
/-! Texts: order, slices, walks, times; in; turned lists. -/
namespace PL
open PySem PySem.Spec PyProof.Rows L2
open Evl (Ex)
section
variable {X : Cx} {W : WX} {Ξ : Xi} {tg a b : Expr} {pos p : Pos}
/-- x in the order of texts -/
def ltS (x y : Str) : Bool := decide (x.cps.toList < y.cps.toList)
theorem op_le_str : OpR X (compareOp .LtE) (fun x y H Q => ∃ i j, x = .str i ∧ y = .str j ∧ Q (.bl (!ltS j i)) H) := by
  intro pins s σ H x y v u Q I rx ry h
  obtain ⟨i, j, rfl, rfl, q⟩ := h
  obtain ⟨t, rfl⟩ := rx
  obtain ⟨t', rfl⟩ := ry
  exact PySem.P.le_str (fin_bl I q rfl)
def oLeA : OP2
  | .int i, .int j, Q => Q (.bl (decide (i ≤ j)))
  | .str x, .str y, Q => Q (.bl (!ltS y x))
  | _, _, _ => False
theorem oy_leA : OpY X (compareOp .LtE) oLeA := by
  refine ⟨_, op_le.or op_le_str, fun F Hs σ H ε v w d1 d2 Q' Q R r1 r2 q k => ?_⟩
  unfold oLeA at q
  split at q
  · exact .inl ⟨_, _, r1.int', r2.int', k _ H Hs _ (Evl.Ex.refl _) R (.bl _) q⟩
  · exact .inr ⟨_, _, r1.str', r2.str', k _ H Hs _ (Evl.Ex.refl _) R (.bl _) q⟩
  · exact q.elim
/-- ord -/
def oOrd : OPC
  | [.str x], Q => gd (x.length = 1) (Q (.int (x.cps.getD 0 0 : Nat)))
  | _, _ => False
theorem cy_ord : CallY X (.builtin "ord") oOrd := by
  refine ⟨_, call_ord, fun F Hs σ H ε vs ds Q' Q R r q k => ?_⟩
  unfold oOrd at q
  split at q
  · obtain ⟨v, rfl, rv⟩ := r.one
    have q := gd_elim q
    exact ⟨_, by rw [rv.str'], q.1, k _ H Hs _ (Evl.Ex.refl _) R (.int _) q.2⟩
  · exact q.elim
/-- the signs of a text -/
def signsD (x : Str) : List D := x.cps.toList.map fun c => D.str ⟨#[c]⟩
theorem signsD_len {x : Str} : (signsD x).length = x.cps.size := by unfold signsD; rw [List.length_map, Array.length_toList]
theorem seqs_str {K : PySem.W.Frag} {Hs : Hp} {x : Str} : Seqs K Hs (Its x) (signsD x) where
  go := fun i H e hi => by rw [signsD_len] at hi; exact hi
  stop := fun i H e hi => by rw [signsD_len] at hi; exact hi
  yld := fun i F Hc σ H ε z H' e R hi y => by
    rw [signsD_len] at hi
    obtain ⟨rfl, c, hc, rfl⟩ := y
    refine ⟨Hc, .str ⟨#[c]⟩, Evl.Ex.refl _, R, ?_, .str _⟩
    unfold signsD
    rw [List.getElem?_map, Array.getElem?_toList, hc] <;> rfl
def asS (Q : Str → Prop) : D → Prop
  | .str x => Q x
  | _ => False
theorem asS_elim {d : D} {Q : Str → Prop} (h : asS Q d) : ∃ x, d = .str x ∧ Q x := by
  cases d with
  | str x => exact ⟨x, rfl, h⟩
  | _ => exact h.elim
/-- for sign in a text -/
def yiStr (r : PTE) : PTN := fun ε Q => r ε fun t ε' => res ε' t (asS fun x => Q (signsD x) ε')
theorem yi_str {r : PTE} (h : YE X W Ξ a r) : YI X W Ξ tg a (yiStr r) := by
  obtain ⟨t, p, k⟩ := h.ex
  refine ⟨_, pi_str p, fun F Hs σ H ε Q' R' R L q kk => k F Hs σ H ε _ _ R L q fun v H1 Hs1 t ε1 e1 R1 p1 q1 => ?_⟩
  obtain ⟨d, rv, q2⟩ := R1.res p1 q1
  obtain ⟨x, rfl, q2⟩ := asS_elim q2
  exact ⟨x, rv.str', kk _ H1 Hs1 _ ε1 e1 R1 seqs_str q2⟩
/-- x[a:b], a text -/
def ySlS (ra : PTE) (rl rh : PTO) : PTE := fun ε Q => ra ε fun t ε1 => rl ε1 fun lo ε2 => rh ε2 fun hi ε3 => res ε3 t (asS fun x => gd (x.length ≤ 16777216) (Q (.d (.str (cutS x lo hi))) ε3))
theorem ye_slS {lo hi : Option Expr} {p2 : Pos} {ra : PTE} {rl rh : PTO} (ha : YE X W Ξ a ra) (hl : YO X W Ξ lo rl) (hh : YO X W Ξ hi rh) : YE X W Ξ (.Subscript a (.Slice lo hi none p2) pos) (ySlS ra rl rh) := by
  obtain ⟨ta, pa, ka⟩ := ha.ex
  obtain ⟨tl, pl, kl⟩ := hl.ex
  obtain ⟨th, ph, kh⟩ := hh.ex
  refine ⟨_, pe_slice sl_str pa pl ph, fun F Hs σ H ε Q' Q R L q k => ?_⟩
  refine ka F Hs σ H ε _ _ R L q fun v H1 Hs1 t1 ε1 e1 R1 p1 q1 => ?_
  refine kl F Hs1 σ H1 ε1 _ _ R1 (L.mono e1) q1 fun l H2 Hs2 ε2 e2 R2 q2 => ?_
  refine kh F Hs2 σ H2 ε2 _ _ R2 (L.mono (e1.trans e2)) q2 fun h H3 Hs3 ε3 e3 R3 q3 => ?_
  obtain ⟨d, v1, q4⟩ := R3.res (p1.mono (e2.trans e3)) q3
  obtain ⟨x, rfl, q4⟩ := asS_elim q4
  have q4 := gd_elim q4
  exact ⟨x, v1.str', line_le q4.1, k _ H3 Hs3 _ ε3 ((e1.trans e2).trans e3) R3 (show RepT X.K Hs3 σ (.str (cutS x l h)) (.d (.str (cutS x l h))) from Rep.str _) q4.2⟩
/-- xs[::-1], a list -/
def ynRev (ra : PTE) : PTN := fun ε Q => ra ε fun t ε1 => res ε1 t (asL fun xs => Q xs.reverse ε1)
theorem Reps.rev {K : PySem.W.Frag} {H : Hp} : ∀ {vs : List V} {ds : List D}, Reps K H vs ds → Reps K H vs.reverse ds.reverse
  | _, _, .nil => .nil
  | _, _, .cons h t => by
    rw [List.reverse_cons, List.reverse_cons]
    exact (Reps.rev t).append (.cons h .nil)
theorem yn_rev {k : Nat} {p1 p2 p3 : Pos} {ra : PTE} (ha : YE X W Ξ a ra) : YN X W Ξ (.Subscript a (.Slice none none (some (.UnaryOp .USub (.Constant (.int 1) k p1) p2)) p3) pos) (ynRev ra) := by
  obtain ⟨ta, pa, ka⟩ := ha.ex
  refine ⟨_, pe_revL pa, fun F Hs σ H ε Q' Q R L q k => ?_⟩
  refine ka F Hs σ H ε _ _ R L q fun v H1 Hs1 t1 ε1 e1 R1 p1 q1 => ?_
  obtain ⟨d, v1, q4⟩ := R1.res p1 q1
  obtain ⟨xs, rfl, q4⟩ := asL_elim q4
  obtain ⟨a, vs, g1, h1, p1⟩ := v1.lst' R1.ex
  refine ⟨a, vs, g1, SqL.of h1, fun p hp => ?_⟩
  obtain ⟨n1, n2, n3⟩ := R1.nobody hp
  exact k p _ Hs1 _ _ ε1 e1 (R1.lay hp) upd_same n1 n2 n3 p1.rev q4
/-- text times a number -/
def repS (x : Str) (n : Nat) : Str := ⟨(List.replicate n x.cps.toList).flatten.toArray⟩
theorem foldl_repA (l : List Nat) : ∀ (n : Nat) (acc : Array Nat), (List.replicate n l.toArray).foldl (· ++ ·) acc = acc ++ (List.replicate n l).flatten.toArray
  | 0, acc => by simp
  | n + 1, acc => by
    rw [List.replicate_succ, List.foldl_cons, foldl_repA l n, List.replicate_succ, List.flatten_cons]
    simp
theorem repS_len {x : Str} {n : Nat} : (repS x n).length = x.length * n := by
  show ((List.replicate n x.cps.toList).flatten.toArray).size = x.cps.size * n
  rw [List.size_toArray, List.length_flatten, List.map_replicate, List.sum_replicate_nat, Array.length_toList, Nat.mul_comm]
theorem op_mul_str : OpR X (binaryOp .Mult) (fun x y H Q => ∃ z n, x = .str z ∧ y = .int n ∧ -(2 ^ 63) ≤ n ∧ n < 2 ^ 63 ∧ z.length * n.toNat ≤ sizeLine ∧ Q (.str (repS z n.toNat)) H) := by
  intro pins s σ H x y v u Q I rx ry h
  obtain ⟨z, n, rfl, rfl, h1, h2, hz, q⟩ := h
  obtain ⟨t, rfl⟩ := rx
  obtain ⟨t', rfl⟩ := ry
  have hs : sizeLine = 16777216 := sizeLine_eq
  have big : ¬ n < 1 → ((z.length : Int) * n ≤ 16777216) := fun h0 => by
    have e : n = ((n.toNat : Nat) : Int) := by omega
    rw [e]
    have : ((z.length * n.toNat : Nat) : Int) ≤ 16777216 := by omega
    rw [Int.natCast_mul] at this
    exact this
  refine PySem.P.mul_str ?_ (fun h0 _ => ?_) (fun h0 _ => ?_) ?_
  · rw [decide_eq_false (by omega), decide_eq_false (by omega)]
    rfl
  · have := big h0
    have hn : 0 < n := by omega
    have h3 : (z.length : Int) ≤ (2 ^ 63 - 1) / n := (Int.le_ediv_iff_mul_le hn).mpr (Int.le_trans this (by decide))
    omega
  · show decide (z.length * n.toNat > sizeLine) = false
    exact decide_eq_false (by omega)
  · by_cases h0 : n < 1
    · rw [if_pos h0]
      have e : repS z n.toNat = Str.empty := by
        have : n.toNat = 0 := by omega
        rw [this]
        rfl
      rw [e] at q
      exact ⟨by decide, .str Str.empty, H, I.tok _, ⟨_, rfl⟩, q⟩
    · rw [if_neg h0]
      by_cases h4 : (n == 1 || z.length == 0) = true
      · rw [if_pos h4]
        have e : repS z n.toNat = z := by
          rcases Bool.or_eq_true_iff.mp h4 with h5 | h5
          · have : n = 1 := by simpa using h5
            subst this
            obtain ⟨z⟩ := z
            show (⟨([z.toList].flatten).toArray⟩ : Str) = ⟨z⟩
            simp
          · have h6 : z.length = 0 := by simpa using h5
            obtain ⟨z⟩ := z
            have h7 : z = #[] := Array.eq_empty_of_size_eq_zero h6
            subst h7
            show (⟨((List.replicate n.toNat []).flatten).toArray⟩ : Str) = ⟨#[]⟩
            simp
        rw [e] at q
        exact ⟨.str z, H, I, ⟨_, rfl⟩, q⟩
      · rw [if_neg h4]
        have e : (⟨(List.replicate n.toNat z.cps).foldl (· ++ ·) #[]⟩ : Str) = repS z n.toNat := by
          have := foldl_repA z.cps.toList n.toNat #[]
          rw [Array.toArray_toList] at this
          rw [this]
          simp [repS]
        rw [e]
        exact ⟨by rw [repS_len]; exact hz, .str (repS z n.toNat), H, I.tok _, ⟨_, rfl⟩, q⟩
def oMulA : OP2
  | .int i, .int j, Q => gd ((-18446744073709551616 < i ∧ i < 18446744073709551616) ∨ (-18446744073709551616 < j ∧ j < 18446744073709551616)) (Q (.int (i * j)))
  | .lst xs, .int k, Q => gd (smallB k = true ∧ xs.length * k.toNat ≤ 16777216) (Q (.lst (List.replicate k.toNat xs).flatten))
  | .str x, .int k, Q => gd (smallB k = true ∧ x.length * k.toNat ≤ 16777216) (Q (.str (repS x k.toNat)))
  | _, _, _ => False
theorem oy_mulA : OpY X (binaryOp .Mult) oMulA := by
  refine ⟨_, op_mul.or (op_rep.or op_mul_str), fun F Hs σ H ε v w d1 d2 Q' Q R r1 r2 q k => ?_⟩
  unfold oMulA at q
  split at q
  · have q := gd_elim q
    refine .inl ⟨_, _, r1.int', r2.int', ?_, k _ H Hs _ (Evl.Ex.refl _) R (.int _) q.2⟩
    exact q.1
  · have q := gd_elim q
    obtain ⟨a, vs, e1, h1, p1⟩ := r1.lst' R.ex
    obtain ⟨s1, s2⟩ := small_of q.1.1
    refine .inr (.inl ⟨a, _, vs, e1, r2.int', h1, by omega, by omega, by rw [p1.len]; exact line_le q.1.2, fun p hp => ?_⟩)
    obtain ⟨R3, e3⟩ := R.new (o := .lst (List.replicate (Int.toNat _) vs).flatten) hp
    exact k (.ref p) _ _ _ e3 R3 (.lst upd_same ((p1.rep _).mono e3)) q.2
  · have q := gd_elim q
    obtain ⟨s1, s2⟩ := small_of q.1.1
    exact .inr (.inr ⟨_, _, r1.str', r2.int', by omega, by omega, line_le q.1.2, k _ H Hs _ (Evl.Ex.refl _) R (.str _) q.2⟩)
  · exact q.elim
/-! ### in a list, a tuple of flat items -/
def flatD : D → Bool
  | .non => true
  | .bl _ => true
  | .int _ => true
  | .str _ => true
  | _ => false
def eqF : D → D → Bool
  | .non, .non => true
  | .bl a, .bl b => a == b
  | .bl a, .int b => (if a then 1 else 0) == b
  | .int a, .bl b => a == (if b then 1 else 0)
  | .int a, .int b => a == b
  | .str a, .str b => a == b
  | _, _ => false
def inF (x : D) (ys : List D) : Bool := ys.any fun y => eqF y x
def flatAll : List D → Bool
  | [] => true
  | d :: ds => match flatD d with
    | true => flatAll ds
    | false => false
def oIn (neg : Bool) : OP2 := fun x y Q => match y with
  | .lst ys => gd (flatD x = true ∧ flatAll ys = true) (Q (.bl (match neg with | true => !inF x ys | false => inF x ys)))
  | .tup ys => gd (flatD x = true ∧ flatAll ys = true) (Q (.bl (match neg with | true => !inF x ys | false => inF x ys)))
  | _ => False
theorem flat_rep {K : PySem.W.Frag} {H : Hp} {v : V} {d : D} (r : Rep K H v d) (f : flatD d = true) : flatV v = true ∧ ∀ w e, Rep K H w e → flatD e = true → eqV v w = eqF d e := by
  cases r <;> first
    | (cases f; done)
    | (refine ⟨rfl, fun w e r2 f2 => ?_⟩
       cases r2 <;> first | (cases f2; done) | rfl)
theorem flat_all {K : PySem.W.Frag} {H : Hp} : ∀ {vs : List V} {ds : List D}, Reps K H vs ds → flatAll ds = true → vs.all flatV = true ∧ ∀ w e, Rep K H w e → flatD e = true → inV w vs = inF e ds
  | _, _, .nil, _ => ⟨rfl, fun _ _ _ _ => rfl⟩
  | _, _, .cons (d := d) (ds := ds) h t, f => by
    have f1 : flatD d = true ∧ flatAll ds = true := by
      unfold flatAll at f
      split at f
      · rename_i e
        exact ⟨e, f⟩
      · cases f
    obtain ⟨a1, a2⟩ := flat_rep h f1.1
    obtain ⟨b1, b2⟩ := flat_all t f1.2
    refine ⟨by rw [List.all_cons, a1, b1]; rfl, fun w e r2 f2 => ?_⟩
    show ((_ :: _ : List V).any _) = ((_ :: _ : List D).any _)
    rw [List.any_cons, List.any_cons, a2 w e r2 f2]
    have := b2 w e r2 f2
    unfold inV inF at this
    rw [this]
theorem oy_in_core {neg : Bool} {op : CmpOp} (h : OpR X (compareOp op) (rIn X.K neg)) : OpY X (compareOp op) (oIn neg) := by
  refine ⟨_, h, fun F Hs σ H ε v w d1 d2 Q' Q R r1 r2 q k => ?_⟩
  unfold oIn at q
  split at q
  · have q := gd_elim q
    obtain ⟨a, vs, e1, h1, p1⟩ := r2.lst' R.ex
    have r1' : Rep X.K Hs v d1 := by
      cases d1 <;> first | (cases q.1.1; done) | (first | (rw [r1.int']; exact .int _) | (rw [r1.str']; exact .str _) | (rw [r1.bl']; exact .bl _) | (rw [r1.non']; exact .non))
    obtain ⟨g1, g2⟩ := flat_all p1 q.1.2
    obtain ⟨g3, _⟩ := flat_rep r1' q.1.1
    refine ⟨a, vs, e1, .inl (SqL.of h1), g3, g1, ?_⟩
    rw [g2 v d1 r1' q.1.1]
    cases neg
    · exact k _ H Hs _ (Evl.Ex.refl _) R (.bl _) q.2
    · exact k _ H Hs _ (Evl.Ex.refl _) R (.bl _) q.2
  · have q := gd_elim q
    obtain ⟨a, vs, e1, h1, p1⟩ := r2.tup' R.ex
    have r1' : Rep X.K Hs v d1 := by
      cases d1 <;> first | (cases q.1.1; done) | (first | (rw [r1.int']; exact .int _) | (rw [r1.str']; exact .str _) | (rw [r1.bl']; exact .bl _) | (rw [r1.non']; exact .non))
    obtain ⟨g1, g2⟩ := flat_all p1 q.1.2
    obtain ⟨g3, _⟩ := flat_rep r1' q.1.1
    refine ⟨a, vs, e1, .inr h1, g3, g1, ?_⟩
    rw [g2 v d1 r1' q.1.1]
    cases neg
    · exact k _ H Hs _ (Evl.Ex.refl _) R (.bl _) q.2
    · exact k _ H Hs _ (Evl.Ex.refl _) R (.bl _) q.2
  · exact q.elim
theorem oy_in : OpY X (compareOp .In) (oIn false) := oy_in_core op_in_seq
theorem oy_notin : OpY X (compareOp .NotIn) (oIn true) := oy_in_core op_notIn_seq
/-! ### a, b, c = x, y, z: data -/
def ysPar3 (i j l : Nat) (rs : PTL) : PTS := fun Δ ε => rs ε fun ts ε1 => outs ε1 ts fun ds ε2 => match ds with
  | [d1, d2, d3] => Δ.nx (((ε2.set i (some (.v d1))).set j (some (.v d2))).set l (some (.v d3)))
  | _ => False
theorem ys_par3 (i j l : Nat) {x y z : Str} {a b c : Expr} {rs : PTL} {px py pz pt : Pos} {kt k2 : Nat} {pt2 : Pos} (hc : X.calm = true) (hN : X.N.Nodup) (hi : X.N[i]? = some x) (hj : X.N[j]? = some y) (hl : X.N[l]? = some z) (hij : i ≠ j) (hil : i ≠ l) (hjl : j ≠ l)
    (hx : X.env.scope.names.lookup x = some .local) (hy : X.env.scope.names.lookup y = some .local) (hz : X.env.scope.names.lookup z = some .local) (ha : YL X W Ξ [a, b, c] rs)
    (hw : swappedStores [.Tuple [.Name x px, .Name y py, .Name z pz] kt pt] (.Tuple [a, b, c] k2 pt2) X.env = pure (some [x, y, z]) := by rfl)
    (hs : swapsWithSole [.Tuple [.Name x px, .Name y py, .Name z pz] kt pt] (.Tuple [a, b, c] k2 pt2) pos.line X.env = pure false := by rfl) :
    YS X W Ξ (.Assign [.Tuple [.Name x px, .Name y py, .Name z pz] kt pt] (.Tuple [a, b, c] k2 pt2) pos) (ysPar3 i j l rs) := by
  obtain ⟨ta, pa, ka⟩ := ha.ex
  refine ⟨_, ps_par3 hc hN hi hj hl hij hil hjl hx hy hz pa hw hs, fun F Hs σ H ε Δ Dd R L q kk => ?_⟩
  refine ka F Hs σ H ε _ _ R L q fun vs H1 Hs1 ts ε1 e1 R1 p1 q1 => ?_
  obtain ⟨ds, ε2, Hs2, e2, R2, rv, q2⟩ := R1.outs p1 q1
  split at q2
  · cases rv with
    | cons r1 rv =>
      cases rv with
      | cons r2 rv =>
        cases rv with
        | cons r3 rv =>
          cases rv
          exact ⟨_, _, _, rfl, kk.nx _ H1 Hs2 _ (e1.trans e2) (((R2.store r1 i).store r2 j).store r3 l) q2⟩
  · exact q2.elim
end
end PL

set_option Elab.async false
set_option linter.all false
set_option autoImplicit false
set_option maxRecDepth 100000
set_option maxHeartbeats 1000000
/-! Texts as lists of signs; what two lists have alike; [f(x) for x in xs]. -/
namespace PL
open PySem PySem.Spec PyProof.Rows L2
/-- a text of signs -/
abbrev S0 (l : List Nat) : Str := ⟨⟨l⟩⟩
theorem str_eta (x : Str) : x = S0 x.cps.toList := rfl
theorem dec_sign {c d : Nat} : decide (S0 [c] = S0 [d]) = decide (c = d) := by
  by_cases h : c = d
  · subst h; rw [decide_eq_true rfl, decide_eq_true rfl]
  · rw [decide_eq_false h, decide_eq_false]
    intro z
    apply h
    have := congrArg (fun s : Str => s.cps.toList) z
    simpa using this
theorem lt_sign {c d : Nat} : ltS (S0 [c]) (S0 [d]) = decide (c < d) := by
  unfold ltS
  show decide ([c] < [d]) = decide (c < d)
  have e : [c] < [d] ↔ c < d := by
    rw [List.cons_lt_cons_iff]
    simp
  by_cases h : c < d
  · rw [decide_eq_true h, decide_eq_true (e.mpr h)]
  · rw [decide_eq_false h, decide_eq_false (fun z => h (e.mp z))]
theorem sIx_in {n d : Nat} {i : Int} (h0 : 0 ≤ i) (h1 : i ≤ n) : HT.sIx n d (some i) = i.toNat := by
  obtain ⟨j, rfl⟩ := Int.eq_ofNat_of_zero_le h0
  rw [HT.sIx_nat, Int.toNat_natCast]
  omega
theorem cut_from {l : List Nat} {i : Int} (h0 : 0 ≤ i) (h1 : i ≤ l.length) : cutS (S0 l) (some i) none = S0 (l.drop i.toNat) := by
  unfold cutS
  show (⟨((l.drop (HT.sIx l.length 0 (some i))).take (l.length - HT.sIx l.length 0 (some i))).toArray⟩ : Str) = _
  rw [sIx_in h0 h1, List.take_of_length_le (by rw [List.length_drop]; omega)]
theorem cut_to {l : List Nat} {i : Int} (h0 : 0 ≤ i) (h1 : i ≤ l.length) : cutS (S0 l) none (some i) = S0 (l.take i.toNat) := by
  unfold cutS
  show (⟨((l.drop 0).take (HT.sIx l.length l.length (some i) - 0)).toArray⟩ : Str) = _
  rw [sIx_in h0 h1]
  rfl
theorem cut_mid {l : List Nat} {i j : Int} (h0 : 0 ≤ i) (h1 : i ≤ j) (h2 : j ≤ l.length) : cutS (S0 l) (some i) (some j) = S0 ((l.drop i.toNat).take (j.toNat - i.toNat)) := by
  unfold cutS
  show (⟨((l.drop (HT.sIx l.length 0 (some i))).take (HT.sIx l.length l.length (some j) - HT.sIx l.length 0 (some i))).toArray⟩ : Str) = _
  rw [sIx_in h0 (by omega), sIx_in (by omega) h2]
/-- how far two lists are alike -/
def cpre : List Nat → List Nat → Nat
  | x :: xs, y :: ys => if x = y then cpre xs ys + 1 else 0
  | _, _ => 0
theorem cpre_le : ∀ xs ys : List Nat, cpre xs ys ≤ xs.length ∧ cpre xs ys ≤ ys.length
  | [], _ => ⟨Nat.zero_le _, Nat.zero_le _⟩
  | _ :: _, [] => ⟨Nat.zero_le _, Nat.zero_le _⟩
  | x :: xs, y :: ys => by
    unfold cpre
    split
    · obtain ⟨h1, h2⟩ := cpre_le xs ys
      exact ⟨Nat.succ_le_succ h1, Nat.succ_le_succ h2⟩
    · exact ⟨Nat.zero_le _, Nat.zero_le _⟩
/-- one more sign alike, or the end of it -/
theorem cpre_at : ∀ {xs ys : List Nat} {n : Nat} {a b : Nat}, n ≤ cpre xs ys → xs[n]? = some a → ys[n]? = some b → (a = b ∧ n + 1 ≤ cpre xs ys) ∨ (a ≠ b ∧ n = cpre xs ys)
  | [], _, n, a, b, _, h, _ => by simp at h
  | _ :: _, [], n, a, b, _, _, h => by simp at h
  | x :: xs, y :: ys, 0, a, b, hn, ha, hb => by
    obtain rfl : x = a := by simpa using ha
    obtain rfl : y = b := by simpa using hb
    unfold cpre
    split
    · rename_i e
      exact .inl ⟨e, by omega⟩
    · rename_i e
      exact .inr ⟨e, rfl⟩
  | x :: xs, y :: ys, n + 1, a, b, hn, ha, hb => by
    unfold cpre at hn ⊢
    split at hn
    · rename_i e
      rw [if_pos e]
      rcases cpre_at (xs := xs) (ys := ys) (n := n) (by omega) (by simpa using ha) (by simpa using hb) with ⟨h1, h2⟩ | ⟨h1, h2⟩
      · exact .inl ⟨h1, by omega⟩
      · exact .inr ⟨h1, by omega⟩
    · omega
theorem cpre_end {xs ys : List Nat} {n : Nat} (h : n ≤ cpre xs ys) (e : n = xs.length ∨ n = ys.length) : n = cpre xs ys := by
  have := cpre_le xs ys
  omega
/-- the sign at a place -/
theorem opt_sign {l : List Nat} {i : Int} {n : Nat} {c : Nat} {Q : Nat → Prop} (hi : i = (n : Int)) (h : l[n]? = some c) (k : Q c) : opt (atI l i) Q := by
  subst hi
  exact opt_of (atI_nat h) k
theorem get_of {l : List Nat} {n : Nat} (h : n < l.length) : ∃ c, l[n]? = some c := ⟨l[n], List.getElem?_eq_getElem h⟩
/-- [f(x) for x in xs] -/
theorem lc_map {g : PTG} {rt : PTT} {re : PTE} {vs : List Nat} {ε1 : PEnv} {Q : List D → PEnv → Prop} {ds : List D} (f : D → D)
    (st : ∀ (i : Nat) (d : D), ds[i]? = some d → ∀ (K : D → Prop) (N : Prop), K (f d) → g d (wipeE ε1 vs) fun ε2 => rt ε2 fun k ε3 => match k with
      | true => re ε3 fun t ε4 => out ε4 t fun y ε5 => wipeE ε5 vs = wipeE ε1 vs ∧ K y
      | false => wipeE ε3 vs = wipeE ε1 vs ∧ N) (fin : Q (ds.map f) ε1) : ∃ Wp : Nat → List D → Prop, Wp 0 [] ∧
  (∀ i d acc, i < ds.length → ds[i]? = some d → acc.length ≤ i → Wp i acc → g d (wipeE ε1 vs) fun ε2 => rt ε2 fun k ε3 => match k with
    | true => re ε3 fun t ε4 => out ε4 t fun y ε5 => wipeE ε5 vs = wipeE ε1 vs ∧ Wp (i + 1) (acc ++ [y])
    | false => wipeE ε3 vs = wipeE ε1 vs ∧ Wp (i + 1) acc) ∧ ∀ acc, acc.length ≤ ds.length → Wp ds.length acc → Q acc ε1 := by
  refine ⟨fun i acc => acc = (ds.take i).map f, rfl, fun i d acc hi hd hl w => ?_, fun acc hl w => ?_⟩
  · refine st i d hd (fun y => acc ++ [y] = (ds.take (i + 1)).map f) (acc = (ds.take (i + 1)).map f) ?_
    subst w
    have hd2 : ds[i] = d := by
      rw [List.getElem?_eq_getElem hi] at hd
      exact Option.some.inj hd
    rw [List.take_succ_eq_append_getElem hi, List.map_append, hd2]
    rfl
  · subst w
    rw [List.take_length]
    exact fin
theorem all_bls {xs : List Bool} {Q : D → Prop} (h : Q (.bl (xs.all id))) : oAll [.lst (xs.map D.bl)] Q := by
  show opt (toBls (xs.map D.bl)) _
  rw [toBls_map]
  exact h
end PL

set_option Elab.async false
set_option linter.all false
set_option autoImplicit false
set_option maxRecDepth 100000
set_option maxHeartbeats 1000000
/-! Small dicts of texts. -/
namespace PL
open PySem PySem.Spec PyProof.Rows L2
open Evl (Ex)
section
variable {X : Cx} {W : WX} {Ξ : Xi} {a b : Expr} {pos : Pos}
/-- {k1: v1, k2: v2}, of texts -/
def yDic2 (k1 v1 k2 v2 : Str) : PTE := fun ε Q => Q (.d (.dic [(.inr k1, .str v1), (.inr k2, .str v2)])) ε
theorem ye_dic2 {k1 v1 k2 v2 : Str} {j1 j2 j3 j4 : Nat} {p1 p2 p3 p4 : Pos} (hne : decide (k1 = k2) = false) : YE X W Ξ (.Dict [some (.Constant (.str k1) j1 p1), some (.Constant (.str k2) j2 p2)] [.Constant (.str v1) j3 p3, .Constant (.str v2) j4 p4] pos) (yDic2 k1 v1 k2 v2) := by
  have hk : k1 ≠ k2 := of_decide_eq_false hne
  refine ⟨_, pe_disp (pps_cons pe_str pe_str (pps_cons pe_str pe_str pps_nil)) rfl rfl (by simp) (by simp), fun F Hs σ H ε Q' Q R L q k => fun p hp => ?_⟩
  refine ⟨upd_same, [(.inr k1, .str v1), (.inr k2, .str v2)], rfl, by simp, ?_⟩
  have em : mergeK ([] : List (Key × V)) [(.inr k1, .str v1), (.inr k2, .str v2)] = [(.inr k1, .str v1), (.inr k2, .str v2)] := by
    show putK (putK ([] : List (Key × V)) (.inr k1) (.str v1)) (.inr k2) (.str v2) = _
    simp [putK, hk]
  rw [em, upd_upd]
  obtain ⟨R3, e3⟩ := R.new (o := .dK [(.inr k1, .str v1), (.inr k2, .str v2)]) hp
  exact k (.ref p) _ _ (.d (.dic [(.inr k1, .str v1), (.inr k2, .str v2)])) ε e3 R3 (show Rep X.K _ _ _ from .dic upd_same rfl (.cons (.str _) (.cons (.str _) .nil))) q
/-- d[x], x a text -/
def dGet : List (Key × D) → Str → Option D
  | [], _ => none
  | (.inr k, d) :: r, x => match decide (k = x) with
    | true => some d
    | false => dGet r x
  | (.inl _, _) :: r, x => dGet r x
theorem dGet_rep {K : PySem.W.Frag} {H : Hp} {x : Str} : ∀ {kvs : List (Key × V)} {ds : List (Key × D)} {d : D}, kvs.map (·.1) = ds.map (·.1) → Reps K H (kvs.map (·.2)) (ds.map (·.2)) → dGet ds x = some d → ∃ v, valV kvs (.inr x) = some v ∧ Rep K H v d
  | [], [], d, _, _, h => by cases h
  | [], _ :: _, _, e, _, _ => by cases e
  | _ :: _, [], _, e, _, _ => by cases e
  | (k, v) :: kvs, (k', d') :: ds, d, e, r, h => by
    rw [List.map_cons, List.map_cons, List.cons.injEq] at e
    obtain ⟨e1, e2⟩ := e
    replace e1 : k = k' := e1
    subst e1
    cases r with
    | cons r1 r2 =>
      cases k with
      | inl i =>
        obtain ⟨w, h1, h2⟩ := dGet_rep e2 r2 (show dGet ds x = some d from h)
        exact ⟨w, by rw [valV_neg (by simp)]; exact h1, h2⟩
      | inr k =>
        have h3 : (match decide (k = x) with | true => some d' | false => dGet ds x) = some d := h
        cases hd : decide (k = x) with
        | true =>
          rw [hd] at h3
          have hk := of_decide_eq_true hd
          subst hk
          cases h3
          exact ⟨v, valV_pos rfl, r1⟩
        | false =>
          rw [hd] at h3
          have hk := of_decide_eq_false hd
          obtain ⟨w, h1, h2⟩ := dGet_rep e2 r2 h3
          exact ⟨w, by rw [valV_neg (by simpa using hk)]; exact h1, h2⟩
def yIxD (ra rb : PTE) : PTE := fun ε Q => ra ε fun t1 ε1 => rb ε1 fun t2 ε2 => res ε2 t1 fun d1 => res ε2 t2 fun d2 => match d1, d2 with
  | .dic ds, .str x => opt (dGet ds x) fun d => Q (.d d) ε2
  | _, _ => False
theorem ye_ixD {ra rb : PTE} (hu : X.A.units + 64 < cLine) (ha : YE X W Ξ a ra) (hb : YE X W Ξ b rb) (hs : NoSl b := by intro _ _; rfl) : YE X W Ξ (.Subscript a b pos) (yIxD ra rb) := by
  obtain ⟨ta, pa, ka⟩ := ha.ex
  obtain ⟨tb, pb, kb⟩ := hb.ex
  refine ⟨_, pe_dget (by omega) pa pb hs, fun F Hs σ H ε Q' Q R L q k => ?_⟩
  refine ka F Hs σ H ε _ _ R L q fun v H1 Hs1 t1 ε1 e1 R1 p1 q1 => ?_
  refine kb F Hs1 σ H1 ε1 _ _ R1 (L.mono e1) q1 fun w H2 Hs2 t2 ε2 e2 R2 p2 q2 => ?_
  obtain ⟨d1, v1, q3⟩ := R2.res (p1.mono e2) q2
  obtain ⟨d2, v2, q4⟩ := R2.res p2 q3
  split at q4
  · obtain ⟨d, hd, q5⟩ := opt_elim q4
    obtain ⟨a, kvs, rfl, g1, g2, g3⟩ := v1.dic' R2.ex
    rw [v2.str']
    obtain ⟨v, h1, h2⟩ := dGet_rep g2 g3 hd
    refine ⟨a, v, rfl, ?_, k v H2 Hs2 (.d d) ε2 (e1.trans e2) R2 h2 q5⟩
    rw [← h1]
    exact DGet.k (k := .inr _) g1
  · exact q4.elim
/-- a, b, c = a new list, y, z -/
def ysPar3N (i j l : Nat) (rn : PTN) (rb rc : PTE) : PTS := fun Δ ε => rn ε fun ds ε1 => rb ε1 fun t2 ε2 => out ε2 t2 fun d2 ε3 => rc ε3 fun t3 ε4 => out ε4 t3 fun d3 ε5 =>
  Δ.nx (((ε5.set i (some (.o ds))).set j (some (.v d2))).set l (some (.v d3)))
theorem ys_par3N (i j l : Nat) {x y z : Str} {a b c : Expr} {rn : PTN} {rb rc : PTE} {px py pz pt : Pos} {kt k2 : Nat} {pt2 : Pos} (hc : X.calm = true) (hN : X.N.Nodup) (hi : X.N[i]? = some x) (hj : X.N[j]? = some y) (hl : X.N[l]? = some z) (hij : i ≠ j) (hil : i ≠ l) (hjl : j ≠ l)
    (hx : X.env.scope.names.lookup x = some .local) (hy : X.env.scope.names.lookup y = some .local) (hz : X.env.scope.names.lookup z = some .local) (ha : YN X W Ξ a rn) (hb : YE X W Ξ b rb) (hcc : YE X W Ξ c rc)
    (hst : starEach [a, b, c] X.env = (false, eval a X.env) :: starEach [b, c] X.env := by rfl) (hst2 : starEach [b, c] X.env = (false, eval b X.env) :: starEach [c] X.env := by rfl) (hst3 : starEach [c] X.env = (false, eval c X.env) :: starEach [] X.env := by rfl)
    (hw : swappedStores [.Tuple [.Name x px, .Name y py, .Name z pz] kt pt] (.Tuple [a, b, c] k2 pt2) X.env = pure (some [x, y, z]) := by rfl)
    (hs : swapsWithSole [.Tuple [.Name x px, .Name y py, .Name z pz] kt pt] (.Tuple [a, b, c] k2 pt2) pos.line X.env = pure false := by rfl) :
    YS X W Ξ (.Assign [.Tuple [.Name x px, .Name y py, .Name z pz] kt pt] (.Tuple [a, b, c] k2 pt2) pos) (ysPar3N i j l rn rb rc) := by
  obtain ⟨ta, pa, ka⟩ := ha.ex
  obtain ⟨tb, pb, kb⟩ := hb.ex
  obtain ⟨tc, pc, kc⟩ := hcc.ex
  refine ⟨_, ps_par3 hc hN hi hj hl hij hil hjl hx hy hz (pa_cons pa (pa_cons pb (pa_cons pc pa_nil hst3) hst2) hst) hw hs, fun F Hs σ H ε Δ Dd R L q kk => ?_⟩
  refine ka F Hs σ H ε _ _ R L q fun p H1 Hs1 vs ds ε1 e1 R1 g1 g2 g3 g4 rs q1 => ?_
  have R1' := R1.lend g1 g2 g4
  have L' : Lk X.K (upd F p (.lst vs)) Hs1 W Ξ := fun c σ' H' Hs' ε' xc e' R' => L c σ' H' Hs' ε' xc (e1.trans e') (R'.back g3).1
  refine kb _ Hs1 σ H1 ε1 _ _ R1' L' q1 fun w2 H2 Hs2 t2 ε2 e2 R2 p2 q2 => ?_
  obtain ⟨d2, ε3, Hs3, e3, R3, r3, q3⟩ := R2.out p2 q2
  refine kc _ Hs3 σ H2 ε3 _ _ R3 (L'.mono (e2.trans e3)) q3 fun w3 H4 Hs4 t3 ε4 e4 R4 p4 q4 => ?_
  obtain ⟨d3, ε5, Hs5, e5, R5, r5, q5⟩ := R4.out p4 q4
  refine ⟨.ref p, w2, w3, rfl, ?_⟩
  obtain ⟨R5', b1, b2, b3⟩ := R5.back g3
  have R6 := storeO_of R5' i b1 b2 g3 b3 (rs.mono (((e2.trans e3).trans e4).trans e5))
  exact kk.nx _ H4 Hs5 _ ((((e1.trans e2).trans e3).trans e4).trans e5) ((R6.store (r3.mono (e4.trans e5)) j).store r5 l) q5
/-- x[a:b], x a tuple -/
def asTp (Q : List D → Prop) : D → Prop
  | .tup xs => Q xs
  | _ => False
theorem asTp_elim {d : D} {Q : List D → Prop} (h : asTp Q d) : ∃ i, d = .tup i ∧ Q i := by
  cases d with
  | tup i => exact ⟨i, rfl, h⟩
  | _ => exact h.elim
def ySlT (ra : PTE) (rl rh : PTO) : PTE := fun ε Q => ra ε fun t ε1 => rl ε1 fun lo ε2 => rh ε2 fun hi ε3 => res ε3 t (asTp fun xs => gd (¬ (HT.sIx xs.length 0 lo = 0 ∧ HT.sIx xs.length xs.length hi = xs.length)) (Q (.d (.tup (cutD xs lo hi))) ε3))
theorem ye_slT {lo hi : Option Expr} {p2 : Pos} {ra : PTE} {rl rh : PTO} (ha : YE X W Ξ a ra) (hl : YO X W Ξ lo rl) (hh : YO X W Ξ hi rh) : YE X W Ξ (.Subscript a (.Slice lo hi none p2) pos) (ySlT ra rl rh) := by
  obtain ⟨ta, pa, ka⟩ := ha.ex
  obtain ⟨tl, pl, kl⟩ := hl.ex
  obtain ⟨th, ph, kh⟩ := hh.ex
  refine ⟨_, pe_slice sl_tup pa pl ph, fun F Hs σ H ε Q' Q R L q k => ?_⟩
  refine ka F Hs σ H ε _ _ R L q fun v H1 Hs1 t1 ε1 e1 R1 p1 q1 => ?_
  refine kl F Hs1 σ H1 ε1 _ _ R1 (L.mono e1) q1 fun l H2 Hs2 ε2 e2 R2 q2 => ?_
  refine kh F Hs2 σ H2 ε2 _ _ R2 (L.mono (e1.trans e2)) q2 fun h H3 Hs3 ε3 e3 R3 q3 => ?_
  obtain ⟨d, v1, q4⟩ := R3.res (p1.mono (e2.trans e3)) q3
  obtain ⟨xs, rfl, q4⟩ := asTp_elim q4
  obtain ⟨a, vs, g1, h1, p1⟩ := v1.tup' R3.ex
  obtain ⟨hn, q5⟩ := gd_elim q4
  refine ⟨a, vs, g1, h1, by rw [p1.len]; exact hn, fun p hp => ?_⟩
  obtain ⟨R4, e4⟩ := R3.new (o := .tup (cutV vs l h)) hp
  exact k (.ref p) _ _ (.d (.tup (cutD _ l h))) ε3 (((e1.trans e2).trans e3).trans e4) R4 (show Rep X.K _ _ (.tup _) from .tup (SqT.of upd_same) ((p1.cut l h).mono e4)) q5
end
/-- [f(x) for x in xs if p(x)] -/
theorem lc_filter {g : PTG} {rt : PTT} {re : PTE} {vs : List Nat} {ε1 : PEnv} {Q : List D → PEnv → Prop} {ds : List D} (f : D → D) (p : D → Bool)
    (st : ∀ (i : Nat) (d : D), ds[i]? = some d → ∀ (K : D → Prop) (N : Prop), (p d = true → K (f d)) → (p d = false → N) → g d (wipeE ε1 vs) fun ε2 => rt ε2 fun k ε3 => match k with
      | true => re ε3 fun t ε4 => out ε4 t fun y ε5 => wipeE ε5 vs = wipeE ε1 vs ∧ K y
      | false => wipeE ε3 vs = wipeE ε1 vs ∧ N) (fin : Q ((ds.filter p).map f) ε1) : ∃ Wp : Nat → List D → Prop, Wp 0 [] ∧
  (∀ i d acc, i < ds.length → ds[i]? = some d → acc.length ≤ i → Wp i acc → g d (wipeE ε1 vs) fun ε2 => rt ε2 fun k ε3 => match k with
    | true => re ε3 fun t ε4 => out ε4 t fun y ε5 => wipeE ε5 vs = wipeE ε1 vs ∧ Wp (i + 1) (acc ++ [y])
    | false => wipeE ε3 vs = wipeE ε1 vs ∧ Wp (i + 1) acc) ∧ ∀ acc, acc.length ≤ ds.length → Wp ds.length acc → Q acc ε1 := by
  refine ⟨fun i acc => acc = ((ds.take i).filter p).map f, rfl, fun i d acc hi hd hl w => ?_, fun acc hl w => ?_⟩
  · have hd2 : ds[i] = d := by
      rw [List.getElem?_eq_getElem hi] at hd
      exact Option.some.inj hd
    have ht : ds.take (i + 1) = ds.take i ++ [d] := by rw [List.take_succ_eq_append_getElem hi, hd2]
    refine st i d hd (fun y => acc ++ [y] = ((ds.take (i + 1)).filter p).map f) (acc = ((ds.take (i + 1)).filter p).map f) (fun h => ?_) fun h => ?_
    · subst w
      rw [ht, List.filter_append, List.map_append]
      simp [h]
    · subst w
      rw [ht, List.filter_append, List.map_append]
      simp [h]
  · subst w
    rw [List.take_length]
    exact fin
theorem gtup5 {i j k l m : Nat} {d1 d2 d3 d4 d5 : D} {ε : PEnv} {Q : PEnv → Prop} (h : Q (((((ε.set i (some (.v d1))).set j (some (.v d2))).set k (some (.v d3))).set l (some (.v d4))).set m (some (.v d5)))) : gTupY 5 [gN i, gN j, gN k, gN l, gN m] (.tup [d1, d2, d3, d4, d5]) ε Q := h
theorem eqv_pair {a b c d : Int} : PyData.eqv (D.py (.tup [.int a, .int b])) (D.py (.tup [.int c, .int d])) = (decide (a = c) && decide (b = d)) := by
  show ((a == c) && ((b == d) && true)) = _
  rw [Bool.and_true]
  rfl
end PL

set_option Elab.async false
set_option linter.all false
set_option autoImplicit false
set_option maxRecDepth 100000
set_option maxHeartbeats 1000000
/-! A list that a name owns is lent to a def. -/
namespace PL
open PySem PySem.Spec PyProof.Rows L2
open Evl (Ex)
mutual
/-- no list in it -/
def noLst : D → Bool
  | .non => true
  | .bl _ => true
  | .int _ => true
  | .str _ => true
  | .tup ds => noLsts ds
  | _ => false
def noLsts : List D → Bool
  | [] => true
  | d :: ds => noLst d && noLsts ds
end
/-- a heap without the object at p -/
def less (H : Hp) (p : Addr) : Hp := fun b => if b = p then none else H b
theorem less_same {H : Hp} {p : Addr} : less H p p = none := if_pos rfl
theorem less_ne {H : Hp} {p b : Addr} (h : b ≠ p) : less H p b = H b := if_neg h
theorem sqt_less {K : PySem.W.Frag} {H : Hp} {p a : Addr} {xs ys : List V} (hp : H p = some (.lst xs)) (s : SqT K H a ys) : SqT K (less H p) a ys := by
  rcases s with s | s
  · have ne : a ≠ p := by
      intro z
      subst z
      rcases s with s | ⟨o, s⟩ <;> (rw [hp] at s; cases s)
    left
    rcases s with s | ⟨o, s⟩
    · exact .inl (by rw [less_ne ne]; exact s)
    · exact .inr ⟨o, by rw [less_ne ne]; exact s⟩
  · exact .inr s
mutual
theorem rep_less {K : PySem.W.Frag} {H : Hp} {p : Addr} {xs : List V} (hp : H p = some (.lst xs)) : ∀ {v : V} {d : D}, Rep K H v d → noLst d = true → Rep K (less H p) v d
  | _, _, .non, _ => .non
  | _, _, .bl b, _ => .bl b
  | _, _, .int i, _ => .int i
  | _, _, .str x, _ => .str x
  | _, _, .lst _ _, h => by unfold noLst at h; cases h
  | _, _, .frl _ _, h => by unfold noLst at h; cases h
  | _, _, .tup (a := a) s r, h => by
    unfold noLst at h
    exact .tup (sqt_less hp s) (reps_less hp r h)
  | _, _, .dic _ _ _, h => by unfold noLst at h; cases h
  | _, _, .vl _, h => by unfold noLst at h; cases h
  | _, _, .pool _, h => by unfold noLst at h; cases h
theorem reps_less {K : PySem.W.Frag} {H : Hp} {p : Addr} {xs : List V} (hp : H p = some (.lst xs)) : ∀ {vs : List V} {ds : List D}, Reps K H vs ds → noLsts ds = true → Reps K (less H p) vs ds
  | _, _, .nil, _ => .nil
  | _, _, .cons h t, q => by
    unfold noLsts at q
    obtain ⟨q1, q2⟩ := Bool.and_eq_true_iff.mp q
    exact .cons (rep_less hp h q1) (reps_less hp t q2)
end
section
variable {K : PySem.W.Frag} {F Hs H Hs' H' : Hp} {σ : St} {ε : PEnv} {p : Addr} {vs : List V}
/-- what the callee sees of the caller's state: p stands still for the call -/
theorem lend_ex (R : RelS K F Hs σ H ε) (hH : H p = some (.lst vs)) (hp : Hs p = none) : Ex (upd Hs p (.lst vs)) H := fun b o e => by
  by_cases hb : b = p
  · subst hb
    rw [upd_same] at e
    cases e
    exact hH
  · rw [upd_ne hb] at e
    exact R.ex b o e
/-- behind the call: p is the name's own again -/
theorem lend_back (R : RelS K F Hs σ H ε) (hH : H p = some (.lst vs)) (hp : Hs p = none) (kp : Keeps (upd Hs p (.lst vs)) H Hs' H') : Keeps Hs H (less Hs' p) H' ∧ Hs' p = some (.lst vs) := by
  obtain ⟨k1, k2, k3⟩ := kp
  have hp' : Hs' p = some (.lst vs) := k1 p _ upd_same
  refine ⟨⟨fun b o e => ?_, fun b o e => ?_, fun b o e1 e2 => ?_⟩, hp'⟩
  · have ne : b ≠ p := fun z => by
      subst z
      rw [hp] at e
      cases e
    rw [less_ne ne]
    exact k1 b o (by rw [upd_ne ne]; exact e)
  · by_cases hb : b = p
    · subst hb
      rw [less_same] at e
      cases e
    · rw [less_ne hb] at e
      exact k2 b o e
  · by_cases hb : b = p
    · subst hb
      rw [hH] at e1
      cases e1
      exact ⟨k2 _ _ hp', less_same⟩
    · rw [less_ne hb]
      exact k3 b o e1 (by rw [upd_ne hb]; exact e2)
end
section
variable {X : Cx} {W : WX} {Ξ : Xi} {a : Expr} {es : List Expr} {pos : Pos}
/-- f(x, ..): x's own list is lent; what comes back holds no list -/
def yLend (φ : Spec) (Ξ : Xi) (i : Nat) (rs : PTL) : PTE := fun ε Q => match ε[i]? with
  | some (some (.o _)) => rs ε fun ts ε1 => outs ε1 ts fun ds ε2 => match ε2[i]? with
    | some (some (.o xs)) => φ (.lst xs :: ds) (fun d => noLst d = true ∧ Q (.d d) ε2) fun c => Ξ c ε2
    | _ => False
  | _ => False
theorem ye_lend {φ : Spec} {rs : PTL} {k i : Nat} {f : Addr} {fd : FuncData} {ps : List Str} {x y : Str} {p py : Pos} (Fn : FnOk X.prog X.w X.K X.mg X.base (L2.CX X.prog X.w) k f fd ps (pSp X.K φ)) (tk : Takes X W) (hr : Room k X.A) (hg : Gl X x)
    (hm : X.mg x = some (.ref f)) (hk : PySem.W.keepIn X.K (.ref f) = true) (hb : Binds X.K fd ps []) (h : YL X W Ξ es rs)
    (hN : X.N[i]? = some y) (hv : Vis X.env.scope y) (hd : (y == ("__debug__" : Str)) = false) (hcd : (y == ("__classdict__" : Str)) = false)
    (hdb : (x == ("__debug__" : Str)) = false := by decide)
    (he : starEach (.Name y py :: es) X.env = (false, eval (.Name y py) X.env) :: starEach es X.env := by rfl) (hpl : (backTo pos (starEach es X.env)).any (·.1) = false := by rfl) :
    YE X W Ξ (.Call (.Name x p) (.Name y py :: es) [] pos) (yLend φ Ξ i rs) := by
  obtain ⟨ts, pas, ks⟩ := h.ex
  refine ⟨_, pe_callS Fn hr hg hm hk hb (fun σ => passAt tk σ) (pa_cons (pe_var hN hv hd hcd) pas he) hdb he hpl, fun F Hs σ H ε Q' Q R L q k => ?_⟩
  unfold yLend at q
  split at q
  · rename_i e0
    obtain ⟨p0, vs0, s0, _⟩ := R.sl i _ e0
    refine ⟨_, s0, ks F Hs σ H ε _ _ R L q fun vs H1 Hs1 t1 ε1 e1 R1 p1 q1 => ?_⟩
    obtain ⟨ds, ε2, Hs2, e2, R2, rs, q2⟩ := R1.outs p1 q1
    split at q2
    · rename_i xs e3
      obtain ⟨p, ws, s1, g1, g2, g3, g4⟩ := R2.sl i _ e3
      have ep : p0 = p := by
        rw [s0] at s1
        exact V.ref.inj (Option.some.inj (Option.some.inj s1))
      subst ep
      have eu : Ex Hs2 (upd Hs2 p0 (.lst ws)) := ex_upd g1
      refine ⟨upd Hs2 p0 (.lst ws), .lst xs :: ds, _, _, lend_ex R2 g3 g1, .cons (.lst upd_same (g4.mono eu)) (rs.mono eu), q2, fun d qd v H' Hs' kp rv => ?_, fun c ec H' Hs' kp => ?_⟩
      · obtain ⟨kp2, hp'⟩ := lend_back R2 g3 g1 kp
        exact k v H' (less Hs' p0) (.d d) ε2 ((e1.trans e2).trans kp2.1) (R2.called kp2) (rep_less hp' rv qd.1) qd.2
      · obtain ⟨kp2, hp'⟩ := lend_back R2 g3 g1 kp
        exact L c σ H' (less Hs' p0) ε2 ec ((e1.trans e2).trans kp2.1) (R2.called kp2)
    · exact q2.elim
  · exact q.elim
theorem yeLend {φ : Spec} {rs : PTL} {k : Nat} {ps : List Str} {x y : Str} {p py : Pos} (i : Nat) (C : CallOk X.prog X.w X.K X.mg X.base k x ps φ) (tk : Takes X W) (hr : Room k X.A) (h : YL X W Ξ es rs) (hg : Gl X x := by rfl) (hN : X.N[i]? = some y := by rfl)
    (hv : Vis X.env.scope y := by first | exact Or.inl rfl | exact Or.inr (Or.inl rfl) | exact Or.inr (Or.inr rfl)) (hd : (y == ("__debug__" : Str)) = false := by decide) (hcd : (y == ("__classdict__" : Str)) = false := by decide) (hdb : (x == ("__debug__" : Str)) = false := by decide)
    (he : starEach (.Name y py :: es) X.env = (false, eval (.Name y py) X.env) :: starEach es X.env := by rfl) (hpl : (backTo pos (starEach es X.env)).any (·.1) = false := by rfl) :
    YE X W Ξ (.Call (.Name x p) (.Name y py :: es) [] pos) (yLend φ Ξ i rs) := by
  obtain ⟨⟨fd, F, _, b⟩, kp, gl⟩ := C
  exact ye_lend F tk hr hg gl kp (fun s us _ hl => by rw [List.append_nil] at hl ⊢; exact b s us hl) h hN hv hd hcd hdb he hpl
end
end PL

set_option Elab.async false
set_option linter.all false
set_option autoImplicit false
set_option maxRecDepth 100000
set_option maxHeartbeats 1000000
namespace PL.K49
open PySem PySem.Spec PyProof.Rows L2
local macro_rules | `(tactic| walk_at "y") => `(tactic| conv => whnf)
/-! ### floats, plainly -/
structure Fl where
  s : Bool
  b : Int
  e : Int
  t : Int
  d : Int
def mx (i j : Int) : Int := if j > i then j else i
def mn (i j : Int) : Int := if j < i then j else i
def beside (f : Fl) (row : Int) : Bool := decide (f.t ≤ row) && decide (row < f.d)
def stepB (row : Int) (p : Int × Int) (f : Fl) : Int × Int := match beside f row with
  | true => match f.s with
    | true => (mx p.1 f.e, p.2)
    | false => (p.1, mn p.2 f.b)
  | false => p
def btw (fs : List Fl) (lo hi row : Int) : Int × Int := fs.foldl (stepB row) (lo, hi)
def fits (fs : List Fl) (lo hi w row : Int) : Bool := decide (w ≤ (btw fs lo hi row).2 - (btw fs lo hi row).1) || (decide ((btw fs lo hi row).1 = lo) && decide ((btw fs lo hi row).2 = hi))
def leftsOf (fs : List Fl) (row : Int) : List Int := (fs.filter fun f => f.s && beside f row).map (·.e)
def rightsOf (fs : List Fl) (row : Int) : List Int := (fs.filter fun f => !f.s && beside f row).map (·.b)
theorem btw_step (f : Fl) (fs : List Fl) (lo hi row : Int) : btw (f :: fs) lo hi row = btw fs (stepB row (lo, hi) f).1 (stepB row (lo, hi) f).2 row := rfl
theorem btw_left : ∀ (fs : List Fl) (lo hi row : Int), (btw fs lo hi row).1 ∈ lo :: leftsOf fs row ∧ ∀ y ∈ lo :: leftsOf fs row, y ≤ (btw fs lo hi row).1
  | [], lo, hi, row => ⟨List.mem_cons_self, fun y hy => by
      rcases List.mem_cons.mp hy with rfl | hy
      · exact Int.le_refl _
      · cases hy⟩
  | f :: fs, lo, hi, row => by
    rw [btw_step]
    obtain ⟨h1, h2⟩ := btw_left fs (stepB row (lo, hi) f).1 (stepB row (lo, hi) f).2 row
    have key : (stepB row (lo, hi) f).1 = (match (f.s && beside f row) with
      | true => mx lo f.e
      | false => lo) := by
      unfold stepB
      cases beside f row <;> cases f.s <;> rfl
    have hl : leftsOf (f :: fs) row = (match (f.s && beside f row) with
      | true => f.e :: leftsOf fs row
      | false => leftsOf fs row) := by
      unfold leftsOf
      rw [List.filter_cons]
      cases f.s && beside f row <;> rfl
    rw [hl]
    cases hc : (f.s && beside f row) with
    | false =>
      rw [hc] at key
      rw [key] at h1 h2
      rw [key]
      exact ⟨h1, h2⟩
    | true =>
      rw [hc] at key
      replace key : (stepB row (lo, hi) f).1 = mx lo f.e := key
      rw [key] at h1 h2
      rw [key]
      have hm : mx lo f.e = lo ∨ mx lo f.e = f.e := by unfold mx; split <;> simp
      have h3 : lo ≤ mx lo f.e ∧ f.e ≤ mx lo f.e := by unfold mx; split <;> omega
      have h4 := h2 _ List.mem_cons_self
      refine ⟨?_, fun y hy => ?_⟩
      · rcases List.mem_cons.mp h1 with h1 | h1
        · rw [h1]
          rcases hm with hm | hm <;> rw [hm] <;> simp
        · exact List.mem_cons_of_mem _ (List.mem_cons_of_mem _ h1)
      · rcases List.mem_cons.mp hy with rfl | hy
        · omega
        · rcases List.mem_cons.mp hy with rfl | hy
          · omega
          · exact h2 y (List.mem_cons_of_mem _ hy)
theorem btw_right : ∀ (fs : List Fl) (lo hi row : Int), (btw fs lo hi row).2 ∈ hi :: rightsOf fs row ∧ ∀ y ∈ hi :: rightsOf fs row, (btw fs lo hi row).2 ≤ y
  | [], lo, hi, row => ⟨List.mem_cons_self, fun y hy => by
      rcases List.mem_cons.mp hy with rfl | hy
      · exact Int.le_refl _
      · cases hy⟩
  | f :: fs, lo, hi, row => by
    rw [btw_step]
    obtain ⟨h1, h2⟩ := btw_right fs (stepB row (lo, hi) f).1 (stepB row (lo, hi) f).2 row
    have key : (stepB row (lo, hi) f).2 = (match (!f.s && beside f row) with
      | true => mn hi f.b
      | false => hi) := by
      unfold stepB
      cases beside f row <;> cases f.s <;> rfl
    have hl : rightsOf (f :: fs) row = (match (!f.s && beside f row) with
      | true => f.b :: rightsOf fs row
      | false => rightsOf fs row) := by
      unfold rightsOf
      rw [List.filter_cons]
      cases !f.s && beside f row <;> rfl
    rw [hl]
    cases hc : (!f.s && beside f row) with
    | false =>
      rw [hc] at key
      rw [key] at h1 h2
      rw [key]
      exact ⟨h1, h2⟩
    | true =>
      rw [hc] at key
      replace key : (stepB row (lo, hi) f).2 = mn hi f.b := key
      rw [key] at h1 h2
      rw [key]
      have hm : mn hi f.b = hi ∨ mn hi f.b = f.b := by unfold mn; split <;> simp
      have h3 : mn hi f.b ≤ hi ∧ mn hi f.b ≤ f.b := by unfold mn; split <;> omega
      have h4 := h2 _ List.mem_cons_self
      refine ⟨?_, fun y hy => ?_⟩
      · rcases List.mem_cons.mp h1 with h1 | h1
        · rw [h1]
          rcases hm with hm | hm <;> rw [hm] <;> simp
        · exact List.mem_cons_of_mem _ (List.mem_cons_of_mem _ h1)
      · rcases List.mem_cons.mp hy with rfl | hy
        · omega
        · rcases List.mem_cons.mp hy with rfl | hy
          · omega
          · exact h2 y (List.mem_cons_of_mem _ hy)
/-- nothing stands beside -/
theorem btw_free {fs : List Fl} {lo hi row : Int} (h : ∀ f ∈ fs, beside f row = false) : btw fs lo hi row = (lo, hi) := by
  induction fs generalizing lo hi with
  | nil => rfl
  | cons f fs ih =>
    rw [btw_step]
    have e : stepB row (lo, hi) f = (lo, hi) := by
      unfold stepB
      rw [h f List.mem_cons_self]
    rw [e]
    exact ih fun g hg => h g (List.mem_cons_of_mem _ hg)
/-- what stands beside decides -/
theorem btw_same {fs : List Fl} {lo hi r1 r2 : Int} (h : ∀ f ∈ fs, beside f r1 = beside f r2) : btw fs lo hi r1 = btw fs lo hi r2 := by
  induction fs generalizing lo hi with
  | nil => rfl
  | cons f fs ih =>
    rw [btw_step, btw_step]
    have e : stepB r1 (lo, hi) f = stepB r2 (lo, hi) f := by
      unfold stepB
      rw [h f List.mem_cons_self]
    rw [e]
    exact ih fun g hg => h g (List.mem_cons_of_mem _ hg)
/-! ### the first row -/
/-- the first of these rows at which it fits, else the start -/
def firstIn (p : Int → Bool) (start : Int) : List Int → Int
  | [] => start
  | r :: rs => match p r with
    | true => r
    | false => firstIn p start rs
def startOf (fs : List Fl) (c : Int) : Int := match fs.getLast? with
  | some f => mx c f.t
  | none => c
/-- r is the first row from start on at which p holds -/
def FirstRow (p : Int → Bool) (start r : Int) : Prop := start ≤ r ∧ p r = true ∧ ∀ q, start ≤ q → q < r → p q = false
theorem FirstRow.uniq {p : Int → Bool} {s a b : Int} (h1 : FirstRow p s a) (h2 : FirstRow p s b) : a = b := by
  obtain ⟨a1, a2, a3⟩ := h1
  obtain ⟨b1, b2, b3⟩ := h2
  rcases Int.lt_trichotomy a b with h | h | h
  · have := b3 a a1 h
    rw [a2] at this
    cases this
  · exact h
  · have := a3 b b1 h
    rw [b2] at this
    cases this
/-- in rising order, with all rows at which p can begin to hold -/
theorem first_of {p : Int → Bool} {start : Int} : ∀ {rs : List Int}, rs.Pairwise (· ≤ ·) → (∀ r ∈ rs, start ≤ r) → (∃ r ∈ rs, p r = true) →
    (∀ q, start ≤ q → p q = true → ∃ r ∈ rs, r ≤ q ∧ p r = true) → FirstRow p start (firstIn p start rs)
  | [], _, _, ⟨r, hr, _⟩, _ => by cases hr
  | r :: rs, hs, hb, hex, hall => by
    have hs2 : (∀ b ∈ rs, r ≤ b) ∧ rs.Pairwise (· ≤ ·) := List.pairwise_cons.mp hs
    cases hp : p r with
    | true =>
      have e : firstIn p start (r :: rs) = r := by
        show (match p r with
          | true => r
          | false => firstIn p start rs) = r
        rw [hp]
      rw [e]
      refine ⟨hb r List.mem_cons_self, hp, fun q h1 h2 => ?_⟩
      cases hq : p q with
      | false => rfl
      | true =>
        obtain ⟨r', hr', h3, _⟩ := hall q h1 hq
        rcases List.mem_cons.mp hr' with rfl | hr'
        · omega
        · have := hs2.1 r' hr'
          omega
    | false =>
      have e : firstIn p start (r :: rs) = firstIn p start rs := by
        show (match p r with
          | true => r
          | false => firstIn p start rs) = _
        rw [hp]
      rw [e]
      refine first_of hs2.2 (fun x hx => hb x (List.mem_cons_of_mem _ hx)) ?_ fun q h1 h2 => ?_
      · obtain ⟨r', hr', h3⟩ := hex
        rcases List.mem_cons.mp hr' with rfl | hr'
        · rw [hp] at h3; cases h3
        · exact ⟨r', hr', h3⟩
      · obtain ⟨r', hr', h3, h4⟩ := hall q h1 h2
        rcases List.mem_cons.mp hr' with rfl | hr'
        · rw [hp] at h4; cases h4
        · exact ⟨r', hr', h3, h4⟩

/-! ### where a float goes -/
structure Okf (fs : List Fl) : Prop where
  be : ∀ f ∈ fs, f.b ≤ f.e
  td : ∀ f ∈ fs, f.t ≤ f.d
  up : (fs.map (·.t)).Pairwise (· ≤ ·)
theorem mx_le {a b : Int} : a ≤ mx a b ∧ b ≤ mx a b := by unfold mx; split <;> omega
theorem start_up {fs : List Fl} {c : Int} (ok : Okf fs) : c ≤ startOf fs c ∧ ∀ f ∈ fs, f.t ≤ startOf fs c := by
  unfold startOf
  cases h : fs.getLast? with
  | none =>
    rw [List.getLast?_eq_none_iff] at h
    subst h
    exact ⟨Int.le_refl _, fun f hf => by cases hf⟩
  | some l =>
    have hne : fs ≠ [] := by
      intro z
      subst z
      cases h
    have hl : fs.getLast hne = l := by
      rw [List.getLast?_eq_some_getLast hne] at h
      exact Option.some.inj h
    refine ⟨mx_le.1, fun f hf => ?_⟩
    have h2 : f.t ≤ l.t := by
      have e : fs = fs.dropLast ++ [l] := by rw [← hl]; exact (List.dropLast_concat_getLast hne).symm
      have up := ok.up
      rw [e] at hf up
      rcases List.mem_append.mp hf with hf | hf
      · rw [List.map_append, List.pairwise_append] at up
        exact up.2.2 f.t (List.mem_map_of_mem hf) l.t (by simp)
      · rw [List.mem_singleton.mp hf]
        exact Int.le_refl _
    exact Int.le_trans h2 mx_le.2
/-- the rows that the program looks at, in rising order -/
theorem first_prog {fs : List Fl} {lo hi w c : Int} {ns : List Int} (ok : Okf fs) (hp : ns.Perm ((fs.filter fun f => decide (startOf fs c < f.d)).map (·.d))) (hs : ns.Pairwise (· ≤ ·)) :
    FirstRow (fits fs lo hi w) (startOf fs c) (firstIn (fits fs lo hi w) (startOf fs c) (startOf fs c :: ns)) := by
  obtain ⟨_, hup⟩ := start_up (c := c) ok
  generalize startOf fs c = s at hp hup
  have mem : ∀ r, r ∈ ns ↔ ∃ f ∈ fs, s < f.d ∧ f.d = r := fun r => by
    rw [hp.mem_iff, List.mem_map]
    constructor
    · rintro ⟨f, hf, e⟩
      obtain ⟨h1, h2⟩ := List.mem_filter.mp hf
      exact ⟨f, h1, of_decide_eq_true h2, e⟩
    · rintro ⟨f, hf, h, e⟩
      exact ⟨f, List.mem_filter.mpr ⟨hf, decide_eq_true h⟩, e⟩
  have bs : ∀ f ∈ fs, ∀ q, s ≤ q → beside f q = decide (q < f.d) := fun f hf q hq => by
    unfold beside
    rw [decide_eq_true (Int.le_trans (hup f hf) hq)]
    rfl
  have free : ∀ q, s ≤ q → (∀ f ∈ fs, ¬ q < f.d) → fits fs lo hi w q = true := fun q hq h => by
    have e : btw fs lo hi q = (lo, hi) := btw_free fun f hf => by rw [bs f hf q hq]; exact decide_eq_false (h f hf)
    unfold fits
    rw [e]
    simp
  -- the greatest row at or below q: the start, or a bottom
  have down : ∀ q, s ≤ q → ∃ r ∈ s :: ns, r ≤ q ∧ s ≤ r ∧ ∀ f ∈ fs, (r < f.d ↔ q < f.d) := fun q hq => by
    have key : ∀ gs : List Fl, (∀ g ∈ gs, g ∈ fs) → ∃ r ∈ s :: ns, r ≤ q ∧ s ≤ r ∧ ∀ f ∈ gs, (r < f.d ↔ q < f.d) := by
      intro gs
      induction gs with
      | nil => exact fun _ => ⟨s, List.mem_cons_self, hq, Int.le_refl _, fun f hf => by cases hf⟩
      | cons g gs ih =>
        intro hg
        obtain ⟨r, h1, h2, h3, h4⟩ := ih fun x hx => hg x (List.mem_cons_of_mem _ hx)
        by_cases c : r < g.d ∧ ¬ q < g.d
        · refine ⟨g.d, List.mem_cons_of_mem _ ((mem _).mpr ⟨g, hg g List.mem_cons_self, by omega, rfl⟩), by omega, by omega, fun f hf => ?_⟩
          rcases List.mem_cons.mp hf with rfl | hf
          · omega
          · have := h4 f hf
            omega
        · refine ⟨r, h1, h2, h3, fun f hf => ?_⟩
          rcases List.mem_cons.mp hf with rfl | hf
          · omega
          · exact h4 f hf
    exact key fs fun g hg => hg
  refine first_of ?_ ?_ ?_ ?_
  · refine List.pairwise_cons.mpr ⟨fun r hr => ?_, hs⟩
    obtain ⟨f, _, h, e⟩ := (mem r).mp hr
    omega
  · intro r hr
    rcases List.mem_cons.mp hr with rfl | hr
    · exact Int.le_refl _
    · obtain ⟨f, _, h, e⟩ := (mem r).mp hr
      omega
  · -- far below nothing stands
    have hb : ∃ q, s ≤ q ∧ ∀ f ∈ fs, ¬ q < f.d := by
      have key : ∀ gs : List Fl, ∃ q, s ≤ q ∧ ∀ f ∈ gs, ¬ q < f.d := by
        intro gs
        induction gs with
        | nil => exact ⟨s, Int.le_refl _, fun f hf => by cases hf⟩
        | cons g gs ih =>
          obtain ⟨q, h1, h2⟩ := ih
          refine ⟨mx q g.d, Int.le_trans h1 mx_le.1, fun f hf => ?_⟩
          have h3 := mx_le (a := q) (b := g.d)
          rcases List.mem_cons.mp hf with rfl | hf
          · omega
          · have := h2 f hf
            omega
      exact key fs
    obtain ⟨q, h1, h2⟩ := hb
    obtain ⟨r, r1, r2, r3, r4⟩ := down q h1
    exact ⟨r, r1, free r r3 fun f hf z => h2 f hf ((r4 f hf).mp z)⟩
  · intro q h1 h2
    obtain ⟨r, r1, r2, r3, r4⟩ := down q h1
    refine ⟨r, r1, r2, ?_⟩
    have e : btw fs lo hi r = btw fs lo hi q := btw_same fun f hf => by
      rw [bs f hf r r3, bs f hf q h1]
      by_cases c : q < f.d
      · rw [decide_eq_true c, decide_eq_true ((r4 f hf).mpr c)]
      · rw [decide_eq_false c, decide_eq_false fun z => c ((r4 f hf).mp z)]
    unfold fits at h2 ⊢
    rw [e]
    exact h2

end PL.K49

set_option Elab.async false
set_option linter.all false
set_option autoImplicit false
set_option maxRecDepth 100000
set_option maxHeartbeats 1000000
namespace PL.K49
open PySem PySem.Spec PyProof.Rows L2
local macro_rules | `(tactic| walk_at "y") => `(tactic| conv => whnf)
/-! ### data -/
def sL : Str := S0 [108, 101, 102, 116]
def sR : Str := S0 [114, 105, 103, 104, 116]
theorem s_left : ("left" : Str) = sL := by kernel_rfl
theorem s_right : ("right" : Str) = sR := by kernel_rfl
def sdS : Bool → Str
  | true => sL
  | false => sR
def flD (f : Fl) : D := .tup [.str (sdS f.s), .int f.b, .int f.e, .int f.t, .int f.d]
def flsD (fs : List Fl) : D := .lst (fs.map flD)
theorem LR_ne : decide (sR = sL) = false := by decide
theorem sd_dec (b : Bool) : decide (sdS b = sL) = b := by cases b <;> decide
def regB : D → Bool
  | .vl _ => false
  | .pool => false
  | _ => true
def isWholeB : D → Bool
  | .int _ => true
  | _ => false
def φ_is_whole : Spec
  | [d], Q, _ => regB d = true ∧ Q (.bl (isWholeB d))
  | _, _, _ => False
abbrev N_is_whole : List Str := ["value"]
def r_is_whole (Ξ : Xi) : PTS :=
  (ysRet (yAndV (yIs .int (yVar 0)) (yNotB (yIs .bool (yVar 0)))))
theorem vc_is_whole (ds : List D) (Q' : D → Prop) (E' : Nat → Prop) (h : φ_is_whole ds Q' E') : r_is_whole (fun c _ => E' c) { nx := fun _ => Q' .non, rt := fun d _ => Q' d } (startE N_is_whole ds) := by
  unfold φ_is_whole at h
  split at h
  · rename_i d
    obtain ⟨h1, h2⟩ := h
    cases d <;> first | (cases h1; done) | exact h2
  · exact h.elim
def isCountB : D → Bool
  | .int i => decide (0 ≤ i)
  | _ => false
def φ_is_count : Spec
  | [d], Q, _ => regB d = true ∧ Q (.bl (isCountB d))
  | _, _, _ => False
abbrev N_is_count : List Str := ["value"]
def r_is_count (Ξ : Xi) : PTS :=
  (ysRet (yAndV (yCall φ_is_whole Ξ (ylCons (yVar 0) ylNil)) (yBin oGe (yVar 0) (yC (.int 0)))))
theorem vc_is_count (ds : List D) (Q' : D → Prop) (E' : Nat → Prop) (h : φ_is_count ds Q' E') : r_is_count (fun c _ => E' c) { nx := fun _ => Q' .non, rt := fun d _ => Q' d } (startE N_is_count ds) := by
  unfold φ_is_count at h
  split at h
  · rename_i d
    obtain ⟨h1, h2⟩ := h
    cases d <;> first | (cases h1; done) | exact ⟨rfl, h2⟩
  · exact h.elim
/-- a float, or none -/
def asFl : D → Option Fl
  | .tup [.str x, .int b, .int e, .int t, .int d] => match decide (b ≤ e) && decide (t ≤ d) with
    | true => match decide (x = sL) with
      | true => some ⟨true, b, e, t, d⟩
      | false => match decide (x = sR) with
        | true => some ⟨false, b, e, t, d⟩
        | false => none
    | false => none
  | _ => none
def regF : D → Bool
  | .tup xs => decide (xs.length ≤ 1000) && xs.all regB
  | d => regB d
def φ_is_float : Spec
  | [d], Q, _ => regF d = true ∧ Q (.bl (asFl d).isSome)
  | _, _, _ => False
def boolD (f : D → Bool) (d : D) : D := .bl (f d)
theorem map_bool {ds : List D} {f : D → Bool} : ds.map (boolD f) = (ds.map f).map D.bl := by rw [List.map_map]; rfl
theorem whole_of {d : D} (h : isWholeB d = true) : ∃ i, d = .int i := by
  cases d with
  | int i => exact ⟨i, rfl⟩
  | _ => cases h
theorem in_sides {x : Str} : inF (.str x) [.str sL, .str sR] = (decide (x = sL) || decide (x = sR)) := by
  show ((sL == x) || ((sR == x) || false)) = _
  rw [Bool.or_false, Bool.eq_iff_iff, Bool.or_eq_true, Bool.or_eq_true, beq_iff_eq, beq_iff_eq, decide_eq_true_iff, decide_eq_true_iff]
  exact ⟨Or.imp Eq.symm Eq.symm, Or.imp Eq.symm Eq.symm⟩
theorem asFl_whole {x : Str} {a b c d : D} (h : ([a, b, c, d].map isWholeB).all id = false) : asFl (.tup [.str x, a, b, c, d]) = none := by
  unfold asFl
  split
  · rename_i e
    simp only [D.tup.injEq, List.cons.injEq] at e
    obtain ⟨_, rfl, rfl, rfl, rfl, _⟩ := e
    cases h
  · rfl
theorem asFl_side {x : Str} {a b c d : D} (h : (decide (x = sL) || decide (x = sR)) = false) : asFl (.tup [.str x, a, b, c, d]) = none := by
  obtain ⟨h1, h2⟩ := Bool.or_eq_false_iff.mp h
  unfold asFl
  split
  · rename_i e
    simp only [D.tup.injEq, List.cons.injEq, D.str.injEq] at e
    obtain ⟨rfl, rfl, rfl, rfl, rfl, _⟩ := e
    rw [h1, h2]
    split <;> rfl
  · rfl
theorem asFl_ints {x : Str} {b e t d : Int} (h : (decide (x = sL) || decide (x = sR)) = true) : (asFl (.tup [.str x, .int b, .int e, .int t, .int d])).isSome = (decide (b ≤ e) && decide (t ≤ d)) := by
  show (match decide (b ≤ e) && decide (t ≤ d) with
      | true => match decide (x = sL) with
        | true => some (⟨true, b, e, t, d⟩ : Fl)
        | false => match decide (x = sR) with
          | true => some ⟨false, b, e, t, d⟩
          | false => none
      | false => none).isSome = _
  cases decide (b ≤ e) && decide (t ≤ d) with
  | false => rfl
  | true =>
    cases h1 : decide (x = sL) with
    | true => rfl
    | false =>
      rw [h1, Bool.false_or] at h
      rw [h]
      rfl
abbrev N_is_float : List Str := ["value", "number"]
def r_is_float (Ξ : Xi) : PTS :=
  (ysSeq (ysIf (yOr (yNot (yTru (yIs .tuple (yVar 0)))) (yOr (yBinT (oEq true) (yCB oLen (ylCons (yVar 0) ylNil)) (yC (.int 5))) (yNot (yTru (yIs .str (yIx (yVar 0) (yC (.int 0))))))))
  (ysRet (yC (.bl false)))
  ysNext)
  (ysSeq (ysIf (yOr (yBinT (oIn true) (yIx (yVar 0) (yC (.int 0))) (yTup (ylCons (yC (.str ("left" : Str))) (ylCons (yC (.str ("right" : Str))) ylNil)))) (yNot (yTru (yCB oAll (ylCons (yNew (ynLc (yiSeq (ySlT (yVar 0) (yoSome (yC (.int 1))) yoNone)) (gN 1) yYes (yCall φ_is_whole Ξ0 (ylCons (yVar 1) ylNil)) [1])) ylNil)))))
  (ysRet (yC (.bl false)))
  ysNext)
  (ysRet (yAndV (yBin oLeA (yIx (yVar 0) (yC (.int 1))) (yIx (yVar 0) (yC (.int 2)))) (yBin oLeA (yIx (yVar 0) (yC (.int 3))) (yIx (yVar 0) (yC (.int 4))))))))
theorem vc_is_float (ds : List D) (Q' : D → Prop) (E' : Nat → Prop) (h : φ_is_float ds Q' E') : r_is_float (fun c _ => E' c) { nx := fun _ => Q' .non, rt := fun d _ => Q' d } (startE N_is_float ds) := by
  unfold φ_is_float at h
  split at h
  · rename_i d
    obtain ⟨h1, h2⟩ := h
    delta r_is_float
    rw [s_left, s_right]
    cases d with
    | tup xs =>
      obtain ⟨hl, hr⟩ := Bool.and_eq_true_iff.mp (show (decide (xs.length ≤ 1000) && xs.all regB) = true from h1)
      have hl := of_decide_eq_true hl
      by_cases h5 : xs.length = 5
      · rcases xs with _ | ⟨x0, _ | ⟨x1, _ | ⟨x2, _ | ⟨x3, _ | ⟨x4, _ | ⟨x5, xs⟩⟩⟩⟩⟩⟩ <;> simp at h5
        have hr' : regB x0 = true ∧ regB x1 = true ∧ regB x2 = true ∧ regB x3 = true ∧ regB x4 = true := by simpa using hr
        obtain ⟨r0, r1, r2, r3, r4⟩ := hr'
        cases x0 with
        | str x =>
          walk_at "y"
          show (match !inF (.str x) [.str sL, .str sR] with
            | true => _
            | false => _)
          rw [in_sides]
          cases hs : (decide (x = sL) || decide (x = sR)) with
          | false =>
            rw [asFl_side hs] at h2
            exact h2
          | true =>
            refine ⟨⟨trivial, trivial⟩, Nat.le_of_ble_eq_true rfl, lc_map (boolD isWholeB) (fun i d hd K N hk => ?_) ?_⟩
            · have hm : d ∈ [x1, x2, x3, x4] := List.mem_of_getElem? hd
              have rd : regB d = true := by
                simp only [List.mem_cons, List.not_mem_nil, or_false] at hm
                rcases hm with rfl | rfl | rfl | rfl <;> assumption
              exact ⟨rd, rfl, hk⟩
            · walk_at "y"
              show (match !(([x1, x2, x3, x4].map isWholeB).all id) with
                | true => _
                | false => _)
              cases hw : ([x1, x2, x3, x4].map isWholeB).all id with
              | false =>
                rw [asFl_whole hw] at h2
                exact h2
              | true =>
                have hw' : isWholeB x1 = true ∧ isWholeB x2 = true ∧ isWholeB x3 = true ∧ isWholeB x4 = true := by simpa using hw
                obtain ⟨w1, w2, w3, w4⟩ := hw'
                obtain ⟨b, rfl⟩ := whole_of w1
                obtain ⟨e, rfl⟩ := whole_of w2
                obtain ⟨t, rfl⟩ := whole_of w3
                obtain ⟨d, rfl⟩ := whole_of w4
                rw [asFl_ints hs] at h2
                walk_at "y"
                show (match decide (b ≤ e) with
                  | true => _
                  | false => _)
                cases hb : decide (b ≤ e) <;> (rw [hb] at h2; exact h2)
        | vl _ => cases r0
        | pool => cases r0
        | _ => exact h2
      · have e : asFl (.tup xs) = none := by
          rcases xs with _ | ⟨x0, _ | ⟨x1, _ | ⟨x2, _ | ⟨x3, _ | ⟨x4, _ | ⟨x5, xs⟩⟩⟩⟩⟩⟩ <;> first | rfl | (simp at h5; done) | (unfold asFl; split <;> first | rfl | simp_all)
        rw [e] at h2
        walk_at "y"
        show (match !decide (((xs.length : Nat) : Int) = 5) with
          | true => _
          | false => _)
        rw [decide_eq_false (show ¬ ((xs.length : Nat) : Int) = 5 by omega)]
        exact h2
    | vl _ => cases h1
    | pool => cases h1
    | _ => exact h2
  · exact h.elim

end PL.K49

set_option Elab.async false
set_option linter.all false
set_option autoImplicit false
set_option maxRecDepth 100000
set_option maxHeartbeats 1000000
namespace PL.K49
open PySem PySem.Spec PyProof.Rows L2
local macro_rules | `(tactic| walk_at "y") => `(tactic| conv => whnf)
/-! ### rows of floats -/
def asFls : List D → Option (List Fl)
  | [] => some []
  | d :: ds => match asFl d with
    | some f => match asFls ds with
      | some fs => some (f :: fs)
      | none => none
    | none => none
theorem asFl_D {d : D} {f : Fl} (h : asFl d = some f) : d = flD f ∧ f.b ≤ f.e ∧ f.t ≤ f.d := by
  unfold asFl at h
  split at h
  · rename_i x b e t d
    split at h
    · rename_i hbe
      obtain ⟨h1, h2⟩ := Bool.and_eq_true_iff.mp hbe
      have h1 := of_decide_eq_true h1
      have h2 := of_decide_eq_true h2
      split at h
      · rename_i hx
        obtain rfl := Option.some.inj h
        rw [of_decide_eq_true hx]
        exact ⟨rfl, h1, h2⟩
      · split at h
        · rename_i hx
          obtain rfl := Option.some.inj h
          rw [of_decide_eq_true hx]
          exact ⟨rfl, h1, h2⟩
        · cases h
    · cases h
  · cases h
theorem asFl_of {f : Fl} (h1 : f.b ≤ f.e) (h2 : f.t ≤ f.d) : asFl (flD f) = some f := by
  obtain ⟨s, b, e, t, d⟩ := f
  show (match decide (b ≤ e) && decide (t ≤ d) with
      | true => match decide (sdS s = sL) with
        | true => some (⟨true, b, e, t, d⟩ : Fl)
        | false => match decide (sdS s = sR) with
          | true => some ⟨false, b, e, t, d⟩
          | false => none
      | false => none) = _
  rw [decide_eq_true (show b ≤ e from h1), decide_eq_true (show t ≤ d from h2)]
  cases s <;> rfl
theorem asFls_D : ∀ {ds : List D} {fs : List Fl}, asFls ds = some fs → ds = fs.map flD ∧ (∀ f ∈ fs, f.b ≤ f.e) ∧ ∀ f ∈ fs, f.t ≤ f.d
  | [], fs, h => by
    obtain rfl := Option.some.inj h
    exact ⟨rfl, fun f hf => (by cases hf), fun f hf => (by cases hf)⟩
  | d :: ds, fs, h => by
    unfold asFls at h
    split at h
    · rename_i f hf
      split at h
      · rename_i gs hg
        obtain rfl := Option.some.inj h
        obtain ⟨rfl, h1, h2⟩ := asFl_D hf
        obtain ⟨rfl, h3, h4⟩ := asFls_D hg
        refine ⟨rfl, fun x hx => ?_, fun x hx => ?_⟩
        · rcases List.mem_cons.mp hx with rfl | hx
          · exact h1
          · exact h3 x hx
        · rcases List.mem_cons.mp hx with rfl | hx
          · exact h2
          · exact h4 x hx
      · cases h
    · cases h
theorem asFls_all : ∀ ds : List D, (asFls ds).isSome = (ds.map fun d => (asFl d).isSome).all id
  | [] => rfl
  | d :: ds => by
    rw [List.map_cons, List.all_cons, ← asFls_all ds]
    show (match asFl d with
      | some f => match asFls ds with
        | some fs => some (f :: fs)
        | none => none
      | none => none).isSome = (id (asFl d).isSome && (asFls ds).isSome)
    cases asFl d with
    | none => rfl
    | some f => cases asFls ds <;> rfl
theorem asFls_of : ∀ {fs : List Fl}, (∀ f ∈ fs, f.b ≤ f.e) → (∀ f ∈ fs, f.t ≤ f.d) → asFls (fs.map flD) = some fs
  | [], _, _ => rfl
  | f :: fs, h1, h2 => by
    rw [List.map_cons]
    unfold asFls
    rw [asFl_of (h1 f List.mem_cons_self) (h2 f List.mem_cons_self), asFls_of (fun g hg => h1 g (List.mem_cons_of_mem _ hg)) (fun g hg => h2 g (List.mem_cons_of_mem _ hg))]
def tB (fs : List Fl) (i : Nat) : Bool := match fs[i]?, fs[i + 1]? with
  | some a, some b => decide (a.t ≤ b.t)
  | _, _ => true
def upB (fs : List Fl) : Bool := (List.range (fs.length - 1)).all (tB fs)
theorem up_of {fs : List Fl} (h : upB fs = true) : (fs.map (·.t)).Pairwise (· ≤ ·) := by
  unfold upB at h
  rw [List.all_eq_true] at h
  have key : ∀ (i j : Nat) (a b : Fl), i ≤ j → fs[i]? = some a → fs[j]? = some b → a.t ≤ b.t := by
    intro i j
    induction j with
    | zero =>
      intro a b hij ha hb
      obtain rfl : i = 0 := by omega
      rw [ha] at hb
      rw [Option.some.inj hb]
      exact Int.le_refl _
    | succ j ih =>
      intro a b hij ha hb
      by_cases e : i = j + 1
      · subst e
        rw [ha] at hb
        rw [Option.some.inj hb]
        exact Int.le_refl _
      · have hj : j + 1 < fs.length := by
          obtain ⟨hj, _⟩ := List.getElem?_eq_some_iff.mp hb
          exact hj
        have h1 := ih a fs[j] (by omega) ha (List.getElem?_eq_getElem (by omega))
        have h2 := h j (List.mem_range.mpr (by omega))
        unfold tB at h2
        rw [List.getElem?_eq_getElem (show j < fs.length by omega), hb] at h2
        have h2 := of_decide_eq_true h2
        exact Int.le_trans h1 h2
  rw [List.pairwise_iff_getElem]
  intro i j hi hj hij
  rw [List.getElem_map, List.getElem_map]
  rw [List.length_map] at hi hj
  exact key i j _ _ (by omega) (List.getElem?_eq_getElem hi) (List.getElem?_eq_getElem hj)
theorem up_by {fs : List Fl} (h : (fs.map (·.t)).Pairwise (· ≤ ·)) : upB fs = true := by
  unfold upB
  rw [List.all_eq_true]
  intro i hi
  have hi := List.mem_range.mp hi
  unfold tB
  rw [List.getElem?_eq_getElem (show i < fs.length by omega), List.getElem?_eq_getElem (show i + 1 < fs.length by omega)]
  rw [List.pairwise_iff_getElem] at h
  have := h i (i + 1) (by rw [List.length_map]; omega) (by rw [List.length_map]; omega) (by omega)
  rw [List.getElem_map, List.getElem_map] at this
  exact decide_eq_true this
def floatsOf : D → Option (List Fl)
  | .lst xs => match asFls xs with
    | some fs => match upB fs with
      | true => some fs
      | false => none
    | none => none
  | _ => none
theorem floats_D {d : D} {fs : List Fl} (h : floatsOf d = some fs) : d = flsD fs ∧ Okf fs := by
  unfold floatsOf at h
  split at h
  · split at h
    · rename_i gs hg
      split at h
      · rename_i hu
        obtain rfl := Option.some.inj h
        obtain ⟨rfl, h1, h2⟩ := asFls_D hg
        exact ⟨rfl, h1, h2, up_of hu⟩
      · cases h
    · cases h
  · cases h
theorem floats_of {fs : List Fl} (ok : Okf fs) : floatsOf (flsD fs) = some fs := by
  show (match asFls (fs.map flD) with
    | some fs => match upB fs with
      | true => some fs
      | false => none
    | none => none) = some fs
  rw [asFls_of ok.be ok.td]
  show (match upB fs with
      | true => some fs
      | false => none) = some fs
  rw [up_by ok.up]
theorem small_any {j : Int} (h0 : -4611686018427387904 ≤ j) (h1 : j < 4611686018427387904) : smallB j = true := by
  cases j with
  | ofNat n =>
    replace h1 : ((n : Nat) : Int) < _ := h1
    exact Nat.ble_eq_true_of_le (by omega)
  | negSucc n =>
    rw [Int.negSucc_eq] at h0
    exact Nat.ble_eq_true_of_le (by omega)
def regFs : D → Bool
  | .frl _ => false
  | .lst xs => decide (xs.length ≤ 1000) && xs.all regF
  | d => regB d
def φ_are_floats : Spec
  | [d], Q, _ => regFs d = true ∧ Q (.bl (floatsOf d).isSome)
  | _, _, _ => False
def tD (fs : List Fl) : D → D
  | .int i => .bl (tB fs i.toNat)
  | _ => .non
theorem tD_map {fs : List Fl} {n : Nat} : (rangeD 0 n).map (tD fs) = ((List.range n).map (tB fs)).map D.bl := by
  unfold rangeD
  rw [List.map_map, List.map_map]
  apply List.map_congr_left
  intro i _
  show D.bl (tB fs (0 + (i : Int)).toNat) = D.bl (tB fs i)
  rw [show (0 + (i : Int)).toNat = i by omega]
theorem z_add {i : Nat} : (0 : Int) + (i : Int) = ((i : Nat) : Int) := by omega
abbrev N_are_floats : List Str := ["value", "k", "one"]
def r_are_floats (Ξ : Xi) : PTS :=
  (ysSeq (ysIf (yOr (yNot (yTru (yIs .list (yVar 0)))) (yNot (yTru (yCB oAll (ylCons (yNew (ynLc (yiSeq (yVar 0)) (gN 2) yYes (yCall φ_is_float Ξ0 (ylCons (yVar 2) ylNil)) [2])) ylNil)))))
  (ysRet (yC (.bl false)))
  ysNext)
  (ysRet (yCB oAll (ylCons (yNew (ynLc (yiRg1 (ylCons (yBin oSub (yCB oLen (ylCons (yVar 0) ylNil)) (yC (.int 1))) ylNil)) (gN 1) yYes (yBin oLeA (yIx (yIx (yVar 0) (yVar 1)) (yC (.int 3))) (yIx (yIx (yVar 0) (yBin oAdd (yVar 1) (yC (.int 1)))) (yC (.int 3)))) [1])) ylNil))))
theorem vc_are_floats (ds : List D) (Q' : D → Prop) (E' : Nat → Prop) (h : φ_are_floats ds Q' E') : r_are_floats (fun c _ => E' c) { nx := fun _ => Q' .non, rt := fun d _ => Q' d } (startE N_are_floats ds) := by
  unfold φ_are_floats at h
  split at h
  · rename_i d
    obtain ⟨h1, h2⟩ := h
    cases d with
    | lst xs =>
      obtain ⟨hl, hr⟩ := Bool.and_eq_true_iff.mp (show (decide (xs.length ≤ 1000) && xs.all regF) = true from h1)
      have hl := of_decide_eq_true hl
      rw [List.all_eq_true] at hr
      refine ⟨⟨trivial, trivial⟩, by omega, lc_map (boolD fun d => (asFl d).isSome) (fun i d hd K N hk => ?_) ?_⟩
      · exact ⟨hr d (List.mem_of_getElem? hd), rfl, hk⟩
      · rw [map_bool]
        walk_at "y"
        rw [toBls_map]
        walk_at "y"
        rw [← asFls_all]
        cases ha : asFls xs with
        | none =>
          have e : floatsOf (.lst xs) = none := by
            show (match asFls xs with
              | some fs => match upB fs with
                | true => some fs
                | false => none
              | none => none) = none
            rw [ha]
          rw [e] at h2
          exact h2
        | some fs =>
          have e : (floatsOf (.lst xs)).isSome = upB fs := by
            show (match asFls xs with
              | some fs => match upB fs with
                | true => some fs
                | false => none
              | none => none).isSome = _
            rw [ha]
            show (match upB fs with
              | true => some fs
              | false => none).isSome = _
            cases upB fs <;> rfl
          rw [e] at h2
          obtain ⟨rfl, _, _⟩ := asFls_D ha
          rw [List.length_map] at hl
          walk_at "y"
          refine gd_of (small_any (by rw [List.length_map]; omega) (by rw [List.length_map]; omega)) ?_
          have hn : ((((fs.map flD).length : Nat) : Int) - 1).toNat = fs.length - 1 := by rw [List.length_map]; omega
          rw [hn]
          refine ⟨⟨trivial, trivial⟩, by rw [rangeD_len]; omega, lc_map (tD fs) (fun i d hd K N hk => ?_) ?_⟩
          · obtain ⟨hi, rfl⟩ := rangeD_get hd
            rw [z_add] at hk ⊢
            have g1 : (fs.map flD)[i]? = some (flD fs[i]) := by rw [List.getElem?_map, List.getElem?_eq_getElem (by omega)]; rfl
            have g2 : (fs.map flD)[i + 1]? = some (flD fs[i + 1]) := by rw [List.getElem?_map, List.getElem?_eq_getElem (by omega)]; rfl
            have et : tB fs i = decide (fs[i].t ≤ fs[i + 1].t) := by
              unfold tB
              rw [List.getElem?_eq_getElem (show i < fs.length by omega), List.getElem?_eq_getElem (show i + 1 < fs.length by omega)]
            replace hk : K (.bl (tB fs i)) := hk
            rw [et] at hk
            refine opt_of (atI_nat g1) ?_
            refine opt_of (a := flD fs[i + 1]) (by rw [show ((i : Nat) : Int) + 1 = ((i + 1 : Nat) : Int) by omega]; exact atI_nat g2) ?_
            exact ⟨rfl, hk⟩
          · rw [tD_map]
            refine all_bls ?_
            rw [List.all_map]
            exact h2
    | frl _ => cases h1
    | vl _ => cases h1
    | pool => cases h1
    | _ => exact h2
  · exact h.elim

end PL.K49

set_option Elab.async false
set_option linter.all false
set_option autoImplicit false
set_option maxRecDepth 100000
set_option maxHeartbeats 1000000
namespace PL.K49
open PySem PySem.Spec PyProof.Rows L2
local macro_rules | `(tactic| walk_at "y") => `(tactic| conv => whnf)
theorem btw_snoc {fs : List Fl} {f : Fl} {lo hi row : Int} : btw (fs ++ [f]) lo hi row = stepB row (btw fs lo hi row) f := by
  unfold btw
  rw [List.foldl_append]
  rfl
def pairI (p : Int × Int) : D := .tup [.int p.1, .int p.2]
def φ_between : Spec := fun ds Q _ => ∃ fs lo hi row, ds = [flsD fs, .int lo, .int hi, .int row] ∧ Q (pairI (btw fs lo hi row))
abbrev N_between : List Str := ["floats", "low", "high", "row", "left", "right", "side", "begin", "end", "top", "bottom"]
def r_between (Ξ : Xi) : PTS :=
  (ysSeq (ysAsg (yVar 1) 4)
  (ysSeq (ysAsg (yVar 2) 5)
  (ysSeq (ysFor (yiSeq (yVar 0)) (gTupY 5 [(gN 6), (gN 7), (gN 8), (gN 9), (gN 10)])
  (ysIf (yChainT oLeA oLt (yVar 9) (yVar 3) (yVar 10))
  (ysIf (yBinT (oEq false) (yVar 6) (yC (.str ("left" : Str))))
  (ysAsg (yCB oMax2 (ylCons (yVar 4) (ylCons (yVar 8) ylNil))) 4)
  (ysAsg (yCB oMin2 (ylCons (yVar 5) (ylCons (yVar 7) ylNil))) 5))
  ysNext))
  (ysRet (yTup (ylCons (yVar 4) (ylCons (yVar 5) ylNil)))))))
theorem vc_between (ds : List D) (Q' : D → Prop) (E' : Nat → Prop) (h : φ_between ds Q' E') : r_between (fun c _ => E' c) { nx := fun _ => Q' .non, rt := fun d _ => Q' d } (startE N_between ds) := by
  obtain ⟨fs, lo, hi, row, rfl, h⟩ := h
  delta r_between
  rw [s_left]
  let e (p : Int × Int) (a b c d t : Option S) : PEnv := [some (.v (flsD fs)), some (.v (.int lo)), some (.v (.int hi)), some (.v (.int row)), some (.v (.int p.1)), some (.v (.int p.2)), a, b, c, d, t]
  refine seq_step [some (.v (flsD fs)), some (.v (.int lo)), some (.v (.int hi)), some (.v (.int row)), some (.v (.int lo)), none, none, none, none, none, none] (fun K k => k) ?_
  refine seq_step (e (lo, hi) none none none none none) (fun K k => k) ?_
  refine seq_post (fun ε => ∃ a b c d t, ε = e (btw fs lo hi row) a b c d t) (fun K kk => ⟨fun i ε => ∃ a b c d t, ε = e (btw (fs.take i) lo hi row) a b c d t, ⟨none, none, none, none, none, rfl⟩, fun i d ε hi' hd w => ?_, fun ε w => ?_⟩) ?_
  · obtain ⟨a, b, c, d', t, rfl⟩ := w
    rw [List.length_map] at hi'
    obtain rfl : d = flD fs[i] := by
      rw [List.getElem?_map, List.getElem?_eq_getElem hi'] at hd
      exact (Option.some.inj hd).symm
    have hs : btw (fs.take (i + 1)) lo hi row = stepB row (btw (fs.take i) lo hi row) fs[i] := by
      rw [List.take_succ_eq_append_getElem hi', btw_snoc]
    generalize btw (fs.take i) lo hi row = p at hs
    generalize fs[i] = f at hs
    refine gtup5 ?_
    have fin : ∀ q, q = stepB row p f → (∃ a b c d t, e q (some (.v (.str (sdS f.s)))) (some (.v (.int f.b))) (some (.v (.int f.e))) (some (.v (.int f.t))) (some (.v (.int f.d))) = e (btw (fs.take (i + 1)) lo hi row) a b c d t) := fun q hq => by
      rw [hs, ← hq]
      exact ⟨_, _, _, _, _, rfl⟩
    walk_at "y"
    show (match decide (f.t ≤ row) with
      | true => _
      | false => _)
    cases h1 : decide (f.t ≤ row) with
    | false => exact fin p (by unfold stepB beside; rw [h1]; rfl)
    | true =>
      walk_at "y"
      show (match decide (row < f.d) with
        | true => _
        | false => _)
      cases h2 : decide (row < f.d) with
      | false => exact fin p (by unfold stepB beside; rw [h1, h2]; rfl)
      | true =>
        walk_at "y"
        show (match decide (sdS f.s = sL) with
          | true => _
          | false => _)
        rw [sd_dec]
        cases h3 : f.s with
        | true =>
          refine (?_ : ∃ _, _)
          have := fin (mx p.1 f.e, p.2) (by unfold stepB beside; rw [h1, h2, h3]; rfl)
          rw [h3] at this
          exact this
        | false =>
          have := fin (p.1, mn p.2 f.b) (by unfold stepB beside; rw [h1, h2, h3]; rfl)
          rw [h3] at this
          exact this
  · rw [List.length_map, List.take_length] at w
    exact kk ε w
  rintro _ ⟨a, b, c, d, t, rfl⟩
  exact h
def φ_goes_in : Spec := fun ds Q _ => ∃ fs lo hi row w, ds = [flsD fs, .int lo, .int hi, .int row, .int w] ∧ Q (.bl (fits fs lo hi w row))
abbrev N_goes_in : List Str := ["floats", "low", "high", "row", "wide", "left", "right"]
def r_goes_in (Ξ : Xi) : PTS :=
  (ysSeq (ysAsgG (yCall φ_between Ξ (ylCons (yVar 0) (ylCons (yVar 1) (ylCons (yVar 2) (ylCons (yVar 3) ylNil))))) (gTupY 2 [(gN 5), (gN 6)]))
  (ysRet (yOrV (yBin oGe (yBin oSub (yVar 6) (yVar 5)) (yVar 4)) (yBin (oEq false) (yTup (ylCons (yVar 5) (ylCons (yVar 6) ylNil))) (yTup (ylCons (yVar 1) (ylCons (yVar 2) ylNil)))))))
theorem vc_goes_in (ds : List D) (Q' : D → Prop) (E' : Nat → Prop) (h : φ_goes_in ds Q' E') : r_goes_in (fun c _ => E' c) { nx := fun _ => Q' .non, rt := fun d _ => Q' d } (startE N_goes_in ds) := by
  obtain ⟨fs, lo, hi, row, w, rfl, h⟩ := h
  refine ⟨fs, lo, hi, row, rfl, ?_⟩
  unfold fits at h
  generalize btw fs lo hi row = p at h
  walk_at "y"
  show (match decide (w ≤ p.2 - p.1) with
    | true => _
    | false => _)
  cases h1 : decide (w ≤ p.2 - p.1) with
  | true =>
    rw [h1] at h
    exact h
  | false =>
    rw [h1] at h
    replace h : Q' (.bl (decide (p.1 = lo) && decide (p.2 = hi))) := h
    rw [← eqv_pair] at h
    exact h

end PL.K49

set_option Elab.async false
set_option linter.all false
set_option autoImplicit false
set_option maxRecDepth 100000
set_option maxHeartbeats 1000000
namespace PL.K49
open PySem PySem.Spec PyProof.Rows L2
local macro_rules | `(tactic| walk_at "y") => `(tactic| conv => whnf)
theorem firstIn_end {p : Int → Bool} {s : Int} {rs : List Int} {i : Nat} {r : Int} (h : rs[i]? = some r) (w : firstIn p s (rs.drop i) = firstIn p s rs) :
    (p r = true → firstIn p s rs = r) ∧ (p r = false → firstIn p s (rs.drop (i + 1)) = firstIn p s rs) := by
  rw [drop_get h] at w
  refine ⟨fun z => ?_, fun z => ?_⟩
  · rw [← w]
    show (match p r with | true => r | false => _) = r
    rw [z]
  · rw [← w]
    show _ = (match p r with | true => r | false => firstIn p s (rs.drop (i + 1)))
    rw [z]
def φ_first_row : Spec := fun ds Q _ => ∃ fs lo hi c w, ds = [flsD fs, .int lo, .int hi, .int (startOf fs c), .int w] ∧ Okf fs ∧ fs.length ≤ 1000 ∧ ∀ r, FirstRow (fits fs lo hi w) (startOf fs c) r → Q (.int r)
def dB (s : Int) : D → Bool
  | .tup [_, _, _, _, .int d] => decide (s < d)
  | _ => false
def dV : D → D
  | .tup [_, _, _, _, d] => d
  | _ => .non
theorem dB_map {fs : List Fl} {s : Int} : ((fs.map flD).filter (dB s)).map dV = ((fs.filter fun f => decide (s < f.d)).map (·.d)).map D.int := by
  rw [List.filter_map, List.map_map, List.map_map]
  rfl
abbrev N_first_row : List Str := ["floats", "low", "high", "start", "wide", "row", "one"]
def r_first_row (Ξ : Xi) : PTS :=
  (ysSeq (ysFor (yiSeq (yBin oAdd (yNew (ynLst (ylCons (yVar 3) ylNil))) (yNew (ynCB oSorted (ylCons (yNew (ynLc (yiSeq (yVar 0)) (gN 6) (yBinT oGt (yIx (yVar 6) (yC (.int 4))) (yVar 3)) (yIx (yVar 6) (yC (.int 4))) [6])) ylNil))))) (gN 5)
  (ysIf (yTru (yCall φ_goes_in Ξ (ylCons (yVar 0) (ylCons (yVar 1) (ylCons (yVar 2) (ylCons (yVar 5) (ylCons (yVar 4) ylNil)))))))
  (ysRet (yVar 5))
  ysNext))
  (ysRet (yVar 3)))
theorem vc_first_row (ds : List D) (Q' : D → Prop) (E' : Nat → Prop) (h : φ_first_row ds Q' E') : r_first_row (fun c _ => E' c) { nx := fun _ => Q' .non, rt := fun d _ => Q' d } (startE N_first_row ds) := by
  obtain ⟨fs, lo, hi, c, w, rfl, ok, hl, h⟩ := h
  have fp := fun ns hp hs => first_prog (lo := lo) (hi := hi) (w := w) (c := c) (ns := ns) ok hp hs
  generalize hs0 : startOf fs c = s at h fp
  let e (r o : Option S) : PEnv := [some (.v (flsD fs)), some (.v (.int lo)), some (.v (.int hi)), some (.v (.int s)), some (.v (.int w)), r, o]
  refine seq_post (fun ε => (∃ r o, ε = e r o) ∧ Q' (.int s)) (fun K kk => ?_) (by rintro _ ⟨⟨r, o, rfl⟩, z⟩; exact z)
  refine ⟨⟨trivial, trivial⟩, by rw [List.length_map]; omega, lc_filter dV (dB s) (fun i d hd K N h1 h2 => ?_) ?_⟩
  · obtain ⟨f, hf⟩ : ∃ f, d = flD f := by
      rw [List.getElem?_map] at hd
      cases e : fs[i]? with
      | none => rw [e] at hd; cases hd
      | some f => rw [e] at hd; exact ⟨f, (Option.some.inj hd).symm⟩
    subst hf
    replace h1 : decide (s < f.d) = true → K (.int f.d) := h1
    replace h2 : decide (s < f.d) = false → N := h2
    walk_at "y"
    show (match decide (s < f.d) with
      | true => _
      | false => _)
    cases hd2 : decide (s < f.d) with
    | true => exact ⟨rfl, h1 hd2⟩
    | false => exact ⟨rfl, h2 hd2⟩
  · rw [dB_map]
    walk_at "y"
    rw [toInts_map]
    intro ns hp hs
    have fr := fp ns (by rw [hs0] at *; exact hp) hs
    have hlen : ns.length ≤ 1000 := by
      rw [hp.length_eq, List.length_map]
      exact Nat.le_trans (List.length_filter_le _ _) hl
    refine gd_of (show [D.int s].length + (ns.map D.int).length ≤ 16777216 by rw [List.length_map]; show 1 + ns.length ≤ _; omega) ?_
    have em : [D.int s] ++ ns.map D.int = (s :: ns).map D.int := rfl
    rw [em]
    refine ⟨fun i ε => firstIn (fits fs lo hi w) s ((s :: ns).drop i) = firstIn (fits fs lo hi w) s (s :: ns) ∧ ∃ r o, ε = e r o, ⟨rfl, none, none, rfl⟩, fun i d ε hi' hd w' => ?_, fun ε w' => ?_⟩
    · obtain ⟨hw, r, o, rfl⟩ := w'
      obtain ⟨x, hx, rfl⟩ : ∃ x, (s :: ns)[i]? = some x ∧ d = .int x := by
        rw [List.getElem?_map] at hd
        cases e : (s :: ns)[i]? with
        | none => rw [e] at hd; cases hd
        | some x => rw [e] at hd; exact ⟨x, rfl, (Option.some.inj hd).symm⟩
      obtain ⟨f1, f2⟩ := firstIn_end hx hw
      refine ⟨fs, lo, hi, x, w, rfl, ?_⟩
      walk_at "y"
      cases hf : fits fs lo hi w x with
      | true =>
        rw [f1 hf] at fr
        exact h x fr
      | false => exact ⟨f2 hf, _, _, rfl⟩
    · obtain ⟨hw, r, o, rfl⟩ := w'
      rw [List.length_map, List.drop_length] at hw
      rw [← hw] at fr
      exact kk _ ⟨⟨r, o, rfl⟩, h s fr⟩
/-! ### float_place -/
def xAt (f : List Fl) (lo hi w row : Int) (s : Bool) : Int := match s with
  | true => (btw f lo hi row).1
  | false => (btw f lo hi row).2 - w
def φ_float_place : Spec := fun ds Q _ => ∃ fs lo hi c w s, ds = [flsD fs, .int lo, .int hi, .int c, .int w, .str (sdS s)] ∧ Okf fs ∧ fs.length ≤ 1000 ∧ ∀ r, FirstRow (fits fs lo hi w) (startOf fs c) r → Q (pairI (xAt fs lo hi w r s, r))
theorem max_one {c : Int} {fs : List Fl} : ∀ m, m ∈ c :: (fs.getLast?.toList.map (·.t)) → (∀ y ∈ c :: (fs.getLast?.toList.map (·.t)), y ≤ m) → m = startOf fs c := by
  intro m h1 h2
  unfold startOf
  cases h : fs.getLast? with
  | none =>
    rw [h] at h1
    simpa using h1
  | some f =>
    rw [h] at h1 h2
    have a := h2 c (by simp)
    have b := h2 f.t (by simp)
    show m = mx c f.t
    unfold mx
    simp at h1
    split <;> omega
theorem last_cut {fs : List Fl} : cutD (fs.map flD) (some (-1)) none = (fs.getLast?.toList).map flD := by
  unfold cutD
  have e : HT.sIx (fs.map flD).length 0 (some (-1)) = (fs.map flD).length - 1 := by
    show (if (-1 : Int) < 0 then ((-1 : Int) + (((fs.map flD).length : Nat) : Int)).toNat else min (Int.toNat (-1)) (fs.map flD).length) = _
    rw [if_pos (by decide)]
    omega
  rw [e]
  show ((fs.map flD).drop ((fs.map flD).length - 1)).take ((fs.map flD).length - ((fs.map flD).length - 1)) = _
  rw [List.length_map, ← List.map_drop, ← List.map_take]
  congr 1
  rcases List.eq_nil_or_concat fs with rfl | ⟨gs, g, rfl⟩
  · rfl
  · rw [List.concat_eq_append, List.getLast?_append]
    simp
def dT : D → D
  | .tup [_, _, _, t, _] => t
  | _ => .non
abbrev N_float_place : List Str := ["floats", "low", "high", "start", "wide", "side", "row", "left", "right", "one"]
def r_float_place (Ξ : Xi) : PTS :=
  (ysSeq (ysAsg (yCall φ_first_row Ξ (ylCons (yVar 0) (ylCons (yVar 1) (ylCons (yVar 2) (ylCons (yCB oMaxL (ylCons (yBin oAdd (yNew (ynLst (ylCons (yVar 3) ylNil))) (yNew (ynLc (yiSeq (yNew (ynSl (yVar 0) (yoSome (yNeg (yC (.int 1)))) yoNone))) (gN 9) yYes (yIx (yVar 9) (yC (.int 3))) [9]))) ylNil)) (ylCons (yVar 4) ylNil)))))) 6)
  (ysSeq (ysAsgG (yCall φ_between Ξ (ylCons (yVar 0) (ylCons (yVar 1) (ylCons (yVar 2) (ylCons (yVar 6) ylNil))))) (gTupY 2 [(gN 7), (gN 8)]))
  (ysRet (yTup (ylCons (yIf (yBinT (oEq false) (yVar 5) (yC (.str ("left" : Str)))) (yVar 7) (yBin oSub (yVar 8) (yVar 4))) (ylCons (yVar 6) ylNil))))))
theorem vc_float_place (ds : List D) (Q' : D → Prop) (E' : Nat → Prop) (h : φ_float_place ds Q' E') : r_float_place (fun c _ => E' c) { nx := fun _ => Q' .non, rt := fun d _ => Q' d } (startE N_float_place ds) := by
  obtain ⟨fs, lo, hi, c, w, s, rfl, ok, hl, h⟩ := h
  delta r_float_place
  rw [s_left]
  let e (a b d x : Option S) : PEnv := [some (.v (flsD fs)), some (.v (.int lo)), some (.v (.int hi)), some (.v (.int c)), some (.v (.int w)), some (.v (.str (sdS s))), a, b, d, x]
  refine seq_post (fun ε => ∃ r, FirstRow (fits fs lo hi w) (startOf fs c) r ∧ ε = e (some (.v (.int r))) none none none) (fun K kk => ?_) ?_
  · have hlast : (fs.getLast?.toList).length ≤ 1 := by cases fs.getLast? <;> simp
    have hc : (cutD (fs.map flD) (some (-1)) none).length ≤ 16777216 := by
      rw [last_cut, List.length_map]
      omega
    refine ⟨⟨trivial, trivial⟩, hc, lc_map dT (fun i d hd K N hk => ?_) ?_⟩
    · replace hd : (cutD (fs.map flD) (some (-1)) none)[i]? = some d := hd
      rw [last_cut, List.getElem?_map] at hd
      cases e : (fs.getLast?.toList)[i]? with
      | none => rw [e] at hd; cases hd
      | some f =>
        rw [e] at hd
        obtain rfl : flD f = d := Option.some.inj hd
        exact ⟨rfl, hk⟩
    · have em : (cutD (fs.map flD) (some (-1)) none).map dT = (fs.getLast?.toList.map (·.t)).map D.int := by
        rw [last_cut, List.map_map, List.map_map]
        rfl
      refine gd_of (show [D.int c].length + ((cutD (fs.map flD) (some (-1)) none).map dT).length ≤ 16777216 by rw [List.length_map]; show 1 + _ ≤ _; rw [last_cut, List.length_map]; omega) ?_
      have em2 : [D.int c] ++ (cutD (fs.map flD) (some (-1)) none).map dT = (c :: fs.getLast?.toList.map (·.t)).map D.int := by
        rw [em]
        rfl
      have em3 : toInts ([D.int c] ++ (cutD (fs.map flD) (some (-1)) none).map dT) = some (c :: fs.getLast?.toList.map (·.t)) := by rw [em2, toInts_map]
      refine opt_of em3 ⟨by simp, fun m h1 h2 => ?_⟩
      have hm := max_one m h1 h2
      subst hm
      exact ⟨fs, lo, hi, c, w, rfl, ok, hl, fun r fr => kk _ ⟨r, fr, rfl⟩⟩
  rintro _ ⟨r, fr, rfl⟩
  refine seq_step (e (some (.v (.int r))) (some (.v (.int (btw fs lo hi r).1))) (some (.v (.int (btw fs lo hi r).2))) none) (fun K kk => ⟨fs, lo, hi, r, rfl, kk⟩) ?_
  have h := h r fr
  walk_at "y"
  show (match decide (sdS s = sL) with
    | true => _
    | false => _)
  rw [sd_dec]
  cases s <;> exact h

end PL.K49

set_option Elab.async false
set_option linter.all false
set_option autoImplicit false
set_option maxRecDepth 100000
set_option maxHeartbeats 1000000
namespace PL.K49
open PySem PySem.Spec PyProof.Rows L2
local macro_rules | `(tactic| walk_at "y") => `(tactic| conv => whnf)
/-! ### the two functions -/
def isSideB : D → Bool
  | .str x => decide (x = sL) || decide (x = sR)
  | _ => false
def rmB : List D → Bool
  | [d, W, r] => (floatsOf d).isSome && (isCountB W && isWholeB r)
  | _ => false
def atB : List D → Bool
  | [d, W, c, w, s] => rmB [d, W, c] && (isCountB w && isSideB s)
  | _ => false
def regR : List D → Bool
  | [d, W, r] => regFs d && (regB W && regB r)
  | _ => false
def regA : List D → Bool
  | [d, W, c, w, s] => regR [d, W, c] && (regB w && regB s)
  | _ => false
theorem count_of {d : D} (h : isCountB d = true) : ∃ i, d = .int i ∧ 0 ≤ i := by
  cases d with
  | int i => exact ⟨i, rfl, of_decide_eq_true h⟩
  | _ => cases h
theorem side_of {d : D} (h : isSideB d = true) : ∃ s, d = .str (sdS s) := by
  cases d with
  | str x =>
    rcases Bool.or_eq_true_iff.mp h with h | h
    · exact ⟨true, by rw [of_decide_eq_true h]; rfl⟩
    · exact ⟨false, by rw [of_decide_eq_true h]; rfl⟩
  | _ => cases h
structure RmIn (ds : List D) (fs : List Fl) (W r : Int) : Prop where
  e : ds = [flsD fs, .int W, .int r]
  ok : Okf fs
  l : fs.length ≤ 1000
  w0 : 0 ≤ W
theorem rm_in {d W r : D} (hr : regR [d, W, r] = true) (h : rmB [d, W, r] = true) : ∃ fs W' r', RmIn [d, W, r] fs W' r' := by
  obtain ⟨h1, h2⟩ := Bool.and_eq_true_iff.mp h
  obtain ⟨h2, h3⟩ := Bool.and_eq_true_iff.mp h2
  obtain ⟨g1, _⟩ := Bool.and_eq_true_iff.mp hr
  cases e : floatsOf d with
  | none => rw [e] at h1; cases h1
  | some fs =>
    obtain ⟨rfl, ok⟩ := floats_D e
    obtain ⟨W', rfl, h0⟩ := count_of h2
    obtain ⟨r', rfl⟩ := whole_of h3
    have hl : fs.length ≤ 1000 := by
      have := of_decide_eq_true (Bool.and_eq_true_iff.mp (show (decide ((fs.map flD).length ≤ 1000) && _) = true from g1)).1
      rw [List.length_map] at this
      exact this
    exact ⟨fs, W', r', rfl, ok, hl, h0⟩
def φ_check_room : Spec
  | [d, W, r], Q, E => regR [d, W, r] = true ∧ (rmB [d, W, r] = false → E 10) ∧ (rmB [d, W, r] = true → Q .non)
  | _, _, _ => False
abbrev N_check_room : List Str := ["floats", "width", "row"]
def r_check_room (Ξ : Xi) : PTS :=
  (ysIf (yOr (yNot (yTru (yCall φ_are_floats Ξ (ylCons (yVar 0) ylNil)))) (yOr (yNot (yTru (yCall φ_is_count Ξ (ylCons (yVar 1) ylNil)))) (yNot (yTru (yCall φ_is_whole Ξ (ylCons (yVar 2) ylNil))))))
  (ysRaise 10 Ξ)
  ysNext)
theorem vc_check_room (ds : List D) (Q' : D → Prop) (E' : Nat → Prop) (h : φ_check_room ds Q' E') : r_check_room (fun c _ => E' c) { nx := fun _ => Q' .non, rt := fun d _ => Q' d } (startE N_check_room ds) := by
  unfold φ_check_room at h
  split at h
  · rename_i d W r
    obtain ⟨hr, hb, hg⟩ := h
    obtain ⟨r1, r2⟩ := Bool.and_eq_true_iff.mp hr
    obtain ⟨r2, r3⟩ := Bool.and_eq_true_iff.mp r2
    refine ⟨r1, ?_⟩
    cases e1 : (floatsOf d).isSome with
    | false => exact hb (by simp [rmB, e1])
    | true =>
      refine ⟨r2, ?_⟩
      cases e2 : isCountB W with
      | false => exact hb (by simp [rmB, e2])
      | true =>
        refine ⟨r3, ?_⟩
        cases e3 : isWholeB r with
        | false => exact hb (by simp [rmB, e3])
        | true => exact hg (by simp [rmB, e1, e2, e3])
  · exact h.elim
def φ_room_at : Spec
  | [d, W, r], Q, E => regR [d, W, r] = true ∧ (rmB [d, W, r] = false → E 10) ∧ (rmB [d, W, r] = true → ∀ fs W' r', RmIn [d, W, r] fs W' r' → Q (pairI (btw fs 0 W' r')))
  | _, _, _ => False
abbrev N_room_at : List Str := ["floats", "width", "row"]
def r_room_at (Ξ : Xi) : PTS :=
  (ysSeq (ysDrop (yCall φ_check_room Ξ (ylCons (yVar 0) (ylCons (yVar 1) (ylCons (yVar 2) ylNil)))))
  (ysRet (yCall φ_between Ξ (ylCons (yVar 0) (ylCons (yC (.int 0)) (ylCons (yVar 1) (ylCons (yVar 2) ylNil)))))))
theorem vc_room_at (ds : List D) (Q' : D → Prop) (E' : Nat → Prop) (h : φ_room_at ds Q' E') : r_room_at (fun c _ => E' c) { nx := fun _ => Q' .non, rt := fun d _ => Q' d } (startE N_room_at ds) := by
  unfold φ_room_at at h
  split at h
  · rename_i d W r
    obtain ⟨hr, hb, hg⟩ := h
    refine ⟨hr, hb, fun hv => ?_⟩
    obtain ⟨fs, W', r', hin⟩ := rm_in hr hv
    have h := hg hv fs W' r' hin
    have e := hin.e
    simp only [List.cons.injEq, and_true] at e
    obtain ⟨rfl, rfl, rfl⟩ := e
    exact ⟨fs, 0, W', r', rfl, h⟩
  · exact h.elim
structure AtIn (ds : List D) (fs : List Fl) (W c w : Int) (s : Bool) : Prop where
  e : ds = [flsD fs, .int W, .int c, .int w, .str (sdS s)]
  ok : Okf fs
  l : fs.length ≤ 1000
  w0 : 0 ≤ W
  v0 : 0 ≤ w
def φ_float_at : Spec
  | [d, W, c, w, s], Q, E => regA [d, W, c, w, s] = true ∧ (atB [d, W, c, w, s] = false → E 10) ∧
    (atB [d, W, c, w, s] = true → ∀ fs W' c' w' s' r, AtIn [d, W, c, w, s] fs W' c' w' s' → FirstRow (fits fs 0 W' w') (startOf fs c') r → Q (pairI (xAt fs 0 W' w' r s', r)))
  | _, _, _ => False
abbrev N_float_at : List Str := ["floats", "width", "ceiling", "w", "side"]
def r_float_at (Ξ : Xi) : PTS :=
  (ysSeq (ysDrop (yCall φ_check_room Ξ (ylCons (yVar 0) (ylCons (yVar 1) (ylCons (yVar 2) ylNil)))))
  (ysSeq (ysIf (yOr (yNot (yTru (yCall φ_is_count Ξ (ylCons (yVar 3) ylNil)))) (yOr (yNot (yTru (yIs .str (yVar 4)))) (yBinT (oIn true) (yVar 4) (yTup (ylCons (yC (.str ("left" : Str))) (ylCons (yC (.str ("right" : Str))) ylNil))))))
  (ysRaise 10 Ξ)
  ysNext)
  (ysRet (yCall φ_float_place Ξ (ylCons (yVar 0) (ylCons (yC (.int 0)) (ylCons (yVar 1) (ylCons (yVar 2) (ylCons (yVar 3) (ylCons (yVar 4) ylNil))))))))))
theorem vc_float_at (ds : List D) (Q' : D → Prop) (E' : Nat → Prop) (h : φ_float_at ds Q' E') : r_float_at (fun c _ => E' c) { nx := fun _ => Q' .non, rt := fun d _ => Q' d } (startE N_float_at ds) := by
  unfold φ_float_at at h
  split at h
  · rename_i d W c w s
    obtain ⟨hr, hb, hg⟩ := h
    obtain ⟨r1, r2⟩ := Bool.and_eq_true_iff.mp hr
    obtain ⟨r2, r3⟩ := Bool.and_eq_true_iff.mp r2
    delta r_float_at
    rw [s_left, s_right]
    refine ⟨r1, fun e => hb (by show (rmB [d, W, c] && _) = false; rw [e]; rfl), fun e1 => ?_⟩
    refine ⟨r2, ?_⟩
    cases e2 : isCountB w with
    | false => exact hb (by show (rmB [d, W, c] && (isCountB w && isSideB s)) = false; rw [e2]; simp)
    | true =>
      have bad : isSideB s = false → E' 10 := fun e => hb (by show (rmB [d, W, c] && (isCountB w && isSideB s)) = false; rw [e]; simp)
      cases s with
      | str x =>
        walk_at "y"
        show (match !inF (.str x) [.str sL, .str sR] with
          | true => _
          | false => _)
        rw [in_sides]
        cases e3 : (decide (x = sL) || decide (x = sR)) with
        | false => exact bad e3
        | true =>
          have hv : atB [d, W, c, w, .str x] = true := by
            show (rmB [d, W, c] && (isCountB w && (decide (x = sL) || decide (x = sR)))) = true
            rw [e1, e2, e3]
            rfl
          obtain ⟨fs, W', c', hin⟩ := rm_in r1 e1
          obtain ⟨w', rfl, hw0⟩ := count_of e2
          obtain ⟨s', es⟩ := side_of (d := .str x) e3
          obtain rfl : x = sdS s' := by cases es; rfl
          have e := hin.e
          simp only [List.cons.injEq, and_true] at e
          obtain ⟨rfl, rfl, rfl⟩ := e
          exact ⟨fs, 0, W', c', w', s', rfl, hin.ok, hin.l, fun r fr => hg hv fs W' c' w' s' r ⟨rfl, hin.ok, hin.l, hin.w0, hw0⟩ fr⟩
      | vl _ => cases r3
      | pool => cases r3
      | _ => exact bad rfl
  · exact h.elim

end PL.K49

set_option Elab.async false
set_option linter.all false
set_option autoImplicit false
set_option maxRecDepth 100000
set_option maxHeartbeats 1000000
namespace PL.K49
open PySem PySem.Spec PyProof.Rows L2
local macro_rules | `(tactic| walk_at "y") => `(tactic| conv => whnf)
/-! ### the law's own -/
def φ_law_between : Spec := fun ds Q _ => ∃ fs W row, ds = [flsD fs, .int W, .int row] ∧ fs.length ≤ 1000 ∧ Q (pairI (btw fs 0 W row))
def lB (row : Int) : D → Bool
  | .tup [.str x, _, _, .int t, .int d] => decide (x = sL) && (decide (t ≤ row) && decide (row < d))
  | _ => false
def rB (row : Int) : D → Bool
  | .tup [.str x, _, _, .int t, .int d] => decide (x = sR) && (decide (t ≤ row) && decide (row < d))
  | _ => false
def at1 : D → D
  | .tup [_, b, _, _, _] => b
  | _ => .non
def at2 : D → D
  | .tup [_, _, e, _, _] => e
  | _ => .non
theorem sd_decR (b : Bool) : decide (sdS b = sR) = !b := by cases b <;> decide
theorem lefts_map {fs : List Fl} {row : Int} : ((fs.map flD).filter (lB row)).map at2 = (leftsOf fs row).map D.int := by
  unfold leftsOf
  rw [List.filter_map, List.map_map, List.map_map]
  have e : (lB row ∘ flD) = fun f => f.s && beside f row := by
    funext f
    show (decide (sdS f.s = sL) && (decide (f.t ≤ row) && decide (row < f.d))) = _
    rw [sd_dec]
    rfl
  rw [e]
  rfl
theorem rights_map {fs : List Fl} {row : Int} : ((fs.map flD).filter (rB row)).map at1 = (rightsOf fs row).map D.int := by
  unfold rightsOf
  rw [List.filter_map, List.map_map, List.map_map]
  have e : (rB row ∘ flD) = fun f => !f.s && beside f row := by
    funext f
    show (decide (sdS f.s = sR) && (decide (f.t ≤ row) && decide (row < f.d))) = _
    rw [sd_decR]
    rfl
  rw [e]
  rfl
theorem fl_get {fs : List Fl} {i : Nat} {d : D} (h : (fs.map flD)[i]? = some d) : ∃ f, f ∈ fs ∧ d = flD f := by
  rw [List.getElem?_map] at h
  cases e : fs[i]? with
  | none => rw [e] at h; cases h
  | some f => rw [e] at h; exact ⟨f, List.mem_of_getElem? e, (Option.some.inj h).symm⟩
theorem lefts_len {fs : List Fl} {row : Int} : (leftsOf fs row).length ≤ fs.length := by
  unfold leftsOf
  rw [List.length_map]
  exact List.length_filter_le _ _
theorem rights_len {fs : List Fl} {row : Int} : (rightsOf fs row).length ≤ fs.length := by
  unfold rightsOf
  rw [List.length_map]
  exact List.length_filter_le _ _
abbrev N_law_between : List Str := ["floats", "width", "row", "lefts", "rights", "one"]
def r_law_between (Ξ : Xi) : PTS :=
  (ysSeq (ysAsg (yNew (ynLc (yiSeq (yVar 0)) (gN 5) (yAnd (yBinT (oEq false) (yIx (yVar 5) (yC (.int 0))) (yC (.str ("left" : Str)))) (yAnd (yBinT oLeA (yIx (yVar 5) (yC (.int 3))) (yVar 2)) (yBinT oLt (yVar 2) (yIx (yVar 5) (yC (.int 4)))))) (yIx (yVar 5) (yC (.int 2))) [5])) 3)
  (ysSeq (ysAsg (yNew (ynLc (yiSeq (yVar 0)) (gN 5) (yAnd (yBinT (oEq false) (yIx (yVar 5) (yC (.int 0))) (yC (.str ("right" : Str)))) (yAnd (yBinT oLeA (yIx (yVar 5) (yC (.int 3))) (yVar 2)) (yBinT oLt (yVar 2) (yIx (yVar 5) (yC (.int 4)))))) (yIx (yVar 5) (yC (.int 1))) [5])) 4)
  (ysRet (yTup (ylCons (yCB oMaxL (ylCons (yBin oAdd (yNew (ynLst (ylCons (yC (.int 0)) ylNil))) (yVar 3)) ylNil)) (ylCons (yCB oMinL (ylCons (yBin oAdd (yNew (ynLst (ylCons (yVar 1) ylNil))) (yVar 4)) ylNil)) ylNil))))))
theorem vc_law_between (ds : List D) (Q' : D → Prop) (E' : Nat → Prop) (h : φ_law_between ds Q' E') : r_law_between (fun c _ => E' c) { nx := fun _ => Q' .non, rt := fun d _ => Q' d } (startE N_law_between ds) := by
  obtain ⟨fs, W, row, rfl, hl, h⟩ := h
  delta r_law_between
  rw [s_left, s_right]
  let e (a b : Option S) : PEnv := [some (.v (flsD fs)), some (.v (.int W)), some (.v (.int row)), a, b, none]
  let I (ns : List Int) : Option S := some (.v (.lst (ns.map D.int)))
  refine seq_step (e (I (leftsOf fs row)) none) (fun K kk => ?_) ?_
  · refine ⟨⟨trivial, trivial⟩, by rw [List.length_map]; omega, lc_filter at2 (lB row) (fun i d hd K N h1 h2 => ?_) ?_⟩
    · obtain ⟨f, _, rfl⟩ := fl_get hd
      have el : lB row (flD f) = (decide (sdS f.s = sL) && (decide (f.t ≤ row) && decide (row < f.d))) := rfl
      rw [el] at h1 h2
      walk_at "y"
      show (match decide (sdS f.s = sL) with
        | true => _
        | false => _)
      cases q1 : decide (sdS f.s = sL) with
      | false => exact ⟨rfl, h2 (by rw [q1]; rfl)⟩
      | true =>
        walk_at "y"
        show (match decide (f.t ≤ row) with
          | true => _
          | false => _)
        cases q2 : decide (f.t ≤ row) with
        | false => exact ⟨rfl, h2 (by rw [q1, q2]; rfl)⟩
        | true =>
          walk_at "y"
          show (match decide (row < f.d) with
            | true => _
            | false => _)
          cases q3 : decide (row < f.d) with
          | false => exact ⟨rfl, h2 (by rw [q1, q2, q3]; rfl)⟩
          | true => exact ⟨rfl, h1 (by rw [q1, q2, q3]; rfl)⟩
    · rw [lefts_map]
      exact kk
  refine seq_step (e (I (leftsOf fs row)) (I (rightsOf fs row))) (fun K kk => ?_) ?_
  · refine ⟨⟨trivial, trivial⟩, by rw [List.length_map]; omega, lc_filter at1 (rB row) (fun i d hd K N h1 h2 => ?_) ?_⟩
    · obtain ⟨f, _, rfl⟩ := fl_get hd
      have el : rB row (flD f) = (decide (sdS f.s = sR) && (decide (f.t ≤ row) && decide (row < f.d))) := rfl
      rw [el] at h1 h2
      walk_at "y"
      show (match decide (sdS f.s = sR) with
        | true => _
        | false => _)
      cases q1 : decide (sdS f.s = sR) with
      | false => exact ⟨rfl, h2 (by rw [q1]; rfl)⟩
      | true =>
        walk_at "y"
        show (match decide (f.t ≤ row) with
          | true => _
          | false => _)
        cases q2 : decide (f.t ≤ row) with
        | false => exact ⟨rfl, h2 (by rw [q1, q2]; rfl)⟩
        | true =>
          walk_at "y"
          show (match decide (row < f.d) with
            | true => _
            | false => _)
          cases q3 : decide (row < f.d) with
          | false => exact ⟨rfl, h2 (by rw [q1, q2, q3]; rfl)⟩
          | true => exact ⟨rfl, h1 (by rw [q1, q2, q3]; rfl)⟩
    · rw [rights_map]
      exact kk
  have l1 := lefts_len (fs := fs) (row := row)
  have l2 := rights_len (fs := fs) (row := row)
  refine gd_of (show [D.int 0].length + ((leftsOf fs row).map D.int).length ≤ 16777216 by rw [List.length_map]; show 1 + _ ≤ _; omega) ?_
  have em1 : toInts ([D.int 0] ++ (leftsOf fs row).map D.int) = some ((0 : Int) :: leftsOf fs row) := toInts_map ((0 : Int) :: leftsOf fs row)
  have em2 : toInts ([D.int W] ++ (rightsOf fs row).map D.int) = some (W :: rightsOf fs row) := toInts_map (W :: rightsOf fs row)
  refine opt_of em1 ⟨by simp, fun m m1 m2 => ?_⟩
  refine gd_of (show [D.int W].length + ((rightsOf fs row).map D.int).length ≤ 16777216 by rw [List.length_map]; show 1 + _ ≤ _; omega) ?_
  refine opt_of em2 ⟨by simp, fun n n1 n2 => ?_⟩
  obtain ⟨a1, a2⟩ := btw_left fs 0 W row
  obtain ⟨b1, b2⟩ := btw_right fs 0 W row
  have hm : m = (btw fs 0 W row).1 := Int.le_antisymm (a2 m m1) (m2 _ a1)
  have hn : n = (btw fs 0 W row).2 := Int.le_antisymm (n2 _ b1) (b2 n n1)
  subst hm hn
  exact h

end PL.K49

set_option Elab.async false
set_option linter.all false
set_option autoImplicit false
set_option maxRecDepth 100000
set_option maxHeartbeats 1000000
namespace PL.K49
open PySem PySem.Spec PyProof.Rows L2
local macro_rules | `(tactic| walk_at "y") => `(tactic| conv => whnf)
/-- not too far off -/
def Near (fs : List Fl) (c : Int) : Prop := -1000000000000 ≤ c ∧ c ≤ 1000000000000 ∧ ∀ f ∈ fs, -1000000000000 ≤ f.t ∧ f.t ≤ 1000000000000 ∧ f.d ≤ 1000000000000
theorem start_near {fs : List Fl} {c : Int} (h : Near fs c) : -1000000000000 ≤ startOf fs c ∧ startOf fs c ≤ 1000000000000 := by
  unfold startOf
  cases e : fs.getLast? with
  | none => exact ⟨h.1, h.2.1⟩
  | some f =>
    obtain ⟨h1, h2, _⟩ := h.2.2 f (List.mem_of_getLast? e)
    obtain ⟨h3, h4, _⟩ := h
    show _ ≤ mx c f.t ∧ mx c f.t ≤ _
    unfold mx
    split <;> omega
def φ_law_place : Spec := fun ds Q _ => ∃ fs W c w s, ds = [flsD fs, .int W, .int c, .int w, .str (sdS s)] ∧ Okf fs ∧ fs.length ≤ 1000 ∧ Near fs c ∧ ∀ r, FirstRow (fits fs 0 W w) (startOf fs c) r → Q (pairI (xAt fs 0 W w r s, r))
abbrev N_law_place : List Str := ["floats", "width", "ceiling", "w", "side", "start", "row", "left", "right", "one"]
def r_law_place (Ξ : Xi) : PTS :=
  (ysSeq (ysAsg (yCB oMaxL (ylCons (yBin oAdd (yNew (ynLst (ylCons (yVar 2) ylNil))) (yNew (ynLc (yiSeq (yNew (ynSl (yVar 0) (yoSome (yNeg (yC (.int 1)))) yoNone))) (gN 9) yYes (yIx (yVar 9) (yC (.int 3))) [9]))) ylNil)) 5)
  (ysSeq (ysFor (yiRg2 (ylCons (yVar 5) (ylCons (yBin oAdd (yCB oMaxL (ylCons (yBin oAdd (yNew (ynLst (ylCons (yVar 5) ylNil))) (yNew (ynLc (yiSeq (yVar 0)) (gN 9) yYes (yIx (yVar 9) (yC (.int 4))) [9]))) ylNil)) (yC (.int 1))) ylNil))) (gN 6)
  (ysSeq (ysAsgG (yCall φ_law_between Ξ (ylCons (yVar 0) (ylCons (yVar 1) (ylCons (yVar 6) ylNil)))) (gTupY 2 [(gN 7), (gN 8)]))
  (ysIf (yOr (yBinT oGe (yBin oSub (yVar 8) (yVar 7)) (yVar 3)) (yAnd (yBinT (oEq false) (yVar 7) (yC (.int 0))) (yBinT (oEq false) (yVar 8) (yVar 1))))
  (ysRet (yTup (ylCons (yIx (yNew (ynLst (ylCons (yBin oSub (yVar 8) (yVar 3)) (ylCons (yVar 7) ylNil)))) (yCB oInt (ylCons (yBin (oEq false) (yVar 4) (yC (.str ("left" : Str)))) ylNil))) (ylCons (yVar 6) ylNil))))
  ysNext)))
  (ysRet (yC .non))))
theorem vc_law_place (ds : List D) (Q' : D → Prop) (E' : Nat → Prop) (h : φ_law_place ds Q' E') : r_law_place (fun c _ => E' c) { nx := fun _ => Q' .non, rt := fun d _ => Q' d } (startE N_law_place ds) := by
  obtain ⟨fs, W, c, w, s, rfl, ok, hl, near, h⟩ := h
  delta r_law_place
  rw [s_left]
  obtain ⟨sn1, sn2⟩ := start_near near
  obtain ⟨_, hup⟩ := start_up (c := c) ok
  let e (st r a b : Option S) : PEnv := [some (.v (flsD fs)), some (.v (.int W)), some (.v (.int c)), some (.v (.int w)), some (.v (.str (sdS s))), st, r, a, b, none]
  let I (i : Int) : Option S := some (.v (.int i))
  refine seq_step (e (I (startOf fs c)) none none none) (fun K kk => ?_) ?_
  · have hlast : (fs.getLast?.toList).length ≤ 1 := by cases fs.getLast? <;> simp
    have hc : (cutD (fs.map flD) (some (-1)) none).length ≤ 16777216 := by
      rw [last_cut, List.length_map]
      omega
    refine ⟨⟨trivial, trivial⟩, hc, lc_map dT (fun i d hd K N hk => ?_) ?_⟩
    · replace hd : (cutD (fs.map flD) (some (-1)) none)[i]? = some d := hd
      rw [last_cut, List.getElem?_map] at hd
      cases e : (fs.getLast?.toList)[i]? with
      | none => rw [e] at hd; cases hd
      | some f =>
        rw [e] at hd
        obtain rfl : flD f = d := Option.some.inj hd
        exact ⟨rfl, hk⟩
    · have em : (cutD (fs.map flD) (some (-1)) none).map dT = (fs.getLast?.toList.map (·.t)).map D.int := by
        rw [last_cut, List.map_map, List.map_map]
        rfl
      refine gd_of (show [D.int c].length + ((cutD (fs.map flD) (some (-1)) none).map dT).length ≤ 16777216 by rw [List.length_map]; show 1 + _ ≤ _; rw [last_cut, List.length_map]; omega) ?_
      have em2 : [D.int c] ++ (cutD (fs.map flD) (some (-1)) none).map dT = (c :: fs.getLast?.toList.map (·.t)).map D.int := by
        rw [em]
        rfl
      have em3 : toInts ([D.int c] ++ (cutD (fs.map flD) (some (-1)) none).map dT) = some (c :: fs.getLast?.toList.map (·.t)) := by rw [em2, toInts_map]
      refine opt_of em3 ⟨by simp, fun m h1 h2 => ?_⟩
      have hm := max_one m h1 h2
      subst hm
      exact kk
  generalize startOf fs c = st at sn1 sn2 hup h
  refine seq_post (fun ε => False) (fun K kk => ?_) fun _ z => z.elim
  refine ⟨⟨trivial, trivial⟩, by rw [List.length_map]; omega, lc_map dV (fun i d hd K N hk => ?_) ?_⟩
  · obtain ⟨f, _, rfl⟩ := fl_get hd
    exact ⟨rfl, hk⟩
  · have em : (fs.map flD).map dV = (fs.map (·.d)).map D.int := by
      rw [List.map_map, List.map_map]
      rfl
    rw [em]
    refine gd_of (show [D.int st].length + ((fs.map (·.d)).map D.int).length ≤ 16777216 by rw [List.length_map, List.length_map]; show 1 + _ ≤ _; omega) ?_
    have em3 : toInts ([D.int st] ++ (fs.map (·.d)).map D.int) = some (st :: fs.map (·.d)) := toInts_map (st :: fs.map Fl.d)
    refine opt_of em3 ⟨by simp, fun M m1 m2 => ?_⟩
    have hM0 : st ≤ M := m2 st List.mem_cons_self
    have hM1 : ∀ f ∈ fs, f.d ≤ M := fun f hf => m2 f.d (List.mem_cons_of_mem _ (List.mem_map_of_mem hf))
    have hM2 : M ≤ 1000000000000 := by
      rcases List.mem_cons.mp m1 with rfl | m1
      · exact sn2
      · obtain ⟨f, hf, rfl⟩ := List.mem_map.mp m1
        exact (near.2.2 f hf).2.2
    refine gd_of ⟨small_any (by omega) (by omega), small_any (by omega) (by omega)⟩ ?_
    have free : fits fs 0 W w M = true := by
      have e : btw fs 0 W M = (0, W) := btw_free fun f hf => by
        unfold beside
        rw [decide_eq_false (show ¬ M < f.d by have := hM1 f hf; omega), Bool.and_false]
      unfold fits
      rw [e]
      simp
    refine ⟨fun i ε => (∀ q, st ≤ q → q < st + (i : Int) → fits fs 0 W w q = false) ∧ ∃ r a b, ε = e (I st) r a b, ⟨fun q h1 h2 => by omega, none, none, none, rfl⟩, fun i d ε hi hd w' => ?_, fun ε w' => ?_⟩
    · obtain ⟨hi2, rfl⟩ := rangeD_get hd
      obtain ⟨hq, r, a, b, rfl⟩ := w'
      refine seq_step (e (I st) (I (st + (i : Int))) (I (btw fs 0 W (st + (i : Int))).1) (I (btw fs 0 W (st + (i : Int))).2)) (fun K kk => ⟨fs, W, _, rfl, hl, kk⟩) ?_
      have yes : fits fs 0 W w (st + (i : Int)) = true → Q' (pairI (xAt fs 0 W w (st + (i : Int)) s, st + (i : Int))) := fun z => h _ ⟨by omega, z, hq⟩
      have no : fits fs 0 W w (st + (i : Int)) = false → ∀ q, st ≤ q → q < st + ((i + 1 : Nat) : Int) → fits fs 0 W w q = false := fun z q h1 h2 => by
        by_cases e : q = st + (i : Int)
        · rw [e]; exact z
        · exact hq q h1 (by omega)
      unfold xAt at yes
      generalize hp : btw fs 0 W (st + (i : Int)) = p at yes
      have ef : fits fs 0 W w (st + (i : Int)) = (decide (w ≤ p.2 - p.1) || (decide (p.1 = 0) && decide (p.2 = W))) := by
        unfold fits
        rw [hp]
      have ret : fits fs 0 W w (st + (i : Int)) = true → opt (atI [D.int (p.2 - w), D.int p.1] (if decide (sdS s = sL) = true then 1 else 0)) (fun d => Q' (.tup [d, .int (st + (i : Int))])) := fun z => by
        have := yes z
        rw [sd_dec]
        cases s <;> exact this
      walk_at "y"
      show (match decide (w ≤ p.2 - p.1) with
        | true => _
        | false => _)
      cases q1 : decide (w ≤ p.2 - p.1) with
      | true =>
        have := ret (by rw [ef, q1]; rfl)
        obtain ⟨d, hd, hQ⟩ := opt_elim this
        exact opt_of hd hQ
      | false =>
        walk_at "y"
        show (match decide (p.1 = 0) with
          | true => _
          | false => _)
        cases q2 : decide (p.1 = 0) with
        | false => exact ⟨no (by rw [ef, q1, q2]; rfl), _, _, _, rfl⟩
        | true =>
          walk_at "y"
          show (match decide (p.2 = W) with
            | true => _
            | false => _)
          cases q3 : decide (p.2 = W) with
          | false => exact ⟨no (by rw [ef, q1, q2, q3]; rfl), _, _, _, rfl⟩
          | true =>
            have := ret (by rw [ef, q1, q2, q3]; rfl)
            obtain ⟨d, hd, hQ⟩ := opt_elim this
            exact opt_of hd hQ
    · obtain ⟨hq, _⟩ := w'
      rw [rangeD_len] at hq
      have := hq M hM0 (by omega)
      rw [free] at this
      cases this

end PL.K49

set_option Elab.async false
set_option linter.all false
set_option autoImplicit false
set_option maxRecDepth 100000
set_option maxHeartbeats 1000000
namespace PL.K49
open PySem PySem.Spec PyProof.Rows L2
local macro_rules | `(tactic| walk_at "y") => `(tactic| conv => whnf)
/-! ### draws -/
def φ_law_pick : Spec := φPick
def φ_law_stream : Spec := φStream
theorem int_of {xs : List Int} {i : Nat} {d : D} (h : (xs.map D.int)[i]? = some d) : ∃ x, d = .int x := by
  rw [List.getElem?_map] at h
  cases e : xs[i]? with
  | none => rw [e] at h; cases h
  | some x => rw [e] at h; exact ⟨x, (Option.some.inj h).symm⟩
theorem map_snoc {ns : List Int} {x : Int} : ns.map D.int ++ [D.int x] = (ns ++ [x]).map D.int := by simp
abbrev N_law_stream : List Str := ["script", "pool", "mixed", "cell", "rest", "k"]
def r_law_stream (Ξ : Xi) : PTS :=
  (ysSeq (ysPar 1 2 (yxN (ynLst (ylCons (yC (.int 1)) ylNil))) (yxE (yC (.int 17))))
  (ysSeq (ysFor (yiFrl (yVar 0)) (gN 3)
  (ysSeq (ysAsg (yBin oMod (yCB oInt (ylCons (yVar 3) ylNil)) (yBin oPow (yC (.int 60)) (yC (.int 60)))) 4)
  (ysSeq (ysAsg (yBin oMod (yCB oInt (ylCons (yBin oAdd (yBin oMulA (yVar 2) (yC (.int 31))) (yCB oInt (ylCons (yVar 4) ylNil))) ylNil)) (yC (.int 2147483647))) 2)
  (ysFor (yiRg1 (ylCons (yIx (yNew (ynLst (ylCons (yC (.int 2)) (ylCons (yC (.int 60)) ylNil)))) (yCB oInt (ylCons (yBin oGe (yCB oInt (ylCons (yVar 3) ylNil)) (yBin oPow (yC (.int 10)) (yC (.int 18)))) ylNil))) ylNil)) (gN 5)
  (ysSeq (ysApp 1 (yBin oMod (yCB oInt (ylCons (yVar 4) ylNil)) (yC (.int 60))))
  (ysSeq (ysAsg (yCB oInt (ylCons (yBin oFdiv (yVar 4) (yC (.int 60))) ylNil)) 4)
  (ysIf (yBinT (oEq false) (yVar 4) (yC (.int 0)))
  ysBrk
  ysNext)))))))
  (ysSeq (ysFor (yiRg1 (ylCons (yC (.int 900)) ylNil)) (gN 5)
  (ysSeq (ysAsg (yBin oMod (yCB oInt (ylCons (yBin oAdd (yBin oMulA (yVar 2) (yC (.int 48271))) (yC (.int 11))) ylNil)) (yC (.int 2147483647))) 2)
  (ysApp 1 (yBin oMod (yCB oInt (ylCons (yBin oFdiv (yVar 2) (yC (.int 97))) ylNil)) (yC (.int 60))))))
  (ysRet (yVar 1)))))
theorem vc_law_stream (ds : List D) (Q' : D → Prop) (E' : Nat → Prop) (h : φList ds Q' E') : r_law_stream (fun c _ => E' c) { nx := fun _ => Q' .non, rt := fun d _ => Q' d } (startE N_law_stream ds) := by
  unfold φList at h
  split at h
  · obtain ⟨xs, rfl, hx, h⟩ := h
    let e (ns : List Int) (mi c r k : Option S) : PEnv := [some (.v (.frl (xs.map D.int))), some (.o (((1 : Int) :: ns).map D.int)), mi, c, r, k]
    let I (i : Int) : Option S := some (.v (.int i))
    refine seq_step (e [] (I 17) none none none) (fun K k => k) ?_
    refine seq_post (fun ε => ∃ ns mi c r k, ns.length ≤ 60 * 63 ∧ ε = e ns (I mi) c r k) (fun K kk => ⟨fun i ε => ∃ ns mi c r k, ns.length ≤ 60 * i ∧ ε = e ns (I mi) c r k, ⟨[], 17, none, none, none, Nat.zero_le _, rfl⟩, fun i d ε hi hd w => ?_, fun ε ⟨ns, mi, c, r, k, hl, q⟩ => kk ε ⟨ns, mi, c, r, k, by rw [List.length_map] at hl; omega, q⟩⟩) fun ε w => ?_
    · obtain ⟨x, rfl⟩ := int_of hd
      obtain ⟨ns, mi, c, r, k, hl, rfl⟩ := w
      rw [List.length_map] at hi
      refine seq_step (e ns (I mi) (I x) (I (x % 60 ^ 60)) k) (fun K k => k) ?_
      refine seq_post (fun ε => ∃ mi, ε = e ns (I mi) (I x) (I (x % 60 ^ 60)) k) (fun K kk => gd_of (.inr ⟨by decide, by decide⟩) (kk _ ⟨_, rfl⟩)) ?_
      rintro _ ⟨mi, rfl⟩
      obtain ⟨m, hm, em⟩ : ∃ m : Nat, m ≤ 60 ∧ atI [D.int 2, D.int 60] (if decide ((10 : Int) ^ Int.toNat 18 ≤ x) = true then 1 else 0) = some (.int (m : Int)) := by
        cases decide ((10 : Int) ^ Int.toNat 18 ≤ x)
        · exact ⟨2, by decide, rfl⟩
        · exact ⟨60, by decide, rfl⟩
      refine opt_of em ?_
      refine gd_of (small_by (by omega) (by omega)) ?_
      refine ⟨fun j ε => ∃ ns r k, ns.length ≤ 60 * i + j ∧ ε = e ns (I mi) (I x) (I r) k, ⟨ns, _, k, hl, rfl⟩, fun j d ε hj hd w => ?_, fun ε w => ?_⟩
      · have hdd := rangeD_get hd
        rw [hdd.2]
        obtain ⟨ns, r, k, hl, rfl⟩ := w
        have hj : j < m := by have := hdd.1; rw [Int.toNat_natCast] at this; exact this
        refine gd_of (show (((1 : Int) :: ns).map D.int).length < 16777216 by rw [List.length_map, List.length_cons]; omega) ?_
        rw [map_snoc]
        walk_at "y"
        split
        · exact ⟨ns ++ [r % 60], _, _, _, _, by rw [List.length_append]; show ns.length + 1 ≤ 60 * (i + 1); omega, rfl⟩
        · exact ⟨ns ++ [r % 60], _, _, by rw [List.length_append]; show ns.length + 1 ≤ 60 * i + (j + 1); omega, rfl⟩
      · obtain ⟨ns, r, k, hl, rfl⟩ := w
        rw [rangeD_len, Int.toNat_natCast] at hl
        exact ⟨ns, _, _, _, _, by show ns.length ≤ 60 * (i + 1); omega, rfl⟩
    · obtain ⟨ns, mi, c, r, k, hl, rfl⟩ := w
      refine ⟨fun j ε => ∃ ns' mi k, ns'.length = ns.length + j ∧ ε = e ns' (I mi) c r k, ⟨ns, mi, k, rfl, rfl⟩, fun j d ε hj hd w => ?_, fun ε w => ?_⟩
      · have hdd := rangeD_get hd
        rw [hdd.2]
        obtain ⟨ns', mi, k, hl', rfl⟩ := w
        have hj : j < 900 := hdd.1
        refine gd_of (.inr ⟨by decide, by decide⟩) ?_
        refine gd_of (show (((1 : Int) :: ns').map D.int).length < 16777216 by rw [List.length_map, List.length_cons]; omega) ?_
        rw [map_snoc]
        exact ⟨ns' ++ [(mi * 48271 + 11) % 2147483647 / 97 % 60], _, _, by rw [List.length_append, hl']; rfl, rfl⟩
      · obtain ⟨ns', mi, k, hl', rfl⟩ := w
        rw [rangeD_len] at hl'
        replace hl' : ns'.length = ns.length + 900 := hl'
        refine h (1 :: ns') ⟨?_, ?_, 1, rfl, by decide, ?_⟩
        · show 2 ≤ ns'.length + 1; omega
        · show ns'.length + 1 ≤ _; omega
        · show (1 : Int) < ((ns'.length + 1 : Nat) : Int); omega
  · exact h.elim
def φ_law_index : Spec
  | [.pool, .int n], Q, _ => gd (0 < n) (∀ r : Int, 0 ≤ r → r < n → Q (.int r))
  | _, _, _ => False
abbrev N_law_index : List Str := ["pool", "many", "high"]
def r_law_index (Ξ : Xi) : PTS :=
  (ysSeq (ysAsg (yCall φ_law_pick Ξ (ylCons (yVar 0) (ylCons (yC (.int 60)) ylNil))) 2)
  (ysRet (yBin oMod (yCB oInt (ylCons (yBin oAdd (yBin oMulA (yVar 2) (yC (.int 60))) (yCall φ_law_pick Ξ (ylCons (yVar 0) (ylCons (yC (.int 60)) ylNil)))) ylNil)) (yVar 1))))
theorem vc_law_index (ds : List D) (Q' : D → Prop) (E' : Nat → Prop) (h : φ_law_index ds Q' E') : r_law_index (fun c _ => E' c) { nx := fun _ => Q' .non, rt := fun d _ => Q' d } (startE N_law_index ds) := by
  unfold φ_law_index at h
  split at h
  · rename_i n
    obtain ⟨hn, h2⟩ := gd_elim h
    intro k k0 k1
    refine gd_of (.inr ⟨by decide, by decide⟩) ?_
    intro r a0 a1
    refine gd_of hn ?_
    exact h2 _ (Int.emod_nonneg _ (by omega)) (Int.emod_lt_of_pos _ hn)
  · exact h.elim

def sAt : Str := S0 [97, 116]
def sRm : Str := S0 [114, 111, 111, 109]
theorem s_at : ("at" : Str) = sAt := by kernel_rfl
theorem s_room : ("room" : Str) = sRm := by kernel_rfl
def refD : D := .tup [.str ("refused" : Str), .bl true, .bl false]
def toldD (p : D) : D := .tup [.str ("told" : Str), p]
abbrev exCs : List Nat := [0, 10, 11]
def φ_law_told : Spec
  | [.str x, d, W, c, w, s], Q, _ =>
    (x = sAt ∧ regA [d, W, c, w, s] = true ∧ (atB [d, W, c, w, s] = false → Q refD) ∧
      (atB [d, W, c, w, s] = true → ∀ fs W' c' w' s' r, AtIn [d, W, c, w, s] fs W' c' w' s' → FirstRow (fits fs 0 W' w') (startOf fs c') r → Q (toldD (pairI (xAt fs 0 W' w' r s', r))))) ∨
    (x = sRm ∧ regR [d, W, c] = true ∧ (rmB [d, W, c] = false → Q refD) ∧ (rmB [d, W, c] = true → ∀ fs W' r', RmIn [d, W, c] fs W' r' → Q (toldD (pairI (btw fs 0 W' r')))))
  | _, _, _ => False
abbrev N_law_told : List Str := ["word", "one", "width", "row", "w", "side", "told", "e"]
def r_law_told (Ξ : Xi) : PTS :=
  (ysSeq (ysTry exCs 7 (fun Ξb => (ysIf (yBinT (oEq false) (yVar 0) (yC (.str ("at" : Str))))
  (ysAsg (yCall φ_float_at Ξb (ylCons (yVar 1) (ylCons (yVar 2) (ylCons (yVar 3) (ylCons (yVar 4) (ylCons (yVar 5) ylNil)))))) 6)
  (ysAsg (yCall φ_room_at Ξb (ylCons (yVar 1) (ylCons (yVar 2) (ylCons (yVar 3) ylNil)))) 6)))
  (fun a c => (ysRet (yTup (ylCons (yC (.str ("refused" : Str))) (ylCons (yIsE 7 a c 10) (ylCons (yIsE 7 a c 11) ylNil)))))))
  (ysRet (yTup (ylCons (yC (.str ("told" : Str))) (ylCons (yVar 6) ylNil)))))
theorem vc_law_told (ds : List D) (Q' : D → Prop) (E' : Nat → Prop) (h : φ_law_told ds Q' E') : r_law_told (fun c _ => E' c) { nx := fun _ => Q' .non, rt := fun d _ => Q' d } (startE N_law_told ds) := by
  unfold φ_law_told at h
  split at h
  · rename_i x d W c w s
    delta r_law_told
    rw [s_at]
    rcases h with ⟨rfl, hr, hb, hg⟩ | ⟨rfl, hr, hb, hg⟩
    · refine ⟨hr, fun e => ⟨by decide, fun a => ?_⟩, fun e fs W' c' w' s' r hin fr => hg e fs W' c' w' s' r hin fr⟩
      exact ⟨rfl, rfl, hb e⟩
    · refine ⟨hr, fun e => ⟨by decide, fun a => ?_⟩, fun e fs W' r' hin => hg e fs W' r' hin⟩
      exact ⟨rfl, rfl, hb e⟩
  · exact h.elim

end PL.K49

set_option Elab.async false
set_option linter.all false
set_option autoImplicit false
set_option maxRecDepth 100000
set_option maxHeartbeats 1000000
namespace PL.K49
open PySem PySem.Spec PyProof.Rows L2
local macro_rules | `(tactic| walk_at "y") => `(tactic| conv => whnf)
/-! ### the same -/
mutual
/-- plain to this depth -/
def plainD : Nat → D → Bool
  | 0, _ => false
  | _ + 1, .non => true
  | _ + 1, .bl _ => true
  | _ + 1, .int _ => true
  | _ + 1, .str _ => true
  | n + 1, .tup ds => decide (ds.length ≤ 1100) && plainDs n ds
  | n + 1, .lst ds => decide (ds.length ≤ 1100) && plainDs n ds
  | _ + 1, _ => false
def plainDs : Nat → List D → Bool
  | _, [] => true
  | n, d :: ds => plainD n d && plainDs n ds
end
mutual
/-- isinstance tells all of it, to this depth -/
def anyD : Nat → D → Bool
  | 0, _ => true
  | _ + 1, .vl _ => false
  | _ + 1, .pool => false
  | _ + 1, .frl _ => false
  | n + 1, .tup ds => decide (ds.length ≤ 1100) && anyDs n ds
  | n + 1, .lst ds => decide (ds.length ≤ 1100) && anyDs n ds
  | _ + 1, _ => true
def anyDs : Nat → List D → Bool
  | _, [] => true
  | n, d :: ds => anyD n d && anyDs n ds
end
mutual
def sameB : Nat → D → D → Bool
  | 0, _, _ => false
  | _ + 1, one, .non => isNon one
  | _ + 1, .bl a, .bl b => decide (a = b)
  | _ + 1, .int a, .int b => decide (a = b)
  | _ + 1, .str a, .str b => decide (a = b)
  | n + 1, .tup ds, .tup es => sameBs n ds es
  | n + 1, .lst ds, .lst es => sameBs n ds es
  | _ + 1, _, _ => false
def sameBs : Nat → List D → List D → Bool
  | _, [], [] => true
  | n, d :: ds, e :: es => sameB n d e && sameBs n ds es
  | _, _, _ => false
end
theorem plain_at : ∀ {n : Nat} {ds : List D} {i : Nat} {d : D}, plainDs n ds = true → ds[i]? = some d → plainD n d = true
  | n, [], i, d, _, h => by simp at h
  | n, x :: xs, 0, d, hp, h => by
    obtain rfl : x = d := by simpa using h
    unfold plainDs at hp
    exact (Bool.and_eq_true_iff.mp hp).1
  | n, x :: xs, i + 1, d, hp, h => by
    unfold plainDs at hp
    exact plain_at (Bool.and_eq_true_iff.mp hp).2 (by simpa using h)
theorem any_at : ∀ {n : Nat} {ds : List D} {i : Nat} {d : D}, anyDs n ds = true → ds[i]? = some d → anyD n d = true
  | n, [], i, d, _, h => by simp at h
  | n, x :: xs, 0, d, hp, h => by
    obtain rfl : x = d := by simpa using h
    unfold anyDs at hp
    exact (Bool.and_eq_true_iff.mp hp).1
  | n, x :: xs, i + 1, d, hp, h => by
    unfold anyDs at hp
    exact any_at (Bool.and_eq_true_iff.mp hp).2 (by simpa using h)
theorem same_len : ∀ {n : Nat} {ds es : List D}, ds.length ≠ es.length → sameBs n ds es = false
  | n, [], [], h => absurd rfl h
  | n, [], _ :: _, _ => by unfold sameBs; rfl
  | n, _ :: _, [], _ => by unfold sameBs; rfl
  | n, d :: ds, e :: es, h => by
    unfold sameBs
    rw [same_len (fun z => h (by rw [List.length_cons, List.length_cons, z])), Bool.and_false]
def pairB (n : Nat) (ds es : List D) (i : Nat) : Bool := match ds[i]?, es[i]? with
  | some d, some e => sameB n d e
  | _, _ => false
theorem same_all : ∀ {n : Nat} {ds es : List D}, ds.length = es.length → sameBs n ds es = (List.range es.length).all (pairB n ds es)
  | n, [], [], _ => by unfold sameBs; rfl
  | n, [], _ :: _, h => by cases h
  | n, _ :: _, [], h => by cases h
  | n, d :: ds, e :: es, h => by
    unfold sameBs
    rw [same_all (Nat.succ.inj h), List.length_cons, List.range_succ_eq_map, List.all_cons, List.all_map]
    rfl
def pD (n : Nat) (ds es : List D) : D → D
  | .int i => .bl (pairB n ds es i.toNat)
  | _ => .non
theorem pD_map {m n : Nat} {ds es : List D} : (rangeD 0 m).map (pD n ds es) = ((List.range m).map (pairB n ds es)).map D.bl := by
  unfold rangeD
  rw [List.map_map, List.map_map]
  apply List.map_congr_left
  intro i _
  show D.bl (pairB n ds es (0 + (i : Int)).toNat) = D.bl (pairB n ds es i)
  rw [show (0 + (i : Int)).toNat = i by omega]
def sameN (n : Nat) : Spec := fun ds Q _ => ∃ one due, ds = [one, due] ∧ anyD n one = true ∧ plainD n due = true ∧ Q (.bl (sameB n one due))
theorem any_reg {n : Nat} {d : D} (h : anyD (n + 1) d = true) : regB d = true := by
  cases d <;> first | rfl | exact h
theorem vc_seq {n : Nat} {ds es : List D} {Q' : D → Prop} {ψ : Spec} {Ξ : Xi} {one due : D} (ho : one = .tup ds ∨ one = .lst ds) (hd : due = .tup es ∨ due = .lst es) (hψ : ψ = sameN n)
    (a1 : anyDs n ds = true) (a2 : plainDs n es = true) (hl : es.length ≤ 1100) (he : ds.length = es.length) (h : Q' (.bl (sameBs n ds es))) :
    (ysRet (yCB oAll (ylCons (yNew (ynLc (yiRg1 (ylCons (yCB oLen (ylCons (yVar 1) ylNil)) ylNil)) (gN 2) yYes (yCall ψ Ξ0 (ylCons (yIx (yVar 0) (yVar 2)) (ylCons (yIx (yVar 1) (yVar 2)) ylNil))) [2])) ylNil))) { nx := fun _ => Q' .non, rt := fun d _ => Q' d } [some (.v one), some (.v due), none, none] := by
  subst hψ
  have fin : ∀ m, m = es.length → oAll [.lst ((rangeD 0 m).map (pD n ds es))] Q' := fun m hm => by
    subst hm
    rw [pD_map]
    refine all_bls ?_
    rw [List.all_map]
    rw [same_all he] at h
    exact h
  have step : ∀ (i : Nat), i < es.length → ∀ K : D → Prop, K (.bl (pairB n ds es i)) → ∃ d e, ds[i]? = some d ∧ es[i]? = some e ∧ anyD n d = true ∧ plainD n e = true ∧ K (.bl (sameB n d e)) := fun i hi K hk => by
    have g1 : ds[i]? = some ds[i] := List.getElem?_eq_getElem (by omega)
    have g2 : es[i]? = some es[i] := List.getElem?_eq_getElem hi
    refine ⟨_, _, g1, g2, any_at a1 g1, plain_at a2 g2, ?_⟩
    unfold pairB at hk
    rw [g1, g2] at hk
    exact hk
  rcases ho with rfl | rfl <;> rcases hd with rfl | rfl <;>
  · refine gd_of (small_any (by omega) (by omega)) ?_
    refine ⟨⟨trivial, trivial⟩, by rw [rangeD_len]; omega, lc_map (pD n ds es) (fun i d hd K N hk => ?_) (fin _ (Int.toNat_natCast _))⟩
    obtain ⟨hi, rfl⟩ := rangeD_get hd
    replace hi : i < es.length := by rw [Int.toNat_natCast] at hi; exact hi
    rw [z_add] at hk ⊢
    obtain ⟨d, e, g1, g2, x1, x2, x3⟩ := step i hi K hk
    refine opt_of (atI_nat g1) ?_
    refine opt_of (atI_nat g2) ?_
    exact ⟨d, e, rfl, x1, x2, rfl, x3⟩

end PL.K49

set_option Elab.async false
set_option linter.all false
set_option autoImplicit false
set_option maxRecDepth 100000
set_option maxHeartbeats 1000000
namespace PL.K49
open PySem PySem.Spec PyProof.Rows L2
local macro_rules | `(tactic| walk_at "y") => `(tactic| conv => whnf)
abbrev N_law_same : List Str := ["one", "due", "k", "key"]
def r_law_same (ψ : Spec) (Ξ : Xi) : PTS :=
  (ysSeq (ysIf (yBinT (oIsN false) (yVar 1) (yC .non))
  (ysRet (yBin (oIsN false) (yVar 0) (yC .non)))
  ysNext)
  (ysSeq (ysIf (yTru (yIs .bool (yVar 1)))
  (ysRet (yAndV (yIs .bool (yVar 0)) (yBin (oEq false) (yVar 0) (yVar 1))))
  ysNext)
  (ysSeq (ysIf (yTru (yIs .int (yVar 1)))
  (ysRet (yAndV (yIs .int (yVar 0)) (yAndV (yNotB (yIs .bool (yVar 0))) (yBin (oEq false) (yVar 0) (yVar 1)))))
  ysNext)
  (ysSeq (ysIf (yTru (yIs .str (yVar 1)))
  (ysRet (yAndV (yIs .str (yVar 0)) (yBin (oEq false) (yVar 0) (yVar 1))))
  ysNext)
  (ysSeq (ysIf (yTru (yIs .dict (yVar 1)))
  (ysSeq (ysIf (yOr (yNot (yTru (yIs .dict (yVar 0)))) (yBinT (oEq true) (yCB oLen (ylCons (yVar 0) ylNil)) (yCB oLen (ylCons (yVar 1) ylNil))))
  (ysRet (yC (.bl false)))
  ysNext)
  (ysRet (yCB oAll (ylCons (yNew (ynLc (yiSeq (yVar 1)) (gN 3) yYes (yAndV (yBin (oIn false) (yVar 3) (yVar 0)) (yCall ψ Ξ0 (ylCons (yIx (yVar 0) (yVar 3)) (ylCons (yIx (yVar 1) (yVar 3)) ylNil)))) [3])) ylNil))))
  ysNext)
  (ysSeq (ysIf (yOr (yBinT (oEq true) (yIs .list (yVar 0)) (yIs .list (yVar 1))) (yOr (yNot (yTru (yIs2 .list .tuple (yVar 0)))) (yBinT (oEq true) (yCB oLen (ylCons (yVar 0) ylNil)) (yCB oLen (ylCons (yVar 1) ylNil)))))
  (ysRet (yC (.bl false)))
  ysNext)
  (ysRet (yCB oAll (ylCons (yNew (ynLc (yiRg1 (ylCons (yCB oLen (ylCons (yVar 1) ylNil)) ylNil)) (gN 2) yYes (yCall ψ Ξ0 (ylCons (yIx (yVar 0) (yVar 2)) (ylCons (yIx (yVar 1) (yVar 2)) ylNil))) [2])) ylNil)))))))))
theorem vc_law_same {n : Nat} (ds : List D) (Q' : D → Prop) (E' : Nat → Prop) (h : (sameN (n + 1)) ds Q' E') : r_law_same (sameN n) (fun c _ => E' c) { nx := fun _ => Q' .non, rt := fun d _ => Q' d } (startE N_law_same ds) := by
  obtain ⟨one, due, rfl, ha, hp, h⟩ := h
  have two : ∀ (ds es : List D), anyDs n ds = true → plainDs n es = true → es.length ≤ 1100 → Q' (.bl (sameBs n ds es)) → (one = .tup ds ∧ due = .tup es ∨ one = .lst ds ∧ due = .lst es) → r_law_same (sameN n) (fun c x => E' c) { nx := fun x => Q' D.non, rt := fun d x => Q' d } (startE N_law_same [one, due]) := by
    intro ds es a1 a2 hl hq ho
    rcases ho with ⟨rfl, rfl⟩ | ⟨rfl, rfl⟩ <;>
    · walk_at "y"
      show (match !decide (((ds.length : Nat) : Int) = ((es.length : Nat) : Int)) with
        | true => _
        | false => _)
      cases he : decide (((ds.length : Nat) : Int) = ((es.length : Nat) : Int)) with
      | false =>
        have he := of_decide_eq_false he
        rw [same_len (fun z => he (by rw [z]))] at hq
        exact hq
      | true =>
        have he := of_decide_eq_true he
        first
          | exact vc_seq (Ξ := fun _ _ => False) (.inl rfl) (.inl rfl) rfl a1 a2 hl (by omega) hq
          | exact vc_seq (Ξ := fun _ _ => False) (.inr rfl) (.inr rfl) rfl a1 a2 hl (by omega) hq
  cases due with
  | non => cases one <;> first | (cases ha; done) | (unfold sameB at h; exact h)
  | bl b => cases one <;> first | (cases ha; done) | (unfold sameB at h; exact h)
  | int b => cases one <;> first | (cases ha; done) | (unfold sameB at h; exact h)
  | str b => cases one <;> first | (cases ha; done) | (unfold sameB at h; exact h)
  | tup es =>
    cases one with
    | tup ds =>
      unfold sameB at h
      unfold anyD at ha
      unfold plainD at hp
      obtain ⟨hl, hp⟩ := Bool.and_eq_true_iff.mp hp
      obtain ⟨_, ha⟩ := Bool.and_eq_true_iff.mp ha
      exact two ds es ha hp (of_decide_eq_true hl) h (.inl ⟨rfl, rfl⟩)
    | vl _ => cases ha
    | pool => cases ha
    | frl _ => cases ha
    | _ => unfold sameB at h; exact h
  | lst es =>
    cases one with
    | lst ds =>
      unfold sameB at h
      unfold anyD at ha
      unfold plainD at hp
      obtain ⟨hl, hp⟩ := Bool.and_eq_true_iff.mp hp
      obtain ⟨_, ha⟩ := Bool.and_eq_true_iff.mp ha
      exact two ds es ha hp (of_decide_eq_true hl) h (.inr ⟨rfl, rfl⟩)
    | vl _ => cases ha
    | pool => cases ha
    | frl _ => cases ha
    | _ => unfold sameB at h; exact h
  | _ => unfold plainD at hp; cases hp
theorem zero_law_same (ds : List D) (Q : D → Prop) (E : Nat → Prop) (h : sameN 0 ds Q E) : False := by
  obtain ⟨one, due, rfl, _, hp, _⟩ := h
  unfold plainD at hp
  cases hp
theorem len_same (n : Nat) (ds : List D) (Q : D → Prop) (E : Nat → Prop) (h : sameN n ds Q E) : ds.length = 2 := by
  obtain ⟨one, due, rfl, _⟩ := h
  rfl

end PL.K49

set_option Elab.async false
set_option linter.all false
set_option autoImplicit false
set_option maxRecDepth 100000
set_option maxHeartbeats 1000000
namespace PL.K49
open PySem PySem.Spec PyProof.Rows L2
local macro_rules | `(tactic| walk_at "y") => `(tactic| conv => whnf)
/-! ### mirrored, scaled -/
def mirF (W : Int) (f : Fl) : Fl := ⟨!f.s, W - f.e, W - f.b, f.t, f.d⟩
def sclF (k : Int) (f : Fl) : Fl := ⟨f.s, f.b * k, f.e * k, f.t * k, f.d * k⟩
theorem mir_fold {W row : Int} : ∀ (fs : List Fl) (q : Int × Int), (fs.map (mirF W)).foldl (stepB row) (W - q.2, W - q.1) = (W - (fs.foldl (stepB row) q).2, W - (fs.foldl (stepB row) q).1)
  | [], q => rfl
  | f :: fs, q => by
    rw [List.map_cons, List.foldl_cons, List.foldl_cons, ← mir_fold fs]
    congr 1
    have hb : beside (mirF W f) row = beside f row := rfl
    unfold stepB
    rw [hb]
    cases beside f row with
    | false => rfl
    | true =>
      show (match !f.s with
        | true => (mx (W - q.2) (W - f.b), W - q.1)
        | false => (W - q.2, mn (W - q.1) (W - f.e))) = _
      cases f.s with
      | true =>
        show (W - q.2, mn (W - q.1) (W - f.e)) = (W - q.2, W - mx q.1 f.e)
        unfold mn mx
        congr 1
        split <;> split <;> omega
      | false =>
        show (mx (W - q.2) (W - f.b), W - q.1) = (W - mn q.2 f.b, W - q.1)
        unfold mn mx
        congr 1
        split <;> split <;> omega
theorem btw_mir {fs : List Fl} {W row : Int} : btw (fs.map (mirF W)) 0 W row = (W - (btw fs 0 W row).2, W - (btw fs 0 W row).1) := by
  have := mir_fold (W := W) (row := row) fs (0, W)
  unfold btw
  rw [← this]
  congr 2
  · show (0 : Int) = W - W
    omega
  · show W = W - 0
    omega
theorem fits_mir {fs : List Fl} {W w : Int} : fits (fs.map (mirF W)) 0 W w = fits fs 0 W w := by
  funext row
  unfold fits
  rw [btw_mir]
  generalize btw fs 0 W row = p
  show (decide (w ≤ (W - p.1) - (W - p.2)) || (decide (W - p.2 = 0) && decide (W - p.1 = W))) = (decide (w ≤ p.2 - p.1) || (decide (p.1 = 0) && decide (p.2 = W)))
  rw [show (W - p.1) - (W - p.2) = p.2 - p.1 by omega]
  congr 1
  rw [Bool.and_comm]
  congr 1
  · exact decide_eq_decide.mpr (by omega)
  · exact decide_eq_decide.mpr (by omega)
theorem start_mir {fs : List Fl} {W c : Int} : startOf (fs.map (mirF W)) c = startOf fs c := by
  unfold startOf
  rw [List.getLast?_map]
  cases fs.getLast? <;> rfl
theorem x_mir {fs : List Fl} {W w r : Int} {s : Bool} : xAt (fs.map (mirF W)) 0 W w r (!s) = W - xAt fs 0 W w r s - w := by
  unfold xAt
  rw [btw_mir]
  cases s with
  | true => show (W - _) - w = W - _ - w; rfl
  | false =>
    show W - (btw fs 0 W r).2 = W - ((btw fs 0 W r).2 - w) - w
    omega
theorem ok_mir {fs : List Fl} {W : Int} (ok : Okf fs) : Okf (fs.map (mirF W)) := by
  refine ⟨fun f hf => ?_, fun f hf => ?_, ?_⟩
  · obtain ⟨g, hg, rfl⟩ := List.mem_map.mp hf
    have := ok.be g hg
    show W - g.e ≤ W - g.b
    omega
  · obtain ⟨g, hg, rfl⟩ := List.mem_map.mp hf
    exact ok.td g hg
  · rw [List.map_map]
    exact ok.up
theorem scl_beside {f : Fl} {k q : Int} (hk : 0 < k) : beside (sclF k f) q = beside f (q / k) := by
  show (decide (f.t * k ≤ q) && decide (q < f.d * k)) = (decide (f.t ≤ q / k) && decide (q / k < f.d))
  congr 1
  · exact decide_eq_decide.mpr (Int.le_ediv_iff_mul_le hk).symm
  · exact decide_eq_decide.mpr (Int.ediv_lt_iff_lt_mul hk).symm
theorem mx_scl {a b k : Int} (hk : 0 < k) : mx (a * k) (b * k) = mx a b * k := by
  unfold mx
  by_cases h : b > a
  · rw [if_pos h, if_pos (Int.mul_lt_mul_of_pos_right h hk)]
  · rw [if_neg h, if_neg (fun z => h (Int.lt_of_mul_lt_mul_right z (Int.le_of_lt hk)))]
theorem mn_scl {a b k : Int} (hk : 0 < k) : mn (a * k) (b * k) = mn a b * k := by
  unfold mn
  by_cases h : b < a
  · rw [if_pos h, if_pos (Int.mul_lt_mul_of_pos_right h hk)]
  · rw [if_neg h, if_neg (fun z => h (Int.lt_of_mul_lt_mul_right z (Int.le_of_lt hk)))]
theorem scl_fold {k q : Int} (hk : 0 < k) : ∀ (fs : List Fl) (p : Int × Int), (fs.map (sclF k)).foldl (stepB q) (p.1 * k, p.2 * k) = ((fs.foldl (stepB (q / k)) p).1 * k, (fs.foldl (stepB (q / k)) p).2 * k)
  | [], p => rfl
  | f :: fs, p => by
    rw [List.map_cons, List.foldl_cons, List.foldl_cons, ← scl_fold hk fs]
    congr 1
    unfold stepB
    rw [scl_beside hk]
    cases beside f (q / k) with
    | false => rfl
    | true =>
      show (match f.s with
        | true => (mx (p.1 * k) (f.e * k), p.2 * k)
        | false => (p.1 * k, mn (p.2 * k) (f.b * k))) = _
      cases f.s with
      | true => rw [mx_scl hk]
      | false => rw [mn_scl hk]
theorem btw_scl {fs : List Fl} {k W q : Int} (hk : 0 < k) : btw (fs.map (sclF k)) 0 (W * k) q = ((btw fs 0 W (q / k)).1 * k, (btw fs 0 W (q / k)).2 * k) := by
  have := scl_fold (q := q) hk fs (0, W)
  rw [show ((0, W) : Int × Int).1 * k = 0 from Int.zero_mul k] at this
  exact this
theorem mul_eq {a b k : Int} (hk : 0 < k) : a * k = b * k ↔ a = b := ⟨fun h => Int.eq_of_mul_eq_mul_right (by omega) h, fun h => by rw [h]⟩
theorem mul_le {a b k : Int} (hk : 0 < k) : a * k ≤ b * k ↔ a ≤ b := ⟨fun h => Int.le_of_mul_le_mul_right h hk, fun h => Int.mul_le_mul_of_nonneg_right h (Int.le_of_lt hk)⟩
theorem fits_scl {fs : List Fl} {k W w q : Int} (hk : 0 < k) : fits (fs.map (sclF k)) 0 (W * k) (w * k) q = fits fs 0 W w (q / k) := by
  unfold fits
  rw [btw_scl hk]
  generalize btw fs 0 W (q / k) = p
  show (decide (w * k ≤ p.2 * k - p.1 * k) || (decide (p.1 * k = 0) && decide (p.2 * k = W * k))) = _
  rw [← Int.sub_mul]
  congr 1
  · exact decide_eq_decide.mpr (mul_le hk)
  · congr 1
    · exact decide_eq_decide.mpr (by rw [← mul_eq (a := p.1) (b := 0) hk, Int.zero_mul])
    · exact decide_eq_decide.mpr (mul_eq hk)
theorem start_scl {fs : List Fl} {k c : Int} (hk : 0 < k) : startOf (fs.map (sclF k)) (c * k) = startOf fs c * k := by
  unfold startOf
  rw [List.getLast?_map]
  cases fs.getLast? with
  | none => rfl
  | some f => exact mx_scl hk
theorem first_scl {fs : List Fl} {k W w c r : Int} (hk : 0 < k) (h : FirstRow (fits fs 0 W w) (startOf fs c) r) : FirstRow (fits (fs.map (sclF k)) 0 (W * k) (w * k)) (startOf (fs.map (sclF k)) (c * k)) (r * k) := by
  obtain ⟨h1, h2, h3⟩ := h
  rw [start_scl hk]
  refine ⟨(mul_le hk).mpr h1, ?_, fun q a b => ?_⟩
  · rw [fits_scl hk, Int.mul_ediv_cancel _ (by omega)]
    exact h2
  · rw [fits_scl hk]
    exact h3 _ ((Int.le_ediv_iff_mul_le hk).mpr a) ((Int.ediv_lt_iff_lt_mul hk).mpr b)
theorem x_scl {fs : List Fl} {k W w r : Int} {s : Bool} (hk : 0 < k) : xAt (fs.map (sclF k)) 0 (W * k) (w * k) (r * k) s = xAt fs 0 W w r s * k := by
  unfold xAt
  rw [btw_scl hk, Int.mul_ediv_cancel _ (by omega)]
  cases s with
  | true => rfl
  | false => exact (Int.sub_mul _ _ _).symm
theorem ok_scl {fs : List Fl} {k : Int} (hk : 0 < k) (ok : Okf fs) : Okf (fs.map (sclF k)) := by
  refine ⟨fun f hf => ?_, fun f hf => ?_, ?_⟩
  · obtain ⟨g, hg, rfl⟩ := List.mem_map.mp hf
    exact (mul_le hk).mpr (ok.be g hg)
  · obtain ⟨g, hg, rfl⟩ := List.mem_map.mp hf
    exact (mul_le hk).mpr (ok.td g hg)
  · rw [List.map_map]
    have e : ((fun x : Fl => x.t) ∘ sclF k) = (fun x => x * k) ∘ fun f : Fl => f.t := rfl
    rw [e, ← List.map_map, List.pairwise_map]
    exact ok.up.imp fun h => (mul_le hk).mpr h

end PL.K49

set_option Elab.async false
set_option linter.all false
set_option autoImplicit false
set_option maxRecDepth 100000
set_option maxHeartbeats 1000000
namespace PL.K49
open PySem PySem.Spec PyProof.Rows L2
local macro_rules | `(tactic| walk_at "y") => `(tactic| conv => whnf)
def mD (W : Int) : D → D
  | .tup [.str x, .int b, .int e, .int t, .int d] => .tup [.str (match decide (x = sL) with | true => sR | false => sL), .int (W - e), .int (W - b), .int t, .int d]
  | _ => .non
theorem mD_fl {W : Int} {f : Fl} : mD W (flD f) = flD (mirF W f) := by
  obtain ⟨s, b, e, t, d⟩ := f
  show D.tup [.str (match decide (sdS s = sL) with | true => sR | false => sL), .int (W - e), .int (W - b), .int t, .int d] = _
  rw [sd_dec]
  cases s <;> rfl
theorem mD_map {W : Int} {fs : List Fl} : (fs.map flD).map (mD W) = (fs.map (mirF W)).map flD := by
  rw [List.map_map, List.map_map]
  apply List.map_congr_left
  intro f _
  exact mD_fl
def φ_law_mirrored : Spec := fun ds Q _ => ∃ fs W, ds = [flsD fs, .int W] ∧ fs.length ≤ 1000 ∧ Q (flsD (fs.map (mirF W)))
abbrev N_law_mirrored : List Str := ["floats", "width", "others", "one"]
def r_law_mirrored (Ξ : Xi) : PTS :=
  (ysSeq (ysAsg (yDic2 ("left" : Str) ("right" : Str) ("right" : Str) ("left" : Str)) 2)
  (ysRet (yNew (ynLc (yiSeq (yVar 0)) (gN 3) yYes (yTup (ylCons (yIxD (yVar 2) (yIx (yVar 3) (yC (.int 0)))) (ylCons (yBin oSub (yVar 1) (yIx (yVar 3) (yC (.int 2)))) (ylCons (yBin oSub (yVar 1) (yIx (yVar 3) (yC (.int 1)))) (ylCons (yIx (yVar 3) (yC (.int 3))) (ylCons (yIx (yVar 3) (yC (.int 4))) ylNil)))))) [3]))))
theorem vc_law_mirrored (ds : List D) (Q' : D → Prop) (E' : Nat → Prop) (h : φ_law_mirrored ds Q' E') : r_law_mirrored (fun c _ => E' c) { nx := fun _ => Q' .non, rt := fun d _ => Q' d } (startE N_law_mirrored ds) := by
  obtain ⟨fs, W, rfl, hl, h⟩ := h
  delta r_law_mirrored
  rw [s_left, s_right]
  refine ⟨⟨trivial, trivial⟩, by rw [List.length_map]; omega, lc_map (mD W) (fun i d hd K N hk => ?_) ?_⟩
  · obtain ⟨f, _, rfl⟩ := fl_get hd
    rw [mD_fl] at hk
    obtain ⟨s, b, e, t, d⟩ := f
    cases s <;> exact ⟨rfl, hk⟩
  · rw [mD_map]
    exact h
def cD (k : Int) : D → D
  | .tup [.str x, .int b, .int e, .int t, .int d] => .tup [.str x, .int (b * k), .int (e * k), .int (t * k), .int (d * k)]
  | _ => .non
theorem cD_map {k : Int} {fs : List Fl} : (fs.map flD).map (cD k) = (fs.map (sclF k)).map flD := by
  rw [List.map_map, List.map_map]
  rfl
def big : Int := 1000000000000
structure SmF (f : Fl) : Prop where
  b1 : -1000000000000 ≤ f.b
  b2 : f.b ≤ 1000000000000
  e1 : -1000000000000 ≤ f.e
  e2 : f.e ≤ 1000000000000
  t1 : -1000000000000 ≤ f.t
  t2 : f.t ≤ 1000000000000
  d1 : -1000000000000 ≤ f.d
  d2 : f.d ≤ 1000000000000
def φ_law_scaled : Spec := fun ds Q _ => ∃ fs k, ds = [flsD fs, .int k] ∧ fs.length ≤ 1000 ∧ (∀ f ∈ fs, SmF f) ∧ Q (flsD (fs.map (sclF k)))
abbrev N_law_scaled : List Str := ["floats", "by", "one"]
def r_law_scaled (Ξ : Xi) : PTS :=
  (ysRet (yNew (ynLc (yiSeq (yVar 0)) (gN 2) yYes (yTup (ylCons (yIx (yVar 2) (yC (.int 0))) (ylCons (yBin oMulA (yIx (yVar 2) (yC (.int 1))) (yVar 1)) (ylCons (yBin oMulA (yIx (yVar 2) (yC (.int 2))) (yVar 1)) (ylCons (yBin oMulA (yIx (yVar 2) (yC (.int 3))) (yVar 1)) (ylCons (yBin oMulA (yIx (yVar 2) (yC (.int 4))) (yVar 1)) ylNil)))))) [2])))
theorem vc_law_scaled (ds : List D) (Q' : D → Prop) (E' : Nat → Prop) (h : φ_law_scaled ds Q' E') : r_law_scaled (fun c _ => E' c) { nx := fun _ => Q' .non, rt := fun d _ => Q' d } (startE N_law_scaled ds) := by
  obtain ⟨fs, k, rfl, hl, sm, h⟩ := h
  refine ⟨⟨trivial, trivial⟩, by rw [List.length_map]; omega, lc_map (cD k) (fun i d hd K N hk => ?_) ?_⟩
  · obtain ⟨f, hf, rfl⟩ := fl_get hd
    have z := sm f hf
    obtain ⟨b1, b2, e1, e2, t1, t2, d1, d2⟩ := z
    refine gd_of (.inl ⟨by omega, by omega⟩) ?_
    refine gd_of (.inl ⟨by omega, by omega⟩) ?_
    refine gd_of (.inl ⟨by omega, by omega⟩) ?_
    refine gd_of (.inl ⟨by omega, by omega⟩) ?_
    exact ⟨rfl, hk⟩
  · rw [cD_map]
    exact h
/-! ### asked rightly -/
theorem sdS_inj {a b : Bool} (h : sdS a = sdS b) : a = b := by
  have h1 := sd_dec a
  rw [h, sd_dec] at h1
  exact h1.symm
theorem flD_inj {f g : Fl} (h : flD f = flD g) : f = g := by
  obtain ⟨s, b, e, t, d⟩ := f
  obtain ⟨s', b', e', t', d'⟩ := g
  simp only [flD, D.tup.injEq, List.cons.injEq, D.str.injEq, D.int.injEq, and_true] at h
  obtain ⟨h0, rfl, rfl, rfl, rfl⟩ := h
  rw [sdS_inj h0]
theorem fls_inj : ∀ {fs gs : List Fl}, fs.map flD = gs.map flD → fs = gs
  | [], [], _ => rfl
  | [], _ :: _, h => by cases h
  | _ :: _, [], h => by cases h
  | f :: fs, g :: gs, h => by
    rw [List.map_cons, List.map_cons, List.cons.injEq] at h
    rw [flD_inj h.1, fls_inj h.2]
theorem regF_fl (f : Fl) : regF (flD f) = true := by
  obtain ⟨s, b, e, t, d⟩ := f
  rfl
theorem regFs_fls {fs : List Fl} (hl : fs.length ≤ 1000) : regFs (flsD fs) = true := by
  show (decide ((fs.map flD).length ≤ 1000) && (fs.map flD).all regF) = true
  rw [List.length_map, decide_eq_true hl, Bool.true_and, List.all_eq_true]
  intro d hd
  obtain ⟨f, _, rfl⟩ := List.mem_map.mp hd
  exact regF_fl f
theorem rm_ok {fs : List Fl} {W r : Int} (ok : Okf fs) (w0 : 0 ≤ W) : rmB [flsD fs, .int W, .int r] = true := by
  show ((floatsOf (flsD fs)).isSome && (decide (0 ≤ W) && true)) = true
  rw [floats_of ok, decide_eq_true w0]
  rfl
theorem side_ok (s : Bool) : isSideB (.str (sdS s)) = true := by
  cases s <;> decide
theorem at_ok {fs : List Fl} {W c w : Int} {s : Bool} (ok : Okf fs) (w0 : 0 ≤ W) (v0 : 0 ≤ w) : atB [flsD fs, .int W, .int c, .int w, .str (sdS s)] = true := by
  show (rmB [flsD fs, .int W, .int c] && (decide (0 ≤ w) && isSideB (.str (sdS s)))) = true
  rw [rm_ok ok w0, decide_eq_true v0, side_ok]
  rfl
theorem at_told {fs : List Fl} {W c w r : Int} {s : Bool} (ok : Okf fs) (hl : fs.length ≤ 1000) (w0 : 0 ≤ W) (v0 : 0 ≤ w) (fr : FirstRow (fits fs 0 W w) (startOf fs c) r) {Q : D → Prop} {E : Nat → Prop}
    (h : Q (toldD (pairI (xAt fs 0 W w r s, r)))) : φ_law_told [.str sAt, flsD fs, .int W, .int c, .int w, .str (sdS s)] Q E := by
  refine .inl ⟨rfl, ?_, fun e => ?_, fun _ fs' W' c' w' s' r' hin fr' => ?_⟩
  · show (regR [flsD fs, .int W, .int c] && true) = true
    show ((regFs (flsD fs) && true) && true) = true
    rw [regFs_fls hl]
    rfl
  · rw [at_ok ok w0 v0] at e
    cases e
  · have e := hin.e
    simp only [List.cons.injEq, and_true, D.int.injEq, D.str.injEq, flsD, D.lst.injEq] at e
    obtain ⟨e1, rfl, rfl, rfl, e5⟩ := e
    obtain rfl := fls_inj e1
    obtain rfl := sdS_inj e5
    rw [fr'.uniq fr]
    exact h
theorem rm_told {fs : List Fl} {W r : Int} {x y : D} (ok : Okf fs) (hl : fs.length ≤ 1000) (w0 : 0 ≤ W) {Q : D → Prop} {E : Nat → Prop}
    (h : Q (toldD (pairI (btw fs 0 W r)))) : φ_law_told [.str sRm, flsD fs, .int W, .int r, x, y] Q E := by
  refine .inr ⟨rfl, ?_, fun e => ?_, fun _ fs' W' r' hin => ?_⟩
  · show (regFs (flsD fs) && true) = true
    rw [regFs_fls hl]
    rfl
  · rw [rm_ok ok w0] at e
    cases e
  · have e := hin.e
    simp only [List.cons.injEq, and_true, D.int.injEq, flsD, D.lst.injEq] at e
    obtain ⟨e1, rfl, rfl⟩ := e
    obtain rfl := fls_inj e1
    exact h
mutual
theorem same_refl : ∀ {n : Nat} {d : D}, plainD n d = true → sameB n d d = true
  | 0, d, h => by unfold plainD at h; cases h
  | n + 1, .non, _ => by unfold sameB; rfl
  | n + 1, .bl _, _ => by unfold sameB; exact decide_eq_true rfl
  | n + 1, .int _, _ => by unfold sameB; exact decide_eq_true rfl
  | n + 1, .str _, _ => by unfold sameB; exact decide_eq_true rfl
  | n + 1, .tup ds, h => by
    unfold plainD at h
    unfold sameB
    exact same_refls (Bool.and_eq_true_iff.mp h).2
  | n + 1, .lst ds, h => by
    unfold plainD at h
    unfold sameB
    exact same_refls (Bool.and_eq_true_iff.mp h).2
  | n + 1, .dic _, h => by unfold plainD at h; cases h
  | n + 1, .frl _, h => by unfold plainD at h; cases h
  | n + 1, .vl _, h => by unfold plainD at h; cases h
  | n + 1, .pool, h => by unfold plainD at h; cases h
theorem same_refls : ∀ {n : Nat} {ds : List D}, plainDs n ds = true → sameBs n ds ds = true
  | n, [], _ => by unfold sameBs; rfl
  | n, d :: ds, h => by
    unfold plainDs at h
    obtain ⟨h1, h2⟩ := Bool.and_eq_true_iff.mp h
    unfold sameBs
    rw [same_refl h1, same_refls h2]
    rfl
end

end PL.K49

set_option Elab.async false
set_option linter.all false
set_option autoImplicit false
set_option maxRecDepth 100000
set_option maxHeartbeats 1000000
namespace PL.K49
open PySem PySem.Spec PyProof.Rows L2
local macro_rules | `(tactic| walk_at "y") => `(tactic| conv => whnf)
mutual
theorem any_plain : ∀ {n : Nat} {d : D}, plainD n d = true → anyD n d = true
  | 0, d, h => by unfold plainD at h; cases h
  | n + 1, .non, _ => by unfold anyD; rfl
  | n + 1, .bl _, _ => by unfold anyD; rfl
  | n + 1, .int _, _ => by unfold anyD; rfl
  | n + 1, .str _, _ => by unfold anyD; rfl
  | n + 1, .tup ds, h => by
    unfold plainD at h
    unfold anyD
    obtain ⟨h1, h2⟩ := Bool.and_eq_true_iff.mp h
    rw [h1, any_plains h2]
    rfl
  | n + 1, .lst ds, h => by
    unfold plainD at h
    unfold anyD
    obtain ⟨h1, h2⟩ := Bool.and_eq_true_iff.mp h
    rw [h1, any_plains h2]
    rfl
  | n + 1, .dic _, h => by unfold plainD at h; cases h
  | n + 1, .frl _, h => by unfold plainD at h; cases h
  | n + 1, .vl _, h => by unfold plainD at h; cases h
  | n + 1, .pool, h => by unfold plainD at h; cases h
theorem any_plains : ∀ {n : Nat} {ds : List D}, plainDs n ds = true → anyDs n ds = true
  | n, [], _ => by unfold anyDs; rfl
  | n, d :: ds, h => by
    unfold plainDs at h
    obtain ⟨h1, h2⟩ := Bool.and_eq_true_iff.mp h
    unfold anyDs
    rw [any_plain h1, any_plains h2]
    rfl
end
def φ_law_same : Spec := sameN 4
theorem same_ok {d : D} (hp : plainD 4 d = true) {Q : D → Prop} {E : Nat → Prop} (h : Q (.bl true)) : φ_law_same [d, d] Q E := by
  refine ⟨d, d, rfl, any_plain hp, hp, ?_⟩
  rw [same_refl hp]
  exact h
theorem plain_told {p : Int × Int} : plainD 4 (toldD (pairI p)) = true := by
  unfold toldD pairI plainD plainDs plainD plainDs plainD
  rfl
theorem plain_fl {f : Fl} : plainD 3 (flD f) = true := by
  obtain ⟨s, b, e, t, d⟩ := f
  unfold flD plainD plainDs plainDs plainDs plainDs plainDs plainDs plainD
  rfl
theorem plain_fls {fs : List Fl} (hl : fs.length ≤ 1000) : plainD 4 (flsD fs) = true := by
  have key : ∀ fs : List Fl, plainDs 3 (fs.map flD) = true := by
    intro fs
    induction fs with
    | nil => unfold plainDs; rfl
    | cons f fs ih =>
      rw [List.map_cons]
      unfold plainDs
      rw [plain_fl, ih]
      rfl
  unfold flsD plainD
  rw [List.length_map, key, decide_eq_true (by omega)]
  rfl
/-- not far off, all of it -/
structure NearAll (fs : List Fl) (W c w : Int) : Prop where
  ok : Okf fs
  l : fs.length ≤ 1000
  sm : ∀ f ∈ fs, SmF f
  w0 : 0 ≤ W
  w1 : W ≤ 1000000
  c0 : -1000000000 ≤ c
  c1 : c ≤ 1000000000
  v0 : 0 ≤ w
  v1 : w ≤ 1000000
theorem NearAll.near {fs : List Fl} {W c w : Int} (h : NearAll fs W c w) : Near fs c :=
  ⟨by have := h.c0; omega, by have := h.c1; omega, fun f hf => ⟨(h.sm f hf).t1, (h.sm f hf).t2, (h.sm f hf).d2⟩⟩
theorem first_near {fs : List Fl} {W c w r : Int} (h : NearAll fs W c w) (fr : FirstRow (fits fs 0 W w) (startOf fs c) r) : -1000000000000 ≤ r ∧ r ≤ 1000000000000 := by
  obtain ⟨s1, s2⟩ := start_near h.near
  refine ⟨Int.le_trans s1 fr.1, ?_⟩
  by_cases c1 : r ≤ 1000000000000
  · exact c1
  · have e : btw fs 0 W 1000000000000 = (0, W) := btw_free fun f hf => by
      unfold beside
      rw [decide_eq_false (show ¬ (1000000000000 : Int) < f.d by have := (h.sm f hf).d2; omega), Bool.and_false]
    have := fr.2.2 1000000000000 s2 (by omega)
    unfold fits at this
    rw [e] at this
    simp at this
theorem btw_near {fs : List Fl} {W row : Int} (sm : ∀ f ∈ fs, SmF f) (w0 : 0 ≤ W) (w1 : W ≤ 1000000) : -1000000000000 ≤ (btw fs 0 W row).1 ∧ (btw fs 0 W row).1 ≤ 1000000000000 ∧ -1000000000000 ≤ (btw fs 0 W row).2 ∧ (btw fs 0 W row).2 ≤ 1000000000000 := by
  have h1 := (btw_left fs 0 W row).1
  have h2 := (btw_right fs 0 W row).1
  have a : ∀ y ∈ leftsOf fs row, -1000000000000 ≤ y ∧ y ≤ 1000000000000 := fun y hy => by
    obtain ⟨f, hf, rfl⟩ := List.mem_map.mp hy
    have := sm f (List.mem_filter.mp hf).1
    exact ⟨this.e1, this.e2⟩
  have b : ∀ y ∈ rightsOf fs row, -1000000000000 ≤ y ∧ y ≤ 1000000000000 := fun y hy => by
    obtain ⟨f, hf, rfl⟩ := List.mem_map.mp hy
    have := sm f (List.mem_filter.mp hf).1
    exact ⟨this.b1, this.b2⟩
  have c : -1000000000000 ≤ (btw fs 0 W row).1 ∧ (btw fs 0 W row).1 ≤ 1000000000000 := by
    rcases List.mem_cons.mp h1 with h1 | h1
    · rw [h1]; decide
    · exact a _ h1
  have d : -1000000000000 ≤ (btw fs 0 W row).2 ∧ (btw fs 0 W row).2 ≤ 1000000000000 := by
    rcases List.mem_cons.mp h2 with h2 | h2
    · rw [h2]; omega
    · exact b _ h2
  exact ⟨c.1, c.2, d.1, d.2⟩
theorem x_near {fs : List Fl} {W w r : Int} {s : Bool} (sm : ∀ f ∈ fs, SmF f) (w0 : 0 ≤ W) (w1 : W ≤ 1000000) (v0 : 0 ≤ w) (v1 : w ≤ 1000000) : -2000000000000 ≤ xAt fs 0 W w r s ∧ xAt fs 0 W w r s ≤ 2000000000000 := by
  obtain ⟨a, b, c, d⟩ := btw_near (row := r) sm w0 w1
  unfold xAt
  cases s with
  | true => show _ ≤ (btw fs 0 W r).1 ∧ (btw fs 0 W r).1 ≤ _; omega
  | false => show _ ≤ (btw fs 0 W r).2 - w ∧ (btw fs 0 W r).2 - w ≤ _; omega

end PL.K49

set_option Elab.async false
set_option linter.all false
set_option autoImplicit false
set_option maxRecDepth 100000
set_option maxHeartbeats 1000000
namespace PL.K49
open PySem PySem.Spec PyProof.Rows L2
local macro_rules | `(tactic| walk_at "y") => `(tactic| conv => whnf)
theorem ex_first {fs : List Fl} {lo hi w c : Int} (ok : Okf fs) : ∃ r, FirstRow (fits fs lo hi w) (startOf fs c) r := by
  let ns := ((fs.filter fun f => decide (startOf fs c < f.d)).map (·.d)).mergeSort (fun a b => decide (a ≤ b))
  refine ⟨_, first_prog (ns := ns) ok (List.mergeSort_perm _ _) ?_⟩
  have h := List.pairwise_mergeSort (le := fun a b : Int => decide (a ≤ b)) (fun a b c h1 h2 => by simp at *; omega) (fun a b => by simp; omega) ((fs.filter fun f => decide (startOf fs c < f.d)).map (·.d))
  exact h.imp fun h => of_decide_eq_true h
theorem at_eq {fs fs' : List Fl} {W c w W' c' w' : Int} {s s' : Bool} (h : AtIn [flsD fs, .int W, .int c, .int w, .str (sdS s)] fs' W' c' w' s') : fs = fs' ∧ W = W' ∧ c = c' ∧ w = w' ∧ s = s' := by
  have e := h.e
  simp only [List.cons.injEq, and_true, D.int.injEq, D.str.injEq, flsD, D.lst.injEq] at e
  obtain ⟨e1, rfl, rfl, rfl, e5⟩ := e
  exact ⟨fls_inj e1, rfl, rfl, rfl, sdS_inj e5⟩
theorem rm_eq {fs fs' : List Fl} {W r W' r' : Int} (h : RmIn [flsD fs, .int W, .int r] fs' W' r') : fs = fs' ∧ W = W' ∧ r = r' := by
  have e := h.e
  simp only [List.cons.injEq, and_true, D.int.injEq, flsD, D.lst.injEq] at e
  obtain ⟨e1, rfl, rfl⟩ := e
  exact ⟨fls_inj e1, rfl, rfl⟩
theorem reg_at {fs : List Fl} {W c w : Int} {s : Bool} (hl : fs.length ≤ 1000) : regA [flsD fs, .int W, .int c, .int w, .str (sdS s)] = true := by
  show ((regFs (flsD fs) && true) && true) = true
  rw [regFs_fls hl]
  rfl
theorem reg_rm {fs : List Fl} {W c : Int} (hl : fs.length ≤ 1000) : regR [flsD fs, .int W, .int c] = true := by
  show (regFs (flsD fs) && true) = true
  rw [regFs_fls hl]
  rfl
theorem no_at {fs : List Fl} {W c w : Int} {s : Bool} (ok : Okf fs) (w0 : 0 ≤ W) (v0 : 0 ≤ w) (e : atB [flsD fs, .int W, .int c, .int w, .str (sdS s)] = false) : False := by
  rw [at_ok ok w0 v0] at e
  cases e
theorem no_rm {fs : List Fl} {W r : Int} (ok : Okf fs) (w0 : 0 ≤ W) (e : rmB [flsD fs, .int W, .int r] = false) : False := by
  rw [rm_ok ok w0] at e
  cases e
def φ_law_is_right : Spec := fun ds Q _ => ∃ fs W c w s, ds = [.pool, flsD fs, .int W, .int c, .int w, .str (sdS s)] ∧ NearAll fs W c w ∧ Q (.bl true)
theorem by_of {r : Int} (h0 : 0 ≤ r) (h1 : r < 5) : ∃ k : Int, 0 < k ∧ atI [D.int 1, .int 2, .int 7, .int (10 ^ Int.toNat 6), .int (10 ^ Int.toNat 20)] r = some (.int k) := by
  have : r = 0 ∨ r = 1 ∨ r = 2 ∨ r = 3 ∨ r = 4 := by omega
  rcases this with rfl | rfl | rfl | rfl | rfl
  · exact ⟨1, by decide, rfl⟩
  · exact ⟨2, by decide, rfl⟩
  · exact ⟨7, by decide, rfl⟩
  · exact ⟨10 ^ Int.toNat 6, by decide, rfl⟩
  · exact ⟨10 ^ Int.toNat 20, by decide, rfl⟩
theorem not_sd (s : Bool) : dGet [(.inr sL, D.str sR), (.inr sR, D.str sL)] (sdS s) = some (.str (sdS (!s))) := by
  cases s <;> rfl
abbrev N_law_is_right : List Str := ["pool", "floats", "width", "ceiling", "w", "side", "x", "row", "by", "handed", "other", "great", "turn", "place", "left", "right"]
def r_law_is_right (Ξ : Xi) : PTS :=
  (ysSeq (ysAsgG (yCall φ_law_place Ξ (ylCons (yVar 1) (ylCons (yVar 2) (ylCons (yVar 3) (ylCons (yVar 4) (ylCons (yVar 5) ylNil)))))) (gTupY 2 [(gN 6), (gN 7)]))
  (ysSeq (ysPar 8 9 (yxE (yIx (yNew (ynLst (ylCons (yC (.int 1)) (ylCons (yC (.int 2)) (ylCons (yC (.int 7)) (ylCons (yBin oPow (yC (.int 10)) (yC (.int 6))) (ylCons (yBin oPow (yC (.int 10)) (yC (.int 20))) ylNil))))))) (yCall φ_law_pick Ξ (ylCons (yVar 0) (ylCons (yC (.int 5)) ylNil))))) (yxE (yNew (ynCB oListOf (ylCons (yVar 1) ylNil)))))
  (ysSeq (ysIf (yNot (yTru (yCall φ_law_same Ξ (ylCons (yCall φ_law_told Ξ (ylCons (yC (.str ("at" : Str))) (ylCons (yVar 9) (ylCons (yVar 2) (ylCons (yVar 3) (ylCons (yVar 4) (ylCons (yVar 5) ylNil))))))) (ylCons (yTup (ylCons (yC (.str ("told" : Str))) (ylCons (yTup (ylCons (yVar 6) (ylCons (yVar 7) ylNil))) ylNil))) ylNil)))))
  (ysRet (yC (.bl false)))
  ysNext)
  (ysSeq (ysAsg (yIxD (yDic2 ("left" : Str) ("right" : Str) ("right" : Str) ("left" : Str)) (yVar 5)) 10)
  (ysSeq (ysIf (yNot (yTru (yCall φ_law_same Ξ (ylCons (yCall φ_law_told Ξ (ylCons (yC (.str ("at" : Str))) (ylCons (yCall φ_law_mirrored Ξ (ylCons (yVar 1) (ylCons (yVar 2) ylNil))) (ylCons (yVar 2) (ylCons (yVar 3) (ylCons (yVar 4) (ylCons (yVar 10) ylNil))))))) (ylCons (yTup (ylCons (yC (.str ("told" : Str))) (ylCons (yTup (ylCons (yBin oSub (yBin oSub (yVar 2) (yVar 6)) (yVar 4)) (ylCons (yVar 7) ylNil))) ylNil))) ylNil)))))
  (ysRet (yC (.bl false)))
  ysNext)
  (ysSeq (ysAsg (yCall φ_law_told Ξ (ylCons (yC (.str ("at" : Str))) (ylCons (yCall φ_law_scaled Ξ (ylCons (yVar 1) (ylCons (yVar 8) ylNil))) (ylCons (yBin oMulA (yVar 2) (yVar 8)) (ylCons (yBin oMulA (yVar 3) (yVar 8)) (ylCons (yBin oMulA (yVar 4) (yVar 8)) (ylCons (yVar 5) ylNil))))))) 11)
  (ysSeq (ysIf (yOr (yNot (yTru (yCall φ_law_same Ξ (ylCons (yVar 11) (ylCons (yTup (ylCons (yC (.str ("told" : Str))) (ylCons (yTup (ylCons (yBin oMulA (yVar 6) (yVar 8)) (ylCons (yBin oMulA (yVar 7) (yVar 8)) ylNil))) ylNil))) ylNil))))) (yNot (yTru (yCall φ_law_same Ξ (ylCons (yVar 9) (ylCons (yVar 1) ylNil))))))
  (ysRet (yC (.bl false)))
  ysNext)
  (ysSeq (ysFor (yiRg1 (ylCons (yC (.int 3)) ylNil)) (gN 12)
  (ysSeq (ysAsg (yBin oSub (yBin oAdd (yVar 7) (yCall φ_law_pick Ξ (ylCons (yVar 0) (ylCons (yC (.int 13)) ylNil)))) (yC (.int 6))) 13)
  (ysSeq (ysAsgG (yCall φ_law_between Ξ (ylCons (yVar 1) (ylCons (yVar 2) (ylCons (yVar 13) ylNil)))) (gTupY 2 [(gN 14), (gN 15)]))
  (ysSeq (ysIf (yNot (yTru (yCall φ_law_same Ξ (ylCons (yCall φ_law_told Ξ (ylCons (yC (.str ("room" : Str))) (ylCons (yVar 9) (ylCons (yVar 2) (ylCons (yVar 13) (ylCons (yC (.int 0)) (ylCons (yC (.str ("" : Str))) ylNil))))))) (ylCons (yTup (ylCons (yC (.str ("told" : Str))) (ylCons (yTup (ylCons (yVar 14) (ylCons (yVar 15) ylNil))) ylNil))) ylNil)))))
  (ysRet (yC (.bl false)))
  ysNext)
  (ysIf (yNot (yTru (yCall φ_law_same Ξ (ylCons (yCall φ_law_told Ξ (ylCons (yC (.str ("room" : Str))) (ylCons (yCall φ_law_scaled Ξ (ylCons (yVar 1) (ylCons (yVar 8) ylNil))) (ylCons (yBin oMulA (yVar 2) (yVar 8)) (ylCons (yBin oMulA (yVar 13) (yVar 8)) (ylCons (yC (.int 0)) (ylCons (yC (.str ("" : Str))) ylNil))))))) (ylCons (yTup (ylCons (yC (.str ("told" : Str))) (ylCons (yTup (ylCons (yBin oMulA (yVar 14) (yVar 8)) (ylCons (yBin oMulA (yVar 15) (yVar 8)) ylNil))) ylNil))) ylNil)))))
  (ysRet (yC (.bl false)))
  ysNext)))))
  (ysRet (yCall φ_law_same Ξ (ylCons (yVar 9) (ylCons (yVar 1) ylNil))))))))))))
theorem vc_law_is_right (ds : List D) (Q' : D → Prop) (E' : Nat → Prop) (h : φ_law_is_right ds Q' E') : r_law_is_right (fun c _ => E' c) { nx := fun _ => Q' .non, rt := fun d _ => Q' d } (startE N_law_is_right ds) := by
  obtain ⟨fs, W, c, w, s, rfl, na, h⟩ := h
  delta r_law_is_right
  rw [s_left, s_right, s_at, s_room]
  obtain ⟨r, fr⟩ := ex_first (lo := 0) (hi := W) (w := w) (c := c) na.ok
  obtain ⟨rn1, rn2⟩ := first_near na fr
  obtain ⟨xn1, xn2⟩ := x_near (r := r) (s := s) na.sm na.w0 na.w1 na.v0 na.v1
  have nl := na.l
  have plf := plain_fls nl
  let I (i : Int) : Option S := some (.v (.int i))
  let e (x y k h o g : Option S) (t p a b : Option S) : PEnv := [some (.v .pool), some (.v (flsD fs)), I W, I c, I w, some (.v (.str (sdS s))), x, y, k, h, o, g, t, p, a, b]
  let X := xAt fs 0 W w r s
  refine seq_step (e (I X) (I r) none none none none none none none none) (fun K kk => ⟨fs, W, c, w, s, rfl, na.ok, nl, na.near, fun r' fr' => ?_⟩) ?_
  · rw [fr'.uniq fr]
    exact kk
  refine seq_post (fun ε => ∃ k : Int, 0 < k ∧ ε = e (I X) (I r) (I k) (some (.v (flsD fs))) none none none none none none) (fun K kk => ?_) ?_
  · intro q q0 q1
    obtain ⟨k, hk, ek⟩ := by_of q0 q1
    exact opt_of ek (kk _ ⟨k, hk, rfl⟩)
  rintro _ ⟨k, hk, rfl⟩
  refine seq_step (e (I X) (I r) (I k) (some (.v (flsD fs))) none none none none none none) (fun K kk => ?_) ?_
  · refine .inl ⟨rfl, reg_at nl, fun e => (no_at na.ok na.w0 na.v0 e).elim, fun _ fs' W' c' w' s' r' hin fr' => ?_⟩
    obtain ⟨rfl, rfl, rfl, rfl, rfl⟩ := at_eq hin
    rw [fr'.uniq fr]
    exact ⟨toldD (pairI (X, r)), toldD (pairI (X, r)), rfl, any_plain plain_told, plain_told, by rw [same_refl plain_told]; exact kk⟩
  refine seq_step (e (I X) (I r) (I k) (some (.v (flsD fs))) (some (.v (.str (sdS (!s))))) none none none none none) (fun K kk => opt_of (not_sd s) kk) ?_
  refine seq_step (e (I X) (I r) (I k) (some (.v (flsD fs))) (some (.v (.str (sdS (!s))))) none none none none none) (fun K kk => ?_) ?_
  · refine ⟨fs, W, rfl, nl, ?_⟩
    have frm : FirstRow (fits (fs.map (mirF W)) 0 W w) (startOf (fs.map (mirF W)) c) r := by rw [fits_mir, start_mir]; exact fr
    refine .inl ⟨rfl, reg_at (by rw [List.length_map]; exact nl), fun e => (no_at (ok_mir na.ok) na.w0 na.v0 e).elim, fun _ fs' W' c' w' s' r' hin fr' => ?_⟩
    obtain ⟨rfl, rfl, rfl, rfl, rfl⟩ := at_eq hin
    rw [fr'.uniq frm]
    rw [x_mir]
    exact ⟨toldD (pairI (W - X - w, r)), toldD (pairI (W - X - w, r)), rfl, any_plain plain_told, plain_told, by rw [same_refl plain_told]; exact kk⟩
  refine seq_step (e (I X) (I r) (I k) (some (.v (flsD fs))) (some (.v (.str (sdS (!s))))) (some (.v (toldD (pairI (X * k, r * k))))) none none none none) (fun K kk => ?_) ?_
  · refine ⟨fs, k, rfl, nl, na.sm, ?_⟩
    refine gd_of (.inl ⟨by have := na.w0; omega, by have := na.w1; omega⟩) ?_
    refine gd_of (.inl ⟨by have := na.c0; omega, by have := na.c1; omega⟩) ?_
    refine gd_of (.inl ⟨by have := na.v0; omega, by have := na.v1; omega⟩) ?_
    refine .inl ⟨rfl, reg_at (by rw [List.length_map]; exact nl), fun e => (no_at (ok_scl hk na.ok) (Int.mul_nonneg na.w0 (Int.le_of_lt hk)) (Int.mul_nonneg na.v0 (Int.le_of_lt hk)) e).elim, fun _ fs' W' c' w' s' r' hin fr' => ?_⟩
    obtain ⟨rfl, rfl, rfl, rfl, rfl⟩ := at_eq hin
    rw [fr'.uniq (first_scl hk fr)]
    rw [x_scl hk]
    exact kk
  refine seq_step (e (I X) (I r) (I k) (some (.v (flsD fs))) (some (.v (.str (sdS (!s))))) (some (.v (toldD (pairI (X * k, r * k))))) none none none none) (fun K kk => ?_) ?_
  · refine gd_of (.inl ⟨by show _ < xAt fs 0 W w r s; omega, by show xAt fs 0 W w r s < _; omega⟩) ?_
    refine gd_of (.inl ⟨by omega, by omega⟩) ?_
    refine ⟨toldD (pairI (X * k, r * k)), toldD (pairI (X * k, r * k)), rfl, any_plain plain_told, plain_told, ?_⟩
    rw [same_refl plain_told]
    refine ⟨flsD fs, flsD fs, rfl, any_plain plf, plf, ?_⟩
    rw [same_refl plf]
    exact kk
  refine seq_post (fun ε => ∃ t p a b, ε = e (I X) (I r) (I k) (some (.v (flsD fs))) (some (.v (.str (sdS (!s))))) (some (.v (toldD (pairI (X * k, r * k))))) t p a b) (fun K kk => ⟨fun i ε => ∃ t p a b, ε = e (I X) (I r) (I k) (some (.v (flsD fs))) (some (.v (.str (sdS (!s))))) (some (.v (toldD (pairI (X * k, r * k))))) t p a b, ⟨_, _, _, _, rfl⟩, fun i d ε hi hd w' => ?_, fun ε w' => kk ε w'⟩) ?_
  · obtain ⟨t, p, a, b, rfl⟩ := w'
    have hdd := (rangeD_get hd).2
    subst hdd
    generalize D.int (0 + (i : Int)) = tu
    refine seq_post (fun ε => ∃ q : Int, -2000000000000 ≤ q ∧ q ≤ 2000000000000 ∧ ε = e (I X) (I r) (I k) (some (.v (flsD fs))) (some (.v (.str (sdS (!s))))) (some (.v (toldD (pairI (X * k, r * k))))) (some (.v tu)) (I q) a b) (fun K kk => fun q q0 q1 => kk _ ⟨r + q - 6, by omega, by omega, rfl⟩) ?_
    rintro _ ⟨q, q0, q1, rfl⟩
    obtain ⟨l1, l2, l3, l4⟩ := btw_near (row := q) na.sm na.w0 na.w1
    refine seq_step (e (I X) (I r) (I k) (some (.v (flsD fs))) (some (.v (.str (sdS (!s))))) (some (.v (toldD (pairI (X * k, r * k))))) (some (.v tu)) (I q) (I (btw fs 0 W q).1) (I (btw fs 0 W q).2)) (fun K kk => ⟨fs, W, q, rfl, nl, kk⟩) ?_
    refine seq_step (e (I X) (I r) (I k) (some (.v (flsD fs))) (some (.v (.str (sdS (!s))))) (some (.v (toldD (pairI (X * k, r * k))))) (some (.v tu)) (I q) (I (btw fs 0 W q).1) (I (btw fs 0 W q).2)) (fun K kk => ?_) ?_
    · refine .inr ⟨rfl, reg_rm nl, fun e => (no_rm na.ok na.w0 e).elim, fun _ fs' W' r' hin => ?_⟩
      obtain ⟨rfl, rfl, rfl⟩ := rm_eq hin
      exact ⟨toldD (pairI (btw fs 0 W q)), toldD (pairI (btw fs 0 W q)), rfl, any_plain plain_told, plain_told, by rw [same_refl plain_told]; exact kk⟩
    refine ⟨fs, k, rfl, nl, na.sm, ?_⟩
    refine gd_of (.inl ⟨by have := na.w0; omega, by have := na.w1; omega⟩) ?_
    refine gd_of (.inl ⟨by omega, by omega⟩) ?_
    refine .inr ⟨rfl, reg_rm (by rw [List.length_map]; exact nl), fun e => (no_rm (ok_scl hk na.ok) (Int.mul_nonneg na.w0 (Int.le_of_lt hk)) e).elim, fun _ fs' W' r' hin => ?_⟩
    obtain ⟨rfl, rfl, rfl⟩ := rm_eq hin
    rw [btw_scl hk, Int.mul_ediv_cancel _ (by omega)]
    refine gd_of (.inl ⟨by omega, by omega⟩) ?_
    refine gd_of (.inl ⟨by omega, by omega⟩) ?_
    exact ⟨toldD (pairI ((btw fs 0 W q).1 * k, (btw fs 0 W q).2 * k)), toldD (pairI ((btw fs 0 W q).1 * k, (btw fs 0 W q).2 * k)), rfl, any_plain plain_told, plain_told, by rw [same_refl plain_told]; exact ⟨_, _, _, _, rfl⟩⟩
  rintro _ ⟨t, p, a, b, rfl⟩
  refine ⟨flsD fs, flsD fs, rfl, any_plain plf, plf, ?_⟩
  rw [same_refl plf]
  exact h

end PL.K49

set_option Elab.async false
set_option linter.all false
set_option autoImplicit false
set_option maxRecDepth 100000
set_option maxHeartbeats 1000000
namespace PL.K49
open PySem PySem.Spec PyProof.Rows L2
local macro_rules | `(tactic| walk_at "y") => `(tactic| conv => whnf)
/-! ### apart -/
def hitB (f g : Fl) : Bool := decide (mx f.b g.b < mn f.e g.e) && decide (mx f.t g.t < mn f.d g.d)
def Apart (fs : List Fl) : Prop := ∀ (i j : Nat) (f g : Fl), j < i → fs[i]? = some f → fs[j]? = some g → hitB g f = false
def φ_law_are_apart : Spec := fun ds Q _ => ∃ fs, ds = [flsD fs] ∧ fs.length ≤ 1000 ∧ Apart fs ∧ Q (.bl true)
abbrev N_law_are_apart : List Str := ["floats", "k", "j", "one", "other"]
def r_law_are_apart (Ξ : Xi) : PTS :=
  (ysSeq (ysFor (yiRg1 (ylCons (yCB oLen (ylCons (yVar 0) ylNil)) ylNil)) (gN 1)
  (ysFor (yiRg1 (ylCons (yVar 1) ylNil)) (gN 2)
  (ysSeq (ysPar 3 4 (yxE (yIx (yVar 0) (yVar 2))) (yxE (yIx (yVar 0) (yVar 1))))
  (ysIf (yAnd (yBinT oLt (yCB oMax2 (ylCons (yIx (yVar 3) (yC (.int 1))) (ylCons (yIx (yVar 4) (yC (.int 1))) ylNil))) (yCB oMin2 (ylCons (yIx (yVar 3) (yC (.int 2))) (ylCons (yIx (yVar 4) (yC (.int 2))) ylNil)))) (yBinT oLt (yCB oMax2 (ylCons (yIx (yVar 3) (yC (.int 3))) (ylCons (yIx (yVar 4) (yC (.int 3))) ylNil))) (yCB oMin2 (ylCons (yIx (yVar 3) (yC (.int 4))) (ylCons (yIx (yVar 4) (yC (.int 4))) ylNil)))))
  (ysRet (yC (.bl false)))
  ysNext))))
  (ysRet (yC (.bl true))))
theorem vc_law_are_apart (ds : List D) (Q' : D → Prop) (E' : Nat → Prop) (h : φ_law_are_apart ds Q' E') : r_law_are_apart (fun c _ => E' c) { nx := fun _ => Q' .non, rt := fun d _ => Q' d } (startE N_law_are_apart ds) := by
  obtain ⟨fs, rfl, hl, ap, h⟩ := h
  let e (k j o t : Option S) : PEnv := [some (.v (flsD fs)), k, j, o, t]
  have hlen : (fs.map flD).length = fs.length := List.length_map _
  refine seq_post (fun ε => True) (fun K kk => ?_) fun ε _ => h
  refine gd_of (small_any (by rw [hlen]; omega) (by rw [hlen]; omega)) ?_
  refine ⟨fun i ε => ∃ k j o t, ε = e k j o t, ⟨_, _, _, _, rfl⟩, fun i d ε hi hd w => ?_, fun ε w => kk ε trivial⟩
  obtain ⟨k, j, o, t, rfl⟩ := w
  obtain ⟨hi2, rfl⟩ := rangeD_get hd
  replace hi2 : i < fs.length := by rw [hlen, Int.toNat_natCast] at hi2; exact hi2
  rw [z_add]
  refine gd_of (small_any (by omega) (by omega)) ?_
  refine ⟨fun i' ε => ∃ j o t, ε = e (some (.v (.int (i : Int)))) j o t, ⟨_, _, _, rfl⟩, fun i' d ε hi' hd w => ?_, fun ε w => ?_⟩
  · obtain ⟨j, o, t, rfl⟩ := w
    obtain ⟨hj, rfl⟩ := rangeD_get hd
    rw [Int.toNat_natCast] at hj
    rw [z_add]
    have g1 : (fs.map flD)[i]? = some (flD fs[i]) := by rw [List.getElem?_map, List.getElem?_eq_getElem hi2]; rfl
    have g2 : (fs.map flD)[i']? = some (flD fs[i']) := by rw [List.getElem?_map, List.getElem?_eq_getElem (show i' < fs.length by omega)]; rfl
    have hit := ap i i' fs[i] fs[i'] hj (List.getElem?_eq_getElem hi2) (List.getElem?_eq_getElem (show i' < fs.length by omega))
    generalize fs[i] = f at g1 hit
    generalize fs[i'] = g at g2 hit
    refine seq_step (e (some (.v (.int (i : Int)))) (some (.v (.int (i' : Int)))) (some (.v (flD g))) (some (.v (flD f)))) (fun K kk => opt_of (atI_nat g2) (opt_of (atI_nat g1) kk)) ?_
    walk_at "y"
    show (match decide (mx g.b f.b < mn g.e f.e) with
      | true => _
      | false => _)
    cases q1 : decide (mx g.b f.b < mn g.e f.e) with
    | false => exact ⟨_, _, _, rfl⟩
    | true =>
      unfold hitB at hit
      rw [q1, Bool.true_and] at hit
      walk_at "y"
      show (match decide (mx g.t f.t < mn g.d f.d) with
        | true => _
        | false => _)
      rw [hit]
      exact ⟨_, _, _, rfl⟩
  · obtain ⟨j, o, t, rfl⟩ := w
    exact ⟨_, _, _, _, rfl⟩
/-- one more float, put where it goes, hits none of those ahead -/
theorem apart_snoc {fs : List Fl} {W w c r h : Int} {s : Bool} (ok : Okf fs) (hw : w ≤ W) (v0 : 0 ≤ w) (fr : FirstRow (fits fs 0 W w) (startOf fs c) r) (ap : Apart fs) :
    Apart (fs ++ [⟨s, xAt fs 0 W w r s, xAt fs 0 W w r s + w, r, r + h⟩]) := by
  intro i j f g hji hf hg
  by_cases hi : i < fs.length
  · rw [List.getElem?_append_left hi] at hf
    rw [List.getElem?_append_left (by omega)] at hg
    exact ap i j f g hji hf hg
  · have hi2 : i = fs.length := by
      have : i < (fs ++ [(⟨s, xAt fs 0 W w r s, xAt fs 0 W w r s + w, r, r + h⟩ : Fl)]).length := by
        obtain ⟨z, _⟩ := List.getElem?_eq_some_iff.mp hf
        exact z
      rw [List.length_append] at this
      have e : ([(⟨s, xAt fs 0 W w r s, xAt fs 0 W w r s + w, r, r + h⟩ : Fl)]).length = 1 := rfl
      omega
    subst hi2
    rw [List.getElem?_append_left hji] at hg
    rw [List.getElem?_append_right (Nat.le_refl _), Nat.sub_self] at hf
    obtain rfl := Option.some.inj hf
    have hgm : g ∈ fs := List.mem_of_getElem? hg
    have tg := (start_up (c := c) ok).2 g hgm
    have tr : g.t ≤ r := Int.le_trans tg fr.1
    unfold hitB
    by_cases hb : r < g.d
    · -- it stands beside
      have bs : beside g r = true := by unfold beside; rw [decide_eq_true tr, decide_eq_true hb]; rfl
      have room : w ≤ (btw fs 0 W r).2 - (btw fs 0 W r).1 := by
        have := fr.2.1
        unfold fits at this
        rcases Bool.or_eq_true_iff.mp this with z | z
        · exact of_decide_eq_true z
        · obtain ⟨z1, z2⟩ := Bool.and_eq_true_iff.mp z
          rw [of_decide_eq_true z1, of_decide_eq_true z2]
          omega
      have side : (g.s = true → g.e ≤ (btw fs 0 W r).1) ∧ (g.s = false → (btw fs 0 W r).2 ≤ g.b) := by
        refine ⟨fun z => (btw_left fs 0 W r).2 g.e (List.mem_cons_of_mem _ (List.mem_map_of_mem (List.mem_filter.mpr ⟨hgm, by rw [z, bs]; rfl⟩))), fun z => (btw_right fs 0 W r).2 g.b (List.mem_cons_of_mem _ (List.mem_map_of_mem (List.mem_filter.mpr ⟨hgm, by rw [z, bs]; rfl⟩)))⟩
      have nb : ¬ (mx g.b (xAt fs 0 W w r s) < mn g.e (xAt fs 0 W w r s + w)) := by
        have hx : (btw fs 0 W r).1 ≤ xAt fs 0 W w r s ∧ xAt fs 0 W w r s + w ≤ (btw fs 0 W r).2 := by
          unfold xAt
          cases s with
          | true => show (btw fs 0 W r).1 ≤ (btw fs 0 W r).1 ∧ (btw fs 0 W r).1 + w ≤ (btw fs 0 W r).2; omega
          | false => show (btw fs 0 W r).1 ≤ (btw fs 0 W r).2 - w ∧ (btw fs 0 W r).2 - w + w ≤ (btw fs 0 W r).2; omega
        unfold mx mn
        cases hs : g.s with
        | true =>
          have := side.1 hs
          split <;> split <;> omega
        | false =>
          have := side.2 hs
          split <;> split <;> omega
      show (decide (mx g.b (xAt fs 0 W w r s) < mn g.e (xAt fs 0 W w r s + w)) && _) = false
      rw [decide_eq_false nb]
      rfl
    · have nt : ¬ (mx g.t r < mn g.d (r + h)) := by
        unfold mx mn
        split <;> split <;> omega
      show (decide (mx g.b (xAt fs 0 W w r s) < mn g.e (xAt fs 0 W w r s + w)) && decide (mx g.t r < mn g.d (r + h))) = false
      rw [show decide (mx g.t r < mn g.d (r + h)) = false from decide_eq_false nt, Bool.and_false]

end PL.K49

set_option Elab.async false
set_option linter.all false
set_option autoImplicit false
set_option maxRecDepth 100000
set_option maxHeartbeats 1000000
namespace PL.K49
open PySem PySem.Spec PyProof.Rows L2
local macro_rules | `(tactic| walk_at "y") => `(tactic| conv => whnf)
theorem pick_ints {xs : List Int} {r : Int} {Q : D → Prop} (h0 : 0 ≤ r) (h1 : r < (xs.length : Int)) (k : ∀ v, v ∈ xs → Q (.int v)) : opt (atI (xs.map D.int) r) Q := by
  refine pick_of h0 (by rw [List.length_map]; exact h1) fun d hd => ?_
  obtain ⟨v, hv, rfl⟩ := List.mem_map.mp hd
  exact k v hv
theorem pick_side {r : Int} {Q : D → Prop} (h0 : 0 ≤ r) (h1 : r < 2) (k : ∀ s, Q (.str (sdS s))) : opt (atI [.str sL, .str sR] r) Q := by
  have : r = 0 ∨ r = 1 := by omega
  rcases this with rfl | rfl
  · exact opt_of (a := .str (sdS true)) rfl (k true)
  · exact opt_of (a := .str (sdS false)) rfl (k false)
theorem okf_snoc {fs : List Fl} {g : Fl} (ok : Okf fs) (h : ∀ f ∈ fs, f.t ≤ g.t) (h1 : g.b ≤ g.e) (h2 : g.t ≤ g.d) : Okf (fs ++ [g]) := by
  refine ⟨fun f hf => ?_, fun f hf => ?_, ?_⟩
  · rcases List.mem_append.mp hf with hf | hf
    · exact ok.be f hf
    · rw [List.mem_singleton.mp hf]; exact h1
  · rcases List.mem_append.mp hf with hf | hf
    · exact ok.td f hf
    · rw [List.mem_singleton.mp hf]; exact h2
  · rw [List.map_append, List.pairwise_append]
    refine ⟨ok.up, by simp, fun a ha b hb => ?_⟩
    obtain ⟨f, hf, rfl⟩ := List.mem_map.mp ha
    have : b = g.t := by simpa using hb
    rw [this]
    exact h f hf
theorem okf_nil : Okf [] := ⟨fun f hf => (by cases hf), fun f hf => (by cases hf), List.Pairwise.nil⟩
theorem fl_snoc {fs : List Fl} {g : Fl} : fs.map flD ++ [flD g] = (fs ++ [g]).map flD := by simp
/-- few floats, none far off -/
structure Few (fs : List Fl) : Prop where
  ok : Okf fs
  l : fs.length ≤ 100
  sm : ∀ f ∈ fs, -100000 ≤ f.b ∧ f.b ≤ 100000 ∧ f.e ≤ 100000 ∧ -100000 ≤ f.t ∧ f.t ≤ 100000 ∧ f.d ≤ 100000
theorem Few.all {fs : List Fl} {W c w : Int} (h : Few fs) (w0 : 0 ≤ W) (w1 : W ≤ 1000000) (c0 : -1000000000 ≤ c) (c1 : c ≤ 1000000000) (v0 : 0 ≤ w) (v1 : w ≤ 1000000) : NearAll fs W c w :=
  ⟨h.ok, by have := h.l; omega, fun f hf => by
    obtain ⟨a1, a2, a3, a4, a5, a6⟩ := h.sm f hf
    have b1 := h.ok.be f hf
    have b2 := h.ok.td f hf
    exact ⟨by omega, by omega, by omega, by omega, by omega, by omega, by omega, by omega⟩, w0, w1, c0, c1, v0, v1⟩
def φ_law_drawn : Spec := fun ds Q _ => ∃ W : Int, ds = [.pool, .int W] ∧ 0 ≤ W ∧ W ≤ 60 ∧ ∀ fs, Few fs → Q (flsD fs)
abbrev N_law_drawn : List Str := ["pool", "width", "floats", "top", "turn", "left", "right"]
def r_law_drawn (Ξ : Xi) : PTS :=
  (ysSeq (ysPar 2 3 (yxN (ynLst ylNil)) (yxE (yBin oSub (yCall φ_law_pick Ξ (ylCons (yVar 0) (ylCons (yC (.int 12)) ylNil))) (yC (.int 6)))))
  (ysSeq (ysFor (yiRg1 (ylCons (yCall φ_law_pick Ξ (ylCons (yVar 0) (ylCons (yC (.int 9)) ylNil))) ylNil)) (gN 4)
  (ysSeq (ysAsg (yBin oAdd (yVar 3) (yIx (yNew (ynLst (ylCons (yC (.int 0)) (ylCons (yC (.int 0)) (ylCons (yC (.int 1)) (ylCons (yC (.int 1)) (ylCons (yC (.int 2)) (ylCons (yC (.int 4)) ylNil)))))))) (yCall φ_law_pick Ξ (ylCons (yVar 0) (ylCons (yC (.int 6)) ylNil))))) 3)
  (ysSeq (ysAsg (yBin oSub (yCall φ_law_pick Ξ (ylCons (yVar 0) (ylCons (yBin oAdd (yVar 1) (yC (.int 9))) ylNil))) (yC (.int 4))) 5)
  (ysSeq (ysAsg (yBin oAdd (yVar 5) (yIx (yNew (ynLst (ylCons (yC (.int 0)) (ylCons (yC (.int 1)) (ylCons (yC (.int 2)) (ylCons (yC (.int 4)) (ylCons (yC (.int 9)) ylNil))))))) (yCall φ_law_pick Ξ (ylCons (yVar 0) (ylCons (yC (.int 5)) ylNil))))) 6)
  (ysApp 2 (yTup (ylCons (yIx (yNew (ynLst (ylCons (yC (.str ("left" : Str))) (ylCons (yC (.str ("right" : Str))) ylNil)))) (yCall φ_law_pick Ξ (ylCons (yVar 0) (ylCons (yC (.int 2)) ylNil)))) (ylCons (yVar 5) (ylCons (yVar 6) (ylCons (yVar 3) (ylCons (yBin oAdd (yVar 3) (yIx (yNew (ynLst (ylCons (yC (.int 0)) (ylCons (yC (.int 1)) (ylCons (yC (.int 2)) (ylCons (yC (.int 3)) (ylCons (yC (.int 7)) ylNil))))))) (yCall φ_law_pick Ξ (ylCons (yVar 0) (ylCons (yC (.int 5)) ylNil))))) ylNil)))))))))))
  (ysRet (yVar 2))))
theorem vc_law_drawn (ds : List D) (Q' : D → Prop) (E' : Nat → Prop) (h : φ_law_drawn ds Q' E') : r_law_drawn (fun c _ => E' c) { nx := fun _ => Q' .non, rt := fun d _ => Q' d } (startE N_law_drawn ds) := by
  obtain ⟨W, rfl, w0, w1, h⟩ := h
  delta r_law_drawn
  rw [s_left, s_right]
  let e (fs : List Fl) (top tu l r : Option S) : PEnv := [some (.v .pool), some (.v (.int W)), some (.o (fs.map flD)), top, tu, l, r]
  let I (i : Int) : Option S := some (.v (.int i))
  refine seq_post (fun ε => ∃ top : Int, -6 ≤ top ∧ top ≤ 6 ∧ ε = e [] (I top) none none none) (fun K kk => fun r r0 r1 => kk _ ⟨r - 6, by omega, by omega, rfl⟩) ?_
  rintro _ ⟨top, t0, t1, rfl⟩
  refine seq_post (fun ε => ∃ fs top tu l r, Few fs ∧ ε = e fs top tu l r) (fun K kk => ?_) ?_
  · intro m m0 m1
    refine gd_of (small_any (by omega) (by omega)) ?_
    refine ⟨fun i ε => ∃ fs top tu l r, Okf fs ∧ fs.length ≤ i ∧ (∀ f ∈ fs, f.t ≤ top) ∧ -6 ≤ top ∧ top ≤ 6 + 4 * (i : Int) ∧ (∀ f ∈ fs, -100000 ≤ f.b ∧ f.b ≤ 100000 ∧ f.e ≤ 100000 ∧ -100000 ≤ f.t ∧ f.t ≤ 100000 ∧ f.d ≤ 100000) ∧ ε = e fs (I top) tu l r,
      ⟨[], top, none, none, none, okf_nil, Nat.zero_le _, (fun f hf => by cases hf), t0, by omega, (fun f hf => by cases hf), rfl⟩, fun i d ε hi hd w => ?_, fun ε w => ?_⟩
    · obtain ⟨fs, top, tu, l, r, ok, hl, ht, p0, p1, sm, rfl⟩ := w
      obtain ⟨hi2, rfl⟩ := rangeD_get hd
      have hi3 : (i : Int) < 9 := by omega
      refine seq_post (fun ε => ∃ t2 : Int, top ≤ t2 ∧ t2 ≤ top + 4 ∧ ε = e fs (I t2) (some (.v (.int (0 + (i : Int))))) l r) (fun K kk => fun q q0 q1 => pick_ints (xs := [0, 0, 1, 1, 2, 4]) q0 q1 fun v hv => kk _ ⟨top + v, by simp at hv; omega, by simp at hv; omega, rfl⟩) ?_
      rintro _ ⟨t2, u0, u1, rfl⟩
      refine seq_post (fun ε => ∃ b : Int, -4 ≤ b ∧ b ≤ 70 ∧ ε = e fs (I t2) (some (.v (.int (0 + (i : Int))))) (I b) r) (fun K kk => gd_of (show (0 : Int) < W + 9 by omega) fun q q0 q1 => kk _ ⟨q - 4, by omega, by omega, rfl⟩) ?_
      rintro _ ⟨b, b0, b1, rfl⟩
      refine seq_post (fun ε => ∃ c : Int, b ≤ c ∧ c ≤ b + 9 ∧ ε = e fs (I t2) (some (.v (.int (0 + (i : Int))))) (I b) (I c)) (fun K kk => fun q q0 q1 => pick_ints (xs := [0, 1, 2, 4, 9]) q0 q1 fun v hv => kk _ ⟨b + v, by simp at hv; omega, by simp at hv; omega, rfl⟩) ?_
      rintro _ ⟨c, c0, c1, rfl⟩
      intro q q0 q1
      refine pick_side q0 q1 fun s => ?_
      intro q' q0' q1'
      refine pick_ints (xs := [0, 1, 2, 3, 7]) q0' q1' fun v hv => ?_
      have hv2 : 0 ≤ v ∧ v ≤ 7 := by simp at hv; omega
      refine gd_of (show (fs.map flD).length < 16777216 by rw [List.length_map]; omega) ?_
      have en : fs.map flD ++ [flD ⟨s, b, c, t2, t2 + v⟩] = (fs ++ [(⟨s, b, c, t2, t2 + v⟩ : Fl)]).map flD := fl_snoc
      refine ⟨fs ++ [(⟨s, b, c, t2, t2 + v⟩ : Fl)], t2, some (.v (.int (0 + (i : Int)))), I b, I c, okf_snoc ok (fun f hf => Int.le_trans (ht f hf) u0) c0 (show t2 ≤ t2 + v by omega), ?_, fun f hf => ?_, by omega, by omega, fun f hf => ?_, ?_⟩
      · rw [List.length_append]
        show fs.length + 1 ≤ i + 1
        omega
      · rcases List.mem_append.mp hf with hf | hf
        · exact Int.le_trans (ht f hf) u0
        · rw [List.mem_singleton.mp hf]; exact Int.le_refl _
      · rcases List.mem_append.mp hf with hf | hf
        · exact sm f hf
        · rw [List.mem_singleton.mp hf]
          show -100000 ≤ b ∧ b ≤ 100000 ∧ c ≤ 100000 ∧ -100000 ≤ t2 ∧ t2 ≤ 100000 ∧ t2 + v ≤ 100000
          omega
      · exact congrArg (fun z : List D => ([some (.v .pool), some (.v (.int W)), some (.o z), I t2, some (.v (.int (0 + (i : Int)))), I b, I c] : PEnv)) en
    · obtain ⟨fs, top, tu, l, r, ok, hl, ht, p0, p1, sm, rfl⟩ := w
      rw [rangeD_len] at hl
      exact kk _ ⟨fs, _, _, _, _, ⟨ok, by omega, sm⟩, rfl⟩
  rintro _ ⟨fs, top, tu, l, r, few, rfl⟩
  exact h fs few

end PL.K49

set_option Elab.async false
set_option linter.all false
set_option autoImplicit false
set_option maxRecDepth 100000
set_option maxHeartbeats 1000000
namespace PL.K49
open PySem PySem.Spec PyProof.Rows L2
local macro_rules | `(tactic| walk_at "y") => `(tactic| conv => whnf)
theorem first_le {fs : List Fl} {W w c r M : Int} (hs : startOf fs c ≤ M) (hd : ∀ f ∈ fs, f.d ≤ M) (fr : FirstRow (fits fs 0 W w) (startOf fs c) r) : r ≤ M := by
  by_cases c1 : r ≤ M
  · exact c1
  · have e : btw fs 0 W M = (0, W) := btw_free fun f hf => by
      unfold beside
      rw [decide_eq_false (show ¬ M < f.d by have := hd f hf; omega), Bool.and_false]
    have := fr.2.2 M hs (by omega)
    unfold fits at this
    rw [e] at this
    simp at this
theorem start_le {fs : List Fl} {c M : Int} (hc : c ≤ M) (ht : ∀ f ∈ fs, f.t ≤ M) : startOf fs c ≤ M := by
  unfold startOf
  cases e : fs.getLast? with
  | none => exact hc
  | some f =>
    have := ht f (List.mem_of_getLast? e)
    show mx c f.t ≤ M
    unfold mx
    split <;> omega
/-- the row so far -/
structure RowI (W wider : Int) (fs : List Fl) (c : Int) (i : Nat) : Prop where
  ok : Okf fs
  l : fs.length ≤ i
  c0 : -4 - (i : Int) ≤ c
  c1 : c ≤ 4 + 5 * (i : Int)
  sm : ∀ f ∈ fs, -100 * (i : Int) ≤ f.b ∧ f.e ≤ 100 * (i : Int) ∧ -4 - (i : Int) ≤ f.t ∧ f.d ≤ 10 + 10 * (i : Int)
  ap : wider = 0 → Apart fs
theorem row_snoc {W wider : Int} {fs : List Fl} {c c' w r h : Int} {s : Bool} {i : Nat} (R : RowI W wider fs c i) (w0 : 0 ≤ W) (w1 : W ≤ 60) (v0 : 0 ≤ w) (v1 : w ≤ 100) (hw : wider = 0 → w ≤ W) (c0 : c - 1 ≤ c') (c1 : c' ≤ c + 5) (h0 : 0 ≤ h) (h1 : h ≤ 5)
    (fr : FirstRow (fits fs 0 W w) (startOf fs c') r) : RowI W wider (fs ++ [⟨s, xAt fs 0 W w r s, xAt fs 0 W w r s + w, r, r + h⟩]) c' (i + 1) := by
  obtain ⟨ok, l, d0, d1, sm, ap⟩ := R
  obtain ⟨su1, su2⟩ := start_up (c := c') ok
  have hr1 : r ≤ 10 + 10 * (i : Int) := first_le (start_le (by omega) fun f hf => by have := sm f hf; have := ok.td f hf; omega) (fun f hf => (sm f hf).2.2.2) fr
  have hr0 : c' ≤ r := Int.le_trans su1 fr.1
  have hL : 0 ≤ (btw fs 0 W r).1 ∧ (btw fs 0 W r).1 ≤ 100 * (i : Int) := by
    refine ⟨(btw_left fs 0 W r).2 0 List.mem_cons_self, ?_⟩
    rcases List.mem_cons.mp (btw_left fs 0 W r).1 with z | z
    · rw [z]; omega
    · obtain ⟨f, hf, e⟩ := List.mem_map.mp z
      rw [← e]
      exact (sm f (List.mem_filter.mp hf).1).2.1
  have hR : (btw fs 0 W r).2 ≤ W ∧ -100 * (i : Int) ≤ (btw fs 0 W r).2 := by
    refine ⟨(btw_right fs 0 W r).2 W List.mem_cons_self, ?_⟩
    rcases List.mem_cons.mp (btw_right fs 0 W r).1 with z | z
    · rw [z]; omega
    · obtain ⟨f, hf, e⟩ := List.mem_map.mp z
      rw [← e]
      exact (sm f (List.mem_filter.mp hf).1).1
  have hx : -100 * (i : Int) - 100 ≤ xAt fs 0 W w r s ∧ xAt fs 0 W w r s + w ≤ 100 * (i : Int) + 100 := by
    unfold xAt
    cases s with
    | true => show _ ≤ (btw fs 0 W r).1 ∧ (btw fs 0 W r).1 + w ≤ _; omega
    | false => show _ ≤ (btw fs 0 W r).2 - w ∧ (btw fs 0 W r).2 - w + w ≤ _; omega
  refine ⟨okf_snoc ok (fun f hf => Int.le_trans (su2 f hf) fr.1) (show xAt fs 0 W w r s ≤ xAt fs 0 W w r s + w by omega) (show r ≤ r + h by omega), ?_, by omega, by omega, fun f hf => ?_, fun z => apart_snoc ok (hw z) v0 fr (ap z)⟩
  · rw [List.length_append]
    show fs.length + 1 ≤ i + 1
    omega
  · rcases List.mem_append.mp hf with hf | hf
    · have := sm f hf
      omega
    · rw [List.mem_singleton.mp hf]
      show _ ≤ xAt fs 0 W w r s ∧ xAt fs 0 W w r s + w ≤ _ ∧ _ ≤ r ∧ r + h ≤ _
      omega
theorem RowI.few {W wider : Int} {fs : List Fl} {c : Int} {i : Nat} (R : RowI W wider fs c i) (hi : i ≤ 60) : Few fs :=
  ⟨R.ok, by have := R.l; omega, fun f hf => by
    have a := R.sm f hf
    have b1 := R.ok.be f hf
    have b2 := R.ok.td f hf
    omega⟩
def φ_law_row_right : Spec := fun ds Q _ => ∃ W many wider : Int, ds = [.pool, .int W, .int many, .int wider] ∧ 0 ≤ W ∧ W ≤ 40 ∧ 0 ≤ many ∧ many ≤ 60 ∧ (wider = 0 ∨ wider = 1) ∧ Q (.bl true)
abbrev N_law_row_right : List Str := ["pool", "width", "many", "wider", "floats", "ceiling", "side", "turn", "w", "told", "x", "row"]
def r_law_row_right (Ξ : Xi) : PTS :=
  (ysSeq (ysPar3N 4 5 6 (ynLst ylNil) (yBin oSub (yCall φ_law_pick Ξ (ylCons (yVar 0) (ylCons (yC (.int 9)) ylNil))) (yC (.int 4))) (yC (.str ("left" : Str))))
  (ysSeq (ysFor (yiRg1 (ylCons (yVar 2) ylNil)) (gN 7)
  (ysSeq (ysIf (yBinT (oEq false) (yCall φ_law_pick Ξ (ylCons (yVar 0) (ylCons (yC (.int 3)) ylNil))) (yC (.int 0)))
  (ysAsg (yBin oSub (yBin oAdd (yVar 5) (yCall φ_law_pick Ξ (ylCons (yVar 0) (ylCons (yC (.int 6)) ylNil)))) (yC (.int 1))) 5)
  ysNext)
  (ysSeq (ysAsg (yCB oMin2 (ylCons (yIx (yNew (ynLst (ylCons (yC (.int 1)) (ylCons (yC (.int 2)) (ylCons (yC (.int 3)) (ylCons (yBin oFdiv (yVar 1) (yC (.int 2))) (ylCons (yBin oFdiv (yVar 1) (yC (.int 3))) (ylCons (yVar 1) (ylCons (yCall φ_law_pick Ξ (ylCons (yVar 0) (ylCons (yC (.int 60)) ylNil))) (ylCons (yC (.int 0)) ylNil)))))))))) (yCall φ_law_pick Ξ (ylCons (yVar 0) (ylCons (yC (.int 8)) ylNil)))) (ylCons (yBin oAdd (yVar 1) (yBin oMulA (yVar 3) (yCall φ_law_pick Ξ (ylCons (yVar 0) (ylCons (yC (.int 4)) ylNil))))) ylNil))) 8)
  (ysSeq (ysAsg (yIx (yNew (ynLst (ylCons (yC (.str ("left" : Str))) (ylCons (yC (.str ("right" : Str))) ylNil)))) (yCall φ_law_pick Ξ (ylCons (yVar 0) (ylCons (yC (.int 2)) ylNil)))) 6)
  (ysSeq (ysAsg (yCall φ_law_told Ξ (ylCons (yC (.str ("at" : Str))) (ylCons (yNew (ynCB oListOf (ylCons (yVar 4) ylNil))) (ylCons (yVar 1) (ylCons (yVar 5) (ylCons (yVar 8) (ylCons (yVar 6) ylNil))))))) 9)
  (ysSeq (ysIf (yNot (yTru (yCall φ_law_same Ξ (ylCons (yVar 9) (ylCons (yTup (ylCons (yC (.str ("told" : Str))) (ylCons (yLend φ_law_place Ξ 4 (ylCons (yVar 1) (ylCons (yVar 5) (ylCons (yVar 8) (ylCons (yVar 6) ylNil))))) ylNil))) ylNil)))))
  (ysRet (yC (.bl false)))
  ysNext)
  (ysSeq (ysAsgG (yIx (yVar 9) (yC (.int 1))) (gTupY 2 [(gN 10), (gN 11)]))
  (ysApp 4 (yTup (ylCons (yVar 6) (ylCons (yVar 10) (ylCons (yBin oAdd (yVar 10) (yVar 8)) (ylCons (yVar 11) (ylCons (yBin oAdd (yVar 11) (yIx (yNew (ynLst (ylCons (yC (.int 1)) (ylCons (yC (.int 1)) (ylCons (yC (.int 2)) (ylCons (yC (.int 3)) (ylCons (yC (.int 5)) (ylCons (yC (.int 0)) ylNil)))))))) (yCall φ_law_pick Ξ (ylCons (yVar 0) (ylCons (yC (.int 6)) ylNil))))) ylNil))))))))))))))
  (ysSeq (ysIf (yAnd (yBinT (oEq false) (yVar 3) (yC (.int 0))) (yNot (yTru (yCall φ_law_are_apart Ξ (ylCons (yVar 4) ylNil)))))
  (ysRet (yC (.bl false)))
  ysNext)
  (ysRet (yOrV (yBin oGt (yVar 2) (yC (.int 20))) (yCall φ_law_is_right Ξ (ylCons (yVar 0) (ylCons (yVar 4) (ylCons (yVar 1) (ylCons (yBin oSub (yVar 5) (yCall φ_law_pick Ξ (ylCons (yVar 0) (ylCons (yC (.int 4)) ylNil)))) (ylCons (yCall φ_law_pick Ξ (ylCons (yVar 0) (ylCons (yBin oAdd (yVar 1) (yC (.int 2))) ylNil))) (ylCons (yVar 6) ylNil))))))))))))
theorem vc_law_row_right (ds : List D) (Q' : D → Prop) (E' : Nat → Prop) (h : φ_law_row_right ds Q' E') : r_law_row_right (fun c _ => E' c) { nx := fun _ => Q' .non, rt := fun d _ => Q' d } (startE N_law_row_right ds) := by
  obtain ⟨W, many, wider, rfl, w0, w1, m0, m1, hwd, h⟩ := h
  delta r_law_row_right
  rw [s_left, s_right, s_at]
  let I (i : Int) : Option S := some (.v (.int i))
  let e (fs : List Fl) (c : Int) (s : Bool) (tu w to x r : Option S) : PEnv := [some (.v .pool), I W, I many, I wider, some (.o (fs.map flD)), I c, some (.v (.str (sdS s))), tu, w, to, x, r]
  refine seq_post (fun ε => ∃ c : Int, -4 ≤ c ∧ c ≤ 4 ∧ ε = e [] c true none none none none none) (fun K kk => fun q q0 q1 => kk _ ⟨q - 4, by omega, by omega, rfl⟩) ?_
  rintro _ ⟨c, c0, c1, rfl⟩
  refine seq_post (fun ε => ∃ fs c s tu w to x r, RowI W wider fs c many.toNat ∧ ε = e fs c s tu w to x r) (fun K kk => ?_) ?_
  · refine gd_of (small_any (by omega) (by omega)) ?_
    refine ⟨fun i ε => ∃ fs c s tu w to x r, RowI W wider fs c i ∧ ε = e fs c s tu w to x r, ⟨[], c, true, none, none, none, none, none, ⟨okf_nil, Nat.zero_le _, by omega, by omega, (fun f hf => by cases hf), fun _ i j f g _ hf => by simp at hf⟩, rfl⟩, fun i d ε hi hd w' => ?_, fun ε w' => ?_⟩
    · obtain ⟨fs, c, s, tu, w, to, x, r, R, rfl⟩ := w'
      obtain ⟨hi2, rfl⟩ := rangeD_get hd
      have hi3 : i < 60 := by omega
      generalize D.int (0 + (i : Int)) = tu'
      refine seq_post (fun ε => ∃ c' : Int, c - 1 ≤ c' ∧ c' ≤ c + 5 ∧ ε = e fs c' s (some (.v tu')) w to x r) (fun K kk => ?_) ?_
      · intro q q0 q1
        have : q = 0 ∨ q = 1 ∨ q = 2 := by omega
        rcases this with rfl | rfl | rfl
        · exact fun q q0 q1 => kk _ ⟨c + q - 1, by omega, by omega, rfl⟩
        · exact kk _ ⟨c, by omega, by omega, rfl⟩
        · exact kk _ ⟨c, by omega, by omega, rfl⟩
      rintro _ ⟨c', cc0, cc1, rfl⟩
      refine seq_post (fun ε => ∃ v : Int, 0 ≤ v ∧ v ≤ 100 ∧ (wider = 0 → v ≤ W) ∧ ε = e fs c' s (some (.v tu')) (I v) to x r) (fun K kk => ?_) ?_
      · intro p p0 p1 q q0 q1
        refine pick_ints (xs := [1, 2, 3, W / 2, W / 3, W, p, 0]) q0 q1 fun v hv => ?_
        have hv0 : 0 ≤ v := by
          simp at hv
          rcases hv with rfl | rfl | rfl | rfl | rfl | rfl | rfl | rfl <;> omega
        intro a a0 a1
        refine gd_of (.inr ⟨by omega, by omega⟩) ?_
        have hwa : 0 ≤ wider * a ∧ wider * a ≤ 3 ∧ (wider = 0 → wider * a = 0) := by
          rcases hwd with z | z
          · rw [z, Int.zero_mul]; omega
          · rw [z, Int.one_mul]; omega
        refine kk _ ⟨mn v (W + wider * a), ?_, ?_, fun z => ?_, rfl⟩
        · unfold mn; split <;> omega
        · unfold mn; split <;> omega
        · have := hwa.2.2 z
          unfold mn; split <;> omega
      rintro _ ⟨v, v0, v1, vw, rfl⟩
      refine seq_post (fun ε => ∃ s, ε = e fs c' s (some (.v tu')) (I v) to x r) (fun K kk => fun q q0 q1 => pick_side q0 q1 fun s => kk _ ⟨s, rfl⟩) ?_
      rintro _ ⟨s, rfl⟩
      have few := R.few (by omega)
      have na : NearAll fs W c' v := few.all w0 (by omega) (by have := R.c0; omega) (by have := R.c1; omega) v0 (by omega)
      have nl := na.l
      obtain ⟨r2, fr⟩ := ex_first (lo := 0) (hi := W) (w := v) (c := c') na.ok
      let P : Int × Int := (xAt fs 0 W v r2 s, r2)
      refine seq_step (e fs c' s (some (.v tu')) (I v) (some (.v (toldD (pairI P)))) x r) (fun K kk => ?_) ?_
      · refine .inl ⟨rfl, reg_at nl, fun e => (no_at na.ok na.w0 na.v0 e).elim, fun _ fs' W' c' w' s' r' hin fr' => ?_⟩
        obtain ⟨rfl, rfl, rfl, rfl, rfl⟩ := at_eq hin
        rw [fr'.uniq fr]
        exact kk
      refine seq_step (e fs c' s (some (.v tu')) (I v) (some (.v (toldD (pairI P)))) x r) (fun K kk => ?_) ?_
      · refine ⟨fs, W, c', v, s, rfl, na.ok, nl, na.near, fun r' fr' => ?_⟩
        rw [fr'.uniq fr]
        refine ⟨rfl, toldD (pairI P), toldD (pairI P), rfl, any_plain plain_told, plain_told, ?_⟩
        rw [same_refl plain_told]
        exact kk
      refine seq_step (e fs c' s (some (.v tu')) (I v) (some (.v (toldD (pairI P)))) (I P.1) (I P.2)) (fun K kk => kk) ?_
      intro q q0 q1
      refine pick_ints (xs := [1, 1, 2, 3, 5, 0]) q0 q1 fun hh hv => ?_
      have hh2 : 0 ≤ hh ∧ hh ≤ 5 := by simp at hv; omega
      refine gd_of (show (fs.map flD).length < 16777216 by rw [List.length_map]; omega) ?_
      have en : fs.map flD ++ [flD ⟨s, P.1, P.1 + v, P.2, P.2 + hh⟩] = (fs ++ [(⟨s, P.1, P.1 + v, P.2, P.2 + hh⟩ : Fl)]).map flD := fl_snoc
      refine ⟨fs ++ [(⟨s, P.1, P.1 + v, P.2, P.2 + hh⟩ : Fl)], c', s, some (.v tu'), I v, some (.v (toldD (pairI P))), I P.1, I P.2, row_snoc R w0 (by omega) v0 v1 vw cc0 cc1 hh2.1 hh2.2 fr, ?_⟩
      exact congrArg (fun z : List D => ([some (.v .pool), I W, I many, I wider, some (.o z), I c', some (.v (.str (sdS s))), some (.v tu'), I v, some (.v (toldD (pairI P))), I P.1, I P.2] : PEnv)) en
    · obtain ⟨fs, c, s, tu, w, to, x, r, R, rfl⟩ := w'
      rw [rangeD_len] at R
      exact kk _ ⟨fs, c, s, tu, w, to, x, r, R, rfl⟩
  rintro _ ⟨fs, c, s, tu, w, to, x, r, R, rfl⟩
  have hm : many.toNat ≤ 60 := by omega
  have few := R.few hm
  have nl : fs.length ≤ 1000 := by have := few.l; omega
  rcases hwd with rfl | rfl
  · refine ⟨fs, rfl, nl, R.ap rfl, ?_⟩
    walk_at "y"
    show (match decide ((20 : Int) < many) with
      | true => _
      | false => _)
    cases decide ((20 : Int) < many) with
    | true => exact h
    | false =>
      intro q q0 q1
      refine gd_of (show (0 : Int) < W + 2 by omega) ?_
      intro q' q0' q1'
      exact ⟨fs, W, c - q, q', s, rfl, few.all w0 (by omega) (by have := R.c0; omega) (by have := R.c1; omega) q0' (by omega), h⟩
  · skip
    walk_at "y"
    show (match decide ((20 : Int) < many) with
      | true => _
      | false => _)
    cases decide ((20 : Int) < many) with
    | true => exact h
    | false =>
      intro q q0 q1
      refine gd_of (show (0 : Int) < W + 2 by omega) ?_
      intro q' q0' q1'
      exact ⟨fs, W, c - q, q', s, rfl, few.all w0 (by omega) (by have := R.c0; omega) (by have := R.c1; omega) q0' (by omega), h⟩

end PL.K49

set_option Elab.async false
set_option linter.all false
set_option autoImplicit false
set_option maxRecDepth 100000
set_option maxHeartbeats 1000000
namespace PL.K49
open PySem PySem.Spec PyProof.Rows L2
local macro_rules | `(tactic| walk_at "y") => `(tactic| conv => whnf)
/-! ### wrong floats -/
def Wrong (d : D) : Prop := regFs d = true ∧ floatsOf d = none ∧ anyD 4 d = true
def WrongF (d : D) : Prop := regF d = true ∧ asFl d = none ∧ anyD 3 d = true
theorem asFls_none {ds : List D} {d : D} (h : d ∈ ds) (hd : asFl d = none) : asFls ds = none := by
  induction ds with
  | nil => cases h
  | cons e es ih =>
    show (match asFl e with
      | some f => match asFls es with
        | some fs => some (f :: fs)
        | none => none
      | none => none) = none
    rcases List.mem_cons.mp h with rfl | h
    · rw [hd]
    · rw [ih h]
      cases asFl e <;> rfl
theorem any_fl {f : Fl} : anyD 3 (flD f) = true := any_plain plain_fl
theorem anyDs_of {n : Nat} : ∀ {ds : List D}, (∀ d ∈ ds, anyD n d = true) → anyDs n ds = true
  | [], _ => by unfold anyDs; rfl
  | d :: ds, h => by
    unfold anyDs
    rw [h d List.mem_cons_self, anyDs_of fun e he => h e (List.mem_cons_of_mem _ he)]
    rfl
theorem wrong_lst {ds : List D} (hl : ds.length ≤ 1000) (hr : ∀ d ∈ ds, regF d = true ∧ anyD 3 d = true) (hn : floatsOf (.lst ds) = none) : Wrong (.lst ds) := by
  refine ⟨?_, hn, ?_⟩
  · show (decide (ds.length ≤ 1000) && ds.all regF) = true
    rw [decide_eq_true hl, Bool.true_and, List.all_eq_true]
    exact fun d hd => (hr d hd).1
  · unfold anyD
    rw [decide_eq_true (show ds.length ≤ 1100 by omega), anyDs_of fun d hd => (hr d hd).2]
    rfl
theorem fl_reg {fs : List Fl} {d : D} (h : d ∈ fs.map flD) : regF d = true ∧ anyD 3 d = true := by
  obtain ⟨f, _, rfl⟩ := List.mem_map.mp h
  exact ⟨regF_fl f, any_fl⟩
theorem wrong_in {fs : List Fl} {d : D} {a b : List D} (hl : fs.length ≤ 100) (ha : ∀ x ∈ a, x ∈ fs.map flD) (hb : ∀ x ∈ b, x ∈ fs.map flD) (la : a.length ≤ 100) (lb : b.length ≤ 100) (h : WrongF d) : Wrong (.lst (a ++ [d] ++ b)) := by
  refine wrong_lst ?_ (fun x hx => ?_) ?_
  · rw [List.length_append, List.length_append]
    show a.length + 1 + b.length ≤ 1000
    omega
  · rcases List.mem_append.mp hx with hx | hx
    · rcases List.mem_append.mp hx with hx | hx
      · exact fl_reg (ha x hx)
      · rw [List.mem_singleton.mp hx]; exact ⟨h.1, h.2.2⟩
    · exact fl_reg (hb x hx)
  · show (match asFls (a ++ [d] ++ b) with
      | some fs => match upB fs with
        | true => some fs
        | false => none
      | none => none) = none
    rw [asFls_none (d := d) (by simp) h.2.1]
theorem wrong_up {fs : List Fl} (hl : fs.length ≤ 1000) (h : ¬ (fs.map (·.t)).Pairwise (· ≤ ·)) : Wrong (flsD fs) := by
  refine wrong_lst (by rw [List.length_map]; exact hl) (fun x hx => fl_reg hx) ?_
  cases e : floatsOf (.lst (fs.map flD)) with
  | none => rfl
  | some gs =>
    obtain ⟨e1, ok⟩ := floats_D e
    have e2 : fs = gs := fls_inj (D.lst.inj e1)
    exact absurd (e2 ▸ ok.up) h
theorem s_up : ("up" : Str) = S0 [117, 112] := by kernel_rfl
theorem s_sp : (" " : Str) = S0 [32] := by kernel_rfl
def wrongs (s : Bool) (l r t w : Int) : List D :=
  [.tup [.str (sdS s), .int r, .int l, .int t, .int w], .tup [.str (sdS s), .int l, .int r, .int (w + 1), .int w], .tup [.str (S0 [117, 112]), .int l, .int r, .int t, .int w], .tup [.non, .int l, .int r, .int t, .int w], .tup [.str (sdS s), .int l, .int r, .int t],
   .tup [.str (sdS s), .int l, .int r, .int t, .int w, .int 0], .lst [.str (sdS s), .int l, .int r, .int t, .int w], .tup [.str (sdS s), .bl true, .int r, .int t, .int w], .tup [.str (sdS s), .int l, .non, .int t, .int w], .tup [.str (sdS s), .int l, .int r, .str ("1" : Str), .int w],
   .tup [.str (sdS s), .int l, .int r, .int t, .tup [.int w]], .tup [.int 1, .int l, .int r, .int t, .int w], .tup [.int l, .int r, .int t, .int w, .str (sdS s)], .non, .tup [], .str (sdS s), .tup [.str (sdS s ++ S0 [32]), .int l, .int r, .int t, .int w], .tup [.lst [.str (sdS s)], .int l, .int r, .int t, .int w]]
theorem wrongs_all {s : Bool} {l r t w : Int} (h : l < r) : ∀ d ∈ wrongs s l r t w, WrongF d := by
  have any5 : ∀ a b c d e : D, anyD 2 a = true → anyD 2 b = true → anyD 2 c = true → anyD 2 d = true → anyD 2 e = true → anyD 3 (.tup [a, b, c, d, e]) = true := fun a b c d e h1 h2 h3 h4 h5 => by
    unfold anyD anyDs anyDs anyDs anyDs anyDs anyDs
    rw [h1, h2, h3, h4, h5]
    rfl
  have ai : ∀ i : Int, anyD 2 (.int i) = true := fun i => by unfold anyD; rfl
  have as : ∀ x : Str, anyD 2 (.str x) = true := fun i => by unfold anyD; rfl
  have an : anyD 2 .non = true := by unfold anyD; rfl
  have ab : anyD 2 (.bl true) = true := by unfold anyD; rfl
  have at' : ∀ i : Int, anyD 2 (.tup [.int i]) = true := fun i => by unfold anyD anyDs anyDs anyD; rfl
  have al : ∀ x : Str, anyD 2 (.lst [.str x]) = true := fun i => by unfold anyD anyDs anyDs anyD; rfl
  have n1 : asFl (.tup [.str (sdS s), .int r, .int l, .int t, .int w]) = none := by
    show (match decide (r ≤ l) && decide (t ≤ w) with
      | true => _
      | false => none) = none
    rw [decide_eq_false (show ¬ r ≤ l by omega)]
    rfl
  have n2 : asFl (.tup [.str (sdS s), .int l, .int r, .int (w + 1), .int w]) = none := by
    show (match decide (l ≤ r) && decide (w + 1 ≤ w) with
      | true => _
      | false => none) = none
    rw [show decide (w + 1 ≤ w) = false from decide_eq_false (by omega), Bool.and_false]
  have n3 : asFl (.tup [.str (S0 [117, 112]), .int l, .int r, .int t, .int w]) = none := asFl_side (by decide)
  have n4 : asFl (.tup [.str (sdS s ++ S0 [32]), .int l, .int r, .int t, .int w]) = none := asFl_side (by cases s <;> decide)
  unfold wrongs
  refine List.forall_mem_cons.2 ⟨⟨rfl, n1, any5 _ _ _ _ _ (as _) (ai _) (ai _) (ai _) (ai _)⟩, ?_⟩
  refine List.forall_mem_cons.2 ⟨⟨rfl, n2, any5 _ _ _ _ _ (as _) (ai _) (ai _) (ai _) (ai _)⟩, ?_⟩
  refine List.forall_mem_cons.2 ⟨⟨rfl, n3, any5 _ _ _ _ _ (as _) (ai _) (ai _) (ai _) (ai _)⟩, ?_⟩
  refine List.forall_mem_cons.2 ⟨⟨rfl, rfl, any5 _ _ _ _ _ an (ai _) (ai _) (ai _) (ai _)⟩, ?_⟩
  refine List.forall_mem_cons.2 ⟨⟨rfl, rfl, by unfold anyD anyDs anyDs anyDs anyDs anyDs; rw [as, ai, ai, ai]; rfl⟩, ?_⟩
  refine List.forall_mem_cons.2 ⟨⟨rfl, rfl, by unfold anyD anyDs anyDs anyDs anyDs anyDs anyDs anyDs; rw [as, ai, ai, ai, ai, ai]; rfl⟩, ?_⟩
  refine List.forall_mem_cons.2 ⟨⟨rfl, rfl, by unfold anyD anyDs anyDs anyDs anyDs anyDs anyDs; rw [as, ai, ai, ai, ai]; rfl⟩, ?_⟩
  refine List.forall_mem_cons.2 ⟨⟨rfl, rfl, any5 _ _ _ _ _ (as _) ab (ai _) (ai _) (ai _)⟩, ?_⟩
  refine List.forall_mem_cons.2 ⟨⟨rfl, rfl, any5 _ _ _ _ _ (as _) (ai _) an (ai _) (ai _)⟩, ?_⟩
  refine List.forall_mem_cons.2 ⟨⟨rfl, rfl, any5 _ _ _ _ _ (as _) (ai _) (ai _) (as _) (ai _)⟩, ?_⟩
  refine List.forall_mem_cons.2 ⟨⟨rfl, rfl, any5 _ _ _ _ _ (as _) (ai _) (ai _) (ai _) (at' _)⟩, ?_⟩
  refine List.forall_mem_cons.2 ⟨⟨rfl, rfl, any5 _ _ _ _ _ (ai _) (ai _) (ai _) (ai _) (ai _)⟩, ?_⟩
  refine List.forall_mem_cons.2 ⟨⟨rfl, rfl, any5 _ _ _ _ _ (ai _) (ai _) (ai _) (ai _) (as _)⟩, ?_⟩
  refine List.forall_mem_cons.2 ⟨⟨rfl, rfl, by unfold anyD; rfl⟩, ?_⟩
  refine List.forall_mem_cons.2 ⟨⟨rfl, rfl, by unfold anyD anyDs; rfl⟩, ?_⟩
  refine List.forall_mem_cons.2 ⟨⟨rfl, rfl, by unfold anyD; rfl⟩, ?_⟩
  refine List.forall_mem_cons.2 ⟨⟨rfl, n4, any5 _ _ _ _ _ (as _) (ai _) (ai _) (ai _) (ai _)⟩, ?_⟩
  refine List.forall_mem_cons.2 ⟨⟨rfl, rfl, any5 _ _ _ _ _ (al _) (ai _) (ai _) (ai _) (ai _)⟩, ?_⟩
  exact List.forall_mem_nil _

end PL.K49

set_option Elab.async false
set_option linter.all false
set_option autoImplicit false
set_option maxRecDepth 100000
set_option maxHeartbeats 1000000
namespace PL.K49
open PySem PySem.Spec PyProof.Rows L2
local macro_rules | `(tactic| walk_at "y") => `(tactic| conv => whnf)
theorem cut_sub {α : Type} {xs : List α} {lo hi : Option Int} : (∀ x ∈ cutD xs lo hi, x ∈ xs) ∧ (cutD xs lo hi).length ≤ xs.length := by
  unfold cutD
  refine ⟨fun x hx => List.mem_of_mem_drop (List.mem_of_mem_take hx), ?_⟩
  rw [List.length_take, List.length_drop]
  omega
def φ_law_wrong_floats : Spec := fun ds Q _ => ∃ fs, ds = [.pool, flsD fs] ∧ Few fs ∧ ∀ es, (∀ d ∈ es, Wrong d) → es.length ≤ 20 → Q (.lst es)
theorem wrong_app {es : List D} {d : D} (h : ∀ d ∈ es, Wrong d) (hd : Wrong d) : ∀ x ∈ es ++ [d], Wrong x := fun x hx => by
  rcases List.mem_append.mp hx with hx | hx
  · exact h x hx
  · rw [List.mem_singleton.mp hx]; exact hd
theorem wrong_tup {fs : List Fl} (hl : fs.length ≤ 100) : Wrong (.tup (fs.map flD)) := by
  refine ⟨rfl, rfl, ?_⟩
  unfold anyD
  rw [List.length_map, decide_eq_true (show fs.length ≤ 1100 by omega), anyDs_of fun d hd => (fl_reg hd).2]
  rfl
abbrev N_law_wrong_floats : List Str := ["pool", "floats", "found", "at", "top", "side", "left", "right", "low", "wrong", "turn", "one"]
def r_law_wrong_floats (Ξ : Xi) : PTS :=
  (ysSeq (ysAsgO (ynLst (ylCons (yCB oTupleOf (ylCons (yVar 1) ylNil)) (ylCons (yIx (yNew (ynLst (ylCons (yC .non) (ylCons yDic0 (ylCons (yC (.str ("left" : Str))) (ylCons (yC (.int 0)) (ylCons (yC (.bl true)) ylNil))))))) (yCall φ_law_pick Ξ (ylCons (yVar 0) (ylCons (yC (.int 5)) ylNil)))) ylNil))) 2)
  (ysSeq (ysPar 3 4 (yxE (yCall φ_law_index Ξ (ylCons (yVar 0) (ylCons (yBin oAdd (yCB oLen (ylCons (yVar 1) ylNil)) (yC (.int 1))) ylNil)))) (yxE (yCB oMaxL (ylCons (yBin oAdd (yNew (ynLst (ylCons (yC (.int 0)) ylNil))) (yNew (ynLc (yiSeq (yVar 1)) (gN 11) yYes (yIx (yVar 11) (yC (.int 3))) [11]))) ylNil))))
  (ysSeq (ysAsgG (yTup (ylCons (yIx (yNew (ynLst (ylCons (yC (.str ("left" : Str))) (ylCons (yC (.str ("right" : Str))) ylNil)))) (yCall φ_law_pick Ξ (ylCons (yVar 0) (ylCons (yC (.int 2)) ylNil)))) (ylCons (yCall φ_law_pick Ξ (ylCons (yVar 0) (ylCons (yC (.int 20)) ylNil))) (ylCons (yBin oAdd (yC (.int 20)) (yCall φ_law_pick Ξ (ylCons (yVar 0) (ylCons (yC (.int 9)) ylNil)))) (ylCons (yBin oAdd (yVar 4) (yCall φ_law_pick Ξ (ylCons (yVar 0) (ylCons (yC (.int 9)) ylNil)))) ylNil))))) (gTupY 4 [(gN 5), (gN 6), (gN 7), (gN 8)]))
  (ysSeq (ysAsg (yNew (ynLst (ylCons (yTup (ylCons (yVar 5) (ylCons (yVar 7) (ylCons (yVar 6) (ylCons (yVar 4) (ylCons (yVar 8) ylNil)))))) (ylCons (yTup (ylCons (yVar 5) (ylCons (yVar 6) (ylCons (yVar 7) (ylCons (yBin oAdd (yVar 8) (yC (.int 1))) (ylCons (yVar 8) ylNil)))))) (ylCons (yTup (ylCons (yC (.str ("up" : Str))) (ylCons (yVar 6) (ylCons (yVar 7) (ylCons (yVar 4) (ylCons (yVar 8) ylNil)))))) (ylCons (yTup (ylCons (yC .non) (ylCons (yVar 6) (ylCons (yVar 7) (ylCons (yVar 4) (ylCons (yVar 8) ylNil)))))) (ylCons (yTup (ylCons (yVar 5) (ylCons (yVar 6) (ylCons (yVar 7) (ylCons (yVar 4) ylNil))))) (ylCons (yTup (ylCons (yVar 5) (ylCons (yVar 6) (ylCons (yVar 7) (ylCons (yVar 4) (ylCons (yVar 8) (ylCons (yC (.int 0)) ylNil))))))) (ylCons (yNew (ynLst (ylCons (yVar 5) (ylCons (yVar 6) (ylCons (yVar 7) (ylCons (yVar 4) (ylCons (yVar 8) ylNil))))))) (ylCons (yTup (ylCons (yVar 5) (ylCons (yC (.bl true)) (ylCons (yVar 7) (ylCons (yVar 4) (ylCons (yVar 8) ylNil)))))) (ylCons (yTup (ylCons (yVar 5) (ylCons (yVar 6) (ylCons (yC .non) (ylCons (yVar 4) (ylCons (yVar 8) ylNil)))))) (ylCons (yTup (ylCons (yVar 5) (ylCons (yVar 6) (ylCons (yVar 7) (ylCons (yC (.str ("1" : Str))) (ylCons (yVar 8) ylNil)))))) (ylCons (yTup (ylCons (yVar 5) (ylCons (yVar 6) (ylCons (yVar 7) (ylCons (yVar 4) (ylCons (yTup (ylCons (yVar 8) ylNil)) ylNil)))))) (ylCons (yTup (ylCons (yC (.int 1)) (ylCons (yVar 6) (ylCons (yVar 7) (ylCons (yVar 4) (ylCons (yVar 8) ylNil)))))) (ylCons (yTup (ylCons (yVar 6) (ylCons (yVar 7) (ylCons (yVar 4) (ylCons (yVar 8) (ylCons (yVar 5) ylNil)))))) (ylCons (yC .non) (ylCons (yTup ylNil) (ylCons (yVar 5) (ylCons (yTup (ylCons (yBin oAdd (yVar 5) (yC (.str (" " : Str)))) (ylCons (yVar 6) (ylCons (yVar 7) (ylCons (yVar 4) (ylCons (yVar 8) ylNil)))))) (ylCons (yTup (ylCons (yNew (ynLst (ylCons (yVar 5) ylNil))) (ylCons (yVar 6) (ylCons (yVar 7) (ylCons (yVar 4) (ylCons (yVar 8) ylNil)))))) ylNil)))))))))))))))))))) 9)
  (ysSeq (ysFor (yiRg1 (ylCons (yC (.int 4)) ylNil)) (gN 10)
  (ysApp 2 (yBin oAdd (yBin oAdd (yNew (ynSl (yVar 1) yoNone (yoSome (yVar 3)))) (yNew (ynLst (ylCons (yIx (yVar 9) (yCall φ_law_pick Ξ (ylCons (yVar 0) (ylCons (yCB oLen (ylCons (yVar 9) ylNil)) ylNil)))) ylNil)))) (yNew (ynSl (yVar 1) (yoSome (yVar 3)) yoNone)))))
  (ysSeq (ysApp 2 (yBin oAdd (yVar 1) (yNew (ynLst (ylCons (yTup (ylCons (yVar 5) (ylCons (yVar 6) (ylCons (yVar 7) (ylCons (yVar 8) (ylCons (yVar 8) ylNil)))))) (ylCons (yTup (ylCons (yVar 5) (ylCons (yVar 6) (ylCons (yVar 7) (ylCons (yBin oSub (yVar 8) (yC (.int 1))) (ylCons (yVar 8) ylNil)))))) ylNil))))))
  (ysSeq (ysApp 2 (yBin oAdd (yBin oAdd (yNew (ynLst (ylCons (yTup (ylCons (yVar 5) (ylCons (yVar 6) (ylCons (yVar 7) (ylCons (yBin oAdd (yVar 4) (yC (.int 1))) (ylCons (yBin oAdd (yVar 8) (yC (.int 1))) ylNil)))))) ylNil))) (yVar 1)) (yNew (ynLst (ylCons (yTup (ylCons (yVar 5) (ylCons (yVar 6) (ylCons (yVar 7) (ylCons (yVar 4) (ylCons (yVar 8) ylNil)))))) ylNil)))))
  (ysRet (yVar 2)))))))))
theorem vc_law_wrong_floats (ds : List D) (Q' : D → Prop) (E' : Nat → Prop) (h : φ_law_wrong_floats ds Q' E') : r_law_wrong_floats (fun c _ => E' c) { nx := fun _ => Q' .non, rt := fun d _ => Q' d } (startE N_law_wrong_floats ds) := by
  obtain ⟨fs, rfl, few, h⟩ := h
  delta r_law_wrong_floats
  rw [s_left, s_right, s_up, s_sp]
  have hl := few.l
  let I (i : Int) : Option S := some (.v (.int i))
  let e (es : List D) (a t s l r w wr tu : Option S) : PEnv := [some (.v .pool), some (.v (flsD fs)), some (.o es), a, t, s, l, r, w, wr, tu, none]
  refine seq_post (fun ε => ∃ es, (∀ d ∈ es, Wrong d) ∧ es.length ≤ 2 ∧ ε = e es none none none none none none none none) (fun K kk => ?_) ?_
  · intro q q0 q1
    have five : ∀ d ∈ [D.non, .dic [], .str sL, .int 0, .bl true], Wrong d := by
      refine List.forall_mem_cons.2 ⟨⟨rfl, rfl, by unfold anyD; rfl⟩, ?_⟩
      refine List.forall_mem_cons.2 ⟨⟨rfl, rfl, by unfold anyD; rfl⟩, ?_⟩
      refine List.forall_mem_cons.2 ⟨⟨rfl, rfl, by unfold anyD; rfl⟩, ?_⟩
      refine List.forall_mem_cons.2 ⟨⟨rfl, rfl, by unfold anyD; rfl⟩, ?_⟩
      refine List.forall_mem_cons.2 ⟨⟨rfl, rfl, by unfold anyD; rfl⟩, ?_⟩
      exact List.forall_mem_nil _
    refine pick_of q0 q1 fun d hd => kk _ ⟨[.tup (fs.map flD), d], ?_, by simp, rfl⟩
    exact List.forall_mem_cons.2 ⟨wrong_tup hl, List.forall_mem_cons.2 ⟨five d hd, List.forall_mem_nil _⟩⟩
  rintro _ ⟨es, hes, les, rfl⟩
  refine seq_post (fun ε => ∃ a t : Int, (∀ f ∈ fs, f.t ≤ t) ∧ ε = e es (I a) (I t) none none none none none none) (fun K kk => ?_) ?_
  · refine gd_of (show (0 : Int) < (((fs.map flD).length : Nat) : Int) + 1 by omega) ?_
    intro a a0 a1
    refine ⟨⟨trivial, trivial⟩, by rw [List.length_map]; omega, lc_map dT (fun i d hd K N hk => ?_) ?_⟩
    · obtain ⟨f, _, rfl⟩ := fl_get hd
      exact ⟨rfl, hk⟩
    · have em : (fs.map flD).map dT = (fs.map Fl.t).map D.int := by
        rw [List.map_map, List.map_map]
        rfl
      rw [em]
      refine gd_of (show [D.int 0].length + ((fs.map Fl.t).map D.int).length ≤ 16777216 by rw [List.length_map, List.length_map]; show 1 + _ ≤ _; omega) ?_
      have em3 : toInts ([D.int 0] ++ (fs.map Fl.t).map D.int) = some ((0 : Int) :: fs.map Fl.t) := toInts_map ((0 : Int) :: fs.map Fl.t)
      refine opt_of em3 ⟨by simp, fun m m1 m2 => kk _ ⟨a, m, fun f hf => m2 f.t (List.mem_cons_of_mem _ (List.mem_map_of_mem hf)), rfl⟩⟩
  rintro _ ⟨a, t, ht, rfl⟩
  refine seq_post (fun ε => ∃ (s : Bool) (l r w : Int), l < r ∧ t ≤ w ∧ ε = e es (I a) (I t) (some (.v (.str (sdS s)))) (I l) (I r) (I w) none none) (fun K kk => ?_) ?_
  · intro q q0 q1
    refine pick_side q0 q1 fun s => ?_
    intro l l0 l1 r r0 r1 w w0' w1'
    exact kk _ ⟨s, l, 20 + r, t + w, by omega, by omega, rfl⟩
  rintro _ ⟨s, l, r, w, hlr, htw, rfl⟩
  refine seq_step (e es (I a) (I t) (some (.v (.str (sdS s)))) (I l) (I r) (I w) (some (.v (.lst (wrongs s l r t w)))) none) (fun K kk => ?_) ?_
  · refine gd_of (show (sdS s).length + (S0 [32]).length ≤ 16777216 by cases s <;> decide) ?_
    exact kk
  refine seq_post (fun ε => ∃ es tu, (∀ d ∈ es, Wrong d) ∧ es.length ≤ 6 ∧ ε = e es (I a) (I t) (some (.v (.str (sdS s)))) (I l) (I r) (I w) (some (.v (.lst (wrongs s l r t w)))) tu) (fun K kk => ⟨fun i ε => ∃ es tu, (∀ d ∈ es, Wrong d) ∧ es.length ≤ 2 + i ∧ ε = e es (I a) (I t) (some (.v (.str (sdS s)))) (I l) (I r) (I w) (some (.v (.lst (wrongs s l r t w)))) tu, ⟨es, none, hes, les, rfl⟩, fun i d ε hi hd w' => ?_, fun ε w' => kk ε w'⟩) ?_
  · obtain ⟨es, tu, hes, les, rfl⟩ := w'
    have hi2 : i < 4 := (rangeD_get hd).1
    intro q q0 q1
    refine pick_of q0 q1 fun d hd => ?_
    obtain ⟨c1, c2⟩ := cut_sub (xs := fs.map flD) (lo := none) (hi := some a)
    obtain ⟨c3, c4⟩ := cut_sub (xs := fs.map flD) (lo := some a) (hi := none)
    rw [List.length_map] at c2 c4
    refine gd_of (show (cutD (fs.map flD) none (some a)).length + 1 ≤ 16777216 by omega) ?_
    refine gd_of (show (cutD (fs.map flD) none (some a) ++ [d]).length + (cutD (fs.map flD) (some a) none).length ≤ 16777216 by rw [List.length_append]; show _ + 1 + _ ≤ _; omega) ?_
    refine gd_of (show es.length < 16777216 by omega) ?_
    exact ⟨_, _, wrong_app hes (wrong_in hl c1 c3 (by omega) (by omega) (wrongs_all hlr d hd)), by rw [List.length_append]; show es.length + 1 ≤ 2 + (i + 1); omega, rfl⟩
  rintro _ ⟨es, tu, hes, les, rfl⟩
  have sides : ∀ (b e t d : Int), D.tup [.str (sdS s), .int b, .int e, .int t, .int d] = flD ⟨s, b, e, t, d⟩ := fun _ _ _ _ => rfl
  refine seq_post (fun ε => ∃ es, (∀ d ∈ es, Wrong d) ∧ es.length ≤ 7 ∧ ε = e es (I a) (I t) (some (.v (.str (sdS s)))) (I l) (I r) (I w) (some (.v (.lst (wrongs s l r t w)))) tu) (fun K kk => ?_) ?_
  · refine gd_of (show (fs.map flD).length + 2 ≤ 16777216 by rw [List.length_map]; omega) ?_
    refine gd_of (show es.length < 16777216 by omega) ?_
    refine kk _ ⟨es ++ [.lst (fs.map flD ++ [flD ⟨s, l, r, w, w⟩, flD ⟨s, l, r, w - 1, w⟩])], wrong_app hes ?_, by rw [List.length_append]; show es.length + 1 ≤ 7; omega, rfl⟩
    have em : D.lst (fs.map flD ++ [flD ⟨s, l, r, w, w⟩, flD ⟨s, l, r, w - 1, w⟩]) = flsD (fs ++ [(⟨s, l, r, w, w⟩ : Fl), ⟨s, l, r, w - 1, w⟩]) := by
      unfold flsD
      rw [List.map_append]
      rfl
    rw [em]
    refine wrong_up (by rw [List.length_append]; show fs.length + 2 ≤ 1000; omega) fun z => ?_
    rw [List.map_append, List.pairwise_append] at z
    have := List.rel_of_pairwise_cons z.2.1 (a' := w - 1) (by simp)
    have this : w ≤ w - 1 := this
    omega
  rintro _ ⟨es, hes, les, rfl⟩
  refine seq_post (fun ε => ∃ es, (∀ d ∈ es, Wrong d) ∧ es.length ≤ 8 ∧ ε = e es (I a) (I t) (some (.v (.str (sdS s)))) (I l) (I r) (I w) (some (.v (.lst (wrongs s l r t w)))) tu) (fun K kk => ?_) ?_
  · refine gd_of (show 1 + (fs.map flD).length ≤ 16777216 by rw [List.length_map]; omega) ?_
    refine gd_of (show ([flD ⟨s, l, r, t + 1, w + 1⟩] ++ fs.map flD).length + 1 ≤ 16777216 by rw [List.length_append, List.length_map]; show 1 + _ + 1 ≤ _; omega) ?_
    refine gd_of (show es.length < 16777216 by omega) ?_
    refine kk _ ⟨es ++ [.lst ([flD ⟨s, l, r, t + 1, w + 1⟩] ++ fs.map flD ++ [flD ⟨s, l, r, t, w⟩])], wrong_app hes ?_, by rw [List.length_append]; show es.length + 1 ≤ 8; omega, rfl⟩
    have em : D.lst ([flD ⟨s, l, r, t + 1, w + 1⟩] ++ fs.map flD ++ [flD ⟨s, l, r, t, w⟩]) = flsD ((⟨s, l, r, t + 1, w + 1⟩ : Fl) :: (fs ++ [(⟨s, l, r, t, w⟩ : Fl)])) := by
      unfold flsD
      rw [List.map_cons, List.map_append]
      rfl
    rw [em]
    refine wrong_up (by rw [List.length_cons, List.length_append]; show fs.length + 1 + 1 ≤ 1000; omega) fun z => ?_
    rw [List.map_cons, List.map_append] at z
    have := List.rel_of_pairwise_cons z (a' := t) (by simp)
    have this : t + 1 ≤ t := this
    omega
  rintro _ ⟨es, hes, les, rfl⟩
  exact h es hes (by omega)

end PL.K49

set_option Elab.async false
set_option linter.all false
set_option autoImplicit false
set_option maxRecDepth 100000
set_option maxHeartbeats 1000000
namespace PL.K49
open PySem PySem.Spec PyProof.Rows L2
local macro_rules | `(tactic| walk_at "y") => `(tactic| conv => whnf)
/-! ### refused -/
structure Ask (fs : List Fl) (W row : Int) (q : D) : Prop where
  ex : ∃ d0 d1 d2 d3 d4, q = .tup [d0, d1, d2, d3, d4] ∧ regA [d0, d1, d2, d3, d4] = true ∧ atB [d0, d1, d2, d3, d4] = false ∧ anyD 4 d0 = true ∧ anyD 4 d1 = true ∧ anyD 4 d2 = true ∧
    (rmB [d0, d1, d2] = false ∨ (d0 = flsD fs ∧ d1 = .int W ∧ d2 = .int row))
theorem any_i {n : Nat} {i : Int} : anyD (n + 1) (.int i) = true := by unfold anyD; rfl
theorem any_fls {fs : List Fl} (hl : fs.length ≤ 1000) : anyD 4 (flsD fs) = true := any_plain (plain_fls hl)
theorem ask_floats {fs : List Fl} {W row w : Int} {s : Bool} {d : D} (h : Wrong d) : Ask fs W row (.tup [d, .int W, .int row, .int w, .str (sdS s)]) := by
  obtain ⟨h1, h2, h3⟩ := h
  have hr : rmB [d, .int W, .int row] = false := by
    show ((floatsOf d).isSome && _) = false
    rw [h2]
    rfl
  refine ⟨_, _, _, _, _, rfl, ?_, ?_, h3, any_i, any_i, .inl hr⟩
  · show ((regFs d && true) && true) = true
    rw [h1]
    rfl
  · show (rmB [d, .int W, .int row] && _) = false
    rw [hr]
    rfl
theorem ask_width {fs : List Fl} {W row w : Int} {s : Bool} {d : D} (hl : fs.length ≤ 1000) (h1 : regB d = true) (h2 : isCountB d = false) (h3 : anyD 4 d = true) : Ask fs W row (.tup [flsD fs, d, .int row, .int w, .str (sdS s)]) := by
  have hr : rmB [flsD fs, d, .int row] = false := by
    show ((floatsOf (flsD fs)).isSome && (isCountB d && true)) = false
    rw [h2]
    simp
  refine ⟨_, _, _, _, _, rfl, ?_, ?_, any_fls hl, h3, any_i, .inl hr⟩
  · show ((regFs (flsD fs) && (regB d && true)) && true) = true
    rw [regFs_fls hl, h1]
    rfl
  · show (rmB [flsD fs, d, .int row] && _) = false
    rw [hr]
    rfl
theorem ask_w {fs : List Fl} {W row : Int} {s : Bool} {d : D} (hl : fs.length ≤ 1000) (h1 : regB d = true) (h2 : isCountB d = false) : Ask fs W row (.tup [flsD fs, .int W, .int row, d, .str (sdS s)]) := by
  refine ⟨_, _, _, _, _, rfl, ?_, ?_, any_fls hl, any_i, any_i, .inr ⟨rfl, rfl, rfl⟩⟩
  · show ((regFs (flsD fs) && true) && (regB d && true)) = true
    rw [regFs_fls hl, h1]
    rfl
  · show (rmB [flsD fs, .int W, .int row] && (isCountB d && _)) = false
    rw [h2]
    simp
theorem ask_row {fs : List Fl} {W row w : Int} {s : Bool} {d : D} (hl : fs.length ≤ 1000) (h1 : regB d = true) (h2 : isWholeB d = false) (h3 : anyD 4 d = true) : Ask fs W row (.tup [flsD fs, .int W, d, .int w, .str (sdS s)]) := by
  have hr : rmB [flsD fs, .int W, d] = false := by
    show ((floatsOf (flsD fs)).isSome && (decide (0 ≤ W) && isWholeB d)) = false
    rw [h2]
    simp
  refine ⟨_, _, _, _, _, rfl, ?_, ?_, any_fls hl, any_i, h3, .inl hr⟩
  · show ((regFs (flsD fs) && (true && regB d)) && true) = true
    rw [regFs_fls hl, h1]
    rfl
  · show (rmB [flsD fs, .int W, d] && _) = false
    rw [hr]
    rfl
theorem ask_side {fs : List Fl} {W row w : Int} {d : D} (hl : fs.length ≤ 1000) (h1 : regB d = true) (h2 : isSideB d = false) : Ask fs W row (.tup [flsD fs, .int W, .int row, .int w, d]) := by
  refine ⟨_, _, _, _, _, rfl, ?_, ?_, any_fls hl, any_i, any_i, .inr ⟨rfl, rfl, rfl⟩⟩
  · show ((regFs (flsD fs) && true) && (true && regB d)) = true
    rw [regFs_fls hl, h1]
    rfl
  · show (rmB [flsD fs, .int W, .int row] && (isCountB (.int w) && isSideB d)) = false
    rw [h2]
    simp
theorem s_lc : ("Left" : Str) = S0 [76, 101, 102, 116] := by kernel_rfl
theorem s_ls : ("left " : Str) = S0 [108, 101, 102, 116, 32] := by kernel_rfl
theorem s_both : ("both" : Str) = S0 [98, 111, 116, 104] := by kernel_rfl
theorem s_emp : ("" : Str) = S0 [] := by kernel_rfl
def φ_law_refused : Spec := fun ds Q _ => ∃ fs W, ds = [.pool, flsD fs, .int W] ∧ Few fs ∧ 0 ≤ W ∧ W ≤ 60 ∧ Q (.bl true)
theorem ask_app {fs : List Fl} {W row : Int} {qs rs : List D} (h : ∀ q ∈ qs, Ask fs W row q) (h2 : ∀ q ∈ rs, Ask fs W row q) : ∀ q ∈ qs ++ rs, Ask fs W row q := fun q hq => by
  rcases List.mem_append.mp hq with hq | hq
  · exact h q hq
  · exact h2 q hq
abbrev N_law_refused : List Str := ["pool", "floats", "width", "row", "w", "side", "asked", "one", "is_room"]
def r_law_refused (Ξ : Xi) : PTS :=
  (ysSeq (ysAsgG (yTup (ylCons (yBin oSub (yCall φ_law_pick Ξ (ylCons (yVar 0) (ylCons (yC (.int 9)) ylNil))) (yC (.int 4))) (ylCons (yCall φ_law_pick Ξ (ylCons (yVar 0) (ylCons (yC (.int 6)) ylNil))) (ylCons (yIx (yNew (ynLst (ylCons (yC (.str ("left" : Str))) (ylCons (yC (.str ("right" : Str))) ylNil)))) (yCall φ_law_pick Ξ (ylCons (yVar 0) (ylCons (yC (.int 2)) ylNil)))) ylNil)))) (gTupY 3 [(gN 3), (gN 4), (gN 5)]))
  (ysSeq (ysAsgO (ynLc (yiSeq (yCall φ_law_wrong_floats Ξ (ylCons (yVar 0) (ylCons (yVar 1) ylNil)))) (gN 7) yYes (yTup (ylCons (yVar 7) (ylCons (yVar 2) (ylCons (yVar 3) (ylCons (yVar 4) (ylCons (yVar 5) ylNil)))))) [7]) 6)
  (ysSeq (ysFor (yiSeq (yNew (ynLst (ylCons (yIx (yNew (ynLst (ylCons (yNeg (yC (.int 1))) (ylCons (yC (.bl true)) (ylCons (yC .non) (ylCons (yC (.str ("3" : Str))) (ylCons (yTup (ylCons (yC (.int 3)) ylNil)) ylNil))))))) (yCall φ_law_pick Ξ (ylCons (yVar 0) (ylCons (yC (.int 5)) ylNil)))) (ylCons (yBin oSub (yNeg (yC (.int 1))) (yCall φ_law_pick Ξ (ylCons (yVar 0) (ylCons (yC (.int 9)) ylNil)))) ylNil))))) (gN 7)
  (ysAsgO (ynAdd (yVar 6) (yNew (ynLst (ylCons (yTup (ylCons (yVar 1) (ylCons (yVar 7) (ylCons (yVar 3) (ylCons (yVar 4) (ylCons (yVar 5) ylNil)))))) (ylCons (yTup (ylCons (yVar 1) (ylCons (yVar 2) (ylCons (yVar 3) (ylCons (yVar 7) (ylCons (yVar 5) ylNil)))))) ylNil))))) 6))
  (ysSeq (ysApp 6 (yTup (ylCons (yVar 1) (ylCons (yVar 2) (ylCons (yIx (yNew (ynLst (ylCons (yC .non) (ylCons (yC (.bl true)) (ylCons (yC (.bl false)) (ylCons (yC (.str ("0" : Str))) (ylCons (yNew (ynLst (ylCons (yC (.int 0)) ylNil))) ylNil))))))) (yCall φ_law_pick Ξ (ylCons (yVar 0) (ylCons (yC (.int 5)) ylNil)))) (ylCons (yVar 4) (ylCons (yVar 5) ylNil)))))))
  (ysSeq (ysFor (yiSeq (yNew (ynLst (ylCons (yIx (yNew (ynLst (ylCons (yC (.str ("up" : Str))) (ylCons (yC (.str ("" : Str))) (ylCons (yC (.str ("Left" : Str))) (ylCons (yC .non) (ylCons (yC (.int 0)) (ylCons (yC (.bl true)) (ylCons (yNew (ynLst (ylCons (yC (.str ("left" : Str))) ylNil))) (ylCons (yTup (ylCons (yC (.str ("right" : Str))) ylNil)) (ylCons (yC (.str ("left " : Str))) ylNil))))))))))) (yCall φ_law_pick Ξ (ylCons (yVar 0) (ylCons (yC (.int 9)) ylNil)))) (ylCons (yC (.str ("both" : Str))) ylNil))))) (gN 7)
  (ysApp 6 (yTup (ylCons (yVar 1) (ylCons (yVar 2) (ylCons (yVar 3) (ylCons (yVar 4) (ylCons (yVar 7) ylNil))))))))
  (ysSeq (ysFor (yiSeq (yVar 6)) (gN 7)
  (ysSeq (ysIf (yNot (yTru (yCall φ_law_same Ξ (ylCons (yCall φ_law_told Ξ (ylCons (yC (.str ("at" : Str))) (ylCons (yIx (yVar 7) (yC (.int 0))) (ylCons (yIx (yVar 7) (yC (.int 1))) (ylCons (yIx (yVar 7) (yC (.int 2))) (ylCons (yIx (yVar 7) (yC (.int 3))) (ylCons (yIx (yVar 7) (yC (.int 4))) ylNil))))))) (ylCons (yTup (ylCons (yC (.str ("refused" : Str))) (ylCons (yC (.bl true)) (ylCons (yC (.bl false)) ylNil)))) ylNil)))))
  (ysRet (yC (.bl false)))
  ysNext)
  (ysSeq (ysAsg (yAndV (yCall φ_law_same Ξ (ylCons (yIx (yVar 7) (yC (.int 0))) (ylCons (yVar 1) ylNil))) (yAndV (yCall φ_law_same Ξ (ylCons (yIx (yVar 7) (yC (.int 1))) (ylCons (yVar 2) ylNil))) (yCall φ_law_same Ξ (ylCons (yIx (yVar 7) (yC (.int 2))) (ylCons (yVar 3) ylNil))))) 8)
  (ysIf (yAnd (yNot (yTru (yVar 8))) (yNot (yTru (yCall φ_law_same Ξ (ylCons (yCall φ_law_told Ξ (ylCons (yC (.str ("room" : Str))) (ylCons (yIx (yVar 7) (yC (.int 0))) (ylCons (yIx (yVar 7) (yC (.int 1))) (ylCons (yIx (yVar 7) (yC (.int 2))) (ylCons (yC (.int 0)) (ylCons (yC (.str ("" : Str))) ylNil))))))) (ylCons (yTup (ylCons (yC (.str ("refused" : Str))) (ylCons (yC (.bl true)) (ylCons (yC (.bl false)) ylNil)))) ylNil))))))
  (ysRet (yC (.bl false)))
  ysNext))))
  (ysRet (yBin (oEq false) (yIx (yCall φ_law_told Ξ (ylCons (yC (.str ("at" : Str))) (ylCons (yBin oAdd (yVar 1) (yNew (ynLst (ylCons (yTup (ylCons (yVar 5) (ylCons (yC (.int 3)) (ylCons (yC (.int 3)) (ylCons (yBin oPow (yC (.int 10)) (yC (.int 9))) (ylCons (yBin oPow (yC (.int 10)) (yC (.int 9))) ylNil)))))) ylNil)))) (ylCons (yC (.int 0)) (ylCons (yVar 3) (ylCons (yC (.int 0)) (ylCons (yVar 5) ylNil))))))) (yC (.int 0))) (yC (.str ("told" : Str)))))))))))
theorem vc_law_refused (ds : List D) (Q' : D → Prop) (E' : Nat → Prop) (h : φ_law_refused ds Q' E') : r_law_refused (fun c _ => E' c) { nx := fun _ => Q' .non, rt := fun d _ => Q' d } (startE N_law_refused ds) := by
  obtain ⟨fs, W, rfl, few, w0, w1, h⟩ := h
  delta r_law_refused
  rw [s_left, s_right, s_up, s_lc, s_ls, s_both, s_emp, s_at, s_room]
  have hl : fs.length ≤ 1000 := by have := few.l; omega
  let I (i : Int) : Option S := some (.v (.int i))
  refine seq_post (fun ε => ∃ (row w : Int) (s : Bool), -4 ≤ row ∧ row ≤ 5 ∧ 0 ≤ w ∧ w ≤ 6 ∧ ε = [some (.v .pool), some (.v (flsD fs)), I W, I row, I w, some (.v (.str (sdS s))), none, none, none]) (fun K kk => ?_) ?_
  · intro r r0 r1 w v0 v1 q q0 q1
    exact pick_side q0 q1 fun s => kk _ ⟨r - 4, w, s, by omega, by omega, by omega, by omega, rfl⟩
  rintro _ ⟨row, w, s, r0, r1, v0, v1, rfl⟩
  let e (qs : List D) (o b : Option S) : PEnv := [some (.v .pool), some (.v (flsD fs)), I W, I row, I w, some (.v (.str (sdS s))), some (.o qs), o, b]
  refine seq_post (fun ε => ∃ qs, (∀ q ∈ qs, Ask fs W row q) ∧ qs.length ≤ 20 ∧ ε = e qs none none) (fun K kk => ?_) ?_
  · refine ⟨fs, rfl, few, fun es hes les => ?_⟩
    refine ⟨⟨trivial, trivial⟩, by omega, lc_map (Q := fun ds ε' => K (ε'.set 6 (some (.o ds)))) (fun d => .tup [d, .int W, .int row, .int w, .str (sdS s)]) (fun i d hd K N hk => ?_) ?_⟩
    · exact ⟨rfl, hk⟩
    refine kk _ ⟨es.map fun d => .tup [d, .int W, .int row, .int w, .str (sdS s)], fun q hq => ?_, by rw [List.length_map]; exact les, rfl⟩
    obtain ⟨d, hd, rfl⟩ := List.mem_map.mp hq
    exact ask_floats (hes d hd)
  rintro _ ⟨qs, hqs, lqs, rfl⟩
  refine seq_post (fun ε => ∃ qs o, (∀ q ∈ qs, Ask fs W row q) ∧ qs.length ≤ 24 ∧ ε = e qs o none) (fun K kk => ?_) ?_
  · intro q q0 q1
    have five : ∀ d ∈ [D.int (-1), .bl true, .non, .str ("3" : Str), .tup [.int 3]], regB d = true ∧ isCountB d = false ∧ anyD 4 d = true := by
      refine List.forall_mem_cons.2 ⟨⟨rfl, rfl, any_i⟩, ?_⟩
      refine List.forall_mem_cons.2 ⟨⟨rfl, rfl, by unfold anyD; rfl⟩, ?_⟩
      refine List.forall_mem_cons.2 ⟨⟨rfl, rfl, by unfold anyD; rfl⟩, ?_⟩
      refine List.forall_mem_cons.2 ⟨⟨rfl, rfl, by unfold anyD; rfl⟩, ?_⟩
      refine List.forall_mem_cons.2 ⟨⟨rfl, rfl, by unfold anyD anyDs anyDs anyD; rfl⟩, ?_⟩
      exact List.forall_mem_nil _
    refine pick_of q0 q1 fun d hd => ?_
    obtain ⟨d1, d2, d3⟩ := five d hd
    intro p p0 p1
    have np : isCountB (.int (-1 - p)) = false := decide_eq_false (by omega)
    have good : ∀ x ∈ [d, D.int (-1 - p)], regB x = true ∧ isCountB x = false ∧ anyD 4 x = true :=
      List.forall_mem_cons.2 ⟨⟨d1, d2, d3⟩, List.forall_mem_cons.2 ⟨⟨rfl, np, any_i⟩, List.forall_mem_nil _⟩⟩
    refine ⟨fun i ε => ∃ qs o, (∀ q ∈ qs, Ask fs W row q) ∧ qs.length ≤ 20 + 2 * i ∧ ε = e qs o none, ⟨qs, none, hqs, lqs, rfl⟩, fun i x ε hi hx w' => ?_, fun ε w' => kk ε w'⟩
    obtain ⟨qs, o, hqs, lqs, rfl⟩ := w'
    have hi2 : i < 2 := hi
    obtain ⟨g1, g2, g3⟩ := good x (List.mem_of_getElem? hx)
    refine gd_of (show qs.length + 2 ≤ 16777216 by omega) ?_
    refine ⟨qs ++ [.tup [flsD fs, x, .int row, .int w, .str (sdS s)], .tup [flsD fs, .int W, .int row, x, .str (sdS s)]], some (.v x), ask_app hqs (List.forall_mem_cons.2 ⟨ask_width hl g1 g2 g3, List.forall_mem_cons.2 ⟨ask_w hl g1 g2, List.forall_mem_nil _⟩⟩), ?_, rfl⟩
    rw [List.length_append]
    show qs.length + 2 ≤ 20 + 2 * (i + 1)
    omega
  rintro _ ⟨qs, o, hqs, lqs, rfl⟩
  refine seq_post (fun ε => ∃ qs o, (∀ q ∈ qs, Ask fs W row q) ∧ qs.length ≤ 25 ∧ ε = e qs o none) (fun K kk => ?_) ?_
  · intro q q0 q1
    have five : ∀ d ∈ [D.non, .bl true, .bl false, .str ("0" : Str), .lst [.int 0]], regB d = true ∧ isWholeB d = false ∧ anyD 4 d = true := by
      refine List.forall_mem_cons.2 ⟨⟨rfl, rfl, by unfold anyD; rfl⟩, ?_⟩
      refine List.forall_mem_cons.2 ⟨⟨rfl, rfl, by unfold anyD; rfl⟩, ?_⟩
      refine List.forall_mem_cons.2 ⟨⟨rfl, rfl, by unfold anyD; rfl⟩, ?_⟩
      refine List.forall_mem_cons.2 ⟨⟨rfl, rfl, by unfold anyD; rfl⟩, ?_⟩
      refine List.forall_mem_cons.2 ⟨⟨rfl, rfl, by unfold anyD anyDs anyDs anyD; rfl⟩, ?_⟩
      exact List.forall_mem_nil _
    refine pick_of q0 q1 fun d hd => ?_
    obtain ⟨d1, d2, d3⟩ := five d hd
    refine gd_of (show qs.length < 16777216 by omega) ?_
    refine kk _ ⟨qs ++ [.tup [flsD fs, .int W, d, .int w, .str (sdS s)]], o, ask_app hqs (List.forall_mem_cons.2 ⟨ask_row hl d1 d2 d3, List.forall_mem_nil _⟩), ?_, rfl⟩
    rw [List.length_append]
    show qs.length + 1 ≤ 25
    omega
  rintro _ ⟨qs, o, hqs, lqs, rfl⟩
  refine seq_post (fun ε => ∃ qs o, (∀ q ∈ qs, Ask fs W row q) ∧ qs.length ≤ 27 ∧ ε = e qs o none) (fun K kk => ?_) ?_
  · intro q q0 q1
    have nine : ∀ d ∈ [D.str (S0 [117, 112]), .str (S0 []), .str (S0 [76, 101, 102, 116]), .non, .int 0, .bl true, .lst [.str sL], .tup [.str sR], .str (S0 [108, 101, 102, 116, 32])], regB d = true ∧ isSideB d = false := by
      repeat' (first | exact List.forall_mem_nil _ | refine List.forall_mem_cons.2 ⟨⟨rfl, by first | rfl | decide⟩, ?_⟩)
    refine pick_of q0 q1 fun d hd => ?_
    have good : ∀ x ∈ [d, D.str (S0 [98, 111, 116, 104])], regB x = true ∧ isSideB x = false :=
      List.forall_mem_cons.2 ⟨nine d hd, List.forall_mem_cons.2 ⟨⟨rfl, by decide⟩, List.forall_mem_nil _⟩⟩
    refine ⟨fun i ε => ∃ qs o, (∀ q ∈ qs, Ask fs W row q) ∧ qs.length ≤ 25 + i ∧ ε = e qs o none, ⟨qs, o, hqs, lqs, rfl⟩, fun i x ε hi hx w' => ?_, fun ε w' => kk ε w'⟩
    obtain ⟨qs, o, hqs, lqs, rfl⟩ := w'
    have hi2 : i < 2 := hi
    obtain ⟨g1, g2⟩ := good x (List.mem_of_getElem? hx)
    refine gd_of (show qs.length < 16777216 by omega) ?_
    refine ⟨qs ++ [.tup [flsD fs, .int W, .int row, .int w, x]], some (.v x), ask_app hqs (List.forall_mem_cons.2 ⟨ask_side hl g1 g2, List.forall_mem_nil _⟩), ?_, rfl⟩
    rw [List.length_append]
    show qs.length + 1 ≤ 25 + (i + 1)
    omega
  rintro _ ⟨qs, o, hqs, lqs, rfl⟩
  have plr : plainD 4 refD = true := by
    unfold refD plainD plainDs plainDs plainDs plainDs plainD
    rfl
  let f (o b : Option S) : PEnv := [some (.v .pool), some (.v (flsD fs)), I W, I row, I w, some (.v (.str (sdS s))), some (.v (.lst qs)), o, b]
  refine seq_post (fun ε => ∃ o b, ε = f o b) (fun K kk => ⟨fun i ε => ∃ o b, ε = f o b, ⟨_, _, rfl⟩, fun i q ε hi hq w' => ?_, fun ε w' => kk ε w'⟩) ?_
  · obtain ⟨o, b, rfl⟩ := w'
    obtain ⟨d0, d1, d2, d3, d4, rfl, a1, a2, a3, a4, a5, a6⟩ := (hqs q (List.mem_of_getElem? hq)).ex
    refine seq_step (f (some (.v (.tup [d0, d1, d2, d3, d4]))) b) (fun K kk => ?_) ?_
    · refine .inl ⟨rfl, a1, fun _ => ?_, fun e => by rw [a2] at e; cases e⟩
      refine ⟨refD, refD, rfl, any_plain plr, plr, ?_⟩
      rw [same_refl plr]
      exact kk
    have plf := plain_fls hl
    have pli : ∀ i : Int, plainD 4 (.int i) = true := fun i => by unfold plainD; rfl
    refine seq_post (fun ε => ∃ bb, (bb = true ∨ rmB [d0, d1, d2] = false) ∧ ε = f (some (.v (.tup [d0, d1, d2, d3, d4]))) (some (.v (.bl bb)))) (fun K kk => ?_) ?_
    · have out : ∀ bb, (rmB [d0, d1, d2] = false ∨ bb = true) → K (f (some (.v (.tup [d0, d1, d2, d3, d4]))) (some (.v (.bl bb)))) := fun bb z => kk _ ⟨bb, z.symm, rfl⟩
      refine ⟨d0, flsD fs, rfl, a3, plf, ?_⟩
      cases b0 : sameB 4 d0 (flsD fs) with
      | false => exact out false (a6.imp id fun z => by rw [z.1, same_refl plf] at b0; cases b0)
      | true =>
        refine ⟨d1, .int W, rfl, a4, pli _, ?_⟩
        cases b1 : sameB 4 d1 (.int W) with
        | false => exact out false (a6.imp id fun z => by rw [z.2.1, same_refl (pli _)] at b1; cases b1)
        | true =>
          refine ⟨d2, .int row, rfl, a5, pli _, ?_⟩
          exact out _ (a6.imp id fun z => by rw [z.2.2]; exact same_refl (pli _))
    rintro _ ⟨bb, hb, rfl⟩
    cases bb with
    | true => exact ⟨_, _, rfl⟩
    | false =>
      have hr : rmB [d0, d1, d2] = false := hb.resolve_left (by decide)
      obtain ⟨a7, _⟩ := Bool.and_eq_true_iff.mp (show (regR [d0, d1, d2] && _) = true from a1)
      refine .inr ⟨rfl, a7, fun _ => ?_, fun e => by rw [hr] at e; cases e⟩
      refine ⟨refD, refD, rfl, any_plain plr, plr, ?_⟩
      rw [same_refl plr]
      exact ⟨_, _, rfl⟩
  rintro _ ⟨o, b, rfl⟩
  have okg : Okf (fs ++ [(⟨s, 3, 3, 10 ^ Int.toNat 9, 10 ^ Int.toNat 9⟩ : Fl)]) := okf_snoc few.ok (fun f hf => Int.le_trans (few.sm f hf).2.2.2.2.1 (show (100000 : Int) ≤ 10 ^ Int.toNat 9 by decide)) (Int.le_refl _) (Int.le_refl _)
  have lg : (fs ++ [(⟨s, 3, 3, 10 ^ Int.toNat 9, 10 ^ Int.toNat 9⟩ : Fl)]).length ≤ 1000 := by rw [List.length_append]; have := few.l; show fs.length + 1 ≤ 1000; omega
  have eg : D.lst (fs.map flD ++ [flD ⟨s, 3, 3, 10 ^ Int.toNat 9, 10 ^ Int.toNat 9⟩]) = flsD (fs ++ [(⟨s, 3, 3, 10 ^ Int.toNat 9, 10 ^ Int.toNat 9⟩ : Fl)]) := by unfold flsD; rw [List.map_append]; rfl
  refine gd_of (show (fs.map flD).length + 1 ≤ 16777216 by rw [List.length_map]; omega) ?_
  refine .inl ⟨rfl, ?_, fun e => ?_, fun _ fs' W' c' w' s' r' hin fr' => ?_⟩
  · exact (congrArg (fun z => regA [z, .int 0, .int row, .int 0, .str (sdS s)]) eg).trans (reg_at lg)
  · exact (no_at okg (Int.le_refl 0) (Int.le_refl 0) (((congrArg (fun z => atB [z, .int 0, .int row, .int 0, .str (sdS s)]) eg).symm).trans e)).elim
  · show Q' (.bl (decide (("told" : Str) = ("told" : Str))))
    rw [decide_eq_true rfl]
    exact h

end PL.K49

set_option Elab.async false
set_option linter.all false
set_option autoImplicit false
set_option maxRecDepth 100000
set_option maxHeartbeats 1000000
namespace PL.K49
open PySem PySem.Spec PyProof.Rows L2
local macro_rules | `(tactic| walk_at "y") => `(tactic| conv => whnf)
def φ_law : Spec := φLaw
abbrev N_law : List Str := ["script", "pool", "great", "turn", "width", "many", "floats", "again", "side", "ceiling"]
def r_law (Ξ : Xi) : PTS :=
  (ysSeq (ysAsg (yCall φ_law_stream Ξ (ylCons (yVar 0) ylNil)) 1)
  (ysSeq (ysAsg (yBin (oEq false) (yCall φ_law_pick Ξ (ylCons (yVar 1) (ylCons (yC (.int 30)) ylNil))) (yC (.int 5))) 2)
  (ysSeq (ysFor (yiRg1 (ylCons (yC (.int 3)) ylNil)) (gN 3)
  (ysSeq (ysAsg (yIx (yNew (ynLst (ylCons (yBin oAdd (yC (.int 1)) (yCall φ_law_pick Ξ (ylCons (yVar 1) (ylCons (yC (.int 30)) ylNil)))) (ylCons (yBin oAdd (yC (.int 1)) (yCall φ_law_pick Ξ (ylCons (yVar 1) (ylCons (yC (.int 30)) ylNil)))) (ylCons (yCall φ_law_pick Ξ (ylCons (yVar 1) (ylCons (yC (.int 4)) ylNil))) ylNil))))) (yCall φ_law_pick Ξ (ylCons (yVar 1) (ylCons (yC (.int 3)) ylNil)))) 4)
  (ysSeq (ysAsg (yIx (yNew (ynLst (ylCons (yCall φ_law_pick Ξ (ylCons (yVar 1) (ylCons (yC (.int 13)) ylNil))) (ylCons (yC (.int 60)) ylNil)))) (yCB oInt (ylCons (yAndV (yVar 2) (yBin (oEq false) (yVar 3) (yC (.int 1)))) ylNil))) 5)
  (ysSeq (ysIf (yNot (yTru (yCall φ_law_row_right Ξ (ylCons (yVar 1) (ylCons (yVar 4) (ylCons (yVar 5) (ylCons (yCall φ_law_pick Ξ (ylCons (yVar 1) (ylCons (yC (.int 2)) ylNil))) ylNil)))))))
  (ysRet (yC (.bl false)))
  ysNext)
  (ysSeq (ysAsg (yCall φ_law_drawn Ξ (ylCons (yVar 1) (ylCons (yVar 4) ylNil))) 6)
  (ysSeq (ysFor (yiRg1 (ylCons (yC (.int 2)) ylNil)) (gN 7)
  (ysSeq (ysPar 8 9 (yxE (yIx (yNew (ynLst (ylCons (yC (.str ("left" : Str))) (ylCons (yC (.str ("right" : Str))) ylNil)))) (yCall φ_law_pick Ξ (ylCons (yVar 1) (ylCons (yC (.int 2)) ylNil))))) (yxE (yBin oSub (yCall φ_law_pick Ξ (ylCons (yVar 1) (ylCons (yC (.int 24)) ylNil))) (yC (.int 9)))))
  (ysIf (yNot (yTru (yCall φ_law_is_right Ξ (ylCons (yVar 1) (ylCons (yVar 6) (ylCons (yVar 4) (ylCons (yVar 9) (ylCons (yCall φ_law_pick Ξ (ylCons (yVar 1) (ylCons (yBin oAdd (yVar 4) (yC (.int 3))) ylNil))) (ylCons (yVar 8) ylNil)))))))))
  (ysRet (yC (.bl false)))
  ysNext)))
  (ysIf (yNot (yTru (yCall φ_law_refused Ξ (ylCons (yVar 1) (ylCons (yVar 6) (ylCons (yVar 4) ylNil))))))
  (ysRet (yC (.bl false)))
  ysNext)))))))
  (ysRet (yC (.bl true))))))
theorem vc_law (ds : List D) (Q' : D → Prop) (E' : Nat → Prop) (h : φ_law ds Q' E') : r_law (fun c _ => E' c) { nx := fun _ => Q' .non, rt := fun d _ => Q' d } (startE N_law ds) := by
  unfold φ_law φLaw at h
  split at h
  · obtain ⟨xs, rfl, hx, h⟩ := h
    delta r_law
    rw [s_left, s_right]
    let I (i : Int) : Option S := some (.v (.int i))
    let e (g : Bool) (tu wi ma fl ag si ce : Option S) : PEnv := [some (.v (.frl (xs.map D.int))), some (.v .pool), some (.v (.bl g)), tu, wi, ma, fl, ag, si, ce]
    refine seq_step [some (.v (.frl (xs.map D.int))), some (.v .pool), none, none, none, none, none, none, none, none] (fun K k => ⟨⟨xs, rfl, hx⟩, k⟩) ?_
    refine seq_post (fun ε => ∃ g, ε = e g none none none none none none none) (fun K kk => fun r r0 r1 => kk _ ⟨_, rfl⟩) ?_
    rintro _ ⟨g, rfl⟩
    refine seq_post (fun ε => True) (fun K kk => ⟨fun i ε => ∃ tu wi ma fl ag si ce, ε = e g tu wi ma fl ag si ce, ⟨_, _, _, _, _, _, _, rfl⟩, fun i d ε hi hd w' => ?_, fun ε w' => kk ε trivial⟩) fun ε _ => h
    obtain ⟨tu, wi, ma, fl, ag, si, ce, rfl⟩ := w'
    have hdd := (rangeD_get hd).2
    subst hdd
    refine seq_post (fun ε => ∃ W : Int, 0 ≤ W ∧ W ≤ 31 ∧ ε = e g (I (0 + (i : Int))) (I W) ma fl ag si ce) (fun K kk => ?_) ?_
    · intro a a0 a1 b b0 b1 c c0 c1 q q0 q1
      exact pick_ints (xs := [1 + a, 1 + b, c]) q0 q1 fun v hv => kk _ ⟨v, by simp at hv; omega, by simp at hv; omega, rfl⟩
    rintro _ ⟨W, w0, w1, rfl⟩
    refine seq_post (fun ε => ∃ m : Int, 0 ≤ m ∧ m ≤ 60 ∧ ε = e g (I (0 + (i : Int))) (I W) (I m) fl ag si ce) (fun K kk => ?_) ?_
    · intro a a0 a1
      have two : ∀ b : Bool, opt (atI [D.int a, .int 60] (if b = true then 1 else 0)) fun d => K (e g (I (0 + (i : Int))) (I W) (some (.v d)) fl ag si ce) := fun b => by
        cases b
        · exact opt_of (a := D.int a) rfl (kk _ ⟨a, a0, by omega, rfl⟩)
        · exact opt_of (a := D.int 60) rfl (kk _ ⟨60, by decide, by decide, rfl⟩)
      cases g with
      | false => exact two false
      | true => exact two _
    rintro _ ⟨m, m0, m1, rfl⟩
    refine seq_step (e g (I (0 + (i : Int))) (I W) (I m) fl ag si ce) (fun K kk => fun q q0 q1 => ⟨W, m, q, rfl, w0, by omega, m0, m1, by omega, kk⟩) ?_
    refine seq_post (fun ε => ∃ fs, Few fs ∧ ε = e g (I (0 + (i : Int))) (I W) (I m) (some (.v (flsD fs))) ag si ce) (fun K kk => ⟨W, rfl, w0, by omega, fun fs few => kk _ ⟨fs, few, rfl⟩⟩) ?_
    rintro _ ⟨fs, few, rfl⟩
    refine seq_post (fun ε => ∃ ag si ce, ε = e g (I (0 + (i : Int))) (I W) (I m) (some (.v (flsD fs))) ag si ce) (fun K kk => ⟨fun j ε => ∃ ag si ce, ε = e g (I (0 + (i : Int))) (I W) (I m) (some (.v (flsD fs))) ag si ce, ⟨_, _, _, rfl⟩, fun j d ε hj hd w' => ?_, fun ε w' => kk ε w'⟩) ?_
    · obtain ⟨ag, si, ce, rfl⟩ := w'
      refine seq_post (fun ε => ∃ ag s c, -9 ≤ c ∧ c ≤ 24 ∧ ε = e g (I (0 + (i : Int))) (I W) (I m) (some (.v (flsD fs))) ag (some (.v (.str (sdS s)))) (I c)) (fun K kk => fun q q0 q1 => pick_side q0 q1 fun s => fun c c0 c1 => kk _ ⟨_, s, c - 9, by omega, by omega, rfl⟩) ?_
      rintro _ ⟨ag, s, c, c0, c1, rfl⟩
      refine gd_of (show (0 : Int) < W + 3 by omega) ?_
      intro q q0 q1
      exact ⟨fs, W, c, q, s, rfl, few.all w0 (by omega) (by omega) (by omega) q0 (by omega), _, _, _, rfl⟩
    rintro _ ⟨ag, si, ce, rfl⟩
    exact ⟨fs, W, rfl, few, w0, by omega, _, _, _, _, _, _, _, rfl⟩
  · exact h.elim
theorem len_between (ds : List D) (Q : D → Prop) (E : Nat → Prop) (h : φ_between ds Q E) : ds.length = 4 := by
  obtain ⟨fs, lo, hi, row, rfl, _⟩ := h
  rfl
theorem len_goes_in (ds : List D) (Q : D → Prop) (E : Nat → Prop) (h : φ_goes_in ds Q E) : ds.length = 5 := by
  obtain ⟨fs, lo, hi, row, w, rfl, _⟩ := h
  rfl
theorem len_first_row (ds : List D) (Q : D → Prop) (E : Nat → Prop) (h : φ_first_row ds Q E) : ds.length = 5 := by
  obtain ⟨fs, lo, hi, c, w, rfl, _⟩ := h
  rfl
theorem len_float_place (ds : List D) (Q : D → Prop) (E : Nat → Prop) (h : φ_float_place ds Q E) : ds.length = 6 := by
  obtain ⟨fs, lo, hi, c, w, s, rfl, _⟩ := h
  rfl
theorem len_law_between (ds : List D) (Q : D → Prop) (E : Nat → Prop) (h : φ_law_between ds Q E) : ds.length = 3 := by
  obtain ⟨fs, W, row, rfl, _⟩ := h
  rfl
theorem len_law_place (ds : List D) (Q : D → Prop) (E : Nat → Prop) (h : φ_law_place ds Q E) : ds.length = 5 := by
  obtain ⟨fs, W, c, w, s, rfl, _⟩ := h
  rfl
theorem len_law_mirrored (ds : List D) (Q : D → Prop) (E : Nat → Prop) (h : φ_law_mirrored ds Q E) : ds.length = 2 := by
  obtain ⟨fs, W, rfl, _⟩ := h
  rfl
theorem len_law_scaled (ds : List D) (Q : D → Prop) (E : Nat → Prop) (h : φ_law_scaled ds Q E) : ds.length = 2 := by
  obtain ⟨fs, k, rfl, _⟩ := h
  rfl
theorem len_law_is_right (ds : List D) (Q : D → Prop) (E : Nat → Prop) (h : φ_law_is_right ds Q E) : ds.length = 6 := by
  obtain ⟨fs, W, c, w, s, rfl, _⟩ := h
  rfl
theorem len_law_are_apart (ds : List D) (Q : D → Prop) (E : Nat → Prop) (h : φ_law_are_apart ds Q E) : ds.length = 1 := by
  obtain ⟨fs, rfl, _⟩ := h
  rfl
theorem len_law_row_right (ds : List D) (Q : D → Prop) (E : Nat → Prop) (h : φ_law_row_right ds Q E) : ds.length = 4 := by
  obtain ⟨W, many, wider, rfl, _⟩ := h
  rfl
theorem len_law_drawn (ds : List D) (Q : D → Prop) (E : Nat → Prop) (h : φ_law_drawn ds Q E) : ds.length = 2 := by
  obtain ⟨W, rfl, _⟩ := h
  rfl
theorem len_law_wrong_floats (ds : List D) (Q : D → Prop) (E : Nat → Prop) (h : φ_law_wrong_floats ds Q E) : ds.length = 2 := by
  obtain ⟨fs, rfl, _⟩ := h
  rfl
theorem len_law_refused (ds : List D) (Q : D → Prop) (E : Nat → Prop) (h : φ_law_refused ds Q E) : ds.length = 3 := by
  obtain ⟨fs, W, rfl, _⟩ := h
  rfl

end PL.K49

set_option Elab.async false
set_option linter.all false
set_option autoImplicit false
set_option maxRecDepth 100000
set_option maxHeartbeats 2000000
namespace PL.K49
open PySem PySem.Spec PyProof.Rows L2
def topS (i : Nat) : Stmt := PySem.Challenge.pw_pageseen_k49_whole_floats_in_a_room.main.body.getD i (.Pass ⟨0, 0, 0, 0⟩)
abbrev s_is_whole : Stmt := topS 3
abbrev s_is_count : Stmt := topS 4
abbrev s_is_float : Stmt := topS 5
abbrev s_are_floats : Stmt := topS 6
abbrev s_between : Stmt := topS 7
abbrev s_goes_in : Stmt := topS 8
abbrev s_first_row : Stmt := topS 9
abbrev s_float_place : Stmt := topS 10
abbrev s_check_room : Stmt := topS 16
abbrev s_float_at : Stmt := topS 17
abbrev s_room_at : Stmt := topS 18
abbrev s_law_stream : Stmt := topS 20
abbrev s_law_pick : Stmt := topS 21
abbrev s_law_index : Stmt := topS 22
abbrev s_law_same : Stmt := topS 23
abbrev s_law_between : Stmt := topS 24
abbrev s_law_place : Stmt := topS 25
abbrev s_law_mirrored : Stmt := topS 26
abbrev s_law_scaled : Stmt := topS 27
abbrev s_law_told : Stmt := topS 28
abbrev s_law_is_right : Stmt := topS 29
abbrev s_law_are_apart : Stmt := topS 30
abbrev s_law_row_right : Stmt := topS 31
abbrev s_law_drawn : Stmt := topS 32
abbrev s_law_wrong_floats : Stmt := topS 33
abbrev s_law_refused : Stmt := topS 34
abbrev s_law : Stmt := topS 35
/-- what the head tells -/
structure Txt (K : PySem.W.Frag) (mg : Str → Option Value) : Prop where
  g_is_whole : mg "is_whole" = some (.ref (He.ga K "is_whole"))
  d_is_whole : ∃ fd, FunD K "is_whole" "is_whole" (defArgs s_is_whole) (defBody s_is_whole) (defScope s_is_whole) [] [] (He.ga K "is_whole") fd
  g_is_count : mg "is_count" = some (.ref (He.ga K "is_count"))
  d_is_count : ∃ fd, FunD K "is_count" "is_count" (defArgs s_is_count) (defBody s_is_count) (defScope s_is_count) [] [] (He.ga K "is_count") fd
  g_is_float : mg "is_float" = some (.ref (He.ga K "is_float"))
  d_is_float : ∃ fd, FunD K "is_float" "is_float" (defArgs s_is_float) (defBody s_is_float) (defScope s_is_float) [] [] (He.ga K "is_float") fd
  g_are_floats : mg "are_floats" = some (.ref (He.ga K "are_floats"))
  d_are_floats : ∃ fd, FunD K "are_floats" "are_floats" (defArgs s_are_floats) (defBody s_are_floats) (defScope s_are_floats) [] [] (He.ga K "are_floats") fd
  g_between : mg "between" = some (.ref (He.ga K "between"))
  d_between : ∃ fd, FunD K "between" "between" (defArgs s_between) (defBody s_between) (defScope s_between) [] [] (He.ga K "between") fd
  g_goes_in : mg "goes_in" = some (.ref (He.ga K "goes_in"))
  d_goes_in : ∃ fd, FunD K "goes_in" "goes_in" (defArgs s_goes_in) (defBody s_goes_in) (defScope s_goes_in) [] [] (He.ga K "goes_in") fd
  g_first_row : mg "first_row" = some (.ref (He.ga K "first_row"))
  d_first_row : ∃ fd, FunD K "first_row" "first_row" (defArgs s_first_row) (defBody s_first_row) (defScope s_first_row) [] [] (He.ga K "first_row") fd
  g_float_place : mg "float_place" = some (.ref (He.ga K "float_place"))
  d_float_place : ∃ fd, FunD K "float_place" "float_place" (defArgs s_float_place) (defBody s_float_place) (defScope s_float_place) [] [] (He.ga K "float_place") fd
  g_check_room : mg "check_room" = some (.ref (He.ga K "check_room"))
  d_check_room : ∃ fd, FunD K "check_room" "check_room" (defArgs s_check_room) (defBody s_check_room) (defScope s_check_room) [] [] (He.ga K "check_room") fd
  g_float_at : mg "float_at" = some (.ref (He.ga K "float_at"))
  d_float_at : ∃ fd, FunD K "float_at" "float_at" (defArgs s_float_at) (defBody s_float_at) (defScope s_float_at) [] [] (He.ga K "float_at") fd
  g_room_at : mg "room_at" = some (.ref (He.ga K "room_at"))
  d_room_at : ∃ fd, FunD K "room_at" "room_at" (defArgs s_room_at) (defBody s_room_at) (defScope s_room_at) [] [] (He.ga K "room_at") fd
  g_law_stream : mg "_law_stream" = some (.ref (He.ga K "_law_stream"))
  d_law_stream : ∃ fd, FunD K "_law_stream" "_law_stream" (defArgs s_law_stream) (defBody s_law_stream) (defScope s_law_stream) [] [] (He.ga K "_law_stream") fd
  g_law_pick : mg "_law_pick" = some (.ref (He.ga K "_law_pick"))
  d_law_pick : ∃ fd, FunD K "_law_pick" "_law_pick" (defArgs s_law_pick) (defBody s_law_pick) (defScope s_law_pick) [] [] (He.ga K "_law_pick") fd
  g_law_index : mg "_law_index" = some (.ref (He.ga K "_law_index"))
  d_law_index : ∃ fd, FunD K "_law_index" "_law_index" (defArgs s_law_index) (defBody s_law_index) (defScope s_law_index) [] [] (He.ga K "_law_index") fd
  g_law_same : mg "_law_same" = some (.ref (He.ga K "_law_same"))
  d_law_same : ∃ fd, FunD K "_law_same" "_law_same" (defArgs s_law_same) (defBody s_law_same) (defScope s_law_same) [] [] (He.ga K "_law_same") fd
  g_law_between : mg "_law_between" = some (.ref (He.ga K "_law_between"))
  d_law_between : ∃ fd, FunD K "_law_between" "_law_between" (defArgs s_law_between) (defBody s_law_between) (defScope s_law_between) [] [] (He.ga K "_law_between") fd
  g_law_place : mg "_law_place" = some (.ref (He.ga K "_law_place"))
  d_law_place : ∃ fd, FunD K "_law_place" "_law_place" (defArgs s_law_place) (defBody s_law_place) (defScope s_law_place) [] [] (He.ga K "_law_place") fd
  g_law_mirrored : mg "_law_mirrored" = some (.ref (He.ga K "_law_mirrored"))
  d_law_mirrored : ∃ fd, FunD K "_law_mirrored" "_law_mirrored" (defArgs s_law_mirrored) (defBody s_law_mirrored) (defScope s_law_mirrored) [] [] (He.ga K "_law_mirrored") fd
  g_law_scaled : mg "_law_scaled" = some (.ref (He.ga K "_law_scaled"))
  d_law_scaled : ∃ fd, FunD K "_law_scaled" "_law_scaled" (defArgs s_law_scaled) (defBody s_law_scaled) (defScope s_law_scaled) [] [] (He.ga K "_law_scaled") fd
  g_law_told : mg "_law_told" = some (.ref (He.ga K "_law_told"))
  d_law_told : ∃ fd, FunD K "_law_told" "_law_told" (defArgs s_law_told) (defBody s_law_told) (defScope s_law_told) [] [] (He.ga K "_law_told") fd
  g_law_is_right : mg "_law_is_right" = some (.ref (He.ga K "_law_is_right"))
  d_law_is_right : ∃ fd, FunD K "_law_is_right" "_law_is_right" (defArgs s_law_is_right) (defBody s_law_is_right) (defScope s_law_is_right) [] [] (He.ga K "_law_is_right") fd
  g_law_are_apart : mg "_law_are_apart" = some (.ref (He.ga K "_law_are_apart"))
  d_law_are_apart : ∃ fd, FunD K "_law_are_apart" "_law_are_apart" (defArgs s_law_are_apart) (defBody s_law_are_apart) (defScope s_law_are_apart) [] [] (He.ga K "_law_are_apart") fd
  g_law_row_right : mg "_law_row_right" = some (.ref (He.ga K "_law_row_right"))
  d_law_row_right : ∃ fd, FunD K "_law_row_right" "_law_row_right" (defArgs s_law_row_right) (defBody s_law_row_right) (defScope s_law_row_right) [] [] (He.ga K "_law_row_right") fd
  g_law_drawn : mg "_law_drawn" = some (.ref (He.ga K "_law_drawn"))
  d_law_drawn : ∃ fd, FunD K "_law_drawn" "_law_drawn" (defArgs s_law_drawn) (defBody s_law_drawn) (defScope s_law_drawn) [] [] (He.ga K "_law_drawn") fd
  g_law_wrong_floats : mg "_law_wrong_floats" = some (.ref (He.ga K "_law_wrong_floats"))
  d_law_wrong_floats : ∃ fd, FunD K "_law_wrong_floats" "_law_wrong_floats" (defArgs s_law_wrong_floats) (defBody s_law_wrong_floats) (defScope s_law_wrong_floats) [] [] (He.ga K "_law_wrong_floats") fd
  g_law_refused : mg "_law_refused" = some (.ref (He.ga K "_law_refused"))
  d_law_refused : ∃ fd, FunD K "_law_refused" "_law_refused" (defArgs s_law_refused) (defBody s_law_refused) (defScope s_law_refused) [] [] (He.ga K "_law_refused") fd
  g_law : mg "law" = some (.ref (He.ga K "law"))
  d_law : ∃ fd, FunD K "law" "law" (defArgs s_law) (defBody s_law) (defScope s_law) [] [] (He.ga K "law") fd
  n_all : mg "all" = none
  n_bool : mg "bool" = none
  n_dict : mg "dict" = none
  n_int : mg "int" = none
  n_isinstance : mg "isinstance" = none
  n_len : mg "len" = none
  n_list : mg "list" = none
  n_max : mg "max" = none
  n_min : mg "min" = none
  n_range : mg "range" = none
  n_sorted : mg "sorted" = none
  n_str : mg "str" = none
  n_tuple : mg "tuple" = none
  c_LEFT : GlS mg "LEFT" ("left" : Str)
  c_RIGHT : GlS mg "RIGHT" ("right" : Str)
  g_PageError : mg "PageError" = some (.ref (He.ga K "PageError"))
  g_BadList : mg "BadList" = some (.ref (He.ga K "BadList"))
  g_BadMarks : mg "BadMarks" = some (.ref (He.ga K "BadMarks"))
  x_PageError : PySem.W.excIn K (He.ga K "PageError") exBase "Exception.__new__" = true
  k_PageError : PySem.W.keepIn K (.ref (He.ga K "PageError")) = true
  s_PageError : PySem.W.subIn K (.ref (He.ga K "PageError")) (.type "BaseException") = some true
  t_PageError : PySem.W.typeIn K (.ref (He.ga K "PageError")) = some (.type "type")
  x_BadList : PySem.W.excIn K (He.ga K "BadList") exBase "Exception.__new__" = true
  k_BadList : PySem.W.keepIn K (.ref (He.ga K "BadList")) = true
  s_BadList : PySem.W.subIn K (.ref (He.ga K "BadList")) (.type "BaseException") = some true
  t_BadList : PySem.W.typeIn K (.ref (He.ga K "BadList")) = some (.type "type")
  x_BadMarks : PySem.W.excIn K (He.ga K "BadMarks") exBase "Exception.__new__" = true
  k_BadMarks : PySem.W.keepIn K (.ref (He.ga K "BadMarks")) = true
  s_BadMarks : PySem.W.subIn K (.ref (He.ga K "BadMarks")) (.type "BaseException") = some true
  t_BadMarks : PySem.W.typeIn K (.ref (He.ga K "BadMarks")) = some (.type "type")
  xk : ExK K exCs

section
variable {P : Program} {w : World} {K : PySem.W.Frag} {mg : Str → Option Value} {base : Heap}
abbrev N_law_pick : List Str := ["pool", "many", "place"]
abbrev P_law_pick : List Str := ["pool", "many"]
theorem sc_law_pick : FnScope N_law_pick P_law_pick (defScope s_law_pick) := ⟨rfl, rfl, rfl, by decide +kernel, rfl, by decide +kernel, by decide +kernel⟩
theorem ok_law_pick (T : Txt K mg) : CallOk P w K mg base 1 "_law_pick" P_law_pick φ_law_pick := by
  obtain ⟨fd, F⟩ := T.d_law_pick
  refine ⟨⟨fd, pick_close (F.ok sc_law_pick (fun vs H Q E h => ?_) (fun cdv A outer s H vs Q E hr h => ?_)), funLook F, F.bindsA fun _ _ _ _ _ _ us hl => match us, hl with | [_, _], _ => rfl⟩, F.kp, T.g_law_pick⟩
  · obtain ⟨p, n, ns, rfl, _⟩ := h
    rfl
  · refine ⟨_, PSs.nox (pss_cons (ps_set (i := 2) sc_law_pick.nd rfl (Or.inl rfl) (pe_ix ix_list (pv 0) pe_int (fun _ _ => rfl)))
      (pss_cons (ps_asg (pe_op op_add (pv 2) pe_int) (pg_sub (pv 0) pe_int set_list))
      (pss_cons (ps_if (pt_cmpR op_eq (pe_ix ix_list (pv 0) pe_int (fun _ _ => rfl)) (pe_callB call_len rfl T.n_len PySem.boot_len (pa_cons (pv 0) pa_nil)) (nomark _))
        (pss_one (ps_asg pe_int (pg_sub (pv 0) pe_int set_list))) pss_nil)
      (pss_one (ps_ret (pe_op op_mod (pe_callTy call_int1 rfl T.n_int boot_int (pa_cons (pe_ix ix_list (pv 0) (pv 2) (fun _ _ => rfl)) pa_nil)) (pv 1))))))), ?_⟩
    exact pick_pure h

abbrev P_is_whole : List Str := ["value"]
theorem sc_is_whole : FnScope N_is_whole P_is_whole (defScope s_is_whole) := ⟨rfl, rfl, rfl, by decide +kernel, rfl, by decide +kernel, by decide +kernel⟩
theorem ok_is_whole (T : Txt K mg) (vc : ∀ (ds : List D) (Q' : D → Prop) (E' : Nat → Prop), φ_is_whole ds Q' E' → r_is_whole (fun c _ => E' c) { nx := fun _ => Q' .non, rt := fun d _ => Q' d } (startE N_is_whole ds)) (len : ∀ ds Q E, φ_is_whole ds Q E → ds.length = 1) :
    CallOk P w K mg base 1 "is_whole" P_is_whole φ_is_whole := by
  obtain ⟨fd, F⟩ := T.d_is_whole
  refine ⟨⟨fd, fun_ok F sc_is_whole len r_is_whole (fun cdv A outer s H E Ξ hr => ?_) vc, funLook F, F.bindsA fun _ _ _ _ _ _ us hl => match us, hl with | [_], _ => rfl⟩, F.kp, T.g_is_whole⟩
  exact (yss_one (ys_ret (ye_and (ye_isA .int (ye_var 0) (peTy T.n_int boot_int) (by rfl) T.n_isinstance) (ye_one (ye_not (ye_isA .bool (ye_var 0) (peTy T.n_bool boot_bool) (by rfl) T.n_isinstance))))))
abbrev P_is_count : List Str := ["value"]
theorem sc_is_count : FnScope N_is_count P_is_count (defScope s_is_count) := ⟨rfl, rfl, rfl, by decide +kernel, rfl, by decide +kernel, by decide +kernel⟩
theorem ok_is_count (T : Txt K mg) (C_is_whole : CallOk P w K mg base 1 "is_whole" P_is_whole φ_is_whole) (vc : ∀ (ds : List D) (Q' : D → Prop) (E' : Nat → Prop), φ_is_count ds Q' E' → r_is_count (fun c _ => E' c) { nx := fun _ => Q' .non, rt := fun d _ => Q' d } (startE N_is_count ds)) (len : ∀ ds Q E, φ_is_count ds Q E → ds.length = 1) :
    CallOk P w K mg base 2 "is_count" P_is_count φ_is_count := by
  obtain ⟨fd, F⟩ := T.d_is_count
  refine ⟨⟨fd, fun_ok F sc_is_count len r_is_count (fun cdv A outer s H E Ξ hr => ?_) vc, funLook F, F.bindsA fun _ _ _ _ _ _ us hl => match us, hl with | [_], _ => rfl⟩, F.kp, T.g_is_count⟩
  exact (yss_one (ys_ret (ye_and (yeCall C_is_whole (takes_of rfl rfl rfl rfl) (hr.mono (by decide)) (yl_cons (ye_var 0) yl_nil)) (ye_one (ye_cmp oy_ge (ye_var 0) ye_int)))))
abbrev P_is_float : List Str := ["value"]
theorem sc_is_float : FnScope N_is_float P_is_float (defScope s_is_float) := ⟨rfl, rfl, rfl, by decide +kernel, rfl, by decide +kernel, by decide +kernel⟩
theorem ok_is_float (T : Txt K mg) (C_is_whole : CallOk P w K mg base 1 "is_whole" P_is_whole φ_is_whole) (vc : ∀ (ds : List D) (Q' : D → Prop) (E' : Nat → Prop), φ_is_float ds Q' E' → r_is_float (fun c _ => E' c) { nx := fun _ => Q' .non, rt := fun d _ => Q' d } (startE N_is_float ds)) (len : ∀ ds Q E, φ_is_float ds Q E → ds.length = 1) :
    CallOk P w K mg base 2 "is_float" P_is_float φ_is_float := by
  obtain ⟨fd, F⟩ := T.d_is_float
  refine ⟨⟨fd, fun_ok F sc_is_float len r_is_float (fun cdv A outer s H E Ξ hr => ?_) vc, funLook F, F.bindsA fun _ _ _ _ _ _ us hl => match us, hl with | [_], _ => rfl⟩, F.kp, T.g_is_float⟩
  exact (yss_cons (ys_if (YW.yt (yw_or (yt_not (yt_tru (ye_isA .tuple (ye_var 0) (peTy T.n_tuple boot_tuple) (by rfl) T.n_isinstance))) (yw_or (yt_cmp (oy_ne hr.units) (ye_callB cy_len (by rfl) T.n_len PySem.boot_len (yl_cons (ye_var 0) yl_nil)) ye_int) (yw_or1 (yt_not (yt_tru (ye_isA .str (ye_ix (ye_var 0) ye_int) (peTy T.n_str boot_str) (by rfl) T.n_isinstance)))))))
  (yss_one (ys_ret ye_bl))
  yss_nil)
  (yss_cons (ys_if (YW.yt (yw_or (yt_cmp oy_notin (ye_ix (ye_var 0) ye_int) (ye_tup (yl_cons (yeGlS T.c_LEFT) (yl_cons (yeGlS T.c_RIGHT) yl_nil)))) (yw_or1 (yt_not (yt_tru (ye_callB (cy_all rfl) (by rfl) T.n_all boot_all (yl_cons (yn_lc (own := [(("number" : Str), 1)]) rfl sc_is_float.nd (yi_seq (ye_slT (ye_var 0) (yo_some ye_int) yo_none)) (blkOk_by (by rfl)) (fun _ _ _ _ _ => (ygN 1 sc_is_float.nd)) (fun _ _ _ _ _ => yts_nil) (fun _ _ _ _ _ => (yeCall C_is_whole takes0 (hr.mono (by decide)) (yl_cons (ye_var 1) yl_nil)))).ye yl_nil)))))))
  (yss_one (ys_ret ye_bl))
  yss_nil)
  (yss_one (ys_ret (ye_and (ye_cmp oy_leA (ye_ix (ye_var 0) ye_int) (ye_ix (ye_var 0) ye_int)) (ye_one (ye_cmp oy_leA (ye_ix (ye_var 0) ye_int) (ye_ix (ye_var 0) ye_int))))))))
abbrev P_are_floats : List Str := ["value"]
theorem sc_are_floats : FnScope N_are_floats P_are_floats (defScope s_are_floats) := ⟨rfl, rfl, rfl, by decide +kernel, rfl, by decide +kernel, by decide +kernel⟩
theorem ok_are_floats (T : Txt K mg) (C_is_float : CallOk P w K mg base 2 "is_float" P_is_float φ_is_float) (vc : ∀ (ds : List D) (Q' : D → Prop) (E' : Nat → Prop), φ_are_floats ds Q' E' → r_are_floats (fun c _ => E' c) { nx := fun _ => Q' .non, rt := fun d _ => Q' d } (startE N_are_floats ds)) (len : ∀ ds Q E, φ_are_floats ds Q E → ds.length = 1) :
    CallOk P w K mg base 3 "are_floats" P_are_floats φ_are_floats := by
  obtain ⟨fd, F⟩ := T.d_are_floats
  refine ⟨⟨fd, fun_ok F sc_are_floats len r_are_floats (fun cdv A outer s H E Ξ hr => ?_) vc, funLook F, F.bindsA fun _ _ _ _ _ _ us hl => match us, hl with | [_], _ => rfl⟩, F.kp, T.g_are_floats⟩
  exact (yss_cons (ys_if (YW.yt (yw_or (yt_not (yt_tru (ye_isA .list (ye_var 0) (peTy T.n_list boot_list) (by rfl) T.n_isinstance))) (yw_or1 (yt_not (yt_tru (ye_callB (cy_all rfl) (by rfl) T.n_all boot_all (yl_cons (yn_lc (own := [(("one" : Str), 2)]) rfl sc_are_floats.nd (yi_seq (ye_var 0)) (blkOk_by (by rfl)) (fun _ _ _ _ _ => (ygN 2 sc_are_floats.nd)) (fun _ _ _ _ _ => yts_nil) (fun _ _ _ _ _ => (yeCall C_is_float takes0 (hr.mono (by decide)) (yl_cons (ye_var 2) yl_nil)))).ye yl_nil)))))))
  (yss_one (ys_ret ye_bl))
  yss_nil)
  (yss_one (ys_ret (ye_callB (cy_all rfl) (by rfl) T.n_all boot_all (yl_cons (yn_lc (own := [(("k" : Str), 1)]) rfl sc_are_floats.nd (yi_range1 (by rfl) T.n_range (yl_cons (ye_bin oy_sub (ye_callB cy_len (by rfl) T.n_len PySem.boot_len (yl_cons (ye_var 0) yl_nil)) ye_int) yl_nil)) (blkOk_by (by rfl)) (fun _ _ _ _ _ => (ygN 1 sc_are_floats.nd)) (fun _ _ _ _ _ => yts_nil) (fun _ _ _ _ _ => (ye_cmp oy_leA (ye_ix (ye_ix (ye_var 0) (ye_var 1)) ye_int) (ye_ix (ye_ix (ye_var 0) (ye_bin oy_add (ye_var 1) ye_int)) ye_int)))).ye yl_nil)))))
abbrev P_between : List Str := ["floats", "low", "high", "row"]
theorem sc_between : FnScope N_between P_between (defScope s_between) := ⟨rfl, rfl, rfl, by decide +kernel, rfl, by decide +kernel, by decide +kernel⟩
theorem ok_between (T : Txt K mg) (vc : ∀ (ds : List D) (Q' : D → Prop) (E' : Nat → Prop), φ_between ds Q' E' → r_between (fun c _ => E' c) { nx := fun _ => Q' .non, rt := fun d _ => Q' d } (startE N_between ds)) (len : ∀ ds Q E, φ_between ds Q E → ds.length = 4) :
    CallOk P w K mg base 1 "between" P_between φ_between := by
  obtain ⟨fd, F⟩ := T.d_between
  refine ⟨⟨fd, fun_ok F sc_between len r_between (fun cdv A outer s H E Ξ hr => ?_) vc, funLook F, F.bindsA fun _ _ _ _ _ _ us hl => match us, hl with | [_, _, _, _], _ => rfl⟩, F.kp, T.g_between⟩
  exact (yss_cons (ysSet 4 sc_between.nd (ye_var 1))
  (yss_cons (ysSet 5 sc_between.nd (ye_var 2))
  (yss_cons (ys_for (passes_of rfl) rfl (yi_seq (ye_var 0)) (yg_tup rfl (ygs_cons (ygN 6 sc_between.nd) (ygs_cons (ygN 7 sc_between.nd) (ygs_cons (ygN 8 sc_between.nd) (ygs_cons (ygN 9 sc_between.nd) (ygs_cons (ygN 10 sc_between.nd) ygs_nil))))))
  (yss_one (ys_if (yt_chain oy_leA oy_lt (ye_var 9) (ye_var 3) (ye_var 10))
  (yss_one (ys_if (yt_cmp (oy_eq hr.units) (ye_var 6) (yeGlS T.c_LEFT))
  (yss_one (ysSet 4 sc_between.nd (ye_callB (cy_max2 rfl) (by rfl) T.n_max boot_max (yl_cons (ye_var 4) (yl_cons (ye_var 8) yl_nil)))))
  (yss_one (ysSet 5 sc_between.nd (ye_callB (cy_min2 rfl) (by rfl) T.n_min boot_min (yl_cons (ye_var 5) (yl_cons (ye_var 7) yl_nil)))))))
  yss_nil)))
  (yss_one (ys_ret (ye_tup (yl_cons (ye_var 4) (yl_cons (ye_var 5) yl_nil))))))))
abbrev P_goes_in : List Str := ["floats", "low", "high", "row", "wide"]
theorem sc_goes_in : FnScope N_goes_in P_goes_in (defScope s_goes_in) := ⟨rfl, rfl, rfl, by decide +kernel, rfl, by decide +kernel, by decide +kernel⟩
theorem ok_goes_in (T : Txt K mg) (C_between : CallOk P w K mg base 1 "between" P_between φ_between) (vc : ∀ (ds : List D) (Q' : D → Prop) (E' : Nat → Prop), φ_goes_in ds Q' E' → r_goes_in (fun c _ => E' c) { nx := fun _ => Q' .non, rt := fun d _ => Q' d } (startE N_goes_in ds)) (len : ∀ ds Q E, φ_goes_in ds Q E → ds.length = 5) :
    CallOk P w K mg base 2 "goes_in" P_goes_in φ_goes_in := by
  obtain ⟨fd, F⟩ := T.d_goes_in
  refine ⟨⟨fd, fun_ok F sc_goes_in len r_goes_in (fun cdv A outer s H E Ξ hr => ?_) vc, funLook F, F.bindsA fun _ _ _ _ _ _ us hl => match us, hl with | [_, _, _, _, _], _ => rfl⟩, F.kp, T.g_goes_in⟩
  exact (yss_cons (ys_asg (yeCall C_between (takes_of rfl rfl rfl rfl) (hr.mono (by decide)) (yl_cons (ye_var 0) (yl_cons (ye_var 1) (yl_cons (ye_var 2) (yl_cons (ye_var 3) yl_nil))))) (yg_tup rfl (ygs_cons (ygN 5 sc_goes_in.nd) (ygs_cons (ygN 6 sc_goes_in.nd) ygs_nil))))
  (yss_one (ys_ret (ye_or (ye_cmp oy_ge (ye_bin oy_sub (ye_var 6) (ye_var 5)) (ye_var 4)) (ye_one (ye_cmp (oy_eq hr.units) (ye_tup (yl_cons (ye_var 5) (yl_cons (ye_var 6) yl_nil))) (ye_tup (yl_cons (ye_var 1) (yl_cons (ye_var 2) yl_nil)))))))))
abbrev P_first_row : List Str := ["floats", "low", "high", "start", "wide"]
theorem sc_first_row : FnScope N_first_row P_first_row (defScope s_first_row) := ⟨rfl, rfl, rfl, by decide +kernel, rfl, by decide +kernel, by decide +kernel⟩
theorem ok_first_row (T : Txt K mg) (C_goes_in : CallOk P w K mg base 2 "goes_in" P_goes_in φ_goes_in) (vc : ∀ (ds : List D) (Q' : D → Prop) (E' : Nat → Prop), φ_first_row ds Q' E' → r_first_row (fun c _ => E' c) { nx := fun _ => Q' .non, rt := fun d _ => Q' d } (startE N_first_row ds)) (len : ∀ ds Q E, φ_first_row ds Q E → ds.length = 5) :
    CallOk P w K mg base 3 "first_row" P_first_row φ_first_row := by
  obtain ⟨fd, F⟩ := T.d_first_row
  refine ⟨⟨fd, fun_ok F sc_first_row len r_first_row (fun cdv A outer s H E Ξ hr => ?_) vc, funLook F, F.bindsA fun _ _ _ _ _ _ us hl => match us, hl with | [_, _, _, _, _], _ => rfl⟩, F.kp, T.g_first_row⟩
  exact (yss_cons (ys_for (passes_of rfl) rfl (yi_seq (ye_bin oy_add (yn_lst (yl_cons (ye_var 3) yl_nil)).ye (yn_callB cn_sorted (by rfl) T.n_sorted boot_sorted (yl_cons (yn_lc (own := [(("one" : Str), 6)]) rfl sc_first_row.nd (yi_seq (ye_var 0)) (blkOk_by (by rfl)) (fun _ _ _ _ _ => (ygN 6 sc_first_row.nd)) (fun _ _ _ _ _ => (yts_one (yt_cmp oy_gt (ye_ix (ye_var 6) ye_int) (ye_var 3)))) (fun _ _ _ _ _ => (ye_ix (ye_var 6) ye_int))).ye yl_nil)).ye)) (ygN 5 sc_first_row.nd)
  (yss_one (ys_if (yt_tru (yeCall C_goes_in (takes_of rfl rfl rfl rfl) (hr.mono (by decide)) (yl_cons (ye_var 0) (yl_cons (ye_var 1) (yl_cons (ye_var 2) (yl_cons (ye_var 5) (yl_cons (ye_var 4) yl_nil)))))))
  (yss_one (ys_ret (ye_var 5)))
  yss_nil)))
  (yss_one (ys_ret (ye_var 3))))
abbrev P_float_place : List Str := ["floats", "low", "high", "start", "wide", "side"]
theorem sc_float_place : FnScope N_float_place P_float_place (defScope s_float_place) := ⟨rfl, rfl, rfl, by decide +kernel, rfl, by decide +kernel, by decide +kernel⟩
theorem ok_float_place (T : Txt K mg) (C_first_row : CallOk P w K mg base 3 "first_row" P_first_row φ_first_row) (C_between : CallOk P w K mg base 1 "between" P_between φ_between) (vc : ∀ (ds : List D) (Q' : D → Prop) (E' : Nat → Prop), φ_float_place ds Q' E' → r_float_place (fun c _ => E' c) { nx := fun _ => Q' .non, rt := fun d _ => Q' d } (startE N_float_place ds)) (len : ∀ ds Q E, φ_float_place ds Q E → ds.length = 6) :
    CallOk P w K mg base 4 "float_place" P_float_place φ_float_place := by
  obtain ⟨fd, F⟩ := T.d_float_place
  refine ⟨⟨fd, fun_ok F sc_float_place len r_float_place (fun cdv A outer s H E Ξ hr => ?_) vc, funLook F, F.bindsA fun _ _ _ _ _ _ us hl => match us, hl with | [_, _, _, _, _, _], _ => rfl⟩, F.kp, T.g_float_place⟩
  exact (yss_cons (ysSet 6 sc_float_place.nd (yeCall C_first_row (takes_of rfl rfl rfl rfl) (hr.mono (by decide)) (yl_cons (ye_var 0) (yl_cons (ye_var 1) (yl_cons (ye_var 2) (yl_cons (ye_callB (cy_maxL rfl) (by rfl) T.n_max boot_max (yl_cons (ye_bin oy_add (yn_lst (yl_cons (ye_var 3) yl_nil)).ye (yn_lc (own := [(("one" : Str), 9)]) rfl sc_float_place.nd (yi_seq (yn_sl (ye_var 0) (yo_some (ye_neg ye_int)) yo_none).ye) (blkOk_by (by rfl)) (fun _ _ _ _ _ => (ygN 9 sc_float_place.nd)) (fun _ _ _ _ _ => yts_nil) (fun _ _ _ _ _ => (ye_ix (ye_var 9) ye_int))).ye) yl_nil)) (yl_cons (ye_var 4) yl_nil)))))))
  (yss_cons (ys_asg (yeCall C_between (takes_of rfl rfl rfl rfl) (hr.mono (by decide)) (yl_cons (ye_var 0) (yl_cons (ye_var 1) (yl_cons (ye_var 2) (yl_cons (ye_var 6) yl_nil))))) (yg_tup rfl (ygs_cons (ygN 7 sc_float_place.nd) (ygs_cons (ygN 8 sc_float_place.nd) ygs_nil))))
  (yss_one (ys_ret (ye_tup (yl_cons (ye_if (yt_cmp (oy_eq hr.units) (ye_var 5) (yeGlS T.c_LEFT)) (ye_var 7) (ye_bin oy_sub (ye_var 8) (ye_var 4))) (yl_cons (ye_var 6) yl_nil)))))))
abbrev P_check_room : List Str := ["floats", "width", "row"]
theorem sc_check_room : FnScope N_check_room P_check_room (defScope s_check_room) := ⟨rfl, rfl, rfl, by decide +kernel, rfl, by decide +kernel, by decide +kernel⟩
theorem ok_check_room (T : Txt K mg) (C_are_floats : CallOk P w K mg base 3 "are_floats" P_are_floats φ_are_floats) (C_is_count : CallOk P w K mg base 2 "is_count" P_is_count φ_is_count) (C_is_whole : CallOk P w K mg base 1 "is_whole" P_is_whole φ_is_whole) (vc : ∀ (ds : List D) (Q' : D → Prop) (E' : Nat → Prop), φ_check_room ds Q' E' → r_check_room (fun c _ => E' c) { nx := fun _ => Q' .non, rt := fun d _ => Q' d } (startE N_check_room ds)) (len : ∀ ds Q E, φ_check_room ds Q E → ds.length = 3) :
    CallOk P w K mg base 4 "check_room" P_check_room φ_check_room := by
  obtain ⟨fd, F⟩ := T.d_check_room
  refine ⟨⟨fd, fun_ok F sc_check_room len r_check_room (fun cdv A outer s H E Ξ hr => ?_) vc, funLook F, F.bindsA fun _ _ _ _ _ _ us hl => match us, hl with | [_, _, _], _ => rfl⟩, F.kp, T.g_check_room⟩
  exact (yss_one (ys_if (YW.yt (yw_or (yt_not (yt_tru (yeCall C_are_floats (takes_of rfl rfl rfl rfl) (hr.mono (by decide)) (yl_cons (ye_var 0) yl_nil)))) (yw_or (yt_not (yt_tru (yeCall C_is_count (takes_of rfl rfl rfl rfl) (hr.mono (by decide)) (yl_cons (ye_var 1) yl_nil)))) (yw_or1 (yt_not (yt_tru (yeCall C_is_whole (takes_of rfl rfl rfl rfl) (hr.mono (by decide)) (yl_cons (ye_var 2) yl_nil))))))))
  (yss_one (ys_raise 10 rfl (takes_of rfl rfl rfl rfl) PySem.F.excBase_Exception T.x_BadList T.g_BadList T.k_BadList (raises_own T.s_BadList T.t_BadList) rfl (by rfl)))
  yss_nil))
abbrev P_float_at : List Str := ["floats", "width", "ceiling", "w", "side"]
theorem sc_float_at : FnScope N_float_at P_float_at (defScope s_float_at) := ⟨rfl, rfl, rfl, by decide +kernel, rfl, by decide +kernel, by decide +kernel⟩
theorem ok_float_at (T : Txt K mg) (C_check_room : CallOk P w K mg base 4 "check_room" P_check_room φ_check_room) (C_is_count : CallOk P w K mg base 2 "is_count" P_is_count φ_is_count) (C_float_place : CallOk P w K mg base 4 "float_place" P_float_place φ_float_place) (vc : ∀ (ds : List D) (Q' : D → Prop) (E' : Nat → Prop), φ_float_at ds Q' E' → r_float_at (fun c _ => E' c) { nx := fun _ => Q' .non, rt := fun d _ => Q' d } (startE N_float_at ds)) (len : ∀ ds Q E, φ_float_at ds Q E → ds.length = 5) :
    CallOk P w K mg base 5 "float_at" P_float_at φ_float_at := by
  obtain ⟨fd, F⟩ := T.d_float_at
  refine ⟨⟨fd, fun_ok F sc_float_at len r_float_at (fun cdv A outer s H E Ξ hr => ?_) vc, funLook F, F.bindsA fun _ _ _ _ _ _ us hl => match us, hl with | [_, _, _, _, _], _ => rfl⟩, F.kp, T.g_float_at⟩
  exact (yss_cons (ys_expr (yeCall C_check_room (takes_of rfl rfl rfl rfl) (hr.mono (by decide)) (yl_cons (ye_var 0) (yl_cons (ye_var 1) (yl_cons (ye_var 2) yl_nil)))))
  (yss_cons (ys_if (YW.yt (yw_or (yt_not (yt_tru (yeCall C_is_count (takes_of rfl rfl rfl rfl) (hr.mono (by decide)) (yl_cons (ye_var 3) yl_nil)))) (yw_or (yt_not (yt_tru (ye_isA .str (ye_var 4) (peTy T.n_str boot_str) (by rfl) T.n_isinstance))) (yw_or1 (yt_cmp oy_notin (ye_var 4) (ye_tup (yl_cons (yeGlS T.c_LEFT) (yl_cons (yeGlS T.c_RIGHT) yl_nil))))))))
  (yss_one (ys_raise 10 rfl (takes_of rfl rfl rfl rfl) PySem.F.excBase_Exception T.x_BadList T.g_BadList T.k_BadList (raises_own T.s_BadList T.t_BadList) rfl (by rfl)))
  yss_nil)
  (yss_one (ys_ret (yeCall C_float_place (takes_of rfl rfl rfl rfl) (hr.mono (by decide)) (yl_cons (ye_var 0) (yl_cons ye_int (yl_cons (ye_var 1) (yl_cons (ye_var 2) (yl_cons (ye_var 3) (yl_cons (ye_var 4) yl_nil)))))))))))
abbrev P_room_at : List Str := ["floats", "width", "row"]
theorem sc_room_at : FnScope N_room_at P_room_at (defScope s_room_at) := ⟨rfl, rfl, rfl, by decide +kernel, rfl, by decide +kernel, by decide +kernel⟩
theorem ok_room_at (T : Txt K mg) (C_check_room : CallOk P w K mg base 4 "check_room" P_check_room φ_check_room) (C_between : CallOk P w K mg base 1 "between" P_between φ_between) (vc : ∀ (ds : List D) (Q' : D → Prop) (E' : Nat → Prop), φ_room_at ds Q' E' → r_room_at (fun c _ => E' c) { nx := fun _ => Q' .non, rt := fun d _ => Q' d } (startE N_room_at ds)) (len : ∀ ds Q E, φ_room_at ds Q E → ds.length = 3) :
    CallOk P w K mg base 5 "room_at" P_room_at φ_room_at := by
  obtain ⟨fd, F⟩ := T.d_room_at
  refine ⟨⟨fd, fun_ok F sc_room_at len r_room_at (fun cdv A outer s H E Ξ hr => ?_) vc, funLook F, F.bindsA fun _ _ _ _ _ _ us hl => match us, hl with | [_, _, _], _ => rfl⟩, F.kp, T.g_room_at⟩
  exact (yss_cons (ys_expr (yeCall C_check_room (takes_of rfl rfl rfl rfl) (hr.mono (by decide)) (yl_cons (ye_var 0) (yl_cons (ye_var 1) (yl_cons (ye_var 2) yl_nil)))))
  (yss_one (ys_ret (yeCall C_between (takes_of rfl rfl rfl rfl) (hr.mono (by decide)) (yl_cons (ye_var 0) (yl_cons ye_int (yl_cons (ye_var 1) (yl_cons (ye_var 2) yl_nil))))))))
abbrev P_law_stream : List Str := ["script"]
theorem sc_law_stream : FnScope N_law_stream P_law_stream (defScope s_law_stream) := ⟨rfl, rfl, rfl, by decide +kernel, rfl, by decide +kernel, by decide +kernel⟩
theorem ok_law_stream (T : Txt K mg) (vc : ∀ (ds : List D) (Q' : D → Prop) (E' : Nat → Prop), φList ds Q' E' → r_law_stream (fun c _ => E' c) { nx := fun _ => Q' .non, rt := fun d _ => Q' d } (startE N_law_stream ds)) (len : ∀ ds Q E, φList ds Q E → ds.length = 1) :
    CallOk P w K mg base 1 "_law_stream" P_law_stream φList := by
  obtain ⟨fd, F⟩ := T.d_law_stream
  refine ⟨⟨fd, fun_ok F sc_law_stream len r_law_stream (fun cdv A outer s H E Ξ hr => ?_) vc, funLook F, F.bindsA fun _ _ _ _ _ _ us hl => match us, hl with | [_], _ => rfl⟩, F.kp, T.g_law_stream⟩
  exact (yss_cons (ys_par 1 2 rfl sc_law_stream.nd (by rfl) (by rfl) (by decide) rfl rfl (yx_n (yn_lst (yl_cons ye_int yl_nil))) (yx_e ye_int))
  (yss_cons (ys_for (passes_of rfl) rfl (yi_frl (ye_var 0)) (ygN 3 sc_law_stream.nd)
  (yss_cons (ysSet 4 sc_law_stream.nd (ye_bin oy_mod (ye_callTy cy_int (by rfl) T.n_int boot_int (yl_cons (ye_var 3) yl_nil)) (ye_bin oy_pow ye_int ye_int)))
  (yss_cons (ysSet 2 sc_law_stream.nd (ye_bin oy_mod (ye_callTy cy_int (by rfl) T.n_int boot_int (yl_cons (ye_bin oy_add (ye_bin oy_mulA (ye_var 2) ye_int) (ye_callTy cy_int (by rfl) T.n_int boot_int (yl_cons (ye_var 4) yl_nil))) yl_nil)) ye_int))
  (yss_one (ys_for (passes_of rfl) rfl (yi_range1 (by rfl) T.n_range (yl_cons (ye_ix (yn_lst (yl_cons ye_int (yl_cons ye_int yl_nil))).ye (ye_callTy cy_int (by rfl) T.n_int boot_int (yl_cons (ye_cmp oy_ge (ye_callTy cy_int (by rfl) T.n_int boot_int (yl_cons (ye_var 3) yl_nil)) (ye_bin oy_pow ye_int ye_int)) yl_nil))) yl_nil)) (ygN 5 sc_law_stream.nd)
  (yss_cons (ysApp' 1 (ye_bin oy_mod (ye_callTy cy_int (by rfl) T.n_int boot_int (yl_cons (ye_var 4) yl_nil)) ye_int))
  (yss_cons (ysSet 4 sc_law_stream.nd (ye_callTy cy_int (by rfl) T.n_int boot_int (yl_cons (ye_bin oy_fdiv (ye_var 4) ye_int) yl_nil)))
  (yss_one (ys_if (yt_cmp (oy_eq hr.units) (ye_var 4) ye_int)
  (yss_one ys_break)
  yss_nil)))))))))
  (yss_cons (ys_for (passes_of rfl) rfl (yi_range1 (by rfl) T.n_range (yl_cons ye_int yl_nil)) (ygN 5 sc_law_stream.nd)
  (yss_cons (ysSet 2 sc_law_stream.nd (ye_bin oy_mod (ye_callTy cy_int (by rfl) T.n_int boot_int (yl_cons (ye_bin oy_add (ye_bin oy_mulA (ye_var 2) ye_int) ye_int) yl_nil)) ye_int))
  (yss_one (ysApp' 1 (ye_bin oy_mod (ye_callTy cy_int (by rfl) T.n_int boot_int (yl_cons (ye_bin oy_fdiv (ye_var 2) ye_int) yl_nil)) ye_int)))))
  (yss_one (ys_ret (ye_var 1))))))
abbrev P_law_index : List Str := ["pool", "many"]
theorem sc_law_index : FnScope N_law_index P_law_index (defScope s_law_index) := ⟨rfl, rfl, rfl, by decide +kernel, rfl, by decide +kernel, by decide +kernel⟩
theorem ok_law_index (T : Txt K mg) (C_law_pick : CallOk P w K mg base 1 "_law_pick" P_law_pick φ_law_pick) (vc : ∀ (ds : List D) (Q' : D → Prop) (E' : Nat → Prop), φ_law_index ds Q' E' → r_law_index (fun c _ => E' c) { nx := fun _ => Q' .non, rt := fun d _ => Q' d } (startE N_law_index ds)) (len : ∀ ds Q E, φ_law_index ds Q E → ds.length = 2) :
    CallOk P w K mg base 2 "_law_index" P_law_index φ_law_index := by
  obtain ⟨fd, F⟩ := T.d_law_index
  refine ⟨⟨fd, fun_ok F sc_law_index len r_law_index (fun cdv A outer s H E Ξ hr => ?_) vc, funLook F, F.bindsA fun _ _ _ _ _ _ us hl => match us, hl with | [_, _], _ => rfl⟩, F.kp, T.g_law_index⟩
  exact (yss_cons (ysSet 2 sc_law_index.nd (yeCall C_law_pick (takes_of rfl rfl rfl rfl) (hr.mono (by decide)) (yl_cons (ye_var 0) (yl_cons ye_int yl_nil))))
  (yss_one (ys_ret (ye_bin oy_mod (ye_callTy cy_int (by rfl) T.n_int boot_int (yl_cons (ye_bin oy_add (ye_bin oy_mulA (ye_var 2) ye_int) (yeCall C_law_pick (takes_of rfl rfl rfl rfl) (hr.mono (by decide)) (yl_cons (ye_var 0) (yl_cons ye_int yl_nil)))) yl_nil)) (ye_var 1)))))
abbrev P_law_same : List Str := ["one", "due"]
theorem sc_law_same : FnScope N_law_same P_law_same (defScope s_law_same) := ⟨rfl, rfl, rfl, by decide +kernel, rfl, by decide +kernel, by decide +kernel⟩
theorem ok_law_same {k0 : Nat} {ψ φ : Spec} (T : Txt K mg) (C_law_same : CallOk P w K mg base k0 "_law_same" P_law_same ψ) (vc : ∀ (ds : List D) (Q' : D → Prop) (E' : Nat → Prop), φ ds Q' E' → r_law_same ψ (fun c _ => E' c) { nx := fun _ => Q' .non, rt := fun d _ => Q' d } (startE N_law_same ds)) (len : ∀ ds Q E, φ ds Q E → ds.length = 2) :
    CallOk P w K mg base (k0 + 1) "_law_same" P_law_same φ := by
  obtain ⟨fd, F⟩ := T.d_law_same
  refine ⟨⟨fd, fun_ok F sc_law_same len (r_law_same ψ) (fun cdv A outer s H E Ξ hr => ?_) vc, funLook F, F.bindsA fun _ _ _ _ _ _ us hl => match us, hl with | [_, _], _ => rfl⟩, F.kp, T.g_law_same⟩
  exact (yss_cons (ys_if (yt_cmp oy_isN (ye_var 1) ye_non)
  (yss_one (ys_ret (ye_cmp oy_isN (ye_var 0) ye_non)))
  yss_nil)
  (yss_cons (ys_if (yt_tru (ye_isA .bool (ye_var 1) (peTy T.n_bool boot_bool) (by rfl) T.n_isinstance))
  (yss_one (ys_ret (ye_and (ye_isA .bool (ye_var 0) (peTy T.n_bool boot_bool) (by rfl) T.n_isinstance) (ye_one (ye_cmp (oy_eq hr.units) (ye_var 0) (ye_var 1))))))
  yss_nil)
  (yss_cons (ys_if (yt_tru (ye_isA .int (ye_var 1) (peTy T.n_int boot_int) (by rfl) T.n_isinstance))
  (yss_one (ys_ret (ye_and (ye_isA .int (ye_var 0) (peTy T.n_int boot_int) (by rfl) T.n_isinstance) (ye_and (ye_not (ye_isA .bool (ye_var 0) (peTy T.n_bool boot_bool) (by rfl) T.n_isinstance)) (ye_one (ye_cmp (oy_eq hr.units) (ye_var 0) (ye_var 1)))))))
  yss_nil)
  (yss_cons (ys_if (yt_tru (ye_isA .str (ye_var 1) (peTy T.n_str boot_str) (by rfl) T.n_isinstance))
  (yss_one (ys_ret (ye_and (ye_isA .str (ye_var 0) (peTy T.n_str boot_str) (by rfl) T.n_isinstance) (ye_one (ye_cmp (oy_eq hr.units) (ye_var 0) (ye_var 1))))))
  yss_nil)
  (yss_cons (ys_if (yt_tru (ye_isA .dict (ye_var 1) (peTy T.n_dict boot_dict) (by rfl) T.n_isinstance))
  (yss_cons (ys_if (YW.yt (yw_or (yt_not (yt_tru (ye_isA .dict (ye_var 0) (peTy T.n_dict boot_dict) (by rfl) T.n_isinstance))) (yw_or1 (yt_cmp (oy_ne hr.units) (ye_callB cy_len (by rfl) T.n_len PySem.boot_len (yl_cons (ye_var 0) yl_nil)) (ye_callB cy_len (by rfl) T.n_len PySem.boot_len (yl_cons (ye_var 1) yl_nil))))))
  (yss_one (ys_ret ye_bl))
  yss_nil)
  (yss_one (ys_ret (ye_callB (cy_all rfl) (by rfl) T.n_all boot_all (yl_cons (yn_lc (own := [(("key" : Str), 3)]) rfl sc_law_same.nd (yi_seq (ye_var 1)) (blkOk_by (by rfl)) (fun _ _ _ _ _ => (ygN 3 sc_law_same.nd)) (fun _ _ _ _ _ => yts_nil) (fun _ _ _ _ _ => (ye_and (ye_cmp oy_in (ye_var 3) (ye_var 0)) (ye_one (yeCall C_law_same takes0 hr (yl_cons (ye_ix (ye_var 0) (ye_var 3)) (yl_cons (ye_ix (ye_var 1) (ye_var 3)) yl_nil))))))).ye yl_nil)))))
  yss_nil)
  (yss_cons (ys_if (YW.yt (yw_or (yt_cmp (oy_ne hr.units) (ye_isA .list (ye_var 0) (peTy T.n_list boot_list) (by rfl) T.n_isinstance) (ye_isA .list (ye_var 1) (peTy T.n_list boot_list) (by rfl) T.n_isinstance)) (yw_or (yt_not (yt_tru (ye_isA2 .list .tuple (ye_var 0) (peTy T.n_list boot_list) (peTy T.n_tuple boot_tuple) (by rfl) T.n_isinstance))) (yw_or1 (yt_cmp (oy_ne hr.units) (ye_callB cy_len (by rfl) T.n_len PySem.boot_len (yl_cons (ye_var 0) yl_nil)) (ye_callB cy_len (by rfl) T.n_len PySem.boot_len (yl_cons (ye_var 1) yl_nil)))))))
  (yss_one (ys_ret ye_bl))
  yss_nil)
  (yss_one (ys_ret (ye_callB (cy_all rfl) (by rfl) T.n_all boot_all (yl_cons (yn_lc (own := [(("k" : Str), 2)]) rfl sc_law_same.nd (yi_range1 (by rfl) T.n_range (yl_cons (ye_callB cy_len (by rfl) T.n_len PySem.boot_len (yl_cons (ye_var 1) yl_nil)) yl_nil)) (blkOk_by (by rfl)) (fun _ _ _ _ _ => (ygN 2 sc_law_same.nd)) (fun _ _ _ _ _ => yts_nil) (fun _ _ _ _ _ => (yeCall C_law_same takes0 hr (yl_cons (ye_ix (ye_var 0) (ye_var 2)) (yl_cons (ye_ix (ye_var 1) (ye_var 2)) yl_nil))))).ye yl_nil))))))))))
abbrev P_law_between : List Str := ["floats", "width", "row"]
theorem sc_law_between : FnScope N_law_between P_law_between (defScope s_law_between) := ⟨rfl, rfl, rfl, by decide +kernel, rfl, by decide +kernel, by decide +kernel⟩
theorem ok_law_between (T : Txt K mg) (vc : ∀ (ds : List D) (Q' : D → Prop) (E' : Nat → Prop), φ_law_between ds Q' E' → r_law_between (fun c _ => E' c) { nx := fun _ => Q' .non, rt := fun d _ => Q' d } (startE N_law_between ds)) (len : ∀ ds Q E, φ_law_between ds Q E → ds.length = 3) :
    CallOk P w K mg base 1 "_law_between" P_law_between φ_law_between := by
  obtain ⟨fd, F⟩ := T.d_law_between
  refine ⟨⟨fd, fun_ok F sc_law_between len r_law_between (fun cdv A outer s H E Ξ hr => ?_) vc, funLook F, F.bindsA fun _ _ _ _ _ _ us hl => match us, hl with | [_, _, _], _ => rfl⟩, F.kp, T.g_law_between⟩
  exact (yss_cons (ys_setLc (own := [(("one" : Str), 5)]) 3 false rfl sc_law_between.nd rfl rfl (sw_true rfl rfl rfl (by decide +kernel)) (yi_seq (ye_var 0)) (blkOk_by (by rfl)) (fun _ _ _ _ _ => (ygN 5 sc_law_between.nd)) (fun _ _ _ _ _ => (yts_one (YW.yt (yw_and (yt_cmp (oy_eq hr.units) (ye_ix (ye_var 5) ye_int) ye_str) (yw_and (yt_cmp oy_leA (ye_ix (ye_var 5) ye_int) (ye_var 2)) (yw_and1 (yt_cmp oy_lt (ye_var 2) (ye_ix (ye_var 5) ye_int)))))))) (fun _ _ _ _ _ => (ye_ix (ye_var 5) ye_int)))
  (yss_cons (ys_setLc (own := [(("one" : Str), 5)]) 4 false rfl sc_law_between.nd rfl rfl (sw_true rfl rfl rfl (by decide +kernel)) (yi_seq (ye_var 0)) (blkOk_by (by rfl)) (fun _ _ _ _ _ => (ygN 5 sc_law_between.nd)) (fun _ _ _ _ _ => (yts_one (YW.yt (yw_and (yt_cmp (oy_eq hr.units) (ye_ix (ye_var 5) ye_int) ye_str) (yw_and (yt_cmp oy_leA (ye_ix (ye_var 5) ye_int) (ye_var 2)) (yw_and1 (yt_cmp oy_lt (ye_var 2) (ye_ix (ye_var 5) ye_int)))))))) (fun _ _ _ _ _ => (ye_ix (ye_var 5) ye_int)))
  (yss_one (ys_ret (ye_tup (yl_cons (ye_callB (cy_maxL rfl) (by rfl) T.n_max boot_max (yl_cons (ye_bin oy_add (yn_lst (yl_cons ye_int yl_nil)).ye (ye_var 3)) yl_nil)) (yl_cons (ye_callB (cy_minL rfl) (by rfl) T.n_min boot_min (yl_cons (ye_bin oy_add (yn_lst (yl_cons (ye_var 1) yl_nil)).ye (ye_var 4)) yl_nil)) yl_nil)))))))
abbrev P_law_place : List Str := ["floats", "width", "ceiling", "w", "side"]
theorem sc_law_place : FnScope N_law_place P_law_place (defScope s_law_place) := ⟨rfl, rfl, rfl, by decide +kernel, rfl, by decide +kernel, by decide +kernel⟩
theorem ok_law_place (T : Txt K mg) (C_law_between : CallOk P w K mg base 1 "_law_between" P_law_between φ_law_between) (vc : ∀ (ds : List D) (Q' : D → Prop) (E' : Nat → Prop), φ_law_place ds Q' E' → r_law_place (fun c _ => E' c) { nx := fun _ => Q' .non, rt := fun d _ => Q' d } (startE N_law_place ds)) (len : ∀ ds Q E, φ_law_place ds Q E → ds.length = 5) :
    CallOk P w K mg base 2 "_law_place" P_law_place φ_law_place := by
  obtain ⟨fd, F⟩ := T.d_law_place
  refine ⟨⟨fd, fun_ok F sc_law_place len r_law_place (fun cdv A outer s H E Ξ hr => ?_) vc, funLook F, F.bindsA fun _ _ _ _ _ _ us hl => match us, hl with | [_, _, _, _, _], _ => rfl⟩, F.kp, T.g_law_place⟩
  exact (yss_cons (ysSet 5 sc_law_place.nd (ye_callB (cy_maxL rfl) (by rfl) T.n_max boot_max (yl_cons (ye_bin oy_add (yn_lst (yl_cons (ye_var 2) yl_nil)).ye (yn_lc (own := [(("one" : Str), 9)]) rfl sc_law_place.nd (yi_seq (yn_sl (ye_var 0) (yo_some (ye_neg ye_int)) yo_none).ye) (blkOk_by (by rfl)) (fun _ _ _ _ _ => (ygN 9 sc_law_place.nd)) (fun _ _ _ _ _ => yts_nil) (fun _ _ _ _ _ => (ye_ix (ye_var 9) ye_int))).ye) yl_nil)))
  (yss_cons (ys_for (passes_of rfl) rfl (yi_range2 (by rfl) T.n_range (yl_cons (ye_var 5) (yl_cons (ye_bin oy_add (ye_callB (cy_maxL rfl) (by rfl) T.n_max boot_max (yl_cons (ye_bin oy_add (yn_lst (yl_cons (ye_var 5) yl_nil)).ye (yn_lc (own := [(("one" : Str), 9)]) rfl sc_law_place.nd (yi_seq (ye_var 0)) (blkOk_by (by rfl)) (fun _ _ _ _ _ => (ygN 9 sc_law_place.nd)) (fun _ _ _ _ _ => yts_nil) (fun _ _ _ _ _ => (ye_ix (ye_var 9) ye_int))).ye) yl_nil)) ye_int) yl_nil))) (ygN 6 sc_law_place.nd)
  (yss_cons (ys_asg (yeCall C_law_between (takes_of rfl rfl rfl rfl) (hr.mono (by decide)) (yl_cons (ye_var 0) (yl_cons (ye_var 1) (yl_cons (ye_var 6) yl_nil)))) (yg_tup rfl (ygs_cons (ygN 7 sc_law_place.nd) (ygs_cons (ygN 8 sc_law_place.nd) ygs_nil))))
  (yss_one (ys_if (YW.yt (yw_or (yt_cmp oy_ge (ye_bin oy_sub (ye_var 8) (ye_var 7)) (ye_var 3)) (yw_or1 (YW.yt (yw_and (yt_cmp (oy_eq hr.units) (ye_var 7) ye_int) (yw_and1 (yt_cmp (oy_eq hr.units) (ye_var 8) (ye_var 1))))))))
  (yss_one (ys_ret (ye_tup (yl_cons (ye_ix (yn_lst (yl_cons (ye_bin oy_sub (ye_var 8) (ye_var 3)) (yl_cons (ye_var 7) yl_nil))).ye (ye_callTy cy_int (by rfl) T.n_int boot_int (yl_cons (ye_cmp (oy_eq hr.units) (ye_var 4) ye_str) yl_nil))) (yl_cons (ye_var 6) yl_nil)))))
  yss_nil))))
  (yss_one (ys_ret ye_non))))
abbrev P_law_mirrored : List Str := ["floats", "width"]
theorem sc_law_mirrored : FnScope N_law_mirrored P_law_mirrored (defScope s_law_mirrored) := ⟨rfl, rfl, rfl, by decide +kernel, rfl, by decide +kernel, by decide +kernel⟩
theorem ok_law_mirrored (T : Txt K mg) (vc : ∀ (ds : List D) (Q' : D → Prop) (E' : Nat → Prop), φ_law_mirrored ds Q' E' → r_law_mirrored (fun c _ => E' c) { nx := fun _ => Q' .non, rt := fun d _ => Q' d } (startE N_law_mirrored ds)) (len : ∀ ds Q E, φ_law_mirrored ds Q E → ds.length = 2) :
    CallOk P w K mg base 1 "_law_mirrored" P_law_mirrored φ_law_mirrored := by
  obtain ⟨fd, F⟩ := T.d_law_mirrored
  refine ⟨⟨fd, fun_ok F sc_law_mirrored len r_law_mirrored (fun cdv A outer s H E Ξ hr => ?_) vc, funLook F, F.bindsA fun _ _ _ _ _ _ us hl => match us, hl with | [_, _], _ => rfl⟩, F.kp, T.g_law_mirrored⟩
  exact (yss_cons (ysSet 2 sc_law_mirrored.nd (ye_dic2 (by rfl)))
  (yss_one (ys_ret (yn_lc (own := [(("one" : Str), 3)]) rfl sc_law_mirrored.nd (yi_seq (ye_var 0)) (blkOk_by (by rfl)) (fun _ _ _ _ _ => (ygN 3 sc_law_mirrored.nd)) (fun _ _ _ _ _ => yts_nil) (fun _ _ _ _ _ => (ye_tup (yl_cons (ye_ixD hr.units (ye_var 2) (ye_ix (ye_var 3) ye_int)) (yl_cons (ye_bin oy_sub (ye_var 1) (ye_ix (ye_var 3) ye_int)) (yl_cons (ye_bin oy_sub (ye_var 1) (ye_ix (ye_var 3) ye_int)) (yl_cons (ye_ix (ye_var 3) ye_int) (yl_cons (ye_ix (ye_var 3) ye_int) yl_nil)))))))).ye)))
abbrev P_law_scaled : List Str := ["floats", "by"]
theorem sc_law_scaled : FnScope N_law_scaled P_law_scaled (defScope s_law_scaled) := ⟨rfl, rfl, rfl, by decide +kernel, rfl, by decide +kernel, by decide +kernel⟩
theorem ok_law_scaled (T : Txt K mg) (vc : ∀ (ds : List D) (Q' : D → Prop) (E' : Nat → Prop), φ_law_scaled ds Q' E' → r_law_scaled (fun c _ => E' c) { nx := fun _ => Q' .non, rt := fun d _ => Q' d } (startE N_law_scaled ds)) (len : ∀ ds Q E, φ_law_scaled ds Q E → ds.length = 2) :
    CallOk P w K mg base 1 "_law_scaled" P_law_scaled φ_law_scaled := by
  obtain ⟨fd, F⟩ := T.d_law_scaled
  refine ⟨⟨fd, fun_ok F sc_law_scaled len r_law_scaled (fun cdv A outer s H E Ξ hr => ?_) vc, funLook F, F.bindsA fun _ _ _ _ _ _ us hl => match us, hl with | [_, _], _ => rfl⟩, F.kp, T.g_law_scaled⟩
  exact (yss_one (ys_ret (yn_lc (own := [(("one" : Str), 2)]) rfl sc_law_scaled.nd (yi_seq (ye_var 0)) (blkOk_by (by rfl)) (fun _ _ _ _ _ => (ygN 2 sc_law_scaled.nd)) (fun _ _ _ _ _ => yts_nil) (fun _ _ _ _ _ => (ye_tup (yl_cons (ye_ix (ye_var 2) ye_int) (yl_cons (ye_bin oy_mulA (ye_ix (ye_var 2) ye_int) (ye_var 1)) (yl_cons (ye_bin oy_mulA (ye_ix (ye_var 2) ye_int) (ye_var 1)) (yl_cons (ye_bin oy_mulA (ye_ix (ye_var 2) ye_int) (ye_var 1)) (yl_cons (ye_bin oy_mulA (ye_ix (ye_var 2) ye_int) (ye_var 1)) yl_nil)))))))).ye))
abbrev P_law_told : List Str := ["word", "one", "width", "row", "w", "side"]
theorem sc_law_told : FnScope N_law_told P_law_told (defScope s_law_told) := ⟨rfl, rfl, rfl, by decide +kernel, rfl, by decide +kernel, by decide +kernel⟩
theorem ok_law_told (T : Txt K mg) (C_float_at : CallOk P w K mg base 5 "float_at" P_float_at φ_float_at) (C_room_at : CallOk P w K mg base 5 "room_at" P_room_at φ_room_at) (vc : ∀ (ds : List D) (Q' : D → Prop) (E' : Nat → Prop), φ_law_told ds Q' E' → r_law_told (fun c _ => E' c) { nx := fun _ => Q' .non, rt := fun d _ => Q' d } (startE N_law_told ds)) (len : ∀ ds Q E, φ_law_told ds Q E → ds.length = 6) :
    CallOk P w K mg base 6 "_law_told" P_law_told φ_law_told := by
  obtain ⟨fd, F⟩ := T.d_law_told
  refine ⟨⟨fd, fun_ok F sc_law_told len r_law_told (fun cdv A outer s H E Ξ hr => ?_) vc, funLook F, F.bindsA fun _ _ _ _ _ _ us hl => match us, hl with | [_, _, _, _, _, _], _ => rfl⟩, F.kp, T.g_law_told⟩
  exact (yss_cons (ys_try (cs := exCs) 7 T.xk rfl rfl sc_law_told.nd (by rfl) rfl rfl ⟨by rfl, by decide, .inl T.g_PageError⟩ (takes_of rfl rfl rfl rfl)
  (rb := fun Ξb => (ysIf (yBinT (oEq false) (yVar 0) (yC (.str ("at" : Str))))
  (ysAsg (yCall φ_float_at Ξb (ylCons (yVar 1) (ylCons (yVar 2) (ylCons (yVar 3) (ylCons (yVar 4) (ylCons (yVar 5) ylNil)))))) 6)
  (ysAsg (yCall φ_room_at Ξb (ylCons (yVar 1) (ylCons (yVar 2) (ylCons (yVar 3) ylNil)))) 6))) (rs := fun a c => (ysRet (yTup (ylCons (yC (.str ("refused" : Str))) (ylCons (yIsE 7 a c 10) (ylCons (yIsE 7 a c 11) ylNil))))))
  (fun Wb Ξb pn xe tkb po => (yss_one (ys_if (yt_cmp (oy_eq hr.units) (ye_var 0) ye_str)
  (yss_one (ysSet 6 sc_law_told.nd (yeCall C_float_at tkb (hr.mono (by decide)) (yl_cons (ye_var 1) (yl_cons (ye_var 2) (yl_cons (ye_var 3) (yl_cons (ye_var 4) (yl_cons (ye_var 5) yl_nil))))))))
  (yss_one (ysSet 6 sc_law_told.nd (yeCall C_room_at tkb (hr.mono (by decide)) (yl_cons (ye_var 1) (yl_cons (ye_var 2) (yl_cons (ye_var 3) yl_nil)))))))))
  (fun c a oe pn hc xc hz hf => (yss_one (ys_ret (ye_tup (yl_cons ye_str (yl_cons (ye_isE c 10 7 T.xk hc (by decide) hz hf (by rfl) T.n_isinstance (by rfl) (by first | exact Or.inl rfl | exact Or.inr rfl) (by rfl) (by rfl) T.g_BadList) (yl_cons (ye_isE c 11 7 T.xk hc (by decide) hz hf (by rfl) T.n_isinstance (by rfl) (by first | exact Or.inl rfl | exact Or.inr rfl) (by rfl) (by rfl) T.g_BadMarks) yl_nil))))))))
  (yss_one (ys_ret (ye_tup (yl_cons ye_str (yl_cons (ye_var 6) yl_nil))))))
abbrev P_law_is_right : List Str := ["pool", "floats", "width", "ceiling", "w", "side"]
theorem sc_law_is_right : FnScope N_law_is_right P_law_is_right (defScope s_law_is_right) := ⟨rfl, rfl, rfl, by decide +kernel, rfl, by decide +kernel, by decide +kernel⟩
theorem ok_law_is_right (T : Txt K mg) (C_law_place : CallOk P w K mg base 2 "_law_place" P_law_place φ_law_place) (C_law_pick : CallOk P w K mg base 1 "_law_pick" P_law_pick φ_law_pick) (C_law_same : CallOk P w K mg base 4 "_law_same" P_law_same φ_law_same) (C_law_told : CallOk P w K mg base 6 "_law_told" P_law_told φ_law_told) (C_law_mirrored : CallOk P w K mg base 1 "_law_mirrored" P_law_mirrored φ_law_mirrored) (C_law_scaled : CallOk P w K mg base 1 "_law_scaled" P_law_scaled φ_law_scaled) (C_law_between : CallOk P w K mg base 1 "_law_between" P_law_between φ_law_between) (vc : ∀ (ds : List D) (Q' : D → Prop) (E' : Nat → Prop), φ_law_is_right ds Q' E' → r_law_is_right (fun c _ => E' c) { nx := fun _ => Q' .non, rt := fun d _ => Q' d } (startE N_law_is_right ds)) (len : ∀ ds Q E, φ_law_is_right ds Q E → ds.length = 6) :
    CallOk P w K mg base 7 "_law_is_right" P_law_is_right φ_law_is_right := by
  obtain ⟨fd, F⟩ := T.d_law_is_right
  refine ⟨⟨fd, fun_ok F sc_law_is_right len r_law_is_right (fun cdv A outer s H E Ξ hr => ?_) vc, funLook F, F.bindsA fun _ _ _ _ _ _ us hl => match us, hl with | [_, _, _, _, _, _], _ => rfl⟩, F.kp, T.g_law_is_right⟩
  exact (yss_cons (ys_asg (yeCall C_law_place (takes_of rfl rfl rfl rfl) (hr.mono (by decide)) (yl_cons (ye_var 1) (yl_cons (ye_var 2) (yl_cons (ye_var 3) (yl_cons (ye_var 4) (yl_cons (ye_var 5) yl_nil)))))) (yg_tup rfl (ygs_cons (ygN 6 sc_law_is_right.nd) (ygs_cons (ygN 7 sc_law_is_right.nd) ygs_nil))))
  (yss_cons (ys_par 8 9 rfl sc_law_is_right.nd (by rfl) (by rfl) (by decide) rfl rfl (yx_e (ye_ix (yn_lst (yl_cons ye_int (yl_cons ye_int (yl_cons ye_int (yl_cons (ye_bin oy_pow ye_int ye_int) (yl_cons (ye_bin oy_pow ye_int ye_int) yl_nil)))))).ye (yeCall C_law_pick (takes_of rfl rfl rfl rfl) (hr.mono (by decide)) (yl_cons (ye_var 0) (yl_cons ye_int yl_nil))))) (yx_e (yn_callTy cn_list (by rfl) T.n_list boot_list (yl_cons (ye_var 1) yl_nil)).ye))
  (yss_cons (ys_if (yt_not (yt_tru (yeCall C_law_same (takes_of rfl rfl rfl rfl) (hr.mono (by decide)) (yl_cons (yeCall C_law_told (takes_of rfl rfl rfl rfl) (hr.mono (by decide)) (yl_cons ye_str (yl_cons (ye_var 9) (yl_cons (ye_var 2) (yl_cons (ye_var 3) (yl_cons (ye_var 4) (yl_cons (ye_var 5) yl_nil))))))) (yl_cons (ye_tup (yl_cons ye_str (yl_cons (ye_tup (yl_cons (ye_var 6) (yl_cons (ye_var 7) yl_nil))) yl_nil))) yl_nil)))))
  (yss_one (ys_ret ye_bl))
  yss_nil)
  (yss_cons (ysSet 10 sc_law_is_right.nd (ye_ixD hr.units (ye_dic2 (by rfl)) (ye_var 5)))
  (yss_cons (ys_if (yt_not (yt_tru (yeCall C_law_same (takes_of rfl rfl rfl rfl) (hr.mono (by decide)) (yl_cons (yeCall C_law_told (takes_of rfl rfl rfl rfl) (hr.mono (by decide)) (yl_cons ye_str (yl_cons (yeCall C_law_mirrored (takes_of rfl rfl rfl rfl) (hr.mono (by decide)) (yl_cons (ye_var 1) (yl_cons (ye_var 2) yl_nil))) (yl_cons (ye_var 2) (yl_cons (ye_var 3) (yl_cons (ye_var 4) (yl_cons (ye_var 10) yl_nil))))))) (yl_cons (ye_tup (yl_cons ye_str (yl_cons (ye_tup (yl_cons (ye_bin oy_sub (ye_bin oy_sub (ye_var 2) (ye_var 6)) (ye_var 4)) (yl_cons (ye_var 7) yl_nil))) yl_nil))) yl_nil)))))
  (yss_one (ys_ret ye_bl))
  yss_nil)
  (yss_cons (ysSet 11 sc_law_is_right.nd (yeCall C_law_told (takes_of rfl rfl rfl rfl) (hr.mono (by decide)) (yl_cons ye_str (yl_cons (yeCall C_law_scaled (takes_of rfl rfl rfl rfl) (hr.mono (by decide)) (yl_cons (ye_var 1) (yl_cons (ye_var 8) yl_nil))) (yl_cons (ye_bin oy_mulA (ye_var 2) (ye_var 8)) (yl_cons (ye_bin oy_mulA (ye_var 3) (ye_var 8)) (yl_cons (ye_bin oy_mulA (ye_var 4) (ye_var 8)) (yl_cons (ye_var 5) yl_nil))))))))
  (yss_cons (ys_if (YW.yt (yw_or (yt_not (yt_tru (yeCall C_law_same (takes_of rfl rfl rfl rfl) (hr.mono (by decide)) (yl_cons (ye_var 11) (yl_cons (ye_tup (yl_cons ye_str (yl_cons (ye_tup (yl_cons (ye_bin oy_mulA (ye_var 6) (ye_var 8)) (yl_cons (ye_bin oy_mulA (ye_var 7) (ye_var 8)) yl_nil))) yl_nil))) yl_nil))))) (yw_or1 (yt_not (yt_tru (yeCall C_law_same (takes_of rfl rfl rfl rfl) (hr.mono (by decide)) (yl_cons (ye_var 9) (yl_cons (ye_var 1) yl_nil))))))))
  (yss_one (ys_ret ye_bl))
  yss_nil)
  (yss_cons (ys_for (passes_of rfl) rfl (yi_range1 (by rfl) T.n_range (yl_cons ye_int yl_nil)) (ygN 12 sc_law_is_right.nd)
  (yss_cons (ysSet 13 sc_law_is_right.nd (ye_bin oy_sub (ye_bin oy_add (ye_var 7) (yeCall C_law_pick (takes_of rfl rfl rfl rfl) (hr.mono (by decide)) (yl_cons (ye_var 0) (yl_cons ye_int yl_nil)))) ye_int))
  (yss_cons (ys_asg (yeCall C_law_between (takes_of rfl rfl rfl rfl) (hr.mono (by decide)) (yl_cons (ye_var 1) (yl_cons (ye_var 2) (yl_cons (ye_var 13) yl_nil)))) (yg_tup rfl (ygs_cons (ygN 14 sc_law_is_right.nd) (ygs_cons (ygN 15 sc_law_is_right.nd) ygs_nil))))
  (yss_cons (ys_if (yt_not (yt_tru (yeCall C_law_same (takes_of rfl rfl rfl rfl) (hr.mono (by decide)) (yl_cons (yeCall C_law_told (takes_of rfl rfl rfl rfl) (hr.mono (by decide)) (yl_cons ye_str (yl_cons (ye_var 9) (yl_cons (ye_var 2) (yl_cons (ye_var 13) (yl_cons ye_int (yl_cons ye_str yl_nil))))))) (yl_cons (ye_tup (yl_cons ye_str (yl_cons (ye_tup (yl_cons (ye_var 14) (yl_cons (ye_var 15) yl_nil))) yl_nil))) yl_nil)))))
  (yss_one (ys_ret ye_bl))
  yss_nil)
  (yss_one (ys_if (yt_not (yt_tru (yeCall C_law_same (takes_of rfl rfl rfl rfl) (hr.mono (by decide)) (yl_cons (yeCall C_law_told (takes_of rfl rfl rfl rfl) (hr.mono (by decide)) (yl_cons ye_str (yl_cons (yeCall C_law_scaled (takes_of rfl rfl rfl rfl) (hr.mono (by decide)) (yl_cons (ye_var 1) (yl_cons (ye_var 8) yl_nil))) (yl_cons (ye_bin oy_mulA (ye_var 2) (ye_var 8)) (yl_cons (ye_bin oy_mulA (ye_var 13) (ye_var 8)) (yl_cons ye_int (yl_cons ye_str yl_nil))))))) (yl_cons (ye_tup (yl_cons ye_str (yl_cons (ye_tup (yl_cons (ye_bin oy_mulA (ye_var 14) (ye_var 8)) (yl_cons (ye_bin oy_mulA (ye_var 15) (ye_var 8)) yl_nil))) yl_nil))) yl_nil)))))
  (yss_one (ys_ret ye_bl))
  yss_nil))))))
  (yss_one (ys_ret (yeCall C_law_same (takes_of rfl rfl rfl rfl) (hr.mono (by decide)) (yl_cons (ye_var 9) (yl_cons (ye_var 1) yl_nil)))))))))))))
abbrev P_law_are_apart : List Str := ["floats"]
theorem sc_law_are_apart : FnScope N_law_are_apart P_law_are_apart (defScope s_law_are_apart) := ⟨rfl, rfl, rfl, by decide +kernel, rfl, by decide +kernel, by decide +kernel⟩
theorem ok_law_are_apart (T : Txt K mg) (vc : ∀ (ds : List D) (Q' : D → Prop) (E' : Nat → Prop), φ_law_are_apart ds Q' E' → r_law_are_apart (fun c _ => E' c) { nx := fun _ => Q' .non, rt := fun d _ => Q' d } (startE N_law_are_apart ds)) (len : ∀ ds Q E, φ_law_are_apart ds Q E → ds.length = 1) :
    CallOk P w K mg base 1 "_law_are_apart" P_law_are_apart φ_law_are_apart := by
  obtain ⟨fd, F⟩ := T.d_law_are_apart
  refine ⟨⟨fd, fun_ok F sc_law_are_apart len r_law_are_apart (fun cdv A outer s H E Ξ hr => ?_) vc, funLook F, F.bindsA fun _ _ _ _ _ _ us hl => match us, hl with | [_], _ => rfl⟩, F.kp, T.g_law_are_apart⟩
  exact (yss_cons (ys_for (passes_of rfl) rfl (yi_range1 (by rfl) T.n_range (yl_cons (ye_callB cy_len (by rfl) T.n_len PySem.boot_len (yl_cons (ye_var 0) yl_nil)) yl_nil)) (ygN 1 sc_law_are_apart.nd)
  (yss_one (ys_for (passes_of rfl) rfl (yi_range1 (by rfl) T.n_range (yl_cons (ye_var 1) yl_nil)) (ygN 2 sc_law_are_apart.nd)
  (yss_cons (ys_par 3 4 rfl sc_law_are_apart.nd (by rfl) (by rfl) (by decide) rfl rfl (yx_e (ye_ix (ye_var 0) (ye_var 2))) (yx_e (ye_ix (ye_var 0) (ye_var 1))))
  (yss_one (ys_if (YW.yt (yw_and (yt_cmp oy_lt (ye_callB (cy_max2 rfl) (by rfl) T.n_max boot_max (yl_cons (ye_ix (ye_var 3) ye_int) (yl_cons (ye_ix (ye_var 4) ye_int) yl_nil))) (ye_callB (cy_min2 rfl) (by rfl) T.n_min boot_min (yl_cons (ye_ix (ye_var 3) ye_int) (yl_cons (ye_ix (ye_var 4) ye_int) yl_nil)))) (yw_and1 (yt_cmp oy_lt (ye_callB (cy_max2 rfl) (by rfl) T.n_max boot_max (yl_cons (ye_ix (ye_var 3) ye_int) (yl_cons (ye_ix (ye_var 4) ye_int) yl_nil))) (ye_callB (cy_min2 rfl) (by rfl) T.n_min boot_min (yl_cons (ye_ix (ye_var 3) ye_int) (yl_cons (ye_ix (ye_var 4) ye_int) yl_nil)))))))
  (yss_one (ys_ret ye_bl))
  yss_nil))))))
  (yss_one (ys_ret ye_bl)))
abbrev P_law_row_right : List Str := ["pool", "width", "many", "wider"]
theorem sc_law_row_right : FnScope N_law_row_right P_law_row_right (defScope s_law_row_right) := ⟨rfl, rfl, rfl, by decide +kernel, rfl, by decide +kernel, by decide +kernel⟩
theorem ok_law_row_right (T : Txt K mg) (C_law_pick : CallOk P w K mg base 1 "_law_pick" P_law_pick φ_law_pick) (C_law_told : CallOk P w K mg base 6 "_law_told" P_law_told φ_law_told) (C_law_same : CallOk P w K mg base 4 "_law_same" P_law_same φ_law_same) (C_law_place : CallOk P w K mg base 2 "_law_place" P_law_place φ_law_place) (C_law_are_apart : CallOk P w K mg base 1 "_law_are_apart" P_law_are_apart φ_law_are_apart) (C_law_is_right : CallOk P w K mg base 7 "_law_is_right" P_law_is_right φ_law_is_right) (vc : ∀ (ds : List D) (Q' : D → Prop) (E' : Nat → Prop), φ_law_row_right ds Q' E' → r_law_row_right (fun c _ => E' c) { nx := fun _ => Q' .non, rt := fun d _ => Q' d } (startE N_law_row_right ds)) (len : ∀ ds Q E, φ_law_row_right ds Q E → ds.length = 4) :
    CallOk P w K mg base 8 "_law_row_right" P_law_row_right φ_law_row_right := by
  obtain ⟨fd, F⟩ := T.d_law_row_right
  refine ⟨⟨fd, fun_ok F sc_law_row_right len r_law_row_right (fun cdv A outer s H E Ξ hr => ?_) vc, funLook F, F.bindsA fun _ _ _ _ _ _ us hl => match us, hl with | [_, _, _, _], _ => rfl⟩, F.kp, T.g_law_row_right⟩
  exact (yss_cons (ys_par3N 4 5 6 rfl sc_law_row_right.nd (by rfl) (by rfl) (by rfl) (by decide) (by decide) (by decide) rfl rfl rfl (yn_lst yl_nil) (ye_bin oy_sub (yeCall C_law_pick (takes_of rfl rfl rfl rfl) (hr.mono (by decide)) (yl_cons (ye_var 0) (yl_cons ye_int yl_nil))) ye_int) ye_str)
  (yss_cons (ys_for (passes_of rfl) rfl (yi_range1 (by rfl) T.n_range (yl_cons (ye_var 2) yl_nil)) (ygN 7 sc_law_row_right.nd)
  (yss_cons (ys_if (yt_cmp (oy_eq hr.units) (yeCall C_law_pick (takes_of rfl rfl rfl rfl) (hr.mono (by decide)) (yl_cons (ye_var 0) (yl_cons ye_int yl_nil))) ye_int)
  (yss_one (ysSet 5 sc_law_row_right.nd (ye_bin oy_sub (ye_bin oy_add (ye_var 5) (yeCall C_law_pick (takes_of rfl rfl rfl rfl) (hr.mono (by decide)) (yl_cons (ye_var 0) (yl_cons ye_int yl_nil)))) ye_int)))
  yss_nil)
  (yss_cons (ysSet 8 sc_law_row_right.nd (ye_callB (cy_min2 rfl) (by rfl) T.n_min boot_min (yl_cons (ye_ix (yn_lst (yl_cons ye_int (yl_cons ye_int (yl_cons ye_int (yl_cons (ye_bin oy_fdiv (ye_var 1) ye_int) (yl_cons (ye_bin oy_fdiv (ye_var 1) ye_int) (yl_cons (ye_var 1) (yl_cons (yeCall C_law_pick (takes_of rfl rfl rfl rfl) (hr.mono (by decide)) (yl_cons (ye_var 0) (yl_cons ye_int yl_nil))) (yl_cons ye_int yl_nil))))))))).ye (yeCall C_law_pick (takes_of rfl rfl rfl rfl) (hr.mono (by decide)) (yl_cons (ye_var 0) (yl_cons ye_int yl_nil)))) (yl_cons (ye_bin oy_add (ye_var 1) (ye_bin oy_mulA (ye_var 3) (yeCall C_law_pick (takes_of rfl rfl rfl rfl) (hr.mono (by decide)) (yl_cons (ye_var 0) (yl_cons ye_int yl_nil))))) yl_nil))))
  (yss_cons (ysSet 6 sc_law_row_right.nd (ye_ix (yn_lst (yl_cons ye_str (yl_cons ye_str yl_nil))).ye (yeCall C_law_pick (takes_of rfl rfl rfl rfl) (hr.mono (by decide)) (yl_cons (ye_var 0) (yl_cons ye_int yl_nil)))))
  (yss_cons (ysSet 9 sc_law_row_right.nd (yeCall C_law_told (takes_of rfl rfl rfl rfl) (hr.mono (by decide)) (yl_cons ye_str (yl_cons (yn_callTy cn_list (by rfl) T.n_list boot_list (yl_cons (ye_var 4) yl_nil)).ye (yl_cons (ye_var 1) (yl_cons (ye_var 5) (yl_cons (ye_var 8) (yl_cons (ye_var 6) yl_nil))))))))
  (yss_cons (ys_if (yt_not (yt_tru (yeCall C_law_same (takes_of rfl rfl rfl rfl) (hr.mono (by decide)) (yl_cons (ye_var 9) (yl_cons (ye_tup (yl_cons ye_str (yl_cons (yeLend 4 C_law_place (takes_of rfl rfl rfl rfl) (hr.mono (by decide)) (yl_cons (ye_var 1) (yl_cons (ye_var 5) (yl_cons (ye_var 8) (yl_cons (ye_var 6) yl_nil))))) yl_nil))) yl_nil)))))
  (yss_one (ys_ret ye_bl))
  yss_nil)
  (yss_cons (ys_asg (ye_ix (ye_var 9) ye_int) (yg_tup rfl (ygs_cons (ygN 10 sc_law_row_right.nd) (ygs_cons (ygN 11 sc_law_row_right.nd) ygs_nil))))
  (yss_one (ysApp' 4 (ye_tup (yl_cons (ye_var 6) (yl_cons (ye_var 10) (yl_cons (ye_bin oy_add (ye_var 10) (ye_var 8)) (yl_cons (ye_var 11) (yl_cons (ye_bin oy_add (ye_var 11) (ye_ix (yn_lst (yl_cons ye_int (yl_cons ye_int (yl_cons ye_int (yl_cons ye_int (yl_cons ye_int (yl_cons ye_int yl_nil))))))).ye (yeCall C_law_pick (takes_of rfl rfl rfl rfl) (hr.mono (by decide)) (yl_cons (ye_var 0) (yl_cons ye_int yl_nil))))) yl_nil)))))))))))))))
  (yss_cons (ys_if (YW.yt (yw_and (yt_cmp (oy_eq hr.units) (ye_var 3) ye_int) (yw_and1 (yt_not (yt_tru (yeCall C_law_are_apart (takes_of rfl rfl rfl rfl) (hr.mono (by decide)) (yl_cons (ye_var 4) yl_nil)))))))
  (yss_one (ys_ret ye_bl))
  yss_nil)
  (yss_one (ys_ret (ye_or (ye_cmp oy_gt (ye_var 2) ye_int) (ye_one (yeCall C_law_is_right (takes_of rfl rfl rfl rfl) (hr.mono (by decide)) (yl_cons (ye_var 0) (yl_cons (ye_var 4) (yl_cons (ye_var 1) (yl_cons (ye_bin oy_sub (ye_var 5) (yeCall C_law_pick (takes_of rfl rfl rfl rfl) (hr.mono (by decide)) (yl_cons (ye_var 0) (yl_cons ye_int yl_nil)))) (yl_cons (yeCall C_law_pick (takes_of rfl rfl rfl rfl) (hr.mono (by decide)) (yl_cons (ye_var 0) (yl_cons (ye_bin oy_add (ye_var 1) ye_int) yl_nil))) (yl_cons (ye_var 6) yl_nil))))))))))))))
abbrev P_law_drawn : List Str := ["pool", "width"]
theorem sc_law_drawn : FnScope N_law_drawn P_law_drawn (defScope s_law_drawn) := ⟨rfl, rfl, rfl, by decide +kernel, rfl, by decide +kernel, by decide +kernel⟩
theorem ok_law_drawn (T : Txt K mg) (C_law_pick : CallOk P w K mg base 1 "_law_pick" P_law_pick φ_law_pick) (vc : ∀ (ds : List D) (Q' : D → Prop) (E' : Nat → Prop), φ_law_drawn ds Q' E' → r_law_drawn (fun c _ => E' c) { nx := fun _ => Q' .non, rt := fun d _ => Q' d } (startE N_law_drawn ds)) (len : ∀ ds Q E, φ_law_drawn ds Q E → ds.length = 2) :
    CallOk P w K mg base 2 "_law_drawn" P_law_drawn φ_law_drawn := by
  obtain ⟨fd, F⟩ := T.d_law_drawn
  refine ⟨⟨fd, fun_ok F sc_law_drawn len r_law_drawn (fun cdv A outer s H E Ξ hr => ?_) vc, funLook F, F.bindsA fun _ _ _ _ _ _ us hl => match us, hl with | [_, _], _ => rfl⟩, F.kp, T.g_law_drawn⟩
  exact (yss_cons (ys_par 2 3 rfl sc_law_drawn.nd (by rfl) (by rfl) (by decide) rfl rfl (yx_n (yn_lst yl_nil)) (yx_e (ye_bin oy_sub (yeCall C_law_pick (takes_of rfl rfl rfl rfl) (hr.mono (by decide)) (yl_cons (ye_var 0) (yl_cons ye_int yl_nil))) ye_int)))
  (yss_cons (ys_for (passes_of rfl) rfl (yi_range1 (by rfl) T.n_range (yl_cons (yeCall C_law_pick (takes_of rfl rfl rfl rfl) (hr.mono (by decide)) (yl_cons (ye_var 0) (yl_cons ye_int yl_nil))) yl_nil)) (ygN 4 sc_law_drawn.nd)
  (yss_cons (ysSet 3 sc_law_drawn.nd (ye_bin oy_add (ye_var 3) (ye_ix (yn_lst (yl_cons ye_int (yl_cons ye_int (yl_cons ye_int (yl_cons ye_int (yl_cons ye_int (yl_cons ye_int yl_nil))))))).ye (yeCall C_law_pick (takes_of rfl rfl rfl rfl) (hr.mono (by decide)) (yl_cons (ye_var 0) (yl_cons ye_int yl_nil))))))
  (yss_cons (ysSet 5 sc_law_drawn.nd (ye_bin oy_sub (yeCall C_law_pick (takes_of rfl rfl rfl rfl) (hr.mono (by decide)) (yl_cons (ye_var 0) (yl_cons (ye_bin oy_add (ye_var 1) ye_int) yl_nil))) ye_int))
  (yss_cons (ysSet 6 sc_law_drawn.nd (ye_bin oy_add (ye_var 5) (ye_ix (yn_lst (yl_cons ye_int (yl_cons ye_int (yl_cons ye_int (yl_cons ye_int (yl_cons ye_int yl_nil)))))).ye (yeCall C_law_pick (takes_of rfl rfl rfl rfl) (hr.mono (by decide)) (yl_cons (ye_var 0) (yl_cons ye_int yl_nil))))))
  (yss_one (ysApp' 2 (ye_tup (yl_cons (ye_ix (yn_lst (yl_cons ye_str (yl_cons ye_str yl_nil))).ye (yeCall C_law_pick (takes_of rfl rfl rfl rfl) (hr.mono (by decide)) (yl_cons (ye_var 0) (yl_cons ye_int yl_nil)))) (yl_cons (ye_var 5) (yl_cons (ye_var 6) (yl_cons (ye_var 3) (yl_cons (ye_bin oy_add (ye_var 3) (ye_ix (yn_lst (yl_cons ye_int (yl_cons ye_int (yl_cons ye_int (yl_cons ye_int (yl_cons ye_int yl_nil)))))).ye (yeCall C_law_pick (takes_of rfl rfl rfl rfl) (hr.mono (by decide)) (yl_cons (ye_var 0) (yl_cons ye_int yl_nil))))) yl_nil))))))))))))
  (yss_one (ys_ret (ye_var 2)))))
abbrev P_law_wrong_floats : List Str := ["pool", "floats"]
theorem sc_law_wrong_floats : FnScope N_law_wrong_floats P_law_wrong_floats (defScope s_law_wrong_floats) := ⟨rfl, rfl, rfl, by decide +kernel, rfl, by decide +kernel, by decide +kernel⟩
theorem ok_law_wrong_floats (T : Txt K mg) (C_law_pick : CallOk P w K mg base 1 "_law_pick" P_law_pick φ_law_pick) (C_law_index : CallOk P w K mg base 2 "_law_index" P_law_index φ_law_index) (vc : ∀ (ds : List D) (Q' : D → Prop) (E' : Nat → Prop), φ_law_wrong_floats ds Q' E' → r_law_wrong_floats (fun c _ => E' c) { nx := fun _ => Q' .non, rt := fun d _ => Q' d } (startE N_law_wrong_floats ds)) (len : ∀ ds Q E, φ_law_wrong_floats ds Q E → ds.length = 2) :
    CallOk P w K mg base 3 "_law_wrong_floats" P_law_wrong_floats φ_law_wrong_floats := by
  obtain ⟨fd, F⟩ := T.d_law_wrong_floats
  refine ⟨⟨fd, fun_ok F sc_law_wrong_floats len r_law_wrong_floats (fun cdv A outer s H E Ξ hr => ?_) vc, funLook F, F.bindsA fun _ _ _ _ _ _ us hl => match us, hl with | [_, _], _ => rfl⟩, F.kp, T.g_law_wrong_floats⟩
  exact (yss_cons (ysSetO 2 sc_law_wrong_floats.nd (yn_lst (yl_cons (ye_callTy cy_tuple (by rfl) T.n_tuple boot_tuple (yl_cons (ye_var 1) yl_nil)) (yl_cons (ye_ix (yn_lst (yl_cons ye_non (yl_cons ye_dic0 (yl_cons ye_str (yl_cons ye_int (yl_cons ye_bl yl_nil)))))).ye (yeCall C_law_pick (takes_of rfl rfl rfl rfl) (hr.mono (by decide)) (yl_cons (ye_var 0) (yl_cons ye_int yl_nil)))) yl_nil))))
  (yss_cons (ys_par 3 4 rfl sc_law_wrong_floats.nd (by rfl) (by rfl) (by decide) rfl rfl (yx_e (yeCall C_law_index (takes_of rfl rfl rfl rfl) (hr.mono (by decide)) (yl_cons (ye_var 0) (yl_cons (ye_bin oy_add (ye_callB cy_len (by rfl) T.n_len PySem.boot_len (yl_cons (ye_var 1) yl_nil)) ye_int) yl_nil)))) (yx_e (ye_callB (cy_maxL rfl) (by rfl) T.n_max boot_max (yl_cons (ye_bin oy_add (yn_lst (yl_cons ye_int yl_nil)).ye (yn_lc (own := [(("one" : Str), 11)]) rfl sc_law_wrong_floats.nd (yi_seq (ye_var 1)) (blkOk_by (by rfl)) (fun _ _ _ _ _ => (ygN 11 sc_law_wrong_floats.nd)) (fun _ _ _ _ _ => yts_nil) (fun _ _ _ _ _ => (ye_ix (ye_var 11) ye_int))).ye) yl_nil))))
  (yss_cons (ys_asg (ye_tup (yl_cons (ye_ix (yn_lst (yl_cons ye_str (yl_cons ye_str yl_nil))).ye (yeCall C_law_pick (takes_of rfl rfl rfl rfl) (hr.mono (by decide)) (yl_cons (ye_var 0) (yl_cons ye_int yl_nil)))) (yl_cons (yeCall C_law_pick (takes_of rfl rfl rfl rfl) (hr.mono (by decide)) (yl_cons (ye_var 0) (yl_cons ye_int yl_nil))) (yl_cons (ye_bin oy_add ye_int (yeCall C_law_pick (takes_of rfl rfl rfl rfl) (hr.mono (by decide)) (yl_cons (ye_var 0) (yl_cons ye_int yl_nil)))) (yl_cons (ye_bin oy_add (ye_var 4) (yeCall C_law_pick (takes_of rfl rfl rfl rfl) (hr.mono (by decide)) (yl_cons (ye_var 0) (yl_cons ye_int yl_nil)))) yl_nil))))) (yg_tup rfl (ygs_cons (ygN 5 sc_law_wrong_floats.nd) (ygs_cons (ygN 6 sc_law_wrong_floats.nd) (ygs_cons (ygN 7 sc_law_wrong_floats.nd) (ygs_cons (ygN 8 sc_law_wrong_floats.nd) ygs_nil))))))
  (yss_cons (ysSet 9 sc_law_wrong_floats.nd (yn_lst (yl_cons (ye_tup (yl_cons (ye_var 5) (yl_cons (ye_var 7) (yl_cons (ye_var 6) (yl_cons (ye_var 4) (yl_cons (ye_var 8) yl_nil)))))) (yl_cons (ye_tup (yl_cons (ye_var 5) (yl_cons (ye_var 6) (yl_cons (ye_var 7) (yl_cons (ye_bin oy_add (ye_var 8) ye_int) (yl_cons (ye_var 8) yl_nil)))))) (yl_cons (ye_tup (yl_cons ye_str (yl_cons (ye_var 6) (yl_cons (ye_var 7) (yl_cons (ye_var 4) (yl_cons (ye_var 8) yl_nil)))))) (yl_cons (ye_tup (yl_cons ye_non (yl_cons (ye_var 6) (yl_cons (ye_var 7) (yl_cons (ye_var 4) (yl_cons (ye_var 8) yl_nil)))))) (yl_cons (ye_tup (yl_cons (ye_var 5) (yl_cons (ye_var 6) (yl_cons (ye_var 7) (yl_cons (ye_var 4) yl_nil))))) (yl_cons (ye_tup (yl_cons (ye_var 5) (yl_cons (ye_var 6) (yl_cons (ye_var 7) (yl_cons (ye_var 4) (yl_cons (ye_var 8) (yl_cons ye_int yl_nil))))))) (yl_cons (yn_lst (yl_cons (ye_var 5) (yl_cons (ye_var 6) (yl_cons (ye_var 7) (yl_cons (ye_var 4) (yl_cons (ye_var 8) yl_nil)))))).ye (yl_cons (ye_tup (yl_cons (ye_var 5) (yl_cons ye_bl (yl_cons (ye_var 7) (yl_cons (ye_var 4) (yl_cons (ye_var 8) yl_nil)))))) (yl_cons (ye_tup (yl_cons (ye_var 5) (yl_cons (ye_var 6) (yl_cons ye_non (yl_cons (ye_var 4) (yl_cons (ye_var 8) yl_nil)))))) (yl_cons (ye_tup (yl_cons (ye_var 5) (yl_cons (ye_var 6) (yl_cons (ye_var 7) (yl_cons ye_str (yl_cons (ye_var 8) yl_nil)))))) (yl_cons (ye_tup (yl_cons (ye_var 5) (yl_cons (ye_var 6) (yl_cons (ye_var 7) (yl_cons (ye_var 4) (yl_cons (ye_tup (yl_cons (ye_var 8) yl_nil)) yl_nil)))))) (yl_cons (ye_tup (yl_cons ye_int (yl_cons (ye_var 6) (yl_cons (ye_var 7) (yl_cons (ye_var 4) (yl_cons (ye_var 8) yl_nil)))))) (yl_cons (ye_tup (yl_cons (ye_var 6) (yl_cons (ye_var 7) (yl_cons (ye_var 4) (yl_cons (ye_var 8) (yl_cons (ye_var 5) yl_nil)))))) (yl_cons ye_non (yl_cons (ye_tup yl_nil) (yl_cons (ye_var 5) (yl_cons (ye_tup (yl_cons (ye_bin oy_add (ye_var 5) ye_str) (yl_cons (ye_var 6) (yl_cons (ye_var 7) (yl_cons (ye_var 4) (yl_cons (ye_var 8) yl_nil)))))) (yl_cons (ye_tup (yl_cons (yn_lst (yl_cons (ye_var 5) yl_nil)).ye (yl_cons (ye_var 6) (yl_cons (ye_var 7) (yl_cons (ye_var 4) (yl_cons (ye_var 8) yl_nil)))))) yl_nil))))))))))))))))))).ye)
  (yss_cons (ys_for (passes_of rfl) rfl (yi_range1 (by rfl) T.n_range (yl_cons ye_int yl_nil)) (ygN 10 sc_law_wrong_floats.nd)
  (yss_one (ysApp' 2 (ye_bin oy_add (ye_bin oy_add (yn_sl (ye_var 1) yo_none (yo_some (ye_var 3))).ye (yn_lst (yl_cons (ye_ix (ye_var 9) (yeCall C_law_pick (takes_of rfl rfl rfl rfl) (hr.mono (by decide)) (yl_cons (ye_var 0) (yl_cons (ye_callB cy_len (by rfl) T.n_len PySem.boot_len (yl_cons (ye_var 9) yl_nil)) yl_nil)))) yl_nil)).ye) (yn_sl (ye_var 1) (yo_some (ye_var 3)) yo_none).ye))))
  (yss_cons (ysApp' 2 (ye_bin oy_add (ye_var 1) (yn_lst (yl_cons (ye_tup (yl_cons (ye_var 5) (yl_cons (ye_var 6) (yl_cons (ye_var 7) (yl_cons (ye_var 8) (yl_cons (ye_var 8) yl_nil)))))) (yl_cons (ye_tup (yl_cons (ye_var 5) (yl_cons (ye_var 6) (yl_cons (ye_var 7) (yl_cons (ye_bin oy_sub (ye_var 8) ye_int) (yl_cons (ye_var 8) yl_nil)))))) yl_nil))).ye))
  (yss_cons (ysApp' 2 (ye_bin oy_add (ye_bin oy_add (yn_lst (yl_cons (ye_tup (yl_cons (ye_var 5) (yl_cons (ye_var 6) (yl_cons (ye_var 7) (yl_cons (ye_bin oy_add (ye_var 4) ye_int) (yl_cons (ye_bin oy_add (ye_var 8) ye_int) yl_nil)))))) yl_nil)).ye (ye_var 1)) (yn_lst (yl_cons (ye_tup (yl_cons (ye_var 5) (yl_cons (ye_var 6) (yl_cons (ye_var 7) (yl_cons (ye_var 4) (yl_cons (ye_var 8) yl_nil)))))) yl_nil)).ye))
  (yss_one (ys_ret (ye_var 2))))))))))
abbrev P_law_refused : List Str := ["pool", "floats", "width"]
theorem sc_law_refused : FnScope N_law_refused P_law_refused (defScope s_law_refused) := ⟨rfl, rfl, rfl, by decide +kernel, rfl, by decide +kernel, by decide +kernel⟩
theorem ok_law_refused (T : Txt K mg) (C_law_pick : CallOk P w K mg base 1 "_law_pick" P_law_pick φ_law_pick) (C_law_wrong_floats : CallOk P w K mg base 3 "_law_wrong_floats" P_law_wrong_floats φ_law_wrong_floats) (C_law_same : CallOk P w K mg base 4 "_law_same" P_law_same φ_law_same) (C_law_told : CallOk P w K mg base 6 "_law_told" P_law_told φ_law_told) (vc : ∀ (ds : List D) (Q' : D → Prop) (E' : Nat → Prop), φ_law_refused ds Q' E' → r_law_refused (fun c _ => E' c) { nx := fun _ => Q' .non, rt := fun d _ => Q' d } (startE N_law_refused ds)) (len : ∀ ds Q E, φ_law_refused ds Q E → ds.length = 3) :
    CallOk P w K mg base 7 "_law_refused" P_law_refused φ_law_refused := by
  obtain ⟨fd, F⟩ := T.d_law_refused
  refine ⟨⟨fd, fun_ok F sc_law_refused len r_law_refused (fun cdv A outer s H E Ξ hr => ?_) vc, funLook F, F.bindsA fun _ _ _ _ _ _ us hl => match us, hl with | [_, _, _], _ => rfl⟩, F.kp, T.g_law_refused⟩
  exact (yss_cons (ys_asg (ye_tup (yl_cons (ye_bin oy_sub (yeCall C_law_pick (takes_of rfl rfl rfl rfl) (hr.mono (by decide)) (yl_cons (ye_var 0) (yl_cons ye_int yl_nil))) ye_int) (yl_cons (yeCall C_law_pick (takes_of rfl rfl rfl rfl) (hr.mono (by decide)) (yl_cons (ye_var 0) (yl_cons ye_int yl_nil))) (yl_cons (ye_ix (yn_lst (yl_cons ye_str (yl_cons ye_str yl_nil))).ye (yeCall C_law_pick (takes_of rfl rfl rfl rfl) (hr.mono (by decide)) (yl_cons (ye_var 0) (yl_cons ye_int yl_nil)))) yl_nil)))) (yg_tup rfl (ygs_cons (ygN 3 sc_law_refused.nd) (ygs_cons (ygN 4 sc_law_refused.nd) (ygs_cons (ygN 5 sc_law_refused.nd) ygs_nil)))))
  (yss_cons (ys_setLc (own := [(("one" : Str), 7)]) 6 true rfl sc_law_refused.nd rfl rfl (sw_true rfl rfl rfl (by decide +kernel)) (yi_seq (yeCall C_law_wrong_floats (takes_of rfl rfl rfl rfl) (hr.mono (by decide)) (yl_cons (ye_var 0) (yl_cons (ye_var 1) yl_nil)))) (blkOk_by (by rfl)) (fun _ _ _ _ _ => (ygN 7 sc_law_refused.nd)) (fun _ _ _ _ _ => yts_nil) (fun _ _ _ _ _ => (ye_tup (yl_cons (ye_var 7) (yl_cons (ye_var 2) (yl_cons (ye_var 3) (yl_cons (ye_var 4) (yl_cons (ye_var 5) yl_nil))))))))
  (yss_cons (ys_for (passes_of rfl) rfl (yi_seq (yn_lst (yl_cons (ye_ix (yn_lst (yl_cons (ye_neg ye_int) (yl_cons ye_bl (yl_cons ye_non (yl_cons ye_str (yl_cons (ye_tup (yl_cons ye_int yl_nil)) yl_nil)))))).ye (yeCall C_law_pick (takes_of rfl rfl rfl rfl) (hr.mono (by decide)) (yl_cons (ye_var 0) (yl_cons ye_int yl_nil)))) (yl_cons (ye_bin oy_sub (ye_neg ye_int) (yeCall C_law_pick (takes_of rfl rfl rfl rfl) (hr.mono (by decide)) (yl_cons (ye_var 0) (yl_cons ye_int yl_nil)))) yl_nil))).ye) (ygN 7 sc_law_refused.nd)
  (yss_one (ysSetO 6 sc_law_refused.nd (yn_add (ye_var 6) (yn_lst (yl_cons (ye_tup (yl_cons (ye_var 1) (yl_cons (ye_var 7) (yl_cons (ye_var 3) (yl_cons (ye_var 4) (yl_cons (ye_var 5) yl_nil)))))) (yl_cons (ye_tup (yl_cons (ye_var 1) (yl_cons (ye_var 2) (yl_cons (ye_var 3) (yl_cons (ye_var 7) (yl_cons (ye_var 5) yl_nil)))))) yl_nil))).ye))))
  (yss_cons (ysApp' 6 (ye_tup (yl_cons (ye_var 1) (yl_cons (ye_var 2) (yl_cons (ye_ix (yn_lst (yl_cons ye_non (yl_cons ye_bl (yl_cons ye_bl (yl_cons ye_str (yl_cons (yn_lst (yl_cons ye_int yl_nil)).ye yl_nil)))))).ye (yeCall C_law_pick (takes_of rfl rfl rfl rfl) (hr.mono (by decide)) (yl_cons (ye_var 0) (yl_cons ye_int yl_nil)))) (yl_cons (ye_var 4) (yl_cons (ye_var 5) yl_nil)))))))
  (yss_cons (ys_for (passes_of rfl) rfl (yi_seq (yn_lst (yl_cons (ye_ix (yn_lst (yl_cons ye_str (yl_cons ye_str (yl_cons ye_str (yl_cons ye_non (yl_cons ye_int (yl_cons ye_bl (yl_cons (yn_lst (yl_cons ye_str yl_nil)).ye (yl_cons (ye_tup (yl_cons ye_str yl_nil)) (yl_cons ye_str yl_nil)))))))))).ye (yeCall C_law_pick (takes_of rfl rfl rfl rfl) (hr.mono (by decide)) (yl_cons (ye_var 0) (yl_cons ye_int yl_nil)))) (yl_cons ye_str yl_nil))).ye) (ygN 7 sc_law_refused.nd)
  (yss_one (ysApp' 6 (ye_tup (yl_cons (ye_var 1) (yl_cons (ye_var 2) (yl_cons (ye_var 3) (yl_cons (ye_var 4) (yl_cons (ye_var 7) yl_nil)))))))))
  (yss_cons (ys_for (passes_of rfl) rfl (yi_seq (ye_var 6)) (ygN 7 sc_law_refused.nd)
  (yss_cons (ys_if (yt_not (yt_tru (yeCall C_law_same (takes_of rfl rfl rfl rfl) (hr.mono (by decide)) (yl_cons (yeCall C_law_told (takes_of rfl rfl rfl rfl) (hr.mono (by decide)) (yl_cons ye_str (yl_cons (ye_ix (ye_var 7) ye_int) (yl_cons (ye_ix (ye_var 7) ye_int) (yl_cons (ye_ix (ye_var 7) ye_int) (yl_cons (ye_ix (ye_var 7) ye_int) (yl_cons (ye_ix (ye_var 7) ye_int) yl_nil))))))) (yl_cons (ye_tup (yl_cons ye_str (yl_cons ye_bl (yl_cons ye_bl yl_nil)))) yl_nil)))))
  (yss_one (ys_ret ye_bl))
  yss_nil)
  (yss_cons (ysSet 8 sc_law_refused.nd (ye_and (yeCall C_law_same (takes_of rfl rfl rfl rfl) (hr.mono (by decide)) (yl_cons (ye_ix (ye_var 7) ye_int) (yl_cons (ye_var 1) yl_nil))) (ye_and (yeCall C_law_same (takes_of rfl rfl rfl rfl) (hr.mono (by decide)) (yl_cons (ye_ix (ye_var 7) ye_int) (yl_cons (ye_var 2) yl_nil))) (ye_one (yeCall C_law_same (takes_of rfl rfl rfl rfl) (hr.mono (by decide)) (yl_cons (ye_ix (ye_var 7) ye_int) (yl_cons (ye_var 3) yl_nil)))))))
  (yss_one (ys_if (YW.yt (yw_and (yt_not (yt_tru (ye_var 8))) (yw_and1 (yt_not (yt_tru (yeCall C_law_same (takes_of rfl rfl rfl rfl) (hr.mono (by decide)) (yl_cons (yeCall C_law_told (takes_of rfl rfl rfl rfl) (hr.mono (by decide)) (yl_cons ye_str (yl_cons (ye_ix (ye_var 7) ye_int) (yl_cons (ye_ix (ye_var 7) ye_int) (yl_cons (ye_ix (ye_var 7) ye_int) (yl_cons ye_int (yl_cons ye_str yl_nil))))))) (yl_cons (ye_tup (yl_cons ye_str (yl_cons ye_bl (yl_cons ye_bl yl_nil)))) yl_nil))))))))
  (yss_one (ys_ret ye_bl))
  yss_nil)))))
  (yss_one (ys_ret (ye_cmp (oy_eq hr.units) (ye_ix (yeCall C_law_told (takes_of rfl rfl rfl rfl) (hr.mono (by decide)) (yl_cons ye_str (yl_cons (ye_bin oy_add (ye_var 1) (yn_lst (yl_cons (ye_tup (yl_cons (ye_var 5) (yl_cons ye_int (yl_cons ye_int (yl_cons (ye_bin oy_pow ye_int ye_int) (yl_cons (ye_bin oy_pow ye_int ye_int) yl_nil)))))) yl_nil)).ye) (yl_cons ye_int (yl_cons (ye_var 3) (yl_cons ye_int (yl_cons (ye_var 5) yl_nil))))))) ye_int) ye_str)))))))))
abbrev P_law : List Str := ["script"]
theorem sc_law : FnScope N_law P_law (defScope s_law) := ⟨rfl, rfl, rfl, by decide +kernel, rfl, by decide +kernel, by decide +kernel⟩
theorem ok_law (T : Txt K mg) (C_law_stream : CallOk P w K mg base 1 "_law_stream" P_law_stream φ_law_stream) (C_law_pick : CallOk P w K mg base 1 "_law_pick" P_law_pick φ_law_pick) (C_law_row_right : CallOk P w K mg base 8 "_law_row_right" P_law_row_right φ_law_row_right) (C_law_drawn : CallOk P w K mg base 2 "_law_drawn" P_law_drawn φ_law_drawn) (C_law_is_right : CallOk P w K mg base 7 "_law_is_right" P_law_is_right φ_law_is_right) (C_law_refused : CallOk P w K mg base 7 "_law_refused" P_law_refused φ_law_refused) (vc : ∀ (ds : List D) (Q' : D → Prop) (E' : Nat → Prop), φ_law ds Q' E' → r_law (fun c _ => E' c) { nx := fun _ => Q' .non, rt := fun d _ => Q' d } (startE N_law ds)) (len : ∀ ds Q E, φ_law ds Q E → ds.length = 1) :
    CallOk P w K mg base 9 "law" P_law φ_law := by
  obtain ⟨fd, F⟩ := T.d_law
  refine ⟨⟨fd, fun_ok F sc_law len r_law (fun cdv A outer s H E Ξ hr => ?_) vc, funLook F, F.bindsA fun _ _ _ _ _ _ us hl => match us, hl with | [_], _ => rfl⟩, F.kp, T.g_law⟩
  exact (yss_cons (ysSet 1 sc_law.nd (yeCall C_law_stream (takes_of rfl rfl rfl rfl) (hr.mono (by decide)) (yl_cons (ye_var 0) yl_nil)))
  (yss_cons (ysSet 2 sc_law.nd (ye_cmp (oy_eq hr.units) (yeCall C_law_pick (takes_of rfl rfl rfl rfl) (hr.mono (by decide)) (yl_cons (ye_var 1) (yl_cons ye_int yl_nil))) ye_int))
  (yss_cons (ys_for (passes_of rfl) rfl (yi_range1 (by rfl) T.n_range (yl_cons ye_int yl_nil)) (ygN 3 sc_law.nd)
  (yss_cons (ysSet 4 sc_law.nd (ye_ix (yn_lst (yl_cons (ye_bin oy_add ye_int (yeCall C_law_pick (takes_of rfl rfl rfl rfl) (hr.mono (by decide)) (yl_cons (ye_var 1) (yl_cons ye_int yl_nil)))) (yl_cons (ye_bin oy_add ye_int (yeCall C_law_pick (takes_of rfl rfl rfl rfl) (hr.mono (by decide)) (yl_cons (ye_var 1) (yl_cons ye_int yl_nil)))) (yl_cons (yeCall C_law_pick (takes_of rfl rfl rfl rfl) (hr.mono (by decide)) (yl_cons (ye_var 1) (yl_cons ye_int yl_nil))) yl_nil)))).ye (yeCall C_law_pick (takes_of rfl rfl rfl rfl) (hr.mono (by decide)) (yl_cons (ye_var 1) (yl_cons ye_int yl_nil)))))
  (yss_cons (ysSet 5 sc_law.nd (ye_ix (yn_lst (yl_cons (yeCall C_law_pick (takes_of rfl rfl rfl rfl) (hr.mono (by decide)) (yl_cons (ye_var 1) (yl_cons ye_int yl_nil))) (yl_cons ye_int yl_nil))).ye (ye_callTy cy_int (by rfl) T.n_int boot_int (yl_cons (ye_and (ye_var 2) (ye_one (ye_cmp (oy_eq hr.units) (ye_var 3) ye_int))) yl_nil))))
  (yss_cons (ys_if (yt_not (yt_tru (yeCall C_law_row_right (takes_of rfl rfl rfl rfl) (hr.mono (by decide)) (yl_cons (ye_var 1) (yl_cons (ye_var 4) (yl_cons (ye_var 5) (yl_cons (yeCall C_law_pick (takes_of rfl rfl rfl rfl) (hr.mono (by decide)) (yl_cons (ye_var 1) (yl_cons ye_int yl_nil))) yl_nil)))))))
  (yss_one (ys_ret ye_bl))
  yss_nil)
  (yss_cons (ysSet 6 sc_law.nd (yeCall C_law_drawn (takes_of rfl rfl rfl rfl) (hr.mono (by decide)) (yl_cons (ye_var 1) (yl_cons (ye_var 4) yl_nil))))
  (yss_cons (ys_for (passes_of rfl) rfl (yi_range1 (by rfl) T.n_range (yl_cons ye_int yl_nil)) (ygN 7 sc_law.nd)
  (yss_cons (ys_par 8 9 rfl sc_law.nd (by rfl) (by rfl) (by decide) rfl rfl (yx_e (ye_ix (yn_lst (yl_cons ye_str (yl_cons ye_str yl_nil))).ye (yeCall C_law_pick (takes_of rfl rfl rfl rfl) (hr.mono (by decide)) (yl_cons (ye_var 1) (yl_cons ye_int yl_nil))))) (yx_e (ye_bin oy_sub (yeCall C_law_pick (takes_of rfl rfl rfl rfl) (hr.mono (by decide)) (yl_cons (ye_var 1) (yl_cons ye_int yl_nil))) ye_int)))
  (yss_one (ys_if (yt_not (yt_tru (yeCall C_law_is_right (takes_of rfl rfl rfl rfl) (hr.mono (by decide)) (yl_cons (ye_var 1) (yl_cons (ye_var 6) (yl_cons (ye_var 4) (yl_cons (ye_var 9) (yl_cons (yeCall C_law_pick (takes_of rfl rfl rfl rfl) (hr.mono (by decide)) (yl_cons (ye_var 1) (yl_cons (ye_bin oy_add (ye_var 4) ye_int) yl_nil))) (yl_cons (ye_var 8) yl_nil)))))))))
  (yss_one (ys_ret ye_bl))
  yss_nil))))
  (yss_one (ys_if (yt_not (yt_tru (yeCall C_law_refused (takes_of rfl rfl rfl rfl) (hr.mono (by decide)) (yl_cons (ye_var 1) (yl_cons (ye_var 6) (yl_cons (ye_var 4) yl_nil))))))
  (yss_one (ys_ret ye_bl))
  yss_nil))))))))
  (yss_one (ys_ret ye_bl)))))
end
end PL.K49

set_option Elab.async false
set_option linter.all false
set_option autoImplicit false
set_option maxRecDepth 100000
set_option maxHeartbeats 2000000
namespace PL.K49
open PySem PySem.Spec PyProof.Rows L2
def fa : List He.Fa := [.glo "is_whole",
  .glo "is_count",
  .glo "is_float",
  .glo "are_floats",
  .glo "between",
  .glo "goes_in",
  .glo "first_row",
  .glo "float_place",
  .glo "check_room",
  .glo "float_at",
  .glo "room_at",
  .glo "_law_stream",
  .glo "_law_pick",
  .glo "_law_index",
  .glo "_law_same",
  .glo "_law_between",
  .glo "_law_place",
  .glo "_law_mirrored",
  .glo "_law_scaled",
  .glo "_law_told",
  .glo "_law_is_right",
  .glo "_law_are_apart",
  .glo "_law_row_right",
  .glo "_law_drawn",
  .glo "_law_wrong_floats",
  .glo "_law_refused",
  .glo "law",
  .free "all",
  .free "bool",
  .free "dict",
  .free "int",
  .free "isinstance",
  .free "len",
  .free "list",
  .free "max",
  .free "min",
  .free "range",
  .free "sorted",
  .free "str",
  .free "tuple",
  .str "LEFT" ("left" : Str),
  .str "RIGHT" ("right" : Str),
  .glo "PageError",
  .glo "BadList",
  .glo "BadMarks"]
def fn : List He.DefD := [⟨("is_whole", none), "is_whole", "is_whole", defArgs s_is_whole, defBody s_is_whole, defScope s_is_whole, [], []⟩,
  ⟨("is_count", none), "is_count", "is_count", defArgs s_is_count, defBody s_is_count, defScope s_is_count, [], []⟩,
  ⟨("is_float", none), "is_float", "is_float", defArgs s_is_float, defBody s_is_float, defScope s_is_float, [], []⟩,
  ⟨("are_floats", none), "are_floats", "are_floats", defArgs s_are_floats, defBody s_are_floats, defScope s_are_floats, [], []⟩,
  ⟨("between", none), "between", "between", defArgs s_between, defBody s_between, defScope s_between, [], []⟩,
  ⟨("goes_in", none), "goes_in", "goes_in", defArgs s_goes_in, defBody s_goes_in, defScope s_goes_in, [], []⟩,
  ⟨("first_row", none), "first_row", "first_row", defArgs s_first_row, defBody s_first_row, defScope s_first_row, [], []⟩,
  ⟨("float_place", none), "float_place", "float_place", defArgs s_float_place, defBody s_float_place, defScope s_float_place, [], []⟩,
  ⟨("check_room", none), "check_room", "check_room", defArgs s_check_room, defBody s_check_room, defScope s_check_room, [], []⟩,
  ⟨("float_at", none), "float_at", "float_at", defArgs s_float_at, defBody s_float_at, defScope s_float_at, [], []⟩,
  ⟨("room_at", none), "room_at", "room_at", defArgs s_room_at, defBody s_room_at, defScope s_room_at, [], []⟩,
  ⟨("_law_stream", none), "_law_stream", "_law_stream", defArgs s_law_stream, defBody s_law_stream, defScope s_law_stream, [], []⟩,
  ⟨("_law_pick", none), "_law_pick", "_law_pick", defArgs s_law_pick, defBody s_law_pick, defScope s_law_pick, [], []⟩,
  ⟨("_law_index", none), "_law_index", "_law_index", defArgs s_law_index, defBody s_law_index, defScope s_law_index, [], []⟩,
  ⟨("_law_same", none), "_law_same", "_law_same", defArgs s_law_same, defBody s_law_same, defScope s_law_same, [], []⟩,
  ⟨("_law_between", none), "_law_between", "_law_between", defArgs s_law_between, defBody s_law_between, defScope s_law_between, [], []⟩,
  ⟨("_law_place", none), "_law_place", "_law_place", defArgs s_law_place, defBody s_law_place, defScope s_law_place, [], []⟩,
  ⟨("_law_mirrored", none), "_law_mirrored", "_law_mirrored", defArgs s_law_mirrored, defBody s_law_mirrored, defScope s_law_mirrored, [], []⟩,
  ⟨("_law_scaled", none), "_law_scaled", "_law_scaled", defArgs s_law_scaled, defBody s_law_scaled, defScope s_law_scaled, [], []⟩,
  ⟨("_law_told", none), "_law_told", "_law_told", defArgs s_law_told, defBody s_law_told, defScope s_law_told, [], []⟩,
  ⟨("_law_is_right", none), "_law_is_right", "_law_is_right", defArgs s_law_is_right, defBody s_law_is_right, defScope s_law_is_right, [], []⟩,
  ⟨("_law_are_apart", none), "_law_are_apart", "_law_are_apart", defArgs s_law_are_apart, defBody s_law_are_apart, defScope s_law_are_apart, [], []⟩,
  ⟨("_law_row_right", none), "_law_row_right", "_law_row_right", defArgs s_law_row_right, defBody s_law_row_right, defScope s_law_row_right, [], []⟩,
  ⟨("_law_drawn", none), "_law_drawn", "_law_drawn", defArgs s_law_drawn, defBody s_law_drawn, defScope s_law_drawn, [], []⟩,
  ⟨("_law_wrong_floats", none), "_law_wrong_floats", "_law_wrong_floats", defArgs s_law_wrong_floats, defBody s_law_wrong_floats, defScope s_law_wrong_floats, [], []⟩,
  ⟨("_law_refused", none), "_law_refused", "_law_refused", defArgs s_law_refused, defBody s_law_refused, defScope s_law_refused, [], []⟩,
  ⟨("law", none), "law", "law", defArgs s_law, defBody s_law, defScope s_law, [], []⟩]
def loose0 : List Str := ["LEFT",
  "RIGHT",
  "is_whole",
  "is_count",
  "is_float",
  "are_floats",
  "between",
  "goes_in",
  "first_row",
  "float_place",
  "PageError",
  "BadList",
  "BadMarks",
  "check_room",
  "float_at",
  "room_at",
  "_law_stream",
  "_law_pick",
  "_law_index",
  "_law_same",
  "_law_between",
  "_law_place",
  "_law_mirrored",
  "_law_scaled",
  "_law_told",
  "_law_is_right",
  "_law_are_apart",
  "_law_row_right",
  "_law_drawn",
  "_law_wrong_floats"]
def loose1 : List Str := ["_law_refused"]
def loose : List Str := loose0 ++ loose1
abbrev R : PySem.W.OpenRow := PySem.W.OpenLaw.row PySem.Challenge.rw_pageseen_k49_whole_floats_in_a_room
abbrev hk : PySem.W.Hook := He.hookX 4 fa fn [] [] (exB exCs)
def ob (s : PySem.W.SharedT) : He.AlX := He.obsX 4 fa fn [] [] (exB exCs) (HandSHeadRun.getT s)
theorem ob_eq (s : PySem.W.SharedT) : ob s = hk.obs s.abs := He.obsX_eq (HandSHeadRun.getT_eq s)
set_option maxHeartbeats 0
theorem run (w : World) : HandSHeadRun.RunEq R (PySem.W.view R.prog [35]) hk ob 4000 loose w := by
  intro os
  kernel_rfl
theorem txt {K : PySem.W.Frag} {h h' : Heap} {mg : Str → Option Value} {w : World} (X : K.In h) (G : h.Ns mainGlobals mg) (c : He.SaysX fa fn [] [] (exB exCs) w h' K) : Txt K mg where
  g_is_whole := He.glo_ok X G (c.t.d.fact 0 (f := .glo "is_whole") rfl)
  d_is_whole := c.t.d.def_ 0 rfl
  g_is_count := He.glo_ok X G (c.t.d.fact 1 (f := .glo "is_count") rfl)
  d_is_count := c.t.d.def_ 1 rfl
  g_is_float := He.glo_ok X G (c.t.d.fact 2 (f := .glo "is_float") rfl)
  d_is_float := c.t.d.def_ 2 rfl
  g_are_floats := He.glo_ok X G (c.t.d.fact 3 (f := .glo "are_floats") rfl)
  d_are_floats := c.t.d.def_ 3 rfl
  g_between := He.glo_ok X G (c.t.d.fact 4 (f := .glo "between") rfl)
  d_between := c.t.d.def_ 4 rfl
  g_goes_in := He.glo_ok X G (c.t.d.fact 5 (f := .glo "goes_in") rfl)
  d_goes_in := c.t.d.def_ 5 rfl
  g_first_row := He.glo_ok X G (c.t.d.fact 6 (f := .glo "first_row") rfl)
  d_first_row := c.t.d.def_ 6 rfl
  g_float_place := He.glo_ok X G (c.t.d.fact 7 (f := .glo "float_place") rfl)
  d_float_place := c.t.d.def_ 7 rfl
  g_check_room := He.glo_ok X G (c.t.d.fact 8 (f := .glo "check_room") rfl)
  d_check_room := c.t.d.def_ 8 rfl
  g_float_at := He.glo_ok X G (c.t.d.fact 9 (f := .glo "float_at") rfl)
  d_float_at := c.t.d.def_ 9 rfl
  g_room_at := He.glo_ok X G (c.t.d.fact 10 (f := .glo "room_at") rfl)
  d_room_at := c.t.d.def_ 10 rfl
  g_law_stream := He.glo_ok X G (c.t.d.fact 11 (f := .glo "_law_stream") rfl)
  d_law_stream := c.t.d.def_ 11 rfl
  g_law_pick := He.glo_ok X G (c.t.d.fact 12 (f := .glo "_law_pick") rfl)
  d_law_pick := c.t.d.def_ 12 rfl
  g_law_index := He.glo_ok X G (c.t.d.fact 13 (f := .glo "_law_index") rfl)
  d_law_index := c.t.d.def_ 13 rfl
  g_law_same := He.glo_ok X G (c.t.d.fact 14 (f := .glo "_law_same") rfl)
  d_law_same := c.t.d.def_ 14 rfl
  g_law_between := He.glo_ok X G (c.t.d.fact 15 (f := .glo "_law_between") rfl)
  d_law_between := c.t.d.def_ 15 rfl
  g_law_place := He.glo_ok X G (c.t.d.fact 16 (f := .glo "_law_place") rfl)
  d_law_place := c.t.d.def_ 16 rfl
  g_law_mirrored := He.glo_ok X G (c.t.d.fact 17 (f := .glo "_law_mirrored") rfl)
  d_law_mirrored := c.t.d.def_ 17 rfl
  g_law_scaled := He.glo_ok X G (c.t.d.fact 18 (f := .glo "_law_scaled") rfl)
  d_law_scaled := c.t.d.def_ 18 rfl
  g_law_told := He.glo_ok X G (c.t.d.fact 19 (f := .glo "_law_told") rfl)
  d_law_told := c.t.d.def_ 19 rfl
  g_law_is_right := He.glo_ok X G (c.t.d.fact 20 (f := .glo "_law_is_right") rfl)
  d_law_is_right := c.t.d.def_ 20 rfl
  g_law_are_apart := He.glo_ok X G (c.t.d.fact 21 (f := .glo "_law_are_apart") rfl)
  d_law_are_apart := c.t.d.def_ 21 rfl
  g_law_row_right := He.glo_ok X G (c.t.d.fact 22 (f := .glo "_law_row_right") rfl)
  d_law_row_right := c.t.d.def_ 22 rfl
  g_law_drawn := He.glo_ok X G (c.t.d.fact 23 (f := .glo "_law_drawn") rfl)
  d_law_drawn := c.t.d.def_ 23 rfl
  g_law_wrong_floats := He.glo_ok X G (c.t.d.fact 24 (f := .glo "_law_wrong_floats") rfl)
  d_law_wrong_floats := c.t.d.def_ 24 rfl
  g_law_refused := He.glo_ok X G (c.t.d.fact 25 (f := .glo "_law_refused") rfl)
  d_law_refused := c.t.d.def_ 25 rfl
  g_law := He.glo_ok X G (c.t.d.fact 26 (f := .glo "law") rfl)
  d_law := c.t.d.def_ 26 rfl
  n_all := He.free_ok X G (c.t.d.fact 27 (f := .free "all") rfl)
  n_bool := He.free_ok X G (c.t.d.fact 28 (f := .free "bool") rfl)
  n_dict := He.free_ok X G (c.t.d.fact 29 (f := .free "dict") rfl)
  n_int := He.free_ok X G (c.t.d.fact 30 (f := .free "int") rfl)
  n_isinstance := He.free_ok X G (c.t.d.fact 31 (f := .free "isinstance") rfl)
  n_len := He.free_ok X G (c.t.d.fact 32 (f := .free "len") rfl)
  n_list := He.free_ok X G (c.t.d.fact 33 (f := .free "list") rfl)
  n_max := He.free_ok X G (c.t.d.fact 34 (f := .free "max") rfl)
  n_min := He.free_ok X G (c.t.d.fact 35 (f := .free "min") rfl)
  n_range := He.free_ok X G (c.t.d.fact 36 (f := .free "range") rfl)
  n_sorted := He.free_ok X G (c.t.d.fact 37 (f := .free "sorted") rfl)
  n_str := He.free_ok X G (c.t.d.fact 38 (f := .free "str") rfl)
  n_tuple := He.free_ok X G (c.t.d.fact 39 (f := .free "tuple") rfl)
  c_LEFT := ⟨He.str_ok X G (c.t.d.fact 40 (f := .str "LEFT" ("left" : Str)) rfl)⟩
  c_RIGHT := ⟨He.str_ok X G (c.t.d.fact 41 (f := .str "RIGHT" ("right" : Str)) rfl)⟩
  g_PageError := He.glo_ok X G (c.t.d.fact 42 (f := .glo "PageError") rfl)
  g_BadList := He.glo_ok X G (c.t.d.fact 43 (f := .glo "BadList") rfl)
  g_BadMarks := He.glo_ok X G (c.t.d.fact 44 (f := .glo "BadMarks") rfl)
  x_PageError := (exB_at c.more (c := 0) (by decide)).1.x
  k_PageError := (exB_at c.more (c := 0) (by decide)).1.k
  s_PageError := (exB_at c.more (c := 0) (by decide)).1.s
  t_PageError := (exB_at c.more (c := 0) (by decide)).1.t
  x_BadList := (exB_at c.more (c := 10) (by decide)).1.x
  k_BadList := (exB_at c.more (c := 10) (by decide)).1.k
  s_BadList := (exB_at c.more (c := 10) (by decide)).1.s
  t_BadList := (exB_at c.more (c := 10) (by decide)).1.t
  x_BadMarks := (exB_at c.more (c := 11) (by decide)).1.x
  k_BadMarks := (exB_at c.more (c := 11) (by decide)).1.k
  s_BadMarks := (exB_at c.more (c := 11) (by decide)).1.s
  t_BadMarks := (exB_at c.more (c := 11) (by decide)).1.t
  xk := exB_k c.more
/-! how many -/
theorem len_is_whole (ds : List D) (Q : D → Prop) (E : Nat → Prop) (h : φ_is_whole ds Q E) : ds.length = 1 := by
  unfold φ_is_whole at h
  split at h <;> first | rfl | exact h.elim
theorem len_is_count (ds : List D) (Q : D → Prop) (E : Nat → Prop) (h : φ_is_count ds Q E) : ds.length = 1 := by
  unfold φ_is_count at h
  split at h <;> first | rfl | exact h.elim
theorem len_is_float (ds : List D) (Q : D → Prop) (E : Nat → Prop) (h : φ_is_float ds Q E) : ds.length = 1 := by
  unfold φ_is_float at h
  split at h <;> first | rfl | exact h.elim
theorem len_are_floats (ds : List D) (Q : D → Prop) (E : Nat → Prop) (h : φ_are_floats ds Q E) : ds.length = 1 := by
  unfold φ_are_floats at h
  split at h <;> first | rfl | exact h.elim
theorem len_check_room (ds : List D) (Q : D → Prop) (E : Nat → Prop) (h : φ_check_room ds Q E) : ds.length = 3 := by
  unfold φ_check_room at h
  split at h <;> first | rfl | exact h.elim
theorem len_float_at (ds : List D) (Q : D → Prop) (E : Nat → Prop) (h : φ_float_at ds Q E) : ds.length = 5 := by
  unfold φ_float_at at h
  split at h <;> first | rfl | exact h.elim
theorem len_room_at (ds : List D) (Q : D → Prop) (E : Nat → Prop) (h : φ_room_at ds Q E) : ds.length = 3 := by
  unfold φ_room_at at h
  split at h <;> first | rfl | exact h.elim
theorem len_law_stream (ds : List D) (Q : D → Prop) (E : Nat → Prop) (h : φList ds Q E) : ds.length = 1 := by
  unfold φList at h
  split at h <;> first | rfl | exact h.elim
theorem len_law_index (ds : List D) (Q : D → Prop) (E : Nat → Prop) (h : φ_law_index ds Q E) : ds.length = 2 := by
  unfold φ_law_index at h
  split at h <;> first | rfl | exact h.elim
theorem len_law_told (ds : List D) (Q : D → Prop) (E : Nat → Prop) (h : φ_law_told ds Q E) : ds.length = 6 := by
  unfold φ_law_told at h
  split at h <;> first | rfl | exact h.elim
theorem len_law (ds : List D) (Q : D → Prop) (E : Nat → Prop) (h : φ_law ds Q E) : ds.length = 1 := by
  unfold φ_law φLaw at h
  split at h <;> first | rfl | exact h.elim
theorem base_law_same {P : Program} {w : World} {K : PySem.W.Frag} {mg : Str → Option Value} {base : Heap} (T : Txt K mg) : CallOk P w K mg base 0 "_law_same" P_law_same (sameN 0) := by
  obtain ⟨fd, F⟩ := T.d_law_same
  refine ⟨⟨fd, ⟨fun vs H Q E h => ?_, fun A outer s H args us vs Q E hr e0 hb hv h => ?_⟩, funLook F, F.bindsA fun _ _ _ _ _ _ us hl => match us, hl with | [_, _], _ => rfl⟩, F.kp, T.g_law_same⟩
  · obtain ⟨_, _, _, _, _, _, z, _⟩ := h
    exact (zero_law_same _ _ _ z).elim
  · obtain ⟨_, _, _, _, _, _, z, _⟩ := h
    exact (zero_law_same _ _ _ z).elim
theorem all {P : Program} {w : World} {K : PySem.W.Frag} {mg : Str → Option Value} (T : Txt K mg) (base : Heap) : CallOk P w K mg base 9 "law" ["script"] φLaw := by
  have C_law_pick := ok_law_pick (P := P) (w := w) (base := base) T
  have C_is_whole := ok_is_whole (P := P) (w := w) (base := base) T vc_is_whole len_is_whole
  have C_is_count := ok_is_count (P := P) (w := w) (base := base) T C_is_whole vc_is_count len_is_count
  have C_is_float := ok_is_float (P := P) (w := w) (base := base) T C_is_whole vc_is_float len_is_float
  have C_are_floats := ok_are_floats (P := P) (w := w) (base := base) T C_is_float vc_are_floats len_are_floats
  have C_between := ok_between (P := P) (w := w) (base := base) T vc_between len_between
  have C_goes_in := ok_goes_in (P := P) (w := w) (base := base) T C_between vc_goes_in len_goes_in
  have C_first_row := ok_first_row (P := P) (w := w) (base := base) T C_goes_in vc_first_row len_first_row
  have C_float_place := ok_float_place (P := P) (w := w) (base := base) T C_first_row C_between vc_float_place len_float_place
  have C_check_room := ok_check_room (P := P) (w := w) (base := base) T C_are_floats C_is_count C_is_whole vc_check_room len_check_room
  have C_float_at := ok_float_at (P := P) (w := w) (base := base) T C_check_room C_is_count C_float_place vc_float_at len_float_at
  have C_room_at := ok_room_at (P := P) (w := w) (base := base) T C_check_room C_between vc_room_at len_room_at
  have C_law_stream := ok_law_stream (P := P) (w := w) (base := base) T vc_law_stream len_law_stream
  have C_law_stream := C_law_stream.stream
  have C_law_index := ok_law_index (P := P) (w := w) (base := base) T C_law_pick vc_law_index len_law_index
  have R_law_same := base_law_same (P := P) (w := w) (base := base) T
  have R_law_same := ok_law_same (φ := sameN 1) T R_law_same (vc_law_same (n := 0)) (len_same 1)
  have R_law_same := ok_law_same (φ := sameN 2) T R_law_same (vc_law_same (n := 1)) (len_same 2)
  have R_law_same := ok_law_same (φ := sameN 3) T R_law_same (vc_law_same (n := 2)) (len_same 3)
  have R_law_same := ok_law_same (φ := sameN 4) T R_law_same (vc_law_same (n := 3)) (len_same 4)
  have C_law_same := R_law_same
  have C_law_between := ok_law_between (P := P) (w := w) (base := base) T vc_law_between len_law_between
  have C_law_place := ok_law_place (P := P) (w := w) (base := base) T C_law_between vc_law_place len_law_place
  have C_law_mirrored := ok_law_mirrored (P := P) (w := w) (base := base) T vc_law_mirrored len_law_mirrored
  have C_law_scaled := ok_law_scaled (P := P) (w := w) (base := base) T vc_law_scaled len_law_scaled
  have C_law_told := ok_law_told (P := P) (w := w) (base := base) T C_float_at C_room_at vc_law_told len_law_told
  have C_law_is_right := ok_law_is_right (P := P) (w := w) (base := base) T C_law_place C_law_pick C_law_same C_law_told C_law_mirrored C_law_scaled C_law_between vc_law_is_right len_law_is_right
  have C_law_are_apart := ok_law_are_apart (P := P) (w := w) (base := base) T vc_law_are_apart len_law_are_apart
  have C_law_row_right := ok_law_row_right (P := P) (w := w) (base := base) T C_law_pick C_law_told C_law_same C_law_place C_law_are_apart C_law_is_right vc_law_row_right len_law_row_right
  have C_law_drawn := ok_law_drawn (P := P) (w := w) (base := base) T C_law_pick vc_law_drawn len_law_drawn
  have C_law_wrong_floats := ok_law_wrong_floats (P := P) (w := w) (base := base) T C_law_pick C_law_index vc_law_wrong_floats len_law_wrong_floats
  have C_law_refused := ok_law_refused (P := P) (w := w) (base := base) T C_law_pick C_law_wrong_floats C_law_same C_law_told vc_law_refused len_law_refused
  have C_law := ok_law (P := P) (w := w) (base := base) T C_law_stream C_law_pick C_law_row_right C_law_drawn C_law_is_right C_law_refused vc_law len_law
  exact C_law
end PL.K49
open PySem PySem.W PySem.Calls PyProof.Rows
set_option maxHeartbeats 0
theorem PySem.Challenge.cw_pageseen_k49_whole_floats_in_a_room_holds : PySem.Challenge.rw_pageseen_k49_whole_floats_in_a_room.Holds := by
  w_on; o_law
  refine HandSHeadRun.head_any (r := OpenLaw.row PySem.Challenge.rw_pageseen_k49_whole_floats_in_a_room) (q := view (OpenLaw.row PySem.Challenge.rw_pageseen_k49_whole_floats_in_a_room).prog [35]) (H := PL.K49.hk) (ob := PL.K49.ob) (M := 4000) (loose := PL.K49.loose) (d := HandSHeadRun.topDef (OpenLaw.row PySem.Challenge.rw_pageseen_k49_whole_floats_in_a_room).prog 35) (kwd := []) PL.K49.ob_eq
    (by kernel_rfl) (fun s => by kernel_rfl) PL.K49.run (by kernel_rfl) (by kernel_rfl) (by kernel_rfl) (by rfl) (by first | assumption | decide +kernel) (by decide +kernel) ⟨rfl, rfl, rfl, rfl, rfl, by decide +kernel⟩ ?hw ?hc
  case hw => w_witness2
  case hc =>
    refine PL.walk_ofP (l := PySem.Challenge.rw_pageseen_k49_whole_floats_in_a_room) (k := 9) rfl (by kernel_rfl) ⟨rfl, by decide, by decide⟩ ?F
    intro w mg h Y G
    obtain ⟨K, KX, c⟩ := Y
    have T := PL.K49.txt KX G c
    have e : (HandSHeadRun.topDef (OpenLaw.row PySem.Challenge.rw_pageseen_k49_whole_floats_in_a_room).prog 35).name = ("law" : PySem.Str) := by kernel_rfl
    exact ⟨K, KX, by rw [e]; exact T.g_law, fun base => PL.K49.all T base⟩
