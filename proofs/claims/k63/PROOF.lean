import PyProof.Rows.All
import Wide.All
import OpenK.AllK
import Wide.FinOn
import HandS.Evl
import HandS.ExcIs
import HandS.ForExc
import HandS.ForMost
import HandS.Head0
import HandS.Head1
import HandS.Head2
import HandS.HeadEnd
import HandS.HeadHook2
import HandS.HeadHook3
import HandS.HeadHook4
import HandS.IsInst
import HandS.SortInts
import PySem.Challenge.RW_pageseen_k63_one_direction_in_a_frame
set_option Elab.async false
set_option linter.all false
set_option autoImplicit false
set_option maxRecDepth 100000
set_option maxHeartbeats 2000000
/-! A layer of plain data over the hand layer: a value is told as a datum D, the heap is out of sight. -/
namespace PL
open PySem PySem.Spec PyProof.Rows L2
open Evl (Ex)
abbrev St := L2.St

/-- a datum: what a value is, all the way down. frl: a list that is only read -/
inductive D where
  | non | bl (b : Bool) | int (i : Int) | str (x : Str)
  | lst (xs : List D) | tup (xs : List D)
  | dic (kvs : List (Key × D))
  | frl (xs : List D)
  | vl (v : V)
  | pool
/-- a datum, or the list (the dict) that the name in slot i owns -/
inductive T where
  | d (d : D)
  | l (i : Nat)

/-- the stream of numbers: a list of ints whose first one is a place in it -/
def PoolOk (ns : List Int) : Prop := 2 ≤ ns.length ∧ ns.length ≤ 1000000 ∧ ∃ c, ns[0]? = some c ∧ 1 ≤ c ∧ c < (ns.length : Int)
def PoolAt (a : Addr) : Heap → Prop := fun h => ∃ (its : List Value) (n : Nat) (ns : List Int), h.get? a = some { cls := .type "list", data := .seq its.toArray n } ∧ Vals (ns.map V.int) its ∧ PoolOk ns

/-- a list that is only read: locked, or of the written part -/
def FrL (K : PySem.W.Frag) (H : Hp) (a : Addr) (xs : List V) : Prop := (∃ o, H a = some (.frz o (.lst xs))) ∨
  ∃ (o : Obj) (its : Array Value) (n : Nat), K.lookup a = some o ∧ o.cls = .type "list" ∧ o.dict = none ∧ o.data = .seq its n ∧ its.size ≤ sizeLine ∧ Vals xs its.toList
theorem FrL.sq {K : PySem.W.Frag} {H : Hp} {a : Addr} {xs : List V} (h : FrL K H a xs) : SqL K H a xs := by
  rcases h with ⟨o, h⟩ | h
  · exact .inl (.inr ⟨o, h⟩)
  · exact .inr h
theorem FrL.mono {K : PySem.W.Frag} {H H' : Hp} {a : Addr} {xs : List V} (e : Ex H H') (h : FrL K H a xs) : FrL K H' a xs := by
  rcases h with ⟨o, h⟩ | h
  · exact .inl ⟨o, e _ _ h⟩
  · exact .inr h
mutual
inductive Rep (K : PySem.W.Frag) (H : Hp) : V → D → Prop
  | non : Rep K H .non .non
  | bl (b : Bool) : Rep K H (.bl b) (.bl b)
  | int (i : Int) : Rep K H (.int i) (.int i)
  | str (x : Str) : Rep K H (.str x) (.str x)
  | lst {a : Addr} {xs : List V} {ds : List D} : H a = some (.lst xs) → Reps K H xs ds → Rep K H (.ref a) (.lst ds)
  | frl {a : Addr} {xs : List V} {ds : List D} : FrL K H a xs → Reps K H xs ds → Rep K H (.ref a) (.frl ds)
  | tup {a : Addr} {xs : List V} {ds : List D} : SqT K H a xs → Reps K H xs ds → Rep K H (.ref a) (.tup ds)
  | dic {a : Addr} {kvs : List (Key × V)} {ds : List (Key × D)} : H a = some (.dK kvs) → kvs.map (·.1) = ds.map (·.1) → Reps K H (kvs.map (·.2)) (ds.map (·.2)) → Rep K H (.ref a) (.dic ds)
  | vl (v : V) : Rep K H v (.vl v)
  | pool {a : Addr} : H a = some (.ext (PoolAt a)) → Rep K H (.ref a) .pool
inductive Reps (K : PySem.W.Frag) (H : Hp) : List V → List D → Prop
  | nil : Reps K H [] []
  | cons {v : V} {vs : List V} {d : D} {ds : List D} : Rep K H v d → Reps K H vs ds → Reps K H (v :: vs) (d :: ds)
end

section
variable {K : PySem.W.Frag} {H H' : Hp}
mutual
theorem Rep.mono (e : Ex H H') : ∀ {v : V} {d : D}, Rep K H v d → Rep K H' v d
  | _, _, .non => .non
  | _, _, .bl b => .bl b
  | _, _, .int i => .int i
  | _, _, .str x => .str x
  | _, _, .lst h r => .lst (e _ _ h) (Reps.mono e r)
  | _, _, .frl h r => .frl (h.mono e) (Reps.mono e r)
  | _, _, .tup h r => .tup (Evl.ex_t e h) (Reps.mono e r)
  | _, _, .dic h k r => .dic (e _ _ h) k (Reps.mono e r)
  | _, _, .vl v => .vl v
  | _, _, .pool h => .pool (e _ _ h)
theorem Reps.mono (e : Ex H H') : ∀ {vs : List V} {ds : List D}, Reps K H vs ds → Reps K H' vs ds
  | _, _, .nil => .nil
  | _, _, .cons r t => .cons (Rep.mono e r) (Reps.mono e t)
end
theorem Reps.len : ∀ {vs : List V} {ds : List D}, Reps K H vs ds → vs.length = ds.length
  | _, _, .nil => rfl
  | _, _, .cons _ t => by rw [List.length_cons, List.length_cons, Reps.len t]
theorem Reps.get : ∀ {vs : List V} {ds : List D} {i : Nat} {d : D}, Reps K H vs ds → ds[i]? = some d → ∃ v, vs[i]? = some v ∧ Rep K H v d
  | _, _, _, _, .nil, e => by simp at e
  | _, _, 0, _, .cons r _, e => by
    have e2 := Option.some.inj e
    subst e2
    exact ⟨_, rfl, r⟩
  | _, _, i + 1, d, .cons _ t, e => by
    obtain ⟨v, h1, h2⟩ := Reps.get (i := i) (d := d) t (by simpa using e)
    exact ⟨v, by simpa using h1, h2⟩
theorem Reps.getV : ∀ {vs : List V} {ds : List D} {i : Nat} {v : V}, Reps K H vs ds → vs[i]? = some v → ∃ d, ds[i]? = some d ∧ Rep K H v d
  | _, _, _, _, .nil, e => by simp at e
  | _, _, 0, _, .cons r _, e => by
    have e2 := Option.some.inj e
    subst e2
    exact ⟨_, rfl, r⟩
  | _, _, i + 1, d, .cons _ t, e => by
    obtain ⟨v, h1, h2⟩ := Reps.getV (i := i) (v := d) t (by simpa using e)
    exact ⟨v, by simpa using h1, h2⟩
theorem Reps.append : ∀ {vs ws : List V} {ds es : List D}, Reps K H vs ds → Reps K H ws es → Reps K H (vs ++ ws) (ds ++ es)
  | _, _, _, _, .nil, s => s
  | _, _, _, _, .cons r t, s => .cons r (Reps.append t s)
theorem Reps.take : ∀ {vs : List V} {ds : List D} (n : Nat), Reps K H vs ds → Reps K H (vs.take n) (ds.take n)
  | _, _, 0, _ => .nil
  | _, _, _ + 1, .nil => .nil
  | _, _, n + 1, .cons r t => .cons r (Reps.take n t)
theorem Reps.drop : ∀ {vs : List V} {ds : List D} (n : Nat), Reps K H vs ds → Reps K H (vs.drop n) (ds.drop n)
  | _, _, 0, r => r
  | _, _, _ + 1, .nil => .nil
  | _, _, n + 1, .cons _ t => Reps.drop n t
theorem Reps.set {v : V} {d : D} (r : Rep K H v d) : ∀ {vs : List V} {ds : List D} (i : Nat), Reps K H vs ds → Reps K H (vs.set i v) (ds.set i d)
  | _, _, _, .nil => .nil
  | _, _, 0, .cons _ t => .cons r t
  | _, _, i + 1, .cons q t => .cons q (Reps.set r i t)
theorem Reps.reverse : ∀ {vs : List V} {ds : List D}, Reps K H vs ds → Reps K H vs.reverse ds.reverse
  | _, _, .nil => .nil
  | _, _, .cons r t => by
    rw [List.reverse_cons, List.reverse_cons]
    exact Reps.append (Reps.reverse t) (.cons r .nil)
theorem Reps.ints : ∀ (ns : List Int), Reps K H (ns.map V.int) (ns.map D.int)
  | [] => .nil
  | n :: r => .cons (.int n) (Reps.ints r)
theorem Reps.bls : ∀ (ns : List Bool), Reps K H (ns.map V.bl) (ns.map D.bl)
  | [] => .nil
  | n :: r => .cons (.bl n) (Reps.bls r)
theorem Reps.strs : ∀ (ns : List Str), Reps K H (ns.map V.str) (ns.map D.str)
  | [] => .nil
  | n :: r => .cons (.str n) (Reps.strs r)
theorem Reps.inv_ints : ∀ {vs : List V} {ns : List Int}, Reps K H vs (ns.map D.int) → vs = ns.map V.int
  | _, [], .nil => rfl
  | _, n :: r, .cons h t => by
    cases h
    rw [Reps.inv_ints t] <;> rfl
theorem Reps.inv_bls : ∀ {vs : List V} {ns : List Bool}, Reps K H vs (ns.map D.bl) → vs = ns.map V.bl
  | _, [], .nil => rfl
  | _, n :: r, .cons h t => by
    cases h
    rw [Reps.inv_bls t] <;> rfl
theorem Reps.inv_strs : ∀ {vs : List V} {ns : List Str}, Reps K H vs (ns.map D.str) → vs = ns.map V.str
  | _, [], .nil => rfl
  | _, n :: r, .cons h t => by
    cases h
    rw [Reps.inv_strs t] <;> rfl
end

/-- what a name's slot holds: a datum, or a list (a dict) of its own -/
inductive S where
  | v (d : D)
  | o (xs : List D)
  | od (kvs : List (Key × D))
def S.own : S → Bool
  | .v _ => false
  | _ => true
abbrev PEnv := List (Option S)

def SlotOk (K : PySem.W.Frag) (F Hs : Hp) (σ : St) (H : Hp) (i : Nat) : S → Prop
  | .v d => ∃ v, σ[i]? = some (some v) ∧ Rep K Hs v d
  | .o ds => ∃ p vs, σ[i]? = some (some (.ref p)) ∧ Hs p = none ∧ F p = none ∧ H p = some (.lst vs) ∧ Reps K Hs vs ds
  | .od ds => ∃ p kvs, σ[i]? = some (some (.ref p)) ∧ Hs p = none ∧ F p = none ∧ H p = some (.dK kvs) ∧ kvs.map (·.1) = ds.map (·.1) ∧ Reps K Hs (kvs.map (·.2)) (ds.map (·.2))

/-- the state: F what others own, Hs what stands still, σ the slots, H the heap, ε what the slots hold -/
structure RelS (K : PySem.W.Frag) (F Hs : Hp) (σ : St) (H : Hp) (ε : PEnv) : Prop where
  ex : Ex Hs H
  fr : ∀ (p : Addr) (o : HO), F p = some o → H p = some o ∧ Hs p = none
  len : σ.length = ε.length
  sl : ∀ (i : Nat) (s : S), ε[i]? = some (some s) → SlotOk K F Hs σ H i s
  ds : ∀ (i j : Nat) (s t : S), i ≠ j → ε[i]? = some (some s) → ε[j]? = some (some t) → s.own = true → t.own = true → σ[i]? ≠ σ[j]?

/-- a value on the way: a datum, or a name's own -/
def RepT (K : PySem.W.Frag) (Hs : Hp) (σ : St) (v : V) : T → Prop
  | .d d => Rep K Hs v d
  | .l i => σ[i]? = some (some v)
theorem RepT.mono {K : PySem.W.Frag} {Hs Hs' : Hp} {σ : St} {v : V} : ∀ {t : T}, Ex Hs Hs' → RepT K Hs σ v t → RepT K Hs' σ v t
  | .d _, e, h => Rep.mono e h
  | .l _, _, h => h

/-- what is seen of a value: its own list, the items stand still -/
inductive RepV (K : PySem.W.Frag) (Hs H : Hp) : V → D → Prop
  | sc {v : V} {d : D} : Rep K Hs v d → RepV K Hs H v d
  | lst {a : Addr} {xs : List V} {ds : List D} : H a = some (.lst xs) → Reps K Hs xs ds → RepV K Hs H (.ref a) (.lst ds)
  | dic {a : Addr} {kvs : List (Key × V)} {ds : List (Key × D)} : H a = some (.dK kvs) → kvs.map (·.1) = ds.map (·.1) → Reps K Hs (kvs.map (·.2)) (ds.map (·.2)) → RepV K Hs H (.ref a) (.dic ds)

/-- what is there, for a look -/
def res (ε : PEnv) : T → (D → Prop) → Prop
  | .d d, Q => Q d
  | .l i, Q => match ε[i]? with
    | some (some (.v d)) => Q d
    | some (some (.o ds)) => Q (.lst ds)
    | some (some (.od ds)) => Q (.dic ds)
    | _ => False
/-- what is there, to be handed on: a name's own stands still from now on -/
def out (ε : PEnv) : T → (D → PEnv → Prop) → Prop
  | .d d, Q => Q d ε
  | .l i, Q => match ε[i]? with
    | some (some (.v d)) => Q d ε
    | some (some (.o ds)) => Q (.lst ds) (ε.set i (some (.v (.lst ds))))
    | some (some (.od ds)) => Q (.dic ds) (ε.set i (some (.v (.dic ds))))
    | _ => False

section
variable {K : PySem.W.Frag} {F Hs H : Hp} {σ : St} {ε : PEnv} {v : V} {d : D}
theorem RelS.res {t : T} {Q : D → Prop} (R : RelS K F Hs σ H ε) (h : RepT K Hs σ v t) (q : res ε t Q) : ∃ d, RepV K Hs H v d ∧ Q d := by
  cases t with
  | d d => exact ⟨d, .sc h, q⟩
  | l i =>
    have h : σ[i]? = some (some v) := h
    unfold PL.res at q
    dsimp only at q
    split at q
    · rename_i d e
      obtain ⟨w, h1, h2⟩ := R.sl i _ e
      rw [h] at h1
      cases h1
      exact ⟨_, .sc h2, q⟩
    · rename_i ds e
      obtain ⟨p, vs, h1, _, _, h2, h3⟩ := R.sl i _ e
      rw [h] at h1
      cases h1
      exact ⟨_, .lst h2 h3, q⟩
    · rename_i ds e
      obtain ⟨p, vs, h1, _, _, h2, h3, h4⟩ := R.sl i _ e
      rw [h] at h1
      cases h1
      exact ⟨_, .dic h2 h3 h4, q⟩
    · exact q.elim
theorem RepV.lst' {ds : List D} (h : RepV K Hs H v (.lst ds)) (ex : Ex Hs H) : ∃ a xs, v = .ref a ∧ H a = some (.lst xs) ∧ Reps K Hs xs ds := by
  cases h with
  | sc h =>
    cases h with
    | lst h r => exact ⟨_, _, rfl, ex _ _ h, r⟩
  | lst h r => exact ⟨_, _, rfl, h, r⟩
theorem RepV.frl' {ds : List D} (h : RepV K Hs H v (.frl ds)) (ex : Ex Hs H) : ∃ a xs, v = .ref a ∧ SqL K H a xs ∧ Reps K Hs xs ds := by
  cases h with
  | sc h =>
    cases h with
    | frl h r => exact ⟨_, _, rfl, Evl.ex_l ex h.sq, r⟩
theorem RepV.tup' {ds : List D} (h : RepV K Hs H v (.tup ds)) (ex : Ex Hs H) : ∃ a xs, v = .ref a ∧ SqT K H a xs ∧ Reps K Hs xs ds := by
  cases h with
  | sc h =>
    cases h with
    | tup h r => exact ⟨_, _, rfl, Evl.ex_t ex h, r⟩
theorem RepV.dic' {ds : List (Key × D)} (h : RepV K Hs H v (.dic ds)) (ex : Ex Hs H) : ∃ a kvs, v = .ref a ∧ H a = some (.dK kvs) ∧ kvs.map (·.1) = ds.map (·.1) ∧ Reps K Hs (kvs.map (·.2)) (ds.map (·.2)) := by
  cases h with
  | sc h =>
    cases h with
    | dic h k r => exact ⟨_, _, rfl, ex _ _ h, k, r⟩
  | dic h k r => exact ⟨_, _, rfl, h, k, r⟩
theorem RepV.int' {i : Int} (h : RepV K Hs H v (.int i)) : v = .int i := by
  cases h with
  | sc h => cases h; rfl
theorem RepV.str' {x : Str} (h : RepV K Hs H v (.str x)) : v = .str x := by
  cases h with
  | sc h => cases h; rfl
theorem RepV.bl' {b : Bool} (h : RepV K Hs H v (.bl b)) : v = .bl b := by
  cases h with
  | sc h => cases h; rfl
theorem RepV.non' (h : RepV K Hs H v .non) : v = .non := by
  cases h with
  | sc h => cases h; rfl
theorem RepV.vl' {u : V} (h : RepV K Hs H v (.vl u)) : v = u := by
  cases h with
  | sc h => cases h; rfl

theorem ex_upd {p : Addr} {o : HO} (h : Hs p = none) : Ex Hs (upd Hs p o) := Evl.Ex.new h

/-- a name's own list is handed on: from now on it stands still -/
theorem RelS.freeze (R : RelS K F Hs σ H ε) {i : Nat} {s : S} (e : ε[i]? = some (some s)) {o : HO} {d : D} {p : Addr} (hs : σ[i]? = some (some (.ref p))) (ho : s.own = true) (hp : Hs p = none) (hF : F p = none) (hH : H p = some o) (hr : Rep K (upd Hs p o) (.ref p) d) :
    RelS K F (upd Hs p o) σ H (ε.set i (some (.v d))) := by
  have ee : Ex Hs (upd Hs p o) := ex_upd hp
  have hi : i < ε.length := (List.getElem?_eq_some_iff.mp e).1
  refine ⟨fun a u q => ?_, fun a u q => ?_, by rw [List.length_set]; exact R.len, fun j t q => ?_, fun j k t u hn h1 h2 h3 h4 => ?_⟩
  · by_cases ha : a = p
    · subst ha
      rw [upd_same] at q
      cases q
      exact hH
    · rw [upd_ne ha] at q
      exact R.ex a u q
  · obtain ⟨h1, h2⟩ := R.fr a u q
    refine ⟨h1, ?_⟩
    rw [upd_ne]
    · exact h2
    · intro z
      subst z
      rw [q] at hF
      cases hF
  · by_cases hj : j = i
    · subst hj
      rw [List.getElem?_set_self hi] at q
      cases q
      exact ⟨_, hs, hr⟩
    · rw [List.getElem?_set_ne (Ne.symm hj)] at q
      have z := R.sl j t q
      cases t with
      | v d' =>
        obtain ⟨w, h1, h2⟩ := z
        exact ⟨w, h1, h2.mono ee⟩
      | o ds =>
        obtain ⟨b, vs, h1, h2, h3, h4, h5⟩ := z
        have nb : b ≠ p := by
          intro z
          subst z
          exact R.ds i j s (.o ds) (Ne.symm hj) e q ho rfl (hs.trans h1.symm)
        exact ⟨b, vs, h1, by rw [upd_ne nb]; exact h2, h3, h4, h5.mono ee⟩
      | od ds =>
        obtain ⟨b, vs, h1, h2, h3, h4, h5, h6⟩ := z
        have nb : b ≠ p := by
          intro z
          subst z
          exact R.ds i j s (.od ds) (Ne.symm hj) e q ho rfl (hs.trans h1.symm)
        exact ⟨b, vs, h1, by rw [upd_ne nb]; exact h2, h3, h4, h5, h6.mono ee⟩
  · have hj : j ≠ i := by
      rintro rfl
      rw [List.getElem?_set_self hi] at h1
      cases h1
      cases h3
    have hk : k ≠ i := by
      rintro rfl
      rw [List.getElem?_set_self hi] at h2
      cases h2
      cases h4
    rw [List.getElem?_set_ne (Ne.symm hj)] at h1
    rw [List.getElem?_set_ne (Ne.symm hk)] at h2
    exact R.ds j k t u hn h1 h2 h3 h4

theorem RelS.out {t : T} {Q : D → PEnv → Prop} (R : RelS K F Hs σ H ε) (h : RepT K Hs σ v t) (q : out ε t Q) : ∃ d ε' Hs', Ex Hs Hs' ∧ RelS K F Hs' σ H ε' ∧ Rep K Hs' v d ∧ Q d ε' := by
  cases t with
  | d d => exact ⟨d, ε, Hs, Evl.Ex.refl _, R, h, q⟩
  | l i =>
    have h : σ[i]? = some (some v) := h
    unfold PL.out at q
    dsimp only at q
    split at q
    · rename_i d e
      obtain ⟨w, h1, h2⟩ := R.sl i _ e
      rw [h] at h1
      cases h1
      exact ⟨_, ε, Hs, Evl.Ex.refl _, R, h2, q⟩
    · rename_i ds e
      obtain ⟨p, vs, h1, h2, h3, h4, h5⟩ := R.sl i _ e
      rw [h] at h1
      cases h1
      have rr : Rep K (upd Hs p (.lst vs)) (.ref p) (.lst ds) := .lst upd_same (h5.mono (ex_upd h2))
      exact ⟨_, _, _, ex_upd h2, R.freeze e h rfl h2 h3 h4 rr, rr, q⟩
    · rename_i ds e
      obtain ⟨p, vs, h1, h2, h3, h4, h5, h6⟩ := R.sl i _ e
      rw [h] at h1
      cases h1
      have rr : Rep K (upd Hs p (.dK vs)) (.ref p) (.dic ds) := .dic upd_same h5 (h6.mono (ex_upd h2))
      exact ⟨_, _, _, ex_upd h2, R.freeze e h rfl h2 h3 h4 rr, rr, q⟩
    · exact q.elim

/-- something new is laid and stands still -/
theorem RelS.new (R : RelS K F Hs σ H ε) {p : Addr} {o : HO} (hp : H p = none) : RelS K F (upd Hs p o) σ (upd H p o) ε ∧ Ex Hs (upd Hs p o) := by
  have hsp : Hs p = none := Evl.fresh_back R.ex hp
  have ee : Ex Hs (upd Hs p o) := ex_upd hsp
  have eh : Ex H (upd H p o) := Evl.Ex.new hp
  refine ⟨⟨fun a u q => ?_, fun a u q => ?_, R.len, fun j t q => ?_, R.ds⟩, ee⟩
  · by_cases ha : a = p
    · subst ha
      rw [upd_same] at q ⊢
      exact q
    · rw [upd_ne ha] at q
      exact eh a u (R.ex a u q)
  · obtain ⟨h1, h2⟩ := R.fr a u q
    refine ⟨eh a u h1, ?_⟩
    rw [upd_ne (ne_of_none h1 hp)]
    exact h2
  · have z := R.sl j t q
    cases t with
    | v d' =>
      obtain ⟨w, h1, h2⟩ := z
      exact ⟨w, h1, h2.mono ee⟩
    | o ds =>
      obtain ⟨b, vs, h1, h2, h3, h4, h5⟩ := z
      exact ⟨b, vs, h1, by rw [upd_ne (ne_of_none h4 hp)]; exact h2, h3, eh _ _ h4, h5.mono ee⟩
    | od ds =>
      obtain ⟨b, vs, h1, h2, h3, h4, h5, h6⟩ := z
      exact ⟨b, vs, h1, by rw [upd_ne (ne_of_none h4 hp)]; exact h2, h3, eh _ _ h4, h5, h6.mono ee⟩
/-- something new is laid that is not yet anybody's -/
theorem RelS.lay (R : RelS K F Hs σ H ε) {p : Addr} {o : HO} (hp : H p = none) : RelS K F Hs σ (upd H p o) ε := by
  have eh : Ex H (upd H p o) := Evl.Ex.new hp
  refine ⟨fun a u q => eh a u (R.ex a u q), fun a u q => ⟨eh a u (R.fr a u q).1, (R.fr a u q).2⟩, R.len, fun j t q => ?_, R.ds⟩
  have z := R.sl j t q
  cases t with
  | v d' => exact z
  | o ds =>
    obtain ⟨b, vs, h1, h2, h3, h4, h5⟩ := z
    exact ⟨b, vs, h1, h2, h3, eh _ _ h4, h5⟩
  | od ds =>
    obtain ⟨b, vs, h1, h2, h3, h4, h5, h6⟩ := z
    exact ⟨b, vs, h1, h2, h3, eh _ _ h4, h5, h6⟩
/-- what was laid and was nobody's stands still from now on -/
theorem RelS.adopt (R : RelS K F Hs σ H ε) {p : Addr} {o : HO} (hH : H p = some o) (hp : Hs p = none) (hF : F p = none) (hn : ∀ (i : Nat) (s : S), ε[i]? = some (some s) → s.own = true → σ[i]? ≠ some (some (.ref p))) : RelS K F (upd Hs p o) σ H ε := by
  have ee : Ex Hs (upd Hs p o) := ex_upd hp
  refine ⟨fun a u q => ?_, fun a u q => ?_, R.len, fun j t q => ?_, R.ds⟩
  · by_cases ha : a = p
    · subst ha
      rw [upd_same] at q
      cases q
      exact hH
    · rw [upd_ne ha] at q
      exact R.ex a u q
  · obtain ⟨h1, h2⟩ := R.fr a u q
    refine ⟨h1, ?_⟩
    rw [upd_ne]
    · exact h2
    · intro z
      subst z
      rw [q] at hF
      cases hF
  · have z := R.sl j t q
    cases t with
    | v d' =>
      obtain ⟨w, h1, h2⟩ := z
      exact ⟨w, h1, h2.mono ee⟩
    | o ds =>
      obtain ⟨b, vs, h1, h2, h3, h4, h5⟩ := z
      have nb : b ≠ p := by
        intro z
        subst z
        exact hn j _ q rfl h1
      exact ⟨b, vs, h1, by rw [upd_ne nb]; exact h2, h3, h4, h5.mono ee⟩
    | od ds =>
      obtain ⟨b, vs, h1, h2, h3, h4, h5, h6⟩ := z
      have nb : b ≠ p := by
        intro z
        subst z
        exact hn j _ q rfl h1
      exact ⟨b, vs, h1, by rw [upd_ne nb]; exact h2, h3, h4, h5, h6.mono ee⟩
/-- a name is stored -/
theorem RelS.store (R : RelS K F Hs σ H ε) (h : Rep K Hs v d) (i : Nat) : RelS K F Hs (σ.set i (some v)) H (ε.set i (some (.v d))) := by
  refine ⟨R.ex, R.fr, by rw [List.length_set, List.length_set]; exact R.len, fun j t q => ?_, fun j k t u hn h1 h2 h3 h4 => ?_⟩
  · by_cases hj : i = j
    · subst hj
      by_cases hi : i < ε.length
      · rw [List.getElem?_set_self hi] at q
        cases q
        exact ⟨v, by rw [List.getElem?_set_self (by rw [R.len]; exact hi)], h⟩
      · rw [List.getElem?_eq_none (by rw [List.length_set]; omega)] at q
        cases q
    · rw [List.getElem?_set_ne hj] at q
      have z := R.sl j t q
      cases t <;> (unfold SlotOk at z ⊢; dsimp only at z ⊢; rw [List.getElem?_set_ne hj]; exact z)
  · have hj : i ≠ j := by
      rintro rfl
      have hi : i < (ε.set i (some (S.v d))).length := (List.getElem?_eq_some_iff.mp h1).1
      rw [List.length_set] at hi
      rw [List.getElem?_set_self hi] at h1
      cases h1
      cases h3
    have hk : i ≠ k := by
      rintro rfl
      have hi : i < (ε.set i (some (S.v d))).length := (List.getElem?_eq_some_iff.mp h2).1
      rw [List.length_set] at hi
      rw [List.getElem?_set_self hi] at h2
      cases h2
      cases h4
    rw [List.getElem?_set_ne hj] at h1 ⊢
    rw [List.getElem?_set_ne hk] at h2 ⊢
    exact R.ds j k t u hn h1 h2 h3 h4
/-- a name takes a list (a dict) of its own -/
theorem RelS.storeO (R : RelS K F Hs σ H ε) {p : Addr} {s : S} (so : s.own = true) (i : Nat) (hn : ∀ (i : Nat) (s : S), ε[i]? = some (some s) → s.own = true → σ[i]? ≠ some (some (.ref p)))
    (h : i < ε.length → SlotOk K F Hs (σ.set i (some (.ref p))) H i s) : RelS K F Hs (σ.set i (some (.ref p))) H (ε.set i (some s)) := by
  refine ⟨R.ex, R.fr, by rw [List.length_set, List.length_set]; exact R.len, fun j t q => ?_, fun j k t u hjk h1 h2 h3 h4 => ?_⟩
  · by_cases hj : i = j
    · subst hj
      by_cases hi : i < ε.length
      · rw [List.getElem?_set_self hi] at q
        cases q
        exact h hi
      · rw [List.getElem?_eq_none (by rw [List.length_set]; omega)] at q
        cases q
    · rw [List.getElem?_set_ne hj] at q
      have z := R.sl j t q
      cases t <;> (unfold SlotOk at z ⊢; dsimp only at z ⊢; rw [List.getElem?_set_ne hj]; exact z)
  · by_cases hj : i = j
    · subst hj
      have hi : i < ε.length := by
        have := (List.getElem?_eq_some_iff.mp h1).1
        rw [List.length_set] at this
        exact this
      rw [List.getElem?_set_self (by rw [R.len]; exact hi)]
      rw [List.getElem?_set_ne hjk] at h2 ⊢
      exact fun e => hn k u h2 h4 e.symm
    · by_cases hk : i = k
      · subst hk
        have hi : i < ε.length := by
          have := (List.getElem?_eq_some_iff.mp h2).1
          rw [List.length_set] at this
          exact this
        rw [List.getElem?_set_self (by rw [R.len]; exact hi)]
        rw [List.getElem?_set_ne hj] at h1 ⊢
        exact hn j t h1 h3
      · rw [List.getElem?_set_ne hj] at h1 ⊢
        rw [List.getElem?_set_ne hk] at h2 ⊢
        exact R.ds j k t u hjk h1 h2 h3 h4
/-- a name's own list (dict) changes -/
theorem RelS.change (R : RelS K F Hs σ H ε) {p : Addr} {o' : HO} {i : Nat} {s s' : S} (e : ε[i]? = some (some s)) (so : s.own = true) (so' : s'.own = true) (hs : σ[i]? = some (some (.ref p))) (hp : Hs p = none) (hF : F p = none)
    (h : SlotOk K F Hs σ (upd H p o') i s') : RelS K F Hs σ (upd H p o') (ε.set i (some s')) := by
  have hi : i < ε.length := (List.getElem?_eq_some_iff.mp e).1
  refine ⟨fun a u q => ?_, fun a u q => ?_, by rw [List.length_set]; exact R.len, fun j t q => ?_, fun j k t u hjk h1 h2 h3 h4 => ?_⟩
  · rw [upd_ne (ne_of_none q hp)]
    exact R.ex a u q
  · rw [upd_ne]
    · exact R.fr a u q
    · intro z
      subst z
      rw [q] at hF
      cases hF
  · by_cases hj : i = j
    · subst hj
      rw [List.getElem?_set_self hi] at q
      cases q
      exact h
    · rw [List.getElem?_set_ne hj] at q
      have z := R.sl j t q
      cases t with
      | v d' => exact z
      | o ds =>
        obtain ⟨b, vs, h1, h2, h3, h4, h5⟩ := z
        have nb : b ≠ p := by
          intro z
          subst z
          exact R.ds i j s _ hj e q so rfl (hs.trans h1.symm)
        exact ⟨b, vs, h1, h2, h3, by rw [upd_ne nb]; exact h4, h5⟩
      | od ds =>
        obtain ⟨b, vs, h1, h2, h3, h4, h5, h6⟩ := z
        have nb : b ≠ p := by
          intro z
          subst z
          exact R.ds i j s _ hj e q so rfl (hs.trans h1.symm)
        exact ⟨b, vs, h1, h2, h3, by rw [upd_ne nb]; exact h4, h5, h6⟩
  · have own_of : ∀ (j : Nat) (t : S), (ε.set i (some s'))[j]? = some (some t) → t.own = true → ∃ t', ε[j]? = some (some t') ∧ t'.own = true := fun j t q ho => by
      by_cases hj : i = j
      · subst hj
        exact ⟨s, e, so⟩
      · rw [List.getElem?_set_ne hj] at q
        exact ⟨t, q, ho⟩
    obtain ⟨t', a1, a2⟩ := own_of j t h1 h3
    obtain ⟨u', b1, b2⟩ := own_of k u h2 h4
    exact R.ds j k t' u' hjk a1 b1 a2 b2
/-- a fresh address is nobody's -/
theorem RelS.nobody (R : RelS K F Hs σ H ε) {p : Addr} (hp : H p = none) : Hs p = none ∧ F p = none ∧ ∀ (i : Nat) (s : S), ε[i]? = some (some s) → s.own = true → σ[i]? ≠ some (some (.ref p)) := by
  refine ⟨Evl.fresh_back R.ex hp, ?_, fun i s e so q => ?_⟩
  · cases h : F p with
    | none => rfl
    | some o =>
      rw [(R.fr p o h).1] at hp
      cases hp
  · have z := R.sl i s e
    cases s with
    | v d => cases so
    | o ds =>
      obtain ⟨b, vs, h1, h2, h3, h4, h5⟩ := z
      rw [q] at h1
      cases h1
      rw [hp] at h4
      cases h4
    | od ds =>
      obtain ⟨b, vs, h1, h2, h3, h4, h5, h6⟩ := z
      rw [q] at h1
      cases h1
      rw [hp] at h4
      cases h4
end
end PL

set_option Elab.async false
set_option linter.all false
set_option autoImplicit false
set_option maxRecDepth 100000
set_option maxHeartbeats 2000000
/-! What an expression yields, over plain data. -/
namespace PL
open PySem PySem.Spec PyProof.Rows L2
open Evl (Ex)

/-- a guard: it goes by computation where it can -/
def gd (p : Prop) [Decidable p] (Q : Prop) : Prop := match decide p with
  | true => Q
  | false => False
theorem gd_elim {p Q : Prop} [Decidable p] (h : gd p Q) : p ∧ Q := by
  unfold gd at h
  split at h
  · rename_i e
    exact ⟨of_decide_eq_true e, h⟩
  · exact h.elim
theorem gd_of {p Q : Prop} [Decidable p] (h : p) (q : Q) : gd p Q := by
  unfold gd
  rw [decide_eq_true h]
  exact q
/-- an answer that is there -/
def opt {α : Type} (o : Option α) (Q : α → Prop) : Prop := match o with
  | some a => Q a
  | none => False
theorem opt_elim {α : Type} {o : Option α} {Q : α → Prop} (h : opt o Q) : ∃ a, o = some a ∧ Q a := by
  cases o with
  | some a => exact ⟨a, rfl, h⟩
  | none => exact h.elim
theorem opt_of {α : Type} {o : Option α} {a : α} {Q : α → Prop} (e : o = some a) (q : Q a) : opt o Q := by
  rw [e]
  exact q
abbrev PTE := PEnv → (T → PEnv → Prop) → Prop
abbrev PTN := PEnv → (List D → PEnv → Prop) → Prop
abbrev PTL := PEnv → (List T → PEnv → Prop) → Prop
abbrev PTT := PEnv → (Bool → PEnv → Prop) → Prop

/-- the program's classes of errors, by number -/
def exN : List Str := ["PageError", "BadText", "BadTree", "BadSplice", "BadDeed", "BadPlace", "BadSelector", "BadName", "BadValue", "BadPieces", "BadList", "BadMarks", "BadParts", "BadCell", "BadRow", "NoNode", "NoBox", "NoPage", "NotPlain", "TooLong", "TooManyNodes", "BadKey", "BadQuestion",
  "TooManyActions", "NothingToUndo", "NothingToRedo", "NothingBack", "NothingForward", "BadState"]
def exS (c : Nat) : Str := exN.getD c "PageError"
def exA (K : PySem.W.Frag) (c : Nat) : Addr := He.ga K (exS c)
abbrev Xi := Nat → PEnv → Prop
/-- what a raised class is to meet -/
def Lk (K : PySem.W.Frag) (F Hs : Hp) (W : WX) (Ξ : Xi) : Prop := ∀ c (σ' : St) (H' Hs' : Hp) (ε' : PEnv), Ξ c ε' → Ex Hs Hs' → RelS K F Hs' σ' H' ε' → W (.ref (exA K c)) none σ' H'
theorem Lk.mono {K : PySem.W.Frag} {F Hs Hs' : Hp} {W : WX} {Ξ : Xi} (e : Ex Hs Hs') (h : Lk K F Hs W Ξ) : Lk K F Hs' W Ξ := fun c σ' H' Hs2 ε' x e2 R => h c σ' H' Hs2 ε' x (e.trans e2) R
abbrev W0 : WX := fun _ _ _ _ => False
abbrev Ξ0 : Xi := fun _ _ => False
theorem Lk.none {K : PySem.W.Frag} {F Hs : Hp} {W : WX} : Lk K F Hs W Ξ0 := fun _ _ _ _ _ x => x.elim

def KE (K : PySem.W.Frag) (F Hs : Hp) (σ : St) (Q' : T → PEnv → Prop) (Q : VK) : Prop :=
  ∀ (v : V) (H' Hs' : Hp) (t : T) (ε' : PEnv), Ex Hs Hs' → RelS K F Hs' σ H' ε' → RepT K Hs' σ v t → Q' t ε' → Q v H'
structure YE (X : Cx) (W : WX) (Ξ : Xi) (e : Expr) (r : PTE) : Prop where
  ex : ∃ t, PE X e t ∧ ∀ (F Hs : Hp) (σ : St) (H : Hp) (ε : PEnv) (Q' : T → PEnv → Prop) (Q : VK), RelS X.K F Hs σ H ε → Lk X.K F Hs W Ξ → r ε Q' → KE X.K F Hs σ Q' Q → t σ H Q
/-- a new list, nobody's yet -/
def KN (K : PySem.W.Frag) (F Hs : Hp) (σ : St) (Q' : List D → PEnv → Prop) (Q : VK) : Prop :=
  ∀ (p : Addr) (H' Hs' : Hp) (vs : List V) (ds : List D) (ε' : PEnv), Ex Hs Hs' → RelS K F Hs' σ H' ε' → H' p = some (.lst vs) → Hs' p = none → F p = none →
    (∀ (i : Nat) (s : S), ε'[i]? = some (some s) → s.own = true → σ[i]? ≠ some (some (.ref p))) → Reps K Hs' vs ds → Q' ds ε' → Q (.ref p) H'
structure YN (X : Cx) (W : WX) (Ξ : Xi) (e : Expr) (r : PTN) : Prop where
  ex : ∃ t, PE X e t ∧ ∀ (F Hs : Hp) (σ : St) (H : Hp) (ε : PEnv) (Q' : List D → PEnv → Prop) (Q : VK), RelS X.K F Hs σ H ε → Lk X.K F Hs W Ξ → r ε Q' → KN X.K F Hs σ Q' Q → t σ H Q
inductive RepTs (K : PySem.W.Frag) (Hs : Hp) (σ : St) : List V → List T → Prop
  | nil : RepTs K Hs σ [] []
  | cons {v : V} {vs : List V} {t : T} {ts : List T} : RepT K Hs σ v t → RepTs K Hs σ vs ts → RepTs K Hs σ (v :: vs) (t :: ts)
theorem RepTs.mono {K : PySem.W.Frag} {Hs Hs' : Hp} {σ : St} (e : Ex Hs Hs') : ∀ {vs : List V} {ts : List T}, RepTs K Hs σ vs ts → RepTs K Hs' σ vs ts
  | _, _, .nil => .nil
  | _, _, .cons r t => .cons (r.mono e) (RepTs.mono e t)
def KL (K : PySem.W.Frag) (F Hs : Hp) (σ : St) (Q' : List T → PEnv → Prop) (Q : List V → Hp → Prop) : Prop :=
  ∀ (vs : List V) (H' Hs' : Hp) (ts : List T) (ε' : PEnv), Ex Hs Hs' → RelS K F Hs' σ H' ε' → RepTs K Hs' σ vs ts → Q' ts ε' → Q vs H'
structure YL (X : Cx) (W : WX) (Ξ : Xi) (es : List Expr) (r : PTL) : Prop where
  ex : ∃ t, PA X es t ∧ ∀ (F Hs : Hp) (σ : St) (H : Hp) (ε : PEnv) (Q' : List T → PEnv → Prop) (Q : List V → Hp → Prop), RelS X.K F Hs σ H ε → Lk X.K F Hs W Ξ → r ε Q' → KL X.K F Hs σ Q' Q → t σ H Q
def KT (K : PySem.W.Frag) (F Hs : Hp) (σ : St) (Q' : Bool → PEnv → Prop) (Q : Bool → Hp → Prop) : Prop :=
  ∀ (b : Bool) (H' Hs' : Hp) (ε' : PEnv), Ex Hs Hs' → RelS K F Hs' σ H' ε' → Q' b ε' → Q b H'
structure YT (X : Cx) (W : WX) (Ξ : Xi) (e : Expr) (r : PTT) : Prop where
  ex : ∃ t, PT X e t ∧ ∀ (F Hs : Hp) (σ : St) (H : Hp) (ε : PEnv) (Q' : Bool → PEnv → Prop) (Q : Bool → Hp → Prop), RelS X.K F Hs σ H ε → Lk X.K F Hs W Ξ → r ε Q' → KT X.K F Hs σ Q' Q → t σ H Q
/-- and, or: a test whatever its whole is -/
structure YW (X : Cx) (W : WX) (Ξ : Xi) (e : Expr) (r : PTT) : Prop where
  ex : ∃ t, PW X e t ∧ ∀ (F Hs : Hp) (σ : St) (H : Hp) (ε : PEnv) (Q' : Bool → PEnv → Prop) (Q : Bool → Hp → Prop), RelS X.K F Hs σ H ε → Lk X.K F Hs W Ξ → r ε Q' → KT X.K F Hs σ Q' Q → t σ H Q

def outs : PEnv → List T → (List D → PEnv → Prop) → Prop
  | ε, [], Q => Q [] ε
  | ε, t :: ts, Q => out ε t fun d ε' => outs ε' ts fun ds ε'' => Q (d :: ds) ε''
def ress (ε : PEnv) : List T → (List D → Prop) → Prop
  | [], Q => Q []
  | t :: ts, Q => res ε t fun d => ress ε ts fun ds => Q (d :: ds)
inductive RepVs (K : PySem.W.Frag) (Hs H : Hp) : List V → List D → Prop
  | nil : RepVs K Hs H [] []
  | cons {v : V} {vs : List V} {d : D} {ds : List D} : RepV K Hs H v d → RepVs K Hs H vs ds → RepVs K Hs H (v :: vs) (d :: ds)

section
variable {K : PySem.W.Frag} {F Hs H : Hp} {σ : St} {ε : PEnv} {v : V} {d : D}
theorem RelS.outs : ∀ {ts : List T} {vs : List V} {Hs : Hp} {ε : PEnv} {Q : List D → PEnv → Prop}, RelS K F Hs σ H ε → RepTs K Hs σ vs ts → outs ε ts Q → ∃ ds ε' Hs', Ex Hs Hs' ∧ RelS K F Hs' σ H ε' ∧ Reps K Hs' vs ds ∧ Q ds ε'
  | [], _, Hs, ε, Q, R, .nil, q => ⟨[], ε, Hs, Evl.Ex.refl _, R, .nil, q⟩
  | t :: ts, _, Hs, ε, Q, R, .cons r rs, q => by
    obtain ⟨d, ε1, Hs1, e1, R1, p1, q1⟩ := R.out r q
    obtain ⟨ds, ε2, Hs2, e2, R2, p2, q2⟩ := RelS.outs R1 (rs.mono e1) q1
    exact ⟨d :: ds, ε2, Hs2, e1.trans e2, R2, .cons (p1.mono e2) p2, q2⟩
theorem RelS.ress (R : RelS K F Hs σ H ε) : ∀ {ts : List T} {vs : List V} {Q : List D → Prop}, RepTs K Hs σ vs ts → ress ε ts Q → ∃ ds, RepVs K Hs H vs ds ∧ Q ds
  | [], _, Q, .nil, q => ⟨[], .nil, q⟩
  | t :: ts, _, Q, .cons r rs, q => by
    obtain ⟨d, p1, q1⟩ := R.res r q
    obtain ⟨ds, p2, q2⟩ := RelS.ress R rs q1
    exact ⟨d :: ds, .cons p1 p2, q2⟩
end

section
variable {X : Cx} {W : WX} {Ξ : Xi} {a b c : Expr} {es : List Expr} {pos : Pos}

/-! ### names, constants -/
def yVar (i : Nat) : PTE := fun ε Q => match ε[i]? with
  | some (some (.v d)) => Q (.d d) ε
  | some (some (.o _)) => Q (.l i) ε
  | some (some (.od _)) => Q (.l i) ε
  | _ => False
theorem ye_var (i : Nat) {x : Str} {pos : Pos} (hN : X.N[i]? = some x := by rfl) (hv : Vis X.env.scope x := by first | exact Or.inl rfl | exact Or.inr (Or.inl rfl) | exact Or.inr (Or.inr rfl)) (hd : (x == ("__debug__" : Str)) = false := by decide)
    (hcd : (x == ("__classdict__" : Str)) = false := by decide) : YE X W Ξ (.Name x pos) (yVar i) := by
  refine ⟨tVar i, pe_var hN hv hd hcd, fun F Hs σ H ε Q' Q R _ q k => ?_⟩
  unfold yVar at q
  split at q
  · rename_i d e
    obtain ⟨v, h1, h2⟩ := R.sl i _ e
    exact ⟨v, h1, k v H Hs (.d d) ε (Evl.Ex.refl _) R h2 q⟩
  · rename_i ds e
    obtain ⟨p, vs, h1, _⟩ := R.sl i _ e
    exact ⟨_, h1, k _ H Hs (.l i) ε (Evl.Ex.refl _) R h1 q⟩
  · rename_i ds e
    obtain ⟨p, vs, h1, _⟩ := R.sl i _ e
    exact ⟨_, h1, k _ H Hs (.l i) ε (Evl.Ex.refl _) R h1 q⟩
  · exact q.elim
def yC (d : D) : PTE := fun ε Q => Q (.d d) ε
theorem ye_c {v : V} {d : D} (h : PE X a (tC v)) (r : ∀ K H, Rep K H v d) : YE X W Ξ a (yC d) := ⟨_, h, fun F Hs σ H ε Q' Q R _ q k => k v H Hs (.d d) ε (Evl.Ex.refl _) R (r _ _) q⟩
theorem ye_int {i : Int} {j : Nat} : YE X W Ξ (.Constant (.int i) j pos) (yC (.int i)) := ye_c pe_int fun _ _ => .int i
theorem ye_bl {i : Bool} {j : Nat} : YE X W Ξ (.Constant (.bool i) j pos) (yC (.bl i)) := ye_c pe_bl fun _ _ => .bl i
theorem ye_non {j : Nat} : YE X W Ξ (.Constant .none j pos) (yC .non) := ye_c pe_non fun _ _ => .non
theorem ye_str {x : Str} {j : Nat} : YE X W Ξ (.Constant (.str x) j pos) (yC (.str x)) := ye_c pe_str fun _ _ => .str x
/-- a module's constant -/
theorem ye_glob {x : Str} {d : D} {v : V} {u : Value} (hg : Gl X x) (hm : X.mg x = some u) (r : RelV v u) (rd : ∀ K H, Rep K H v d) (hd : (x == ("__debug__" : Str)) = false := by decide) : YE X W Ξ (.Name x pos) (yC d) := ye_c (pe_glob hg hm r hd) rd

/-- a new list that is handed on -/
def yNew (r : PTN) : PTE := fun ε Q => r ε fun ds ε' => Q (.d (.lst ds)) ε'
theorem YN.ye {r : PTN} (h : YN X W Ξ a r) : YE X W Ξ a (yNew r) := by
  obtain ⟨t, h1, h2⟩ := h.ex
  refine ⟨t, h1, fun F Hs σ H ε Q' Q R L q k => h2 F Hs σ H ε _ Q R L q fun p H' Hs' vs ds ε' e R' g1 g2 g3 g4 rs q' => ?_⟩
  exact k (.ref p) H' _ _ ε' (e.trans (ex_upd g2)) (R'.adopt g1 g2 g3 g4) (show RepT X.K _ σ _ (.d (.lst ds)) from .lst upd_same (rs.mono (ex_upd g2))) q'

/-! ### operators -/
abbrev OP2 := D → D → (D → Prop) → Prop
def OpY (X : Cx) (f : Value → Value → Sem Value) (o : OP2) : Prop := ∃ r, OpR X f r ∧ ∀ (F Hs : Hp) (σ : St) (H : Hp) (ε : PEnv) (v w : V) (d1 d2 : D) (Q' : D → Prop) (Q : VK), RelS X.K F Hs σ H ε → RepV X.K Hs H v d1 → RepV X.K Hs H w d2 → o d1 d2 Q' →
  (∀ z H' Hs' d, Ex Hs Hs' → RelS X.K F Hs' σ H' ε → Rep X.K Hs' z d → Q' d → Q z H') → r v w H Q
def yBin (o : OP2) (ra rb : PTE) : PTE := fun ε Q => ra ε fun t1 ε1 => rb ε1 fun t2 ε2 => res ε2 t1 fun d1 => res ε2 t2 fun d2 => o d1 d2 fun d => Q (.d d) ε2
theorem bin_core {f : Value → Value → Sem Value} {o : OP2} {r : R2} {ra rb : PTE} {ta tb : TE} (h : ∀ (F Hs : Hp) (σ : St) (H : Hp) (ε : PEnv) (v w : V) (d1 d2 : D) (Q' : D → Prop) (Q : VK), RelS X.K F Hs σ H ε → RepV X.K Hs H v d1 → RepV X.K Hs H w d2 → o d1 d2 Q' →
  (∀ z H' Hs' d, Ex Hs Hs' → RelS X.K F Hs' σ H' ε → Rep X.K Hs' z d → Q' d → Q z H') → r v w H Q)
    (ka : ∀ (F Hs : Hp) (σ : St) (H : Hp) (ε : PEnv) (Q' : T → PEnv → Prop) (Q : VK), RelS X.K F Hs σ H ε → Lk X.K F Hs W Ξ → ra ε Q' → KE X.K F Hs σ Q' Q → ta σ H Q)
    (kb : ∀ (F Hs : Hp) (σ : St) (H : Hp) (ε : PEnv) (Q' : T → PEnv → Prop) (Q : VK), RelS X.K F Hs σ H ε → Lk X.K F Hs W Ξ → rb ε Q' → KE X.K F Hs σ Q' Q → tb σ H Q)
    (F Hs : Hp) (σ : St) (H : Hp) (ε : PEnv) (Q' : D → PEnv → Prop) (Q : VK) (R : RelS X.K F Hs σ H ε) (L : Lk X.K F Hs W Ξ)
    (q : ra ε fun t1 ε1 => rb ε1 fun t2 ε2 => res ε2 t1 fun d1 => res ε2 t2 fun d2 => o d1 d2 fun d => Q' d ε2)
    (k : ∀ z H' Hs' d ε', Ex Hs Hs' → RelS X.K F Hs' σ H' ε' → Rep X.K Hs' z d → Q' d ε' → Q z H') : tOp r ta tb σ H Q := by
  refine ka F Hs σ H ε _ _ R L q fun v H1 Hs1 t1 ε1 e1 R1 p1 q1 => ?_
  refine kb F Hs1 σ H1 ε1 _ _ R1 (L.mono e1) q1 fun w H2 Hs2 t2 ε2 e2 R2 p2 q2 => ?_
  obtain ⟨d1, v1, q3⟩ := R2.res (p1.mono e2) q2
  obtain ⟨d2, v2, q4⟩ := R2.res p2 q3
  exact h F Hs2 σ H2 ε2 v w d1 d2 _ Q R2 v1 v2 q4 fun z H' Hs' d e3 R3 p3 q5 => k z H' Hs' d ε2 ((e1.trans e2).trans e3) R3 p3 q5
theorem ye_bin {op : Operator} {o : OP2} {ra rb : PTE} (ho : OpY X (binaryOp op) o) (ha : YE X W Ξ a ra) (hb : YE X W Ξ b rb) : YE X W Ξ (.BinOp a op b pos) (yBin o ra rb) := by
  obtain ⟨r, hr, h⟩ := ho
  obtain ⟨ta, pa, ka⟩ := ha.ex
  obtain ⟨tb, pb, kb⟩ := hb.ex
  exact ⟨_, pe_op hr pa pb, fun F Hs σ H ε Q' Q R L q k => bin_core (f := binaryOp op) h ka kb F Hs σ H ε (fun d ε' => Q' (.d d) ε') Q R L q fun z H' Hs' d ε' e R' p q' => k z H' Hs' (.d d) ε' e R' p q'⟩
theorem ye_cmp {op : CmpOp} {o : OP2} {ra rb : PTE} (ho : OpY X (compareOp op) o) (ha : YE X W Ξ a ra) (hb : YE X W Ξ b rb) (hm : behindInMarks op b = false := by first | exact nomark _ | rfl) : YE X W Ξ (.Compare a [op] [b] pos) (yBin o ra rb) := by
  obtain ⟨r, hr, h⟩ := ho
  obtain ⟨ta, pa, ka⟩ := ha.ex
  obtain ⟨tb, pb, kb⟩ := hb.ex
  exact ⟨_, pe_cmpR hr pa pb hm, fun F Hs σ H ε Q' Q R L q k => bin_core (f := compareOp op) h ka kb F Hs σ H ε (fun d ε' => Q' (.d d) ε') Q R L q fun z H' Hs' d ε' e R' p q' => k z H' Hs' (.d d) ε' e R' p q'⟩
def asB (Q : Bool → Prop) : D → Prop
  | .bl b => Q b
  | _ => False
def yBinT (o : OP2) (ra rb : PTE) : PTT := fun ε Q => ra ε fun t1 ε1 => rb ε1 fun t2 ε2 => res ε2 t1 fun d1 => res ε2 t2 fun d2 => o d1 d2 (asB fun b => Q b ε2)
theorem asB_rep {K : PySem.W.Frag} {H : Hp} {z : V} {d : D} {Q : Bool → Prop} (p : Rep K H z d) (q : asB Q d) : ∃ b, z = .bl b ∧ Q b := by
  cases d with
  | bl b => cases p; exact ⟨b, rfl, q⟩
  | _ => exact False.elim q
theorem yt_cmp {op : CmpOp} {o : OP2} {ra rb : PTE} (ho : OpY X (compareOp op) o) (ha : YE X W Ξ a ra) (hb : YE X W Ξ b rb) (hm : behindInMarks op b = false := by first | exact nomark _ | rfl) : YT X W Ξ (.Compare a [op] [b] pos) (yBinT o ra rb) := by
  obtain ⟨r, hr, h⟩ := ho
  obtain ⟨ta, pa, ka⟩ := ha.ex
  obtain ⟨tb, pb, kb⟩ := hb.ex
  refine ⟨_, pt_cmpR hr pa pb hm, fun F Hs σ H ε Q' Q R L q k => ?_⟩
  refine bin_core (f := compareOp op) h ka kb F Hs σ H ε (fun d ε' => asB (fun b => Q' b ε') d) (fun x H' => ∃ k, x = .bl k ∧ Q k H') R L q fun z H' Hs' d ε' e R' p q' => ?_
  obtain ⟨b, e2, q2⟩ := asB_rep p q'
  exact ⟨b, e2, k b H' Hs' ε' e R' q2⟩
/-- a < b < c, b asked once -/
def yChain (o o' : OP2) (ra rb rc : PTE) : PTE := fun ε Q => ra ε fun t1 ε1 => rb ε1 fun t2 ε2 => res ε2 t1 fun d1 => res ε2 t2 fun d2 => o d1 d2 (asB fun k => match k with
  | true => rc ε2 fun t3 ε3 => res ε3 t2 fun d2 => res ε3 t3 fun d3 => o' d2 d3 fun d => Q (.d d) ε3
  | false => Q (.d (.bl false)) ε2)

/-! ### tests -/
def yB (r : PTE) : PTT := fun ε Q => r ε fun t ε' => res ε' t (asB fun b => Q b ε')
theorem yt_val {r : PTE} (h : YE X W Ξ a r) (he : ∀ whole, isTrue a X.env whole = (do let v ← whole; standAt a.pos; holding [v] (truthy v)) := by intro _; rfl) : YT X W Ξ a (yB r) := by
  obtain ⟨t, p, k⟩ := h.ex
  refine ⟨_, pt_val p he, fun F Hs σ H ε Q' Q R L q kk => k F Hs σ H ε _ _ R L q fun v H' Hs' t ε' e R' p' q' => ?_⟩
  obtain ⟨d, rv, q2⟩ := R'.res p' q'
  cases d with
  | bl b => exact ⟨b, rv.bl', kk b H' Hs' ε' e R' q2⟩
  | _ => exact False.elim q2
/-- a value's truth -/
def truD : D → (Bool → Prop) → Prop
  | .non, Q => Q false
  | .bl b, Q => Q b
  | .int i, Q => Q (i != 0)
  | .str x, Q => gd (x.length ≤ 16777216) (Q ((x.length : Int) != 0))
  | .lst xs, Q => Q (!xs.isEmpty)
  | .tup xs, Q => Q (!xs.isEmpty)
  | .dic xs, Q => Q (!xs.isEmpty)
  | _, _ => False
def yTru (r : PTE) : PTT := fun ε Q => r ε fun t ε' => res ε' t fun d => truD d fun b => Q b ε'
theorem Reps.isEmpty {K : PySem.W.Frag} {H : Hp} {vs : List V} {ds : List D} (r : Reps K H vs ds) : vs.isEmpty = ds.isEmpty := by
  cases r <;> rfl
theorem line_le {n : Nat} (h : n ≤ 16777216) : n ≤ sizeLine := by rw [sizeLine_eq]; exact h
theorem line_lt {n : Nat} (h : n < 16777216) : n < sizeLine := by rw [sizeLine_eq]; exact h
theorem truD_ok {K : PySem.W.Frag} {F Hs H : Hp} {σ : St} {ε : PEnv} {v : V} {d : D} {Q : Bool → Prop} (R : RelS K F Hs σ H ε) (h : RepV K Hs H v d) (q : truD d Q) : ∃ b, TruV K v H b ∧ Q b := by
  cases d with
  | non => rw [h.non']; exact ⟨false, rfl, q⟩
  | bl b => rw [h.bl']; exact ⟨b, rfl, q⟩
  | int i => rw [h.int']; exact ⟨_, rfl, q⟩
  | str x => rw [h.str']; exact ⟨_, ⟨line_le (gd_elim q).1, rfl⟩, (gd_elim q).2⟩
  | lst xs =>
    obtain ⟨p, vs, e, h1, h2⟩ := h.lst' R.ex
    rw [e]
    exact ⟨_, .inl ⟨vs, SqL.of h1, rfl⟩, by rw [h2.isEmpty]; exact q⟩
  | tup xs =>
    obtain ⟨p, vs, e, h1, h2⟩ := h.tup' R.ex
    rw [e]
    exact ⟨_, .inr (.inl ⟨vs, h1, rfl⟩), by rw [h2.isEmpty]; exact q⟩
  | dic xs =>
    obtain ⟨p, vs, e, h1, h2, h3⟩ := h.dic' R.ex
    rw [e]
    refine ⟨_, .inr (.inr ⟨vs, h1, rfl⟩), ?_⟩
    have : vs.isEmpty = xs.isEmpty := by
      have e2 := congrArg List.isEmpty h2
      rw [List.isEmpty_map, List.isEmpty_map] at e2
      exact e2
    rw [this]
    exact q
  | _ => exact False.elim q
theorem yt_tru {r : PTE} (h : YE X W Ξ a r) (he : ∀ whole, isTrue a X.env whole = (do let v ← whole; standAt a.pos; holding [v] (truthy v)) := by intro _; rfl) : YT X W Ξ a (yTru r) := by
  obtain ⟨t, p, k⟩ := h.ex
  refine ⟨_, pt_truth p he, fun F Hs σ H ε Q' Q R L q kk => k F Hs σ H ε _ _ R L q fun v H' Hs' t ε' e R' p' q' => ?_⟩
  obtain ⟨d, rv, q2⟩ := R'.res p' q'
  obtain ⟨b, h1, h2⟩ := truD_ok R' rv q2
  exact ⟨b, h1, kk b H' Hs' ε' e R' h2⟩
def yAnd (ra rb : PTT) : PTT := fun ε Q => ra ε fun k ε' => match k with
  | true => rb ε' Q
  | false => Q false ε'
def yOr (ra rb : PTT) : PTT := fun ε Q => ra ε fun k ε' => match k with
  | true => Q true ε'
  | false => rb ε' Q
def yNot (ra : PTT) : PTT := fun ε Q => ra ε fun k ε' => Q (!k) ε'
theorem YW.yt {r : PTT} (h : YW X W Ξ a r) : YT X W Ξ a r := by
  obtain ⟨t, p, k⟩ := h.ex
  exact ⟨t, p.pt, k⟩
theorem yw_and1 {r : PTT} (h : YT X W Ξ a r) : YW X W Ξ (.BoolOp .And [a] pos) r := by
  obtain ⟨t, p, k⟩ := h.ex
  exact ⟨t, pw_and1 p, k⟩
theorem yw_or1 {r : PTT} (h : YT X W Ξ a r) : YW X W Ξ (.BoolOp .Or [a] pos) r := by
  obtain ⟨t, p, k⟩ := h.ex
  exact ⟨t, pw_or1 p, k⟩
theorem yw_and {ra rb : PTT} (ha : YT X W Ξ a ra) (hb : YW X W Ξ (.BoolOp .And (b :: es) pos) rb) : YW X W Ξ (.BoolOp .And (a :: b :: es) pos) (yAnd ra rb) := by
  obtain ⟨ta, pa, ka⟩ := ha.ex
  obtain ⟨tb, pb, kb⟩ := hb.ex
  refine ⟨_, pw_and pa pb, fun F Hs σ H ε Q' Q R L q k => ka F Hs σ H ε _ _ R L q fun c H1 Hs1 ε1 e1 R1 q1 => ?_⟩
  cases c with
  | true =>
    show (if true = true then _ else _)
    rw [if_pos rfl]
    exact kb F Hs1 σ H1 ε1 _ _ R1 (L.mono e1) q1 fun c' H2 Hs2 ε2 e2 R2 q2 => k c' H2 Hs2 ε2 (e1.trans e2) R2 q2
  | false =>
    show (if false = true then _ else _)
    rw [if_neg Bool.false_ne_true]
    exact k false H1 Hs1 ε1 e1 R1 q1
theorem yw_or {ra rb : PTT} (ha : YT X W Ξ a ra) (hb : YW X W Ξ (.BoolOp .Or (b :: es) pos) rb) : YW X W Ξ (.BoolOp .Or (a :: b :: es) pos) (yOr ra rb) := by
  obtain ⟨ta, pa, ka⟩ := ha.ex
  obtain ⟨tb, pb, kb⟩ := hb.ex
  refine ⟨_, pw_or pa pb, fun F Hs σ H ε Q' Q R L q k => ka F Hs σ H ε _ _ R L q fun c H1 Hs1 ε1 e1 R1 q1 => ?_⟩
  cases c with
  | true =>
    show (if true = true then _ else _)
    rw [if_pos rfl]
    exact k true H1 Hs1 ε1 e1 R1 q1
  | false =>
    show (if false = true then _ else _)
    rw [if_neg Bool.false_ne_true]
    exact kb F Hs1 σ H1 ε1 _ _ R1 (L.mono e1) q1 fun c' H2 Hs2 ε2 e2 R2 q2 => k c' H2 Hs2 ε2 (e1.trans e2) R2 q2
theorem yt_not {r : PTT} (h : YT X W Ξ a r) : YT X W Ξ (.UnaryOp .Not a pos) (yNot r) := by
  obtain ⟨t, p, k⟩ := h.ex
  exact ⟨_, pt_not p, fun F Hs σ H ε Q' Q R L q kk => k F Hs σ H ε _ _ R L q fun c H' Hs' ε' e R' q' => kk (!c) H' Hs' ε' e R' q'⟩
/-! .. as values -/
def yAndV (ra rb : PTE) : PTE := fun ε Q => ra ε fun t ε' => res ε' t (asB fun k => match k with
  | true => rb ε' Q
  | false => Q (.d (.bl false)) ε')
def yOrV (ra rb : PTE) : PTE := fun ε Q => ra ε fun t ε' => res ε' t (asB fun k => match k with
  | true => Q (.d (.bl true)) ε'
  | false => rb ε' Q)
def yNotV (ra : PTE) : PTE := fun ε Q => ra ε fun t ε' => res ε' t fun d => truD d fun k => Q (.d (.bl (!k))) ε'
theorem ye_one {op : BoolOp} {r : PTE} (h : YE X W Ξ a r) : YE X W Ξ (.BoolOp op [a] pos) r := by
  obtain ⟨t, p, k⟩ := h.ex
  exact ⟨t, pe_one p, k⟩
theorem ye_and {ra rb : PTE} (ha : YE X W Ξ a ra) (hb : YE X W Ξ (.BoolOp .And (b :: es) pos) rb) : YE X W Ξ (.BoolOp .And (a :: b :: es) pos) (yAndV ra rb) := by
  obtain ⟨ta, pa, ka⟩ := ha.ex
  obtain ⟨tb, pb, kb⟩ := hb.ex
  refine ⟨_, pe_and pa pb, fun F Hs σ H ε Q' Q R L q k => ka F Hs σ H ε _ _ R L q fun v H1 Hs1 t1 ε1 e1 R1 p1 q1 => ?_⟩
  obtain ⟨d, rv, q2⟩ := R1.res p1 q1
  cases d with
  | bl c =>
    refine ⟨c, rv.bl', ?_⟩
    cases c with
    | true =>
      show tb σ H1 Q
      exact kb F Hs1 σ H1 ε1 _ _ R1 (L.mono e1) q2 fun v' H2 Hs2 t2 ε2 e2 R2 p2 q3 => k v' H2 Hs2 t2 ε2 (e1.trans e2) R2 p2 q3
    | false =>
      show Q (.bl false) H1
      exact k _ H1 Hs1 (.d (.bl false)) ε1 e1 R1 (.bl false) q2
  | _ => exact False.elim q2
theorem ye_or {ra rb : PTE} (ha : YE X W Ξ a ra) (hb : YE X W Ξ (.BoolOp .Or (b :: es) pos) rb) : YE X W Ξ (.BoolOp .Or (a :: b :: es) pos) (yOrV ra rb) := by
  obtain ⟨ta, pa, ka⟩ := ha.ex
  obtain ⟨tb, pb, kb⟩ := hb.ex
  refine ⟨_, pe_or pa pb, fun F Hs σ H ε Q' Q R L q k => ka F Hs σ H ε _ _ R L q fun v H1 Hs1 t1 ε1 e1 R1 p1 q1 => ?_⟩
  obtain ⟨d, rv, q2⟩ := R1.res p1 q1
  cases d with
  | bl c =>
    refine ⟨c, rv.bl', ?_⟩
    cases c with
    | true =>
      show Q (.bl true) H1
      exact k _ H1 Hs1 (.d (.bl true)) ε1 e1 R1 (.bl true) q2
    | false =>
      show tb σ H1 Q
      exact kb F Hs1 σ H1 ε1 _ _ R1 (L.mono e1) q2 fun v' H2 Hs2 t2 ε2 e2 R2 p2 q3 => k v' H2 Hs2 t2 ε2 (e1.trans e2) R2 p2 q3
  | _ => exact False.elim q2
def yIf (rt : PTT) (ra rb : PTE) : PTE := fun ε Q => rt ε fun k ε' => match k with
  | true => ra ε' Q
  | false => rb ε' Q
theorem ye_if {rt : PTT} {ra rb : PTE} (hc : YT X W Ξ c rt) (ha : YE X W Ξ a ra) (hb : YE X W Ξ b rb) : YE X W Ξ (.IfExp c a b pos) (yIf rt ra rb) := by
  obtain ⟨tc, pc, kc⟩ := hc.ex
  obtain ⟨ta, pa, ka⟩ := ha.ex
  obtain ⟨tb, pb, kb⟩ := hb.ex
  refine ⟨_, pe_ifExp pc pa pb, fun F Hs σ H ε Q' Q R L q k => kc F Hs σ H ε _ _ R L q fun c H1 Hs1 ε1 e1 R1 q1 => ?_⟩
  cases c with
  | true =>
    show (if true = true then _ else _)
    rw [if_pos rfl]
    exact ka F Hs1 σ H1 ε1 _ _ R1 (L.mono e1) q1 fun v' H2 Hs2 t2 ε2 e2 R2 p2 q3 => k v' H2 Hs2 t2 ε2 (e1.trans e2) R2 p2 q3
  | false =>
    show (if false = true then _ else _)
    rw [if_neg Bool.false_ne_true]
    exact kb F Hs1 σ H1 ε1 _ _ R1 (L.mono e1) q1 fun v' H2 Hs2 t2 ε2 e2 R2 p2 q3 => k v' H2 Hs2 t2 ε2 (e1.trans e2) R2 p2 q3

/-! ### arguments, displays, calls -/
def ylNil : PTL := fun ε Q => Q [] ε
def ylCons (r : PTE) (rs : PTL) : PTL := fun ε Q => r ε fun t ε1 => rs ε1 fun ts ε2 => Q (t :: ts) ε2
theorem yl_nil : YL X W Ξ [] ylNil := ⟨tNil, pa_nil, fun F Hs σ H ε Q' Q R _ q k => k [] H Hs [] ε (Evl.Ex.refl _) R .nil q⟩
theorem yl_cons {r : PTE} {rs : PTL} (h : YE X W Ξ a r) (hs : YL X W Ξ es rs) (hst : starEach (a :: es) X.env = (false, eval a X.env) :: starEach es X.env := by rfl) : YL X W Ξ (a :: es) (ylCons r rs) := by
  obtain ⟨t, p, k⟩ := h.ex
  obtain ⟨ts, ps, ks⟩ := hs.ex
  refine ⟨_, pa_cons p ps hst, fun F Hs σ H ε Q' Q R L q kk => k F Hs σ H ε _ _ R L q fun v H1 Hs1 t1 ε1 e1 R1 p1 q1 => ?_⟩
  exact ks F Hs1 σ H1 ε1 _ _ R1 (L.mono e1) q1 fun vs H2 Hs2 t2 ε2 e2 R2 p2 q2 => kk (v :: vs) H2 Hs2 (t1 :: t2) ε2 (e1.trans e2) R2 (.cons (p1.mono e2) p2) q2
/-- [a, b, ..] -/
def ynLst (rs : PTL) : PTN := fun ε Q => rs ε fun ts ε1 => outs ε1 ts fun ds ε2 => gd (ds.length ≤ 16777216) (Q ds ε2)
theorem yn_lst {rs : PTL} (h : YL X W Ξ es rs) : YN X W Ξ (.List es pos) (ynLst rs) := by
  obtain ⟨ts, ps, ks⟩ := h.ex
  refine ⟨_, pe_lst ps, fun F Hs σ H ε Q' Q R L q k => ks F Hs σ H ε _ _ R L q fun vs H1 Hs1 t1 ε1 e1 R1 p1 q1 => ?_⟩
  obtain ⟨ds, ε2, Hs2, e2, R2, rs, hq⟩ := R1.outs p1 q1
  obtain ⟨hl, q2⟩ := gd_elim hq
  refine ⟨by rw [rs.len]; exact line_le hl, fun p hp => ?_⟩
  obtain ⟨n1, n2, n3⟩ := R2.nobody hp
  exact k p _ Hs2 vs ds ε2 (e1.trans e2) (R2.lay hp) upd_same n1 n2 n3 rs q2
/-- (a, b, ..) -/
def yTup (rs : PTL) : PTE := fun ε Q => rs ε fun ts ε1 => outs ε1 ts fun ds ε2 => gd (ds.length ≤ 16777216) (Q (.d (.tup ds)) ε2)
theorem ye_tup {rs : PTL} {k : Nat} (h : YL X W Ξ es rs) : YE X W Ξ (.Tuple es k pos) (yTup rs) := by
  obtain ⟨ts, ps, ks⟩ := h.ex
  refine ⟨_, pe_tup ps, fun F Hs σ H ε Q' Q R L q k => ks F Hs σ H ε _ _ R L q fun vs H1 Hs1 t1 ε1 e1 R1 p1 q1 => ?_⟩
  obtain ⟨ds, ε2, Hs2, e2, R2, rs, hq⟩ := R1.outs p1 q1
  obtain ⟨hl, q2⟩ := gd_elim hq
  refine ⟨by rw [rs.len]; exact line_le hl, fun p hp => ?_⟩
  obtain ⟨R3, e3⟩ := R2.new (o := .tup vs) hp
  exact k (.ref p) _ _ (.d (.tup ds)) ε2 ((e1.trans e2).trans e3) R3 (show Rep X.K _ _ (.tup ds) from .tup (SqT.of upd_same) (rs.mono e3)) q2

/-- a built-in's call, by data -/
abbrev OPC := List D → (D → Prop) → Prop
def CallY (X : Cx) (f : Value) (o : OPC) : Prop := ∃ r, CallR X f r ∧ ∀ (F Hs : Hp) (σ : St) (H : Hp) (ε : PEnv) (vs : List V) (ds : List D) (Q' : D → Prop) (Q : VK), RelS X.K F Hs σ H ε → RepVs X.K Hs H vs ds → o ds Q' →
  (∀ z H' Hs' d, Ex Hs Hs' → RelS X.K F Hs' σ H' ε → Rep X.K Hs' z d → Q' d → Q z H') → r vs H Q
/-- .. that makes a list -/
def CallN (X : Cx) (f : Value) (o : List D → (List D → Prop) → Prop) : Prop := ∃ r, CallR X f r ∧ ∀ (F Hs : Hp) (σ : St) (H : Hp) (ε : PEnv) (vs : List V) (ds : List D) (Q' : List D → Prop) (Q : VK), RelS X.K F Hs σ H ε → RepVs X.K Hs H vs ds → o ds Q' →
  (∀ p ws es, H p = none → Reps X.K Hs ws es → Q' es → Q (.ref p) (upd H p (.lst ws))) → r vs H Q
def yCB (o : OPC) (rs : PTL) : PTE := fun ε Q => rs ε fun ts ε1 => ress ε1 ts fun ds => o ds fun d => Q (.d d) ε1
def ynCB (o : List D → (List D → Prop) → Prop) (rs : PTL) : PTN := fun ε Q => rs ε fun ts ε1 => ress ε1 ts fun ds => o ds fun d => Q d ε1
section
variable {x : Str} {p : Pos} {id ty : String} {rs : PTL}
theorem cb_core {f : Value} {o : OPC} {r : List V → Hp → VK → Prop} {ta : TA} (h : ∀ (F Hs : Hp) (σ : St) (H : Hp) (ε : PEnv) (vs : List V) (ds : List D) (Q' : D → Prop) (Q : VK), RelS X.K F Hs σ H ε → RepVs X.K Hs H vs ds → o ds Q' →
  (∀ z H' Hs' d, Ex Hs Hs' → RelS X.K F Hs' σ H' ε → Rep X.K Hs' z d → Q' d → Q z H') → r vs H Q)
    (ka : ∀ (F Hs : Hp) (σ : St) (H : Hp) (ε : PEnv) (Q' : List T → PEnv → Prop) (Q : List V → Hp → Prop), RelS X.K F Hs σ H ε → Lk X.K F Hs W Ξ → rs ε Q' → KL X.K F Hs σ Q' Q → ta σ H Q)
    (F Hs : Hp) (σ : St) (H : Hp) (ε : PEnv) (Q' : T → PEnv → Prop) (Q : VK) (R : RelS X.K F Hs σ H ε) (L : Lk X.K F Hs W Ξ) (q : yCB o rs ε Q') (k : KE X.K F Hs σ Q' Q) : tCB r ta σ H Q := by
  refine ka F Hs σ H ε _ _ R L q fun vs H1 Hs1 t1 ε1 e1 R1 p1 q1 => ?_
  obtain ⟨ds, rv, q2⟩ := R1.ress p1 q1
  exact h F Hs1 σ H1 ε1 vs ds _ Q R1 rv q2 fun z H' Hs' d e2 R2 p2 q3 => k z H' Hs' (.d d) ε1 (e1.trans e2) R2 p2 q3
theorem ye_callB {o : OPC} (hc : CallY X (.builtin id) o) (hg : Gl X x) (hm : X.mg x = none) (hv : bootBuiltins x = some (.builtin id)) (h : YL X W Ξ (a :: es) rs) (hn : x ≠ "__name__" := by decide) (hdb : (x == ("__debug__" : Str)) = false := by decide)
    (he : starEach (a :: es) X.env = (false, eval a X.env) :: starEach es X.env := by rfl) (hpl : (backTo pos (starEach es X.env)).any (·.1) = false := by rfl) : YE X W Ξ (.Call (.Name x p) (a :: es) [] pos) (yCB o rs) := by
  obtain ⟨r, hr, hh⟩ := hc
  obtain ⟨ts, ps, ks⟩ := h.ex
  exact ⟨_, pe_callB hr hg hm hv ps hn hdb he hpl, cb_core (f := .builtin id) hh ks⟩
theorem ye_callTy {o : OPC} (hc : CallY X (.type ty) o) (hg : Gl X x) (hm : X.mg x = none) (hv : bootBuiltins x = some (.type ty)) (h : YL X W Ξ (a :: es) rs) (hn : x ≠ "__name__" := by decide) (hdb : (x == ("__debug__" : Str)) = false := by decide)
    (he : starEach (a :: es) X.env = (false, eval a X.env) :: starEach es X.env := by rfl) (hpl : (backTo pos (starEach es X.env)).any (·.1) = false := by rfl) : YE X W Ξ (.Call (.Name x p) (a :: es) [] pos) (yCB o rs) := by
  obtain ⟨r, hr, hh⟩ := hc
  obtain ⟨ts, ps, ks⟩ := h.ex
  exact ⟨_, pe_callTy hr hg hm hv ps hn hdb he hpl, cb_core (f := .type ty) hh ks⟩
theorem cn_core {f : Value} {o : List D → (List D → Prop) → Prop} {r : List V → Hp → VK → Prop} {ta : TA} (h : ∀ (F Hs : Hp) (σ : St) (H : Hp) (ε : PEnv) (vs : List V) (ds : List D) (Q' : List D → Prop) (Q : VK), RelS X.K F Hs σ H ε → RepVs X.K Hs H vs ds → o ds Q' →
  (∀ p ws es, H p = none → Reps X.K Hs ws es → Q' es → Q (.ref p) (upd H p (.lst ws))) → r vs H Q)
    (ka : ∀ (F Hs : Hp) (σ : St) (H : Hp) (ε : PEnv) (Q' : List T → PEnv → Prop) (Q : List V → Hp → Prop), RelS X.K F Hs σ H ε → Lk X.K F Hs W Ξ → rs ε Q' → KL X.K F Hs σ Q' Q → ta σ H Q)
    (F Hs : Hp) (σ : St) (H : Hp) (ε : PEnv) (Q' : List D → PEnv → Prop) (Q : VK) (R : RelS X.K F Hs σ H ε) (L : Lk X.K F Hs W Ξ) (q : ynCB o rs ε Q') (k : KN X.K F Hs σ Q' Q) : tCB r ta σ H Q := by
  refine ka F Hs σ H ε _ _ R L q fun vs H1 Hs1 t1 ε1 e1 R1 p1 q1 => ?_
  obtain ⟨ds, rv, q2⟩ := R1.ress p1 q1
  refine h F Hs1 σ H1 ε1 vs ds _ Q R1 rv q2 fun p ws es hp p2 q3 => ?_
  obtain ⟨n1, n2, n3⟩ := R1.nobody hp
  exact k p _ Hs1 ws es ε1 e1 (R1.lay hp) upd_same n1 n2 n3 p2 q3
theorem yn_callB {o : List D → (List D → Prop) → Prop} (hc : CallN X (.builtin id) o) (hg : Gl X x) (hm : X.mg x = none) (hv : bootBuiltins x = some (.builtin id)) (h : YL X W Ξ (a :: es) rs) (hn : x ≠ "__name__" := by decide) (hdb : (x == ("__debug__" : Str)) = false := by decide)
    (he : starEach (a :: es) X.env = (false, eval a X.env) :: starEach es X.env := by rfl) (hpl : (backTo pos (starEach es X.env)).any (·.1) = false := by rfl) : YN X W Ξ (.Call (.Name x p) (a :: es) [] pos) (ynCB o rs) := by
  obtain ⟨r, hr, hh⟩ := hc
  obtain ⟨ts, ps, ks⟩ := h.ex
  exact ⟨_, pe_callB hr hg hm hv ps hn hdb he hpl, cn_core (f := .builtin id) hh ks⟩
theorem yn_callTy {o : List D → (List D → Prop) → Prop} (hc : CallN X (.type ty) o) (hg : Gl X x) (hm : X.mg x = none) (hv : bootBuiltins x = some (.type ty)) (h : YL X W Ξ (a :: es) rs) (hn : x ≠ "__name__" := by decide) (hdb : (x == ("__debug__" : Str)) = false := by decide)
    (he : starEach (a :: es) X.env = (false, eval a X.env) :: starEach es X.env := by rfl) (hpl : (backTo pos (starEach es X.env)).any (·.1) = false := by rfl) : YN X W Ξ (.Call (.Name x p) (a :: es) [] pos) (ynCB o rs) := by
  obtain ⟨r, hr, hh⟩ := hc
  obtain ⟨ts, ps, ks⟩ := h.ex
  exact ⟨_, pe_callTy hr hg hm hv ps hn hdb he hpl, cn_core (f := .type ty) hh ks⟩
end

/-! ### a def's promise by data -/
abbrev Spec := List D → (D → Prop) → (Nat → Prop) → Prop
/-- others' objects stand as they stood -/
def Keeps (Hs H Hs' H' : Hp) : Prop := Ex Hs Hs' ∧ Ex Hs' H' ∧ ∀ p o, H p = some o → Hs p = none → H' p = some o ∧ Hs' p = none
def pSp (K : PySem.W.Frag) (φ : Spec) : Sp := fun vs H Q E => ∃ (Hs : Hp) (ds : List D) (Q' : D → Prop) (E' : Nat → Prop), Ex Hs H ∧ Reps K Hs vs ds ∧ φ ds Q' E' ∧
  (∀ d, Q' d → ∀ v H' Hs', Keeps Hs H Hs' H' → Rep K Hs' v d → Q v H') ∧ (∀ c, E' c → ∀ H' Hs', Keeps Hs H Hs' H' → E (.ref (exA K c)) none H')
/-- the caller's state behind a call -/
theorem RelS.called {K : PySem.W.Frag} {F Hs H Hs' H' : Hp} {σ : St} {ε : PEnv} (R : RelS K F Hs σ H ε) (k : Keeps Hs H Hs' H') : RelS K F Hs' σ H' ε := by
  obtain ⟨k1, k2, k3⟩ := k
  refine ⟨k2, fun p o e => ?_, R.len, fun i s e => ?_, R.ds⟩
  · obtain ⟨h1, h2⟩ := R.fr p o e
    exact k3 p o h1 h2
  · have z := R.sl i s e
    cases s with
    | v d =>
      obtain ⟨v, h1, h2⟩ := z
      exact ⟨v, h1, h2.mono k1⟩
    | o ds =>
      obtain ⟨p, vs, h1, h2, h3, h4, h5⟩ := z
      obtain ⟨g1, g2⟩ := k3 p _ h4 h2
      exact ⟨p, vs, h1, g2, h3, g1, h5.mono k1⟩
    | od ds =>
      obtain ⟨p, vs, h1, h2, h3, h4, h5, h6⟩ := z
      obtain ⟨g1, g2⟩ := k3 p _ h4 h2
      exact ⟨p, vs, h1, g2, h3, g1, h5, h6.mono k1⟩
def yCall (φ : Spec) (Ξ : Xi) (rs : PTL) : PTE := fun ε Q => rs ε fun ts ε1 => outs ε1 ts fun ds ε2 => φ ds (fun d => Q (.d d) ε2) fun c => Ξ c ε2
theorem ye_call {φ : Spec} {rs : PTL} {k : Nat} {f : Addr} {fd : FuncData} {ps : List Str} {x : Str} {p : Pos} (Fn : FnOk X.prog X.w X.K X.mg X.base (L2.CX X.prog X.w) k f fd ps (pSp X.K φ)) (tk : Takes X W) (hr : Room k X.A) (hg : Gl X x)
    (hm : X.mg x = some (.ref f)) (hk : PySem.W.keepIn X.K (.ref f) = true) (hb : Binds X.K fd ps []) (h : YL X W Ξ (a :: es) rs) (hdb : (x == ("__debug__" : Str)) = false := by decide)
    (he : starEach (a :: es) X.env = (false, eval a X.env) :: starEach es X.env := by rfl) (hpl : (backTo pos (starEach es X.env)).any (·.1) = false := by rfl) :
    YE X W Ξ (.Call (.Name x p) (a :: es) [] pos) (yCall φ Ξ rs) := by
  obtain ⟨ts, pas, ks⟩ := h.ex
  refine ⟨_, pe_callS Fn hr hg hm hk hb (fun σ => passAt tk σ) pas hdb he hpl, fun F Hs σ H ε Q' Q R L q k => ks F Hs σ H ε _ _ R L q fun vs H1 Hs1 t1 ε1 e1 R1 p1 q1 => ?_⟩
  obtain ⟨ds, ε2, Hs2, e2, R2, rs, q2⟩ := R1.outs p1 q1
  refine ⟨Hs2, ds, _, _, R2.ex, rs, q2, fun d qd v H' Hs' kp rv => ?_, fun c ec H' Hs' kp => ?_⟩
  · exact k v H' Hs' (.d d) ε2 ((e1.trans e2).trans kp.1) (R2.called kp) rv qd
  · exact L c σ H' Hs' ε2 ec ((e1.trans e2).trans kp.1) (R2.called kp)
end
end PL

set_option Elab.async false
set_option linter.all false
set_option autoImplicit false
set_option maxRecDepth 100000
set_option maxHeartbeats 2000000
/-! Operators, built-ins, subscripts, comprehensions, over plain data. -/
namespace PL
open PySem PySem.Spec PyProof.Rows L2
open Evl (Ex)
section
variable {X : Cx}

def oAdd : OP2
  | .int i, .int j, Q => Q (.int (i + j))
  | .str x, .str y, Q => gd (x.length + y.length ≤ 16777216) (Q (.str (x ++ y)))
  | .lst xs, .lst ys, Q => gd (xs.length + ys.length ≤ 16777216) (Q (.lst (xs ++ ys)))
  | _, _, _ => False
def rAddA : R2 := fun x y H Q => (∃ i j, x = .int i ∧ y = .int j ∧ Q (.int (i + j)) H) ∨ (∃ i j, x = .str i ∧ y = .str j ∧ i.length + j.length ≤ sizeLine ∧ Q (.str (i ++ j)) H) ∨ rCat x y H Q
theorem op_addA : OpR X (binaryOp .Add) rAddA := op_add.or (op_add_str.or op_cat)
theorem oy_add : OpY X (binaryOp .Add) oAdd := by
  refine ⟨_, op_addA, fun F Hs σ H ε v w d1 d2 Q' Q R r1 r2 q k => ?_⟩
  unfold oAdd at q
  split at q
  · exact .inl ⟨_, _, r1.int', r2.int', k _ H Hs _ (Evl.Ex.refl _) R (.int _) q⟩
  · have q := gd_elim q
    exact .inr (.inl ⟨_, _, r1.str', r2.str', line_le q.1, k _ H Hs _ (Evl.Ex.refl _) R (.str _) q.2⟩)
  · have q := gd_elim q
    obtain ⟨a, vs, e1, h1, p1⟩ := r1.lst' R.ex
    obtain ⟨b, ws, e2, h2, p2⟩ := r2.lst' R.ex
    refine .inr (.inr ⟨a, b, vs, ws, e1, e2, h1, h2, by rw [p1.len, p2.len]; exact line_le q.1, fun p hp => ?_⟩)
    obtain ⟨R3, e3⟩ := R.new (o := .lst (vs ++ ws)) hp
    exact k (.ref p) _ _ _ e3 R3 (.lst upd_same ((p1.append p2).mono e3)) q.2
  · exact q.elim
def catQ (d1 d2 : D) (Q : List D → Prop) : Prop := match d1, d2 with
  | .lst xs, .lst ys => gd (xs.length + ys.length ≤ 16777216) (Q (xs ++ ys))
  | _, _ => False
theorem catQ_elim {d1 d2 : D} {Q : List D → Prop} (h : catQ d1 d2 Q) : ∃ xs ys, d1 = .lst xs ∧ d2 = .lst ys ∧ xs.length + ys.length ≤ 16777216 ∧ Q (xs ++ ys) := by
  unfold catQ at h
  split at h
  · exact ⟨_, _, rfl, rfl, gd_elim h⟩
  · exact h.elim
/-- a + b, a new list that a name takes -/
def ynAdd (ra rb : PTE) : PTN := fun ε Q => ra ε fun t1 ε1 => rb ε1 fun t2 ε2 => res ε2 t1 fun d1 => res ε2 t2 fun d2 => catQ d1 d2 fun ds => Q ds ε2
theorem yn_add {W : WX} {Ξ : Xi} {a b : Expr} {pos : Pos} {ra rb : PTE} (ha : YE X W Ξ a ra) (hb : YE X W Ξ b rb) : YN X W Ξ (.BinOp a .Add b pos) (ynAdd ra rb) := by
  obtain ⟨ta, pa, ka⟩ := ha.ex
  obtain ⟨tb, pb, kb⟩ := hb.ex
  refine ⟨_, pe_op op_cat pa pb, fun F Hs σ H ε Q' Q R L q k => ?_⟩
  refine ka F Hs σ H ε _ _ R L q fun v H1 Hs1 t1 ε1 e1 R1 p1 q1 => ?_
  refine kb F Hs1 σ H1 ε1 _ _ R1 (L.mono e1) q1 fun w H2 Hs2 t2 ε2 e2 R2 p2 q2 => ?_
  obtain ⟨d1, v1, q3⟩ := R2.res (p1.mono e2) q2
  obtain ⟨d2, v2, q4⟩ := R2.res p2 q3
  obtain ⟨xs, ys, rfl, rfl, hl, q4⟩ := catQ_elim q4
  obtain ⟨a, vs, g1, h1, p1⟩ := v1.lst' R2.ex
  obtain ⟨b, ws, g2, h2, p2⟩ := v2.lst' R2.ex
  refine ⟨a, b, vs, ws, g1, g2, h1, h2, by rw [p1.len, p2.len]; exact line_le hl, fun p hp => ?_⟩
  obtain ⟨n1, n2, n3⟩ := R2.nobody hp
  exact k p _ Hs2 _ _ ε2 (e1.trans e2) (R2.lay hp) upd_same n1 n2 n3 (p1.append p2) q4
def oSub : OP2
  | .int i, .int j, Q => Q (.int (i - j))
  | _, _, _ => False
theorem oy_sub : OpY X (binaryOp .Sub) oSub := by
  refine ⟨_, op_sub, fun F Hs σ H ε v w d1 d2 Q' Q R r1 r2 q k => ?_⟩
  unfold oSub at q
  split at q
  · exact ⟨_, _, r1.int', r2.int', k _ H Hs _ (Evl.Ex.refl _) R (.int _) q⟩
  · exact q.elim
def oMul : OP2
  | .int i, .int j, Q => gd ((-18446744073709551616 < i ∧ i < 18446744073709551616) ∨ (-18446744073709551616 < j ∧ j < 18446744073709551616)) (Q (.int (i * j)))
  | .lst xs, .int k, Q => gd (-9223372036854775808 ≤ k ∧ k < 9223372036854775808 ∧ xs.length * k.toNat ≤ 16777216) (Q (.lst (List.replicate k.toNat xs).flatten))
  | _, _, _ => False
theorem Reps.rep {K : PySem.W.Frag} {H : Hp} {vs : List V} {ds : List D} (h : Reps K H vs ds) : ∀ k : Nat, Reps K H (List.replicate k vs).flatten (List.replicate k ds).flatten
  | 0 => .nil
  | k + 1 => by
    rw [List.replicate_succ, List.flatten_cons, List.replicate_succ, List.flatten_cons]
    exact h.append (Reps.rep h k)
theorem oy_mul : OpY X (binaryOp .Mult) oMul := by
  refine ⟨_, op_mul.or op_rep, fun F Hs σ H ε v w d1 d2 Q' Q R r1 r2 q k => ?_⟩
  unfold oMul at q
  split at q
  · have q := gd_elim q
    refine .inl ⟨_, _, r1.int', r2.int', ?_, k _ H Hs _ (Evl.Ex.refl _) R (.int _) q.2⟩
    exact q.1
  · have q := gd_elim q
    obtain ⟨a, vs, e1, h1, p1⟩ := r1.lst' R.ex
    refine .inr ⟨a, _, vs, e1, r2.int', h1, q.1.1, q.1.2.1, by rw [p1.len]; exact line_le q.1.2.2, fun p hp => ?_⟩
    obtain ⟨R3, e3⟩ := R.new (o := .lst (List.replicate (Int.toNat _) vs).flatten) hp
    exact k (.ref p) _ _ _ e3 R3 (.lst upd_same ((p1.rep _).mono e3)) q.2
  · exact q.elim
def oMod : OP2
  | .int i, .int j, Q => gd (0 < j) (Q (.int (i % j)))
  | _, _, _ => False
theorem oy_mod : OpY X (binaryOp .Mod) oMod := by
  refine ⟨_, op_mod, fun F Hs σ H ε v w d1 d2 Q' Q R r1 r2 q k => ?_⟩
  unfold oMod at q
  split at q
  · have q := gd_elim q
    exact ⟨_, _, r1.int', r2.int', q.1, k _ H Hs _ (Evl.Ex.refl _) R (.int _) q.2⟩
  · exact q.elim
def oFdiv : OP2
  | .int i, .int j, Q => gd (0 < j ∧ j < 1073741824) (Q (.int (i / j)))
  | _, _, _ => False
theorem oy_fdiv : OpY X (binaryOp .FloorDiv) oFdiv := by
  refine ⟨_, op_fdiv, fun F Hs σ H ε v w d1 d2 Q' Q R r1 r2 q k => ?_⟩
  unfold oFdiv at q
  split at q
  · have q := gd_elim q
    exact ⟨_, _, r1.int', r2.int', q.1, k _ H Hs _ (Evl.Ex.refl _) R (.int _) q.2⟩
  · exact q.elim
def oPow : OP2
  | .int i, .int j, Q => gd (0 ≤ j ∧ j ≤ 1000000 ∧ i.natAbs < 18446744073709551616) (Q (.int (i ^ j.toNat)))
  | _, _, _ => False
theorem oy_pow : OpY X (binaryOp .Pow) oPow := by
  refine ⟨_, op_pow, fun F Hs σ H ε v w d1 d2 Q' Q R r1 r2 q k => ?_⟩
  unfold oPow at q
  split at q
  · have q := gd_elim q
    exact ⟨_, _, r1.int', r2.int', q.1, k _ H Hs _ (Evl.Ex.refl _) R (.int _) q.2⟩
  · exact q.elim
def asI (Q : Int → Prop) : D → Prop
  | .int i => Q i
  | _ => False
theorem asI_elim {d : D} {Q : Int → Prop} (h : asI Q d) : ∃ i, d = .int i ∧ Q i := by
  cases d with
  | int i => exact ⟨i, rfl, h⟩
  | _ => exact h.elim
def yNeg (r : PTE) : PTE := fun ε Q => r ε fun t ε' => res ε' t (asI fun i => Q (.d (.int (-i))) ε')
theorem ye_neg {W : WX} {Ξ : Xi} {a : Expr} {pos : Pos} {r : PTE} (h : YE X W Ξ a r) : YE X W Ξ (.UnaryOp .USub a pos) (yNeg r) := by
  obtain ⟨t, p, k⟩ := h.ex
  refine ⟨_, pe_un un_neg p, fun F Hs σ H ε Q' Q R L q kk => k F Hs σ H ε _ _ R L q fun v H' Hs' t ε' e R' p' q' => ?_⟩
  obtain ⟨d, rv, q2⟩ := R'.res p' q'
  obtain ⟨i, rfl, q2⟩ := asI_elim q2
  exact ⟨i, rv.int', kk (.int (-i)) H' Hs' (.d (.int (-i))) ε' e R' (.int _) q2⟩

/-! ### comparisons -/
def oCmpI (f : Int → Int → Bool) : OP2
  | .int i, .int j, Q => Q (.bl (f i j))
  | _, _, _ => False
abbrev oLt : OP2 := oCmpI fun i j => decide (i < j)
abbrev oLe : OP2 := oCmpI fun i j => decide (i ≤ j)
abbrev oGt : OP2 := oCmpI fun i j => decide (j < i)
abbrev oGe : OP2 := oCmpI fun i j => decide (j ≤ i)
theorem oy_cmp {op : CmpOp} {f : Int → Int → Bool} (h : OpR X (compareOp op) (rI0 fun i j => .bl (f i j))) : OpY X (compareOp op) (oCmpI f) := by
  refine ⟨_, h, fun F Hs σ H ε v w d1 d2 Q' Q R r1 r2 q k => ?_⟩
  unfold oCmpI at q
  split at q
  · exact ⟨_, _, r1.int', r2.int', k _ H Hs _ (Evl.Ex.refl _) R (.bl _) q⟩
  · exact q.elim
theorem oy_lt : OpY X (compareOp .Lt) oLt := oy_cmp op_lt
theorem oy_le : OpY X (compareOp .LtE) oLe := oy_cmp op_le
theorem oy_gt : OpY X (compareOp .Gt) oGt := oy_cmp op_gt
theorem oy_ge : OpY X (compareOp .GtE) oGe := oy_cmp op_ge
/-- is None -/
def isNon : D → Bool
  | .non => true
  | _ => false
def knownB : D → Bool
  | .vl _ => false
  | _ => true
def known (d : D) : Prop := knownB d = true
def oIsN (neg : Bool) : OP2
  | d, .non, Q => match knownB d with
    | true => Q (.bl (match neg with
      | true => !isNon d
      | false => isNon d))
    | false => False
  | _, _, _ => False
theorem isN_rep {K : PySem.W.Frag} {Hs H : Hp} {v : V} {d : D} (h : RepV K Hs H v d) (hk : known d) : decide (v = .non) = isNon d := by
  cases h with
  | sc h => cases h <;> first | rfl | cases hk
  | lst _ _ => rfl
  | dic _ _ _ => rfl
theorem oy_isN : OpY X (compareOp .Is) (oIsN false) := by
  refine ⟨_, op_isN, fun F Hs σ H ε v w d1 d2 Q' Q R r1 r2 q k => ?_⟩
  unfold oIsN at q
  split at q
  · refine ⟨r2.non', ?_⟩
    split at q
    · rename_i hk
      rw [isN_rep r1 hk]
      exact k _ H Hs _ (Evl.Ex.refl _) R (.bl _) q
    · exact q.elim
  · exact q.elim
theorem oy_notN : OpY X (compareOp .IsNot) (oIsN true) := by
  refine ⟨_, op_notN, fun F Hs σ H ε v w d1 d2 Q' Q R r1 r2 q k => ?_⟩
  unfold oIsN at q
  split at q
  · refine ⟨r2.non', ?_⟩
    split at q
    · rename_i hk
      rw [isN_rep r1 hk]
      exact k _ H Hs _ (Evl.Ex.refl _) R (.bl _) q
    · exact q.elim
  · exact q.elim

mutual
def D.py : D → PyData
  | .non => .none
  | .bl b => .bool b
  | .int i => .int i
  | .str x => .str x
  | .lst xs => .list (D.pys xs)
  | .frl xs => .list (D.pys xs)
  | .tup xs => .tuple (D.pys xs)
  | _ => .dict []
def D.pys : List D → List PyData
  | [] => []
  | d :: ds => D.py d :: D.pys ds
end
section
variable {K : PySem.W.Frag} {H : Hp}
mutual
theorem Rep.dp : ∀ {v : V} {d : D}, Rep K H v d → (D.py d).canLay0 = true → Dp K H v (D.py d)
  | _, _, .non, _ => .non
  | _, _, .bl b, _ => .bl b
  | _, _, .int i, _ => .int i
  | _, _, .str x, _ => .str x
  | _, _, .lst h r, c => .lst (SqL.of h) (Reps.dp r c)
  | _, _, .frl h r, c => .lst h.sq (Reps.dp r c)
  | _, _, .tup h r, c => .tup h (Reps.dp r c)
theorem Reps.dp : ∀ {vs : List V} {ds : List D}, Reps K H vs ds → PyData.canLayAll0 (D.pys ds) = true → DpAll K H vs (D.pys ds)
  | _, _, .nil, _ => .nil
  | _, _, .cons r t, c => .cons (Rep.dp r (Bool.and_eq_true_iff.mp c).1) (Reps.dp t (Bool.and_eq_true_iff.mp c).2)
end
end
theorem RepV.dp {K : PySem.W.Frag} {Hs H : Hp} {v : V} {d : D} (h : RepV K Hs H v d) (ex : Ex Hs H) (c : (D.py d).canLay0 = true) : Dp K H v (D.py d) := by
  cases h with
  | sc h => exact Rep.dp (h.mono ex) c
  | lst h r => exact .lst (SqL.of h) (Reps.dp (r.mono ex) c)
  | dic h _ _ => cases c
/-- == -/
def eqD (d1 d2 : D) (Q : Bool → Prop) : Prop := match d1, d2 with
  | .int i, .int j => Q (decide (i = j))
  | .str x, .str y => Q (decide (x = y))
  | .bl x, .bl y => Q (decide (x = y))
  | .non, .non => Q true
  | .non, .int _ => Q false
  | .int _, .non => Q false
  | .non, .bl _ => Q false
  | .bl _, .non => Q false
  | .non, .str _ => Q false
  | .str _, .non => Q false
  | .int _, .str _ => Q false
  | .str _, .int _ => Q false
  | .bl _, .str _ => Q false
  | .str _, .bl _ => Q false
  | d1, d2 => gd (SeqAt.shaped (D.py d1) = true ∧ SeqAt.shaped (D.py d2) = true) (Q (PyData.eqv (D.py d1) (D.py d2)))
def oEq (neg : Bool) : OP2 := fun d1 d2 Q => eqD d1 d2 fun b => Q (.bl (match neg with
  | true => !b
  | false => b))
def rEqA (K : PySem.W.Frag) : R2 := fun x y H Q => rEq x y H Q ∨ rEqD K x y H Q
def rNeA (K : PySem.W.Frag) : R2 := fun x y H Q => rNe x y H Q ∨ rNeD K x y H Q
theorem eqD_core {K : PySem.W.Frag} {F Hs H : Hp} {σ : St} {ε : PEnv} {v w : V} {d1 d2 : D} {Q : Bool → Prop} (R : RelS K F Hs σ H ε) (r1 : RepV K Hs H v d1) (r2 : RepV K Hs H w d2) (q : eqD d1 d2 Q) :
    (scal v w = true ∧ Q (decide (v = w))) ∨ ∃ d e, Dp K H v d ∧ Dp K H w e ∧ SeqAt.shaped d = true ∧ SeqAt.shaped e = true ∧ Q (PyData.eqv d e) := by
  unfold eqD at q
  split at q
  · refine .inl ?_; rw [r1.int', r2.int']; refine ⟨rfl, ?_⟩; simpa using q
  · refine .inl ?_; rw [r1.str', r2.str']; refine ⟨rfl, ?_⟩; simpa using q
  · refine .inl ?_; rw [r1.bl', r2.bl']; refine ⟨rfl, ?_⟩; simpa using q
  · refine .inl ?_; rw [r1.non', r2.non']; exact ⟨rfl, q⟩
  · refine .inl ?_; rw [r1.non', r2.int']; exact ⟨rfl, q⟩
  · refine .inl ?_; rw [r1.int', r2.non']; exact ⟨rfl, q⟩
  · refine .inl ?_; rw [r1.non', r2.bl']; exact ⟨rfl, q⟩
  · refine .inl ?_; rw [r1.bl', r2.non']; exact ⟨rfl, q⟩
  · refine .inl ?_; rw [r1.non', r2.str']; exact ⟨rfl, q⟩
  · refine .inl ?_; rw [r1.str', r2.non']; exact ⟨rfl, q⟩
  · refine .inl ?_; rw [r1.int', r2.str']; exact ⟨rfl, q⟩
  · refine .inl ?_; rw [r1.str', r2.int']; exact ⟨rfl, q⟩
  · refine .inl ?_; rw [r1.bl', r2.str']; exact ⟨rfl, q⟩
  · refine .inl ?_; rw [r1.str', r2.bl']; exact ⟨rfl, q⟩
  · have q := gd_elim q
    exact .inr ⟨_, _, r1.dp R.ex (SeqAt.canLay_of_shaped q.1.1), r2.dp R.ex (SeqAt.canLay_of_shaped q.1.2), q.1.1, q.1.2, q.2⟩
theorem oy_eq (hu : X.A.units + 64 < cLine) : OpY X (compareOp .Eq) (oEq false) := by
  refine ⟨rEqA X.K, op_eq.or (op_eqD hu), fun F Hs σ H ε v w d1 d2 Q' Q R r1 r2 q k => ?_⟩
  rcases eqD_core R r1 r2 q with ⟨h1, h2⟩ | ⟨d, e, h1, h2, h3, h4, h5⟩
  · exact .inl ⟨h1, k _ H Hs _ (Evl.Ex.refl _) R (.bl _) h2⟩
  · exact .inr ⟨d, e, h1, h2, h3, h4, k _ H Hs _ (Evl.Ex.refl _) R (.bl _) h5⟩
theorem oy_ne (hu : X.A.units + 64 < cLine) : OpY X (compareOp .NotEq) (oEq true) := by
  refine ⟨rNeA X.K, op_ne.or (op_neD hu), fun F Hs σ H ε v w d1 d2 Q' Q R r1 r2 q k => ?_⟩
  rcases eqD_core R r1 r2 q with ⟨h1, h2⟩ | ⟨d, e, h1, h2, h3, h4, h5⟩
  · exact .inl ⟨h1, k _ H Hs _ (Evl.Ex.refl _) R (.bl _) h2⟩
  · exact .inr ⟨d, e, h1, h2, h3, h4, k _ H Hs _ (Evl.Ex.refl _) R (.bl _) h5⟩

/-! ### subscripts -/
def oIx : OP2
  | .lst xs, .int i, Q => opt (atI xs i) Q
  | .frl xs, .int i, Q => opt (atI xs i) Q
  | .tup xs, .int i, Q => opt (atI xs i) Q
  | .str x, .int i, Q => gd (x.length ≤ 16777216) (opt (atI x.cps.toList i) fun c => Q (.str ⟨#[c]⟩))
  | _, _, _ => False
theorem Reps.atI {K : PySem.W.Frag} {H : Hp} {vs : List V} {ds : List D} {i : Int} {d : D} (r : Reps K H vs ds) (h : L2.atI ds i = some d) : ∃ v, L2.atI vs i = some v ∧ Rep K H v d := by
  unfold L2.atI at h ⊢
  rw [r.len]
  cases e : ixN ds.length i with
  | none => rw [e] at h; cases h
  | some j =>
    rw [e] at h
    exact r.get (i := j) h
def yIx (ra rb : PTE) : PTE := yBin oIx ra rb
theorem ye_ix {W : WX} {Ξ : Xi} {a b : Expr} {pos : Pos} {ra rb : PTE} (ha : YE X W Ξ a ra) (hb : YE X W Ξ b rb) (hs : PlainIx b := by exact fun _ _ => rfl) : YE X W Ξ (.Subscript a b pos) (yIx ra rb) := by
  obtain ⟨ta, pa, ka⟩ := ha.ex
  obtain ⟨tb, pb, kb⟩ := hb.ex
  refine ⟨_, pe_ix ix_seq pa pb hs, fun F Hs σ H ε Q' Q R L q k => ?_⟩
  refine ka F Hs σ H ε _ _ R L q fun v H1 Hs1 t1 ε1 e1 R1 p1 q1 => ?_
  refine kb F Hs1 σ H1 ε1 _ _ R1 (L.mono e1) q1 fun w H2 Hs2 t2 ε2 e2 R2 p2 q2 => ?_
  obtain ⟨d1, v1, q3⟩ := R2.res (p1.mono e2) q2
  obtain ⟨d2, v2, q4⟩ := R2.res p2 q3
  unfold oIx at q4
  split at q4
  · obtain ⟨d, hd, q5⟩ := opt_elim q4
    obtain ⟨a, vs, g1, h1, p1⟩ := v1.lst' R2.ex
    obtain ⟨z, hz, rz⟩ := p1.atI hd
    exact .inl ⟨a, vs, _, z, g1, v2.int', SqL.of h1, hz, k z H2 Hs2 (.d d) ε2 (e1.trans e2) R2 rz q5⟩
  · obtain ⟨d, hd, q5⟩ := opt_elim q4
    obtain ⟨a, vs, g1, h1, p1⟩ := v1.frl' R2.ex
    obtain ⟨z, hz, rz⟩ := p1.atI hd
    exact .inl ⟨a, vs, _, z, g1, v2.int', h1, hz, k z H2 Hs2 (.d d) ε2 (e1.trans e2) R2 rz q5⟩
  · obtain ⟨d, hd, q5⟩ := opt_elim q4
    obtain ⟨a, vs, g1, h1, p1⟩ := v1.tup' R2.ex
    obtain ⟨z, hz, rz⟩ := p1.atI hd
    exact .inr (.inl ⟨a, vs, _, z, g1, v2.int', h1, hz, k z H2 Hs2 (.d d) ε2 (e1.trans e2) R2 rz q5⟩)
  · obtain ⟨hl, q4⟩ := gd_elim q4
    obtain ⟨c, hc, q5⟩ := opt_elim q4
    exact .inr (.inr ⟨_, _, c, v1.str', v2.int', line_le hl, hc, k _ H2 Hs2 (.d _) ε2 (e1.trans e2) R2 (.str _) q5⟩)
  · exact q4.elim
/-- an optional part of a slice -/
abbrev PTO := PEnv → (Option Int → PEnv → Prop) → Prop
structure YO (X : Cx) (W : WX) (Ξ : Xi) (e : Option Expr) (r : PTO) : Prop where
  ex : ∃ t, PO X e t ∧ ∀ (F Hs : Hp) (σ : St) (H : Hp) (ε : PEnv) (Q' : Option Int → PEnv → Prop) (Q : Option Int → Hp → Prop), RelS X.K F Hs σ H ε → Lk X.K F Hs W Ξ → r ε Q' →
    (∀ o H' Hs' ε', Ex Hs Hs' → RelS X.K F Hs' σ H' ε' → Q' o ε' → Q o H') → t σ H Q
def yoNone : PTO := fun ε Q => Q none ε
def yoSome (r : PTE) : PTO := fun ε Q => r ε fun t ε' => res ε' t (asI fun i => Q (some i) ε')
theorem yo_none {W : WX} {Ξ : Xi} : YO X W Ξ none yoNone := ⟨tNoPart, po_none, fun F Hs σ H ε Q' Q R _ q k => k none H Hs ε (Evl.Ex.refl _) R q⟩
theorem yo_some {W : WX} {Ξ : Xi} {a : Expr} {r : PTE} (h : YE X W Ξ a r) : YO X W Ξ (some a) (yoSome r) := by
  obtain ⟨t, p, k⟩ := h.ex
  refine ⟨_, po_some p, fun F Hs σ H ε Q' Q R L q kk => k F Hs σ H ε _ _ R L q fun v H' Hs' t ε' e R' p' q' => ?_⟩
  obtain ⟨d, rv, q2⟩ := R'.res p' q'
  cases d with
  | int i => exact ⟨i, rv.int', kk (some i) H' Hs' ε' e R' q2⟩
  | _ => exact False.elim q2
def cutD {α : Type} (xs : List α) (lo hi : Option Int) : List α := (xs.drop (HT.sIx xs.length 0 lo)).take (HT.sIx xs.length xs.length hi - HT.sIx xs.length 0 lo)
theorem Reps.cut {K : PySem.W.Frag} {H : Hp} {vs : List V} {ds : List D} (r : Reps K H vs ds) (lo hi : Option Int) : Reps K H (cutV vs lo hi) (cutD ds lo hi) := by
  unfold cutV cutD
  rw [r.len]
  exact (r.drop _).take _
def asL (Q : List D → Prop) : D → Prop
  | .lst xs => Q xs
  | _ => False
theorem asL_elim {d : D} {Q : List D → Prop} (h : asL Q d) : ∃ i, d = .lst i ∧ Q i := by
  cases d with
  | lst i => exact ⟨i, rfl, h⟩
  | _ => exact h.elim
/-- xs[a:b], a list -/
def ynSl (ra : PTE) (rl rh : PTO) : PTN := fun ε Q => ra ε fun t ε1 => rl ε1 fun lo ε2 => rh ε2 fun hi ε3 => res ε3 t (asL fun xs => Q (cutD xs lo hi) ε3)
theorem yn_sl {W : WX} {Ξ : Xi} {a : Expr} {lo hi : Option Expr} {pos p2 : Pos} {ra : PTE} {rl rh : PTO} (ha : YE X W Ξ a ra) (hl : YO X W Ξ lo rl) (hh : YO X W Ξ hi rh) : YN X W Ξ (.Subscript a (.Slice lo hi none p2) pos) (ynSl ra rl rh) := by
  obtain ⟨ta, pa, ka⟩ := ha.ex
  obtain ⟨tl, pl, kl⟩ := hl.ex
  obtain ⟨th, ph, kh⟩ := hh.ex
  refine ⟨_, pe_slice sl_list pa pl ph, fun F Hs σ H ε Q' Q R L q k => ?_⟩
  refine ka F Hs σ H ε _ _ R L q fun v H1 Hs1 t1 ε1 e1 R1 p1 q1 => ?_
  refine kl F Hs1 σ H1 ε1 _ _ R1 (L.mono e1) q1 fun l H2 Hs2 ε2 e2 R2 q2 => ?_
  refine kh F Hs2 σ H2 ε2 _ _ R2 (L.mono (e1.trans e2)) q2 fun h H3 Hs3 ε3 e3 R3 q3 => ?_
  obtain ⟨d, v1, q4⟩ := R3.res (p1.mono (e2.trans e3)) q3
  obtain ⟨xs, rfl, q4⟩ := asL_elim q4
  obtain ⟨a, vs, g1, h1, p1⟩ := v1.lst' R3.ex
  refine ⟨a, vs, g1, SqL.of h1, fun p hp => ?_⟩
  obtain ⟨n1, n2, n3⟩ := R3.nobody hp
  exact k p _ Hs3 _ _ ε3 ((e1.trans e2).trans e3) (R3.lay hp) upd_same n1 n2 n3 (p1.cut l h) q4

/-! ### built-ins -/
def oLen : OPC
  | [.lst xs], Q => Q (.int (xs.length : Nat))
  | [.frl xs], Q => Q (.int (xs.length : Nat))
  | [.tup xs], Q => Q (.int (xs.length : Nat))
  | [.str x], Q => gd (x.length ≤ 16777216) (Q (.int (x.length : Nat)))
  | _, _ => False
theorem RepVs.one {K : PySem.W.Frag} {Hs H : Hp} {vs : List V} {d : D} (h : RepVs K Hs H vs [d]) : ∃ v, vs = [v] ∧ RepV K Hs H v d := by
  cases h with
  | cons h t => cases t; exact ⟨_, rfl, h⟩
theorem RepVs.two {K : PySem.W.Frag} {Hs H : Hp} {vs : List V} {d e : D} (h : RepVs K Hs H vs [d, e]) : ∃ v w, vs = [v, w] ∧ RepV K Hs H v d ∧ RepV K Hs H w e := by
  cases h with
  | cons h t =>
    obtain ⟨w, rfl, r⟩ := t.one
    exact ⟨_, _, rfl, h, r⟩
theorem cy_len : CallY X (.builtin "len") oLen := by
  refine ⟨_, call_len, fun F Hs σ H ε vs ds Q' Q R r q k => ?_⟩
  unfold oLen at q
  split at q
  · obtain ⟨v, rfl, rv⟩ := r.one
    obtain ⟨a, ws, g1, h1, p1⟩ := rv.lst' R.ex
    subst g1
    exact ⟨_, ws.length, rfl, .inl ⟨ws, SqL.of h1, rfl⟩, by rw [p1.len]; exact k _ H Hs _ (Evl.Ex.refl _) R (.int _) q⟩
  · obtain ⟨v, rfl, rv⟩ := r.one
    obtain ⟨a, ws, g1, h1, p1⟩ := rv.frl' R.ex
    subst g1
    exact ⟨_, ws.length, rfl, .inl ⟨ws, h1, rfl⟩, by rw [p1.len]; exact k _ H Hs _ (Evl.Ex.refl _) R (.int _) q⟩
  · obtain ⟨v, rfl, rv⟩ := r.one
    obtain ⟨a, ws, g1, h1, p1⟩ := rv.tup' R.ex
    subst g1
    exact ⟨_, ws.length, rfl, .inr ⟨ws, h1, rfl⟩, by rw [p1.len]; exact k _ H Hs _ (Evl.Ex.refl _) R (.int _) q⟩
  · obtain ⟨v, rfl, rv⟩ := r.one
    have q := gd_elim q
    exact ⟨_, _, rfl, by rw [rv.str']; exact ⟨line_le q.1, rfl⟩, k _ H Hs _ (Evl.Ex.refl _) R (.int _) q.2⟩
  · exact q.elim
def oInt : OPC
  | [.int i], Q => Q (.int i)
  | [.bl b], Q => Q (.int (if b = true then 1 else 0))
  | _, _ => False
theorem cy_int : CallY X (.type "int") oInt := by
  refine ⟨_, call_int1, fun F Hs σ H ε vs ds Q' Q R r q k => ?_⟩
  unfold oInt at q
  split at q
  · obtain ⟨v, rfl, rv⟩ := r.one
    exact .inl ⟨_, by rw [rv.int'], k _ H Hs _ (Evl.Ex.refl _) R (.int _) q⟩
  · obtain ⟨v, rfl, rv⟩ := r.one
    exact .inr ⟨_, by rw [rv.bl'], k _ H Hs _ (Evl.Ex.refl _) R (.int _) q⟩
  · exact q.elim
def oMax2 : OPC
  | [.int i, .int j], Q => Q (.int (if j > i then j else i))
  | _, _ => False
theorem cy_max2 (hc : X.calm = true) : CallY X (.builtin "max") oMax2 := by
  refine ⟨_, call_max2 hc, fun F Hs σ H ε vs ds Q' Q R r q k => ?_⟩
  unfold oMax2 at q
  split at q
  · obtain ⟨v, w, rfl, rv, rw'⟩ := r.two
    exact ⟨_, _, by rw [rv.int', rw'.int'], k _ H Hs _ (Evl.Ex.refl _) R (.int _) q⟩
  · exact q.elim
def oMin2 : OPC
  | [.int i, .int j], Q => Q (.int (if j < i then j else i))
  | _, _ => False
theorem cy_min2 (hc : X.calm = true) : CallY X (.builtin "min") oMin2 := by
  refine ⟨_, call_min2 hc, fun F Hs σ H ε vs ds Q' Q R r q k => ?_⟩
  unfold oMin2 at q
  split at q
  · obtain ⟨v, w, rfl, rv, rw'⟩ := r.two
    exact ⟨_, _, by rw [rv.int', rw'.int'], k _ H Hs _ (Evl.Ex.refl _) R (.int _) q⟩
  · exact q.elim
def toInts : List D → Option (List Int)
  | [] => some []
  | .int i :: ds => match toInts ds with
    | some is => some (i :: is)
    | none => none
  | _ :: _ => none
theorem toInts_map : ∀ ns : List Int, toInts (ns.map D.int) = some ns
  | [] => rfl
  | n :: ns => by
    show (match toInts (ns.map D.int) with
      | some is => some (n :: is)
      | none => none) = some (n :: ns)
    rw [toInts_map ns]
theorem toInts_elim : ∀ {ds : List D} {ns : List Int}, toInts ds = some ns → ds = ns.map D.int
  | [], ns, h => by cases h; rfl
  | d :: ds, ns, h => by
    unfold toInts at h
    split at h
    · rename_i e
      cases e
    · rename_i i es e
      injection e with e1 e2
      subst e1 e2
      split at h
      · rename_i is e
        cases h
        rw [toInts_elim e] <;> rfl
      · cases h
    · cases h
def toBls : List D → Option (List Bool)
  | [] => some []
  | .bl i :: ds => match toBls ds with
    | some is => some (i :: is)
    | none => none
  | _ :: _ => none
theorem toBls_map : ∀ ns : List Bool, toBls (ns.map D.bl) = some ns
  | [] => rfl
  | n :: ns => by
    show (match toBls (ns.map D.bl) with
      | some is => some (n :: is)
      | none => none) = some (n :: ns)
    rw [toBls_map ns]
theorem toBls_elim : ∀ {ds : List D} {ns : List Bool}, toBls ds = some ns → ds = ns.map D.bl
  | [], ns, h => by cases h; rfl
  | d :: ds, ns, h => by
    unfold toBls at h
    split at h
    · rename_i e
      cases e
    · rename_i i es e
      injection e with e1 e2
      subst e1 e2
      split at h
      · rename_i is e
        cases h
        rw [toBls_elim e] <;> rfl
      · cases h
    · cases h
/-- of a list of ints -/
def ints1 (f : List Int → Prop) : List D → Prop
  | [.lst ds] => opt (toInts ds) f
  | _ => False
theorem ints1_core {K : PySem.W.Frag} {F Hs H : Hp} {σ : St} {ε : PEnv} {vs : List V} {ds : List D} {f : List Int → Prop} (R : RelS K F Hs σ H ε) (r : RepVs K Hs H vs ds) (q : ints1 f ds) : ∃ a ns, vs = [.ref a] ∧ SqL K H a (ns.map V.int) ∧ f ns := by
  unfold ints1 at q
  split at q
  · obtain ⟨ns, e0, q2⟩ := opt_elim q
    have e0 := toInts_elim e0
    subst e0
    obtain ⟨v, rfl, rv⟩ := r.one
    obtain ⟨a, ws, g1, h1, p1⟩ := rv.lst' R.ex
    subst g1
    have e := p1.inv_ints
    subst e
    exact ⟨a, ns, rfl, SqL.of h1, q2⟩
  · exact q.elim
def oSum : OPC := fun ds Q => ints1 (fun ns => Q (.int ns.sum)) ds
theorem cy_sum (hc : X.calm = true) : CallY X (.builtin "sum") oSum := by
  refine ⟨_, cr_sum hc, fun F Hs σ H ε vs ds Q' Q R r q k => ?_⟩
  obtain ⟨a, ns, rfl, h1, q⟩ := ints1_core R r q
  exact ⟨a, ns, rfl, h1, k _ H Hs _ (Evl.Ex.refl _) R (.int _) q⟩
def oMaxL : OPC := fun ds Q => ints1 (fun ns => 0 < ns.length ∧ ∀ m, m ∈ ns → (∀ y, y ∈ ns → y ≤ m) → Q (.int m)) ds
theorem cy_maxL (hc : X.calm = true) : CallY X (.builtin "max") oMaxL := by
  refine ⟨_, cr_max hc, fun F Hs σ H ε vs ds Q' Q R r q k => ?_⟩
  obtain ⟨a, ns, rfl, h1, q0, q⟩ := ints1_core R r q
  exact ⟨a, ns, rfl, h1, q0, fun m h2 h3 => k _ H Hs _ (Evl.Ex.refl _) R (.int _) (q m h2 h3)⟩
def oMinL : OPC := fun ds Q => ints1 (fun ns => 0 < ns.length ∧ ∀ m, m ∈ ns → (∀ y, y ∈ ns → m ≤ y) → Q (.int m)) ds
theorem cy_minL (hc : X.calm = true) : CallY X (.builtin "min") oMinL := by
  refine ⟨_, cr_min hc, fun F Hs σ H ε vs ds Q' Q R r q k => ?_⟩
  obtain ⟨a, ns, rfl, h1, q0, q⟩ := ints1_core R r q
  exact ⟨a, ns, rfl, h1, q0, fun m h2 h3 => k _ H Hs _ (Evl.Ex.refl _) R (.int _) (q m h2 h3)⟩
def oSorted : List D → (List D → Prop) → Prop := fun ds Q => ints1 (fun ns => ∀ ns' : List Int, ns'.Perm ns → ns'.Pairwise (· ≤ ·) → Q (ns'.map D.int)) ds
theorem cn_sorted : CallN X (.builtin "sorted") oSorted := by
  refine ⟨_, cr_sortedI, fun F Hs σ H ε vs ds Q' Q R r q k => ?_⟩
  obtain ⟨a, ns, rfl, h1, q⟩ := ints1_core R r q
  exact ⟨a, ns, rfl, h1, fun ns' p h2 h3 hp => k p _ _ hp (Reps.ints ns') (q ns' h2 h3)⟩
def bls1 (f : List Bool → Prop) : List D → Prop
  | [.lst ds] => opt (toBls ds) f
  | _ => False
theorem bls1_core {K : PySem.W.Frag} {F Hs H : Hp} {σ : St} {ε : PEnv} {vs : List V} {ds : List D} {f : List Bool → Prop} (R : RelS K F Hs σ H ε) (r : RepVs K Hs H vs ds) (q : bls1 f ds) : ∃ a ns, vs = [.ref a] ∧ SqL K H a (ns.map V.bl) ∧ f ns := by
  unfold bls1 at q
  split at q
  · obtain ⟨ns, e0, q2⟩ := opt_elim q
    have e0 := toBls_elim e0
    subst e0
    obtain ⟨v, rfl, rv⟩ := r.one
    obtain ⟨a, ws, g1, h1, p1⟩ := rv.lst' R.ex
    subst g1
    have e := p1.inv_bls
    subst e
    exact ⟨a, ns, rfl, SqL.of h1, q2⟩
  · exact q.elim
def oAll : OPC := fun ds Q => bls1 (fun ns => Q (.bl (ns.all id))) ds
def oAny : OPC := fun ds Q => bls1 (fun ns => Q (.bl (ns.any id))) ds
theorem cy_all (hc : X.calm = true) : CallY X (.builtin "all") oAll := by
  refine ⟨_, cr_all hc, fun F Hs σ H ε vs ds Q' Q R r q k => ?_⟩
  obtain ⟨a, ns, rfl, h1, q⟩ := bls1_core R r q
  exact ⟨a, ns, rfl, h1, k _ H Hs _ (Evl.Ex.refl _) R (.bl _) q⟩
theorem cy_any (hc : X.calm = true) : CallY X (.builtin "any") oAny := by
  refine ⟨_, cr_any hc, fun F Hs σ H ε vs ds Q' Q R r q k => ?_⟩
  obtain ⟨a, ns, rfl, h1, q⟩ := bls1_core R r q
  exact ⟨a, ns, rfl, h1, k _ H Hs _ (Evl.Ex.refl _) R (.bl _) q⟩
def oListOf : List D → (List D → Prop) → Prop
  | [.lst ds], Q => Q ds
  | [.frl ds], Q => Q ds
  | [.tup ds], Q => Q ds
  | _, _ => False
theorem cn_list : CallN X (.type "list") oListOf := by
  refine ⟨_, call_list_of, fun F Hs σ H ε vs ds Q' Q R r q k => ?_⟩
  unfold oListOf at q
  split at q
  · obtain ⟨v, rfl, rv⟩ := r.one
    obtain ⟨a, ws, g1, h1, p1⟩ := rv.lst' R.ex
    subst g1
    exact ⟨a, ws, rfl, .inl (SqL.of h1), fun p hp => k p _ _ hp p1 q⟩
  · obtain ⟨v, rfl, rv⟩ := r.one
    obtain ⟨a, ws, g1, h1, p1⟩ := rv.frl' R.ex
    subst g1
    exact ⟨a, ws, rfl, .inl h1, fun p hp => k p _ _ hp p1 q⟩
  · obtain ⟨v, rfl, rv⟩ := r.one
    obtain ⟨a, ws, g1, h1, p1⟩ := rv.tup' R.ex
    subst g1
    exact ⟨a, ws, rfl, .inr h1, fun p hp => k p _ _ hp p1 q⟩
  · exact q.elim
def oTupleOf : OPC
  | [.lst ds], Q => Q (.tup ds)
  | [.tup ds], Q => Q (.tup ds)
  | _, _ => False
theorem cy_tuple : CallY X (.type "tuple") oTupleOf := by
  refine ⟨_, call_tuple_of, fun F Hs σ H ε vs ds Q' Q R r q k => ?_⟩
  unfold oTupleOf at q
  split at q
  · obtain ⟨v, rfl, rv⟩ := r.one
    obtain ⟨a, ws, g1, h1, p1⟩ := rv.lst' R.ex
    subst g1
    refine ⟨a, ws, rfl, .inl ⟨SqL.of h1, fun p hp => ?_⟩⟩
    obtain ⟨R3, e3⟩ := R.new (o := .tup ws) hp
    exact k _ _ _ _ e3 R3 (.tup (SqT.of upd_same) (p1.mono e3)) q
  · obtain ⟨v, rfl, rv⟩ := r.one
    cases rv with
    | sc rv =>
      cases rv with
      | tup h1 p1 => exact ⟨_, _, rfl, .inr ⟨Evl.ex_t R.ex h1, k _ H Hs _ (Evl.Ex.refl _) R (.tup h1 p1) q⟩⟩
  · exact q.elim
def oStr : OPC
  | [.int i], Q => gd (i.natAbs.log2 < 1920) (Q (.str (toString i)))
  | _, _ => False
theorem cy_str : CallY X (.type "str") oStr := by
  refine ⟨_, call_str_int, fun F Hs σ H ε vs ds Q' Q R r q k => ?_⟩
  unfold oStr at q
  split at q
  · obtain ⟨v, rfl, rv⟩ := r.one
    have q := gd_elim q
    exact ⟨_, by rw [rv.int'], q.1, k _ H Hs _ (Evl.Ex.refl _) R (.str _) q.2⟩
  · exact q.elim

theorem RepV.up {K : PySem.W.Frag} {Hs H H' : Hp} {v : V} {d : D} (h : RepV K Hs H v d) (e : Ex H H') : RepV K Hs H' v d := by
  cases h with
  | sc h => exact .sc h
  | lst h r => exact .lst (e _ _ h) r
  | dic h k r => exact .dic (e _ _ h) k r
/-! ### isinstance -/
inductive Ty where
  | int | bool | str | list | tuple | dict
def Ty.nm : Ty → String
  | .int => "int" | .bool => "bool" | .str => "str" | .list => "list" | .tuple => "tuple" | .dict => "dict"
def isTy : Ty → D → (Bool → Prop) → Prop
  | .int, .int _, Q => Q true
  | .int, .bl _, Q => Q true
  | .bool, .bl _, Q => Q true
  | .str, .str _, Q => Q true
  | .list, .lst _, Q => Q true
  | .list, .frl _, Q => Q true
  | .tuple, .tup _, Q => Q true
  | .dict, .dic _, Q => Q true
  | _, .vl _, _ => False
  | _, .pool, _ => False
  | _, _, Q => Q false
def tyD : D → Option String
  | .non => some "NoneType"
  | .bl _ => some "bool"
  | .int _ => some "int"
  | .str _ => some "str"
  | .lst _ => some "list"
  | .frl _ => some "list"
  | .tup _ => some "tuple"
  | .dic _ => some "dict"
  | _ => none
theorem tyX_tup {K : PySem.W.Frag} {H : Hp} {a : Addr} {xs : List V} (h : SqT K H a xs) : TyX K H (.ref a) (.type "tuple") := by
  rcases h with (h | ⟨o, h⟩) | ⟨o, its, n, h, hc, _⟩
  · exact .base (.tup h)
  · exact .fTuple h
  · exact .kTuple h hc
theorem tyX_lst {K : PySem.W.Frag} {H : Hp} {a : Addr} {xs : List V} (h : SqL K H a xs) : TyX K H (.ref a) (.type "list") := by
  rcases h with (h | ⟨o, h⟩) | ⟨o, its, n, h, hc, _⟩
  · exact .base (.lst h)
  · exact .base (.frz h)
  · exact .kList h hc
theorem tyD_rep {K : PySem.W.Frag} {Hs H : Hp} {v : V} {d : D} {n : String} (h : RepV K Hs H v d) (ex : Ex Hs H) (e : tyD d = some n) : TyX K H v (.type n) := by
  cases d with
  | non => cases e; rw [h.non']; exact .base .non
  | bl b => cases e; rw [h.bl']; exact .base (.bl _)
  | int b => cases e; rw [h.int']; exact .base (.int _)
  | str b => cases e; rw [h.str']; exact .base (.str _)
  | lst b =>
    cases e
    obtain ⟨a, ws, rfl, h1, p1⟩ := h.lst' ex
    exact .base (.lst h1)
  | frl b =>
    cases e
    obtain ⟨a, ws, rfl, h1, p1⟩ := h.frl' ex
    exact tyX_lst h1
  | tup b =>
    cases e
    obtain ⟨a, ws, rfl, h1, p1⟩ := h.tup' ex
    exact tyX_tup h1
  | dic b =>
    cases e
    obtain ⟨a, ws, rfl, h1, p1⟩ := h.dic' ex
    exact .base (.dK h1)
  | _ => cases e
theorem isTy_kit (t : Ty) (d : D) (Q : Bool → Prop) (q : isTy t d Q) : ∃ n b, tyD d = some n ∧ kitB n t.nm = some b ∧ Q b := by
  cases t <;> cases d <;> first | exact False.elim q | exact ⟨_, true, rfl, by decide +kernel, q⟩ | exact ⟨_, false, rfl, by decide +kernel, q⟩
def yIs (t : Ty) (r : PTE) : PTE := fun ε Q => r ε fun t1 ε1 => res ε1 t1 fun d => isTy t d fun b => Q (.d (.bl b)) ε1
section
variable {W : WX} {Ξ : Xi} {a : Expr} {pos : Pos}
theorem ye_isA (t : Ty) {r : PTE} {c : Expr} {p : Pos} (h : YE X W Ξ a r) (hc : PE X c (tC (.ty t.nm))) (hg : Gl X "isinstance") (hm : X.mg "isinstance" = none)
    (hst : starEach [a, c] X.env = (false, eval a X.env) :: starEach [c] X.env := by rfl) (hs2 : starEach [c] X.env = (false, eval c X.env) :: starEach [] X.env := by rfl) (hpl : (backTo pos (starEach [c] X.env)).any (·.1) = false := by rfl) :
    YE X W Ξ (.Call (.Name "isinstance" p) [a, c] [] pos) (yIs t r) := by
  obtain ⟨ta, pa, ka⟩ := h.ex
  refine ⟨_, pe_callB call_isi hg hm PyProof.Rows.boot_isinstance (pa_cons pa (pa_cons hc pa_nil hs2) hst) (by decide) (by decide) hst hpl, fun F Hs σ H ε Q' Q R L q k => ?_⟩
  refine ka F Hs σ H ε _ _ R L q fun v H1 Hs1 t1 ε1 e1 R1 p1 q1 => ?_
  obtain ⟨d, v1, q2⟩ := R1.res p1 q1
  obtain ⟨n, b, h1, h2, h3⟩ := isTy_kit t d _ q2
  exact ⟨v, .ty t.nm, .type n, .type t.nm, b, rfl, .ty _, tyD_rep v1 R1.ex h1, kit_ty h2, k (.bl b) H1 Hs1 (.d (.bl b)) ε1 e1 R1 (.bl b) h3⟩
def yIs2 (t u : Ty) (r : PTE) : PTE := fun ε Q => r ε fun t1 ε1 => res ε1 t1 fun d => isTy t d fun b => isTy u d fun c => Q (.d (.bl (b || c))) ε1
theorem ye_isA2 (t u : Ty) {r : PTE} {c c2 : Expr} {p p2 : Pos} {kk : Nat} (h : YE X W Ξ a r) (hc : PE X c (tC (.ty t.nm))) (hc2 : PE X c2 (tC (.ty u.nm))) (hg : Gl X "isinstance") (hm : X.mg "isinstance" = none)
    (hst : starEach [a, .Tuple [c, c2] kk p2] X.env = (false, eval a X.env) :: starEach [.Tuple [c, c2] kk p2] X.env := by rfl) (hs2 : starEach [.Tuple [c, c2] kk p2] X.env = (false, eval (.Tuple [c, c2] kk p2) X.env) :: starEach [] X.env := by rfl)
    (hs3 : starEach [c, c2] X.env = (false, eval c X.env) :: starEach [c2] X.env := by rfl) (hs4 : starEach [c2] X.env = (false, eval c2 X.env) :: starEach [] X.env := by rfl) (hpl : (backTo pos (starEach [.Tuple [c, c2] kk p2] X.env)).any (·.1) = false := by rfl) :
    YE X W Ξ (.Call (.Name "isinstance" p) [a, .Tuple [c, c2] kk p2] [] pos) (yIs2 t u r) := by
  obtain ⟨ta, pa, ka⟩ := h.ex
  refine ⟨_, pe_callB call_isiT hg hm PyProof.Rows.boot_isinstance (pa_cons pa (pa_cons (pe_tup (pa_cons hc (pa_cons hc2 pa_nil hs4) hs3)) pa_nil hs2) hst) (by decide) (by decide) hst hpl, fun F Hs σ H ε Q' Q R L q k => ?_⟩
  refine ka F Hs σ H ε _ _ R L q fun v H1 Hs1 t1 ε1 e1 R1 p1 q1 => ?_
  obtain ⟨d, v1, q2⟩ := R1.res p1 q1
  obtain ⟨n, b, h1, h2, q3⟩ := isTy_kit t d _ q2
  obtain ⟨n', b', h1', h2', h3⟩ := isTy_kit u d _ q3
  rw [h1] at h1'
  cases h1'
  refine ⟨by show 2 ≤ sizeLine; decide, fun tp htp => ?_⟩
  have R2 : RelS X.K F Hs1 σ (upd H1 tp (.tup [.ty t.nm, .ty u.nm])) ε1 := R1.lay htp
  have v2 : TyX X.K (upd H1 tp (.tup [.ty t.nm, .ty u.nm])) v (.type n) := tyD_rep (v1.up (Evl.Ex.new htp)) R2.ex h1
  exact ⟨v, tp, [.ty t.nm, .ty u.nm], .type n, [.type t.nm, .type u.nm], b || b', rfl, upd_same, .cons (.ty _) (.cons (.ty _) .nil), v2, kitAny_cons (kit_ty h2) (fun hb => kitAny_cons (kit_ty h2') (fun hb' => by rw [hb, hb']; exact kitAny_nil) (fun hb' => by rw [hb']; simp)) (fun hb => by rw [hb]; rfl), k (.bl (b || b')) _ Hs1 (.d (.bl (b || b'))) ε1 e1 R2 (.bl _) h3⟩
end
end
end PL

set_option Elab.async false
set_option linter.all false
set_option autoImplicit false
set_option maxRecDepth 100000
set_option maxHeartbeats 2000000
/-! Statements, loops, comprehensions, over plain data. -/
namespace PL
open PySem PySem.Spec PyProof.Rows L2
open Evl (Ex)

/-! ### readings that hang on the data alone -/
def cE (K : PySem.W.Frag) (W : WX) (Ξ : Xi) (r : PTE) : TE := fun σ H Q => ∃ (F Hs : Hp) (ε : PEnv) (Q' : T → PEnv → Prop), RelS K F Hs σ H ε ∧ Lk K F Hs W Ξ ∧ r ε Q' ∧ KE K F Hs σ Q' Q
def cT (K : PySem.W.Frag) (W : WX) (Ξ : Xi) (r : PTT) : TT := fun σ H Q => ∃ (F Hs : Hp) (ε : PEnv) (Q' : Bool → PEnv → Prop), RelS K F Hs σ H ε ∧ Lk K F Hs W Ξ ∧ r ε Q' ∧ KT K F Hs σ Q' Q
section
variable {X : Cx} {W : WX} {Ξ : Xi} {e : Expr}
theorem YE.canon {r : PTE} (h : YE X W Ξ e r) : PE X e (cE X.K W Ξ r) := by
  obtain ⟨t, p, k⟩ := h.ex
  exact ⟨fun pins s σ H Q I ⟨F, Hs, ε, Q', R, L, q, kk⟩ => p.run pins s σ H Q I (k F Hs σ H ε Q' Q R L q kk)⟩
theorem YT.canon {r : PTT} (h : YT X W Ξ e r) : PT X e (cT X.K W Ξ r) := by
  obtain ⟨t, p, k⟩ := h.ex
  exact ⟨fun pins s σ H Q I ⟨F, Hs, ε, Q', R, L, q, kk⟩ => p.run pins s σ H Q I (k F Hs σ H ε Q' Q R L q kk)⟩
end

/-! ### what another one owns, lent and taken back -/
section
variable {K : PySem.W.Frag} {F Hs H : Hp} {σ : St} {ε : PEnv}
def Nobody (σ : St) (ε : PEnv) (p : Addr) : Prop := ∀ (i : Nat) (s : S), ε[i]? = some (some s) → s.own = true → σ[i]? ≠ some (some (.ref p))
theorem RelS.lend (R : RelS K F Hs σ H ε) {p : Addr} {o : HO} (hH : H p = some o) (hp : Hs p = none) (hn : Nobody σ ε p) : RelS K (upd F p o) Hs σ H ε := by
  refine ⟨R.ex, fun a u q => ?_, R.len, fun j t q => ?_, R.ds⟩
  · by_cases ha : a = p
    · subst ha
      rw [upd_same] at q
      cases q
      exact ⟨hH, hp⟩
    · rw [upd_ne ha] at q
      exact R.fr a u q
  · have z := R.sl j t q
    cases t with
    | v d' => exact z
    | o ds =>
      obtain ⟨b, vs, h1, h2, h3, h4, h5⟩ := z
      have nb : b ≠ p := by
        intro z
        subst z
        exact hn j _ q rfl h1
      exact ⟨b, vs, h1, h2, by rw [upd_ne nb]; exact h3, h4, h5⟩
    | od ds =>
      obtain ⟨b, vs, h1, h2, h3, h4, h5, h6⟩ := z
      have nb : b ≠ p := by
        intro z
        subst z
        exact hn j _ q rfl h1
      exact ⟨b, vs, h1, h2, by rw [upd_ne nb]; exact h3, h4, h5, h6⟩
theorem RelS.back {p : Addr} {o : HO} (R : RelS K (upd F p o) Hs σ H ε) (hF : F p = none) : RelS K F Hs σ H ε ∧ H p = some o ∧ Hs p = none ∧ Nobody σ ε p := by
  have hp := R.fr p o upd_same
  have sub : ∀ b, upd F p o b = none → F b = none := fun b e => by
    by_cases hb : b = p
    · subst hb
      exact hF
    · rw [upd_ne hb] at e
      exact e
  refine ⟨⟨R.ex, fun a u q => ?_, R.len, fun j t q => ?_, R.ds⟩, hp.1, hp.2, fun j t q so z => ?_⟩
  · have ha : a ≠ p := by
      intro z
      subst z
      rw [hF] at q
      cases q
    exact R.fr a u (by rw [upd_ne ha]; exact q)
  · have z := R.sl j t q
    cases t with
    | v d' => exact z
    | o ds =>
      obtain ⟨b, vs, h1, h2, h3, h4, h5⟩ := z
      exact ⟨b, vs, h1, h2, sub _ h3, h4, h5⟩
    | od ds =>
      obtain ⟨b, vs, h1, h2, h3, h4, h5, h6⟩ := z
      exact ⟨b, vs, h1, h2, sub _ h3, h4, h5, h6⟩
  · have y := R.sl j t q
    cases t with
    | v d' => cases so
    | o ds =>
      obtain ⟨b, vs, h1, h2, h3, h4, h5⟩ := y
      rw [z] at h1
      cases h1
      rw [upd_same] at h3
      cases h3
    | od ds =>
      obtain ⟨b, vs, h1, h2, h3, h4, h5, h6⟩ := y
      rw [z] at h1
      cases h1
      rw [upd_same] at h3
      cases h3
/-- what is nobody's may change -/
theorem RelS.touch (R : RelS K F Hs σ H ε) {p : Addr} {o : HO} (hp : Hs p = none) (hF : F p = none) (hn : Nobody σ ε p) : RelS K F Hs σ (upd H p o) ε := by
  refine ⟨fun a u q => ?_, fun a u q => ?_, R.len, fun j t q => ?_, R.ds⟩
  · rw [upd_ne (ne_of_none q hp)]
    exact R.ex a u q
  · rw [upd_ne (ne_of_none q hF)]
    exact R.fr a u q
  · have z := R.sl j t q
    cases t with
    | v d' => exact z
    | o ds =>
      obtain ⟨b, vs, h1, h2, h3, h4, h5⟩ := z
      have nb : b ≠ p := by
        intro z
        subst z
        exact hn j _ q rfl h1
      exact ⟨b, vs, h1, h2, h3, by rw [upd_ne nb]; exact h4, h5⟩
    | od ds =>
      obtain ⟨b, vs, h1, h2, h3, h4, h5, h6⟩ := z
      have nb : b ≠ p := by
        intro z
        subst z
        exact hn j _ q rfl h1
      exact ⟨b, vs, h1, h2, h3, by rw [upd_ne nb]; exact h4, h5, h6⟩
end

/-! ### targets -/
abbrev PTG := D → PEnv → (PEnv → Prop) → Prop
def Only (sl : List Nat) (σ σ' : St) : Prop := ∀ vs : List Nat, (∀ i ∈ sl, i ∈ vs) → L2.wipe σ' vs = L2.wipe σ vs
theorem wipe_set {σ : St} {i : Nat} {x : Option V} : ∀ {vs : List Nat}, i ∈ vs → L2.wipe (σ.set i x) vs = L2.wipe σ vs
  | v :: vs, h => by
    unfold L2.wipe
    by_cases hv : i ∈ vs
    · rw [wipe_set hv]
    · have e : i = v := by
        rcases List.mem_cons.mp h with h | h
        · exact h
        · exact absurd h hv
      subst e
      have out : ∀ {ws : List Nat}, i ∉ ws → (L2.wipe (σ.set i x) ws) = (L2.wipe σ ws).set i x := by
        intro ws
        induction ws with
        | nil => intro _; rfl
        | cons w ws ih =>
          intro hw
          simp only [List.mem_cons, not_or] at hw
          unfold L2.wipe
          rw [ih hw.2, List.set_comm _ _ hw.1]
      rw [out hv, List.set_set]
theorem Only.refl {sl : List Nat} {σ : St} : Only sl σ σ := fun _ _ => rfl
theorem Only.set {i : Nat} {σ : St} {x : Option V} : Only [i] σ (σ.set i x) := fun vs h => wipe_set (h i (by simp))
def KG (K : PySem.W.Frag) (F Hs : Hp) (σ : St) (sl : List Nat) (Q' : PEnv → Prop) (Q : St → Hp → Prop) : Prop := ∀ (σ' : St) (H' Hs' : Hp) (ε' : PEnv), Ex Hs Hs' → Only sl σ σ' → RelS K F Hs' σ' H' ε' → Q' ε' → Q σ' H'
structure YG (X : Cx) (tg : Expr) (g : PTG) (sl : List Nat) : Prop where
  ex : ∃ t, PG X tg t ∧ ∀ (F Hs : Hp) (σ : St) (H : Hp) (ε : PEnv) (v : V) (d : D) (Q' : PEnv → Prop) (Q : St → Hp → Prop), RelS X.K F Hs σ H ε → Rep X.K Hs v d → g d ε Q' → KG X.K F Hs σ sl Q' Q → t v σ H Q
def cG (K : PySem.W.Frag) (g : PTG) (sl : List Nat) : TG := fun v σ H Q => ∃ (F Hs : Hp) (ε : PEnv) (d : D) (Q' : PEnv → Prop), RelS K F Hs σ H ε ∧ Rep K Hs v d ∧ g d ε Q' ∧ KG K F Hs σ sl Q' Q
theorem YG.canon {X : Cx} {tg : Expr} {g : PTG} {sl : List Nat} (h : YG X tg g sl) : PG X tg (cG X.K g sl) := by
  obtain ⟨t, p, k⟩ := h.ex
  exact ⟨fun pins s σ H v u Q I r ⟨F, Hs, ε, d, Q', R, rv, q, kk⟩ => p.run pins s σ H v u Q I r (k F Hs σ H ε v d Q' Q R rv q kk)⟩
def gN (i : Nat) : PTG := fun d ε Q => Q (ε.set i (some (.v d)))
section
variable {X : Cx} {pos : Pos}
theorem yg_name {x : Str} (i : Nat) (hN : X.N.Nodup) (hi : X.N[i]? = some x) (hx : Loc X.env.scope x) (hf : X.fn x = true ∨ X.env.scope.names.lookup x = some .local := by first | exact .inl rfl | exact .inr rfl | assumption) : YG X (.Name x pos) (gN i) [i] :=
  ⟨_, pg_name hN hi hx hf, fun F Hs σ H ε v d Q' Q R rv q k => k _ H Hs _ (Evl.Ex.refl _) Only.set (R.store rv i) q⟩
def gAll : List PTG → List D → PEnv → (PEnv → Prop) → Prop
  | [], [], ε, Q => Q ε
  | g :: gs, d :: ds, ε, Q => g d ε fun ε' => gAll gs ds ε' Q
  | _, _, _, _ => False
structure YGs (X : Cx) (tgs : List Expr) (gs : List PTG) (sl : List Nat) : Prop where
  ex : ∃ t, PGs X tgs t ∧ ∀ (F Hs : Hp) (σ : St) (H : Hp) (ε : PEnv) (vs : List V) (ds : List D) (Q' : PEnv → Prop) (Q : St → Hp → Prop), RelS X.K F Hs σ H ε → Reps X.K Hs vs ds → gAll gs ds ε Q' → KG X.K F Hs σ sl Q' Q → t vs σ H Q
theorem ygs_nil : YGs X [] [] [] := ⟨_, pgs_nil, fun F Hs σ H ε vs ds Q' Q R rv q k => by
  cases rv with
  | nil => exact ⟨rfl, k _ H Hs _ (Evl.Ex.refl _) Only.refl R q⟩
  | cons _ _ => exact q.elim⟩
theorem ygs_cons {e : Expr} {es : List Expr} {g : PTG} {gs : List PTG} {sl ss : List Nat} (h : YG X e g sl) (hs : YGs X es gs ss) (hst : (assignEach (e :: es) X.env).map (·.2) = assign e X.env :: (assignEach es X.env).map (·.2) := by rfl) : YGs X (e :: es) (g :: gs) (sl ++ ss) := by
  obtain ⟨t, p, k⟩ := h.ex
  obtain ⟨ts, ps, ks⟩ := hs.ex
  refine ⟨_, pgs_cons p ps hst, fun F Hs σ H ε vs ds Q' Q R rv q kk => ?_⟩
  cases rv with
  | nil => exact q.elim
  | cons r rs => exact ⟨_, _, rfl, k F Hs σ H ε _ _ _ _ R r q fun σ1 H1 Hs1 ε1 e1 o1 R1 q1 => ks F Hs1 σ1 H1 ε1 _ _ _ _ R1 (rs.mono e1) q1 fun σ2 H2 Hs2 ε2 e2 o2 R2 q2 => kk σ2 H2 Hs2 ε2 (e1.trans e2) (fun vs hv => (o2 vs fun i hi => hv i (List.mem_append_right _ hi)).trans (o1 vs fun i hi => hv i (List.mem_append_left _ hi))) R2 q2⟩
theorem gAll_len : ∀ {gs : List PTG} {ds : List D} {ε : PEnv} {Q : PEnv → Prop}, gAll gs ds ε Q → (∀ g ∈ gs, ∀ d ε Q, g d ε Q → ∃ ε', Q ε') → ds.length = gs.length
  | [], [], _, _, _, _ => rfl
  | g :: gs, d :: ds, ε, Q, h, m => by
    obtain ⟨ε', h2⟩ := m g (List.mem_cons_self ..) d ε _ h
    rw [List.length_cons, List.length_cons, gAll_len h2 fun g hg => m g (List.mem_cons_of_mem _ hg)]
/-- a, b, .. = a tuple -/
def gTupY (n : Nat) (gs : List PTG) : PTG := fun d ε Q => match d with
  | .tup ds => gd (ds.length = n) (gAll gs ds ε Q)
  | _ => False
theorem yg_tup {es : List Expr} {k : Nat} {gs : List PTG} {n : Nat} {sl : List Nat} (hc : X.calm = true) (h : YGs X es gs sl) (hn : (assignEach es X.env).length = n := by rfl) (hst : (assignEach es X.env).findIdx? (·.1) = none := by rfl) : YG X (.Tuple es k pos) (gTupY n gs) sl := by
  obtain ⟨ts, ps, ks⟩ := h.ex
  refine ⟨_, pg_tup hc ps hn hst, fun F Hs σ H ε v d Q' Q R rv q kk => ?_⟩
  unfold gTupY at q
  split at q
  · obtain ⟨hl, q⟩ := gd_elim q
    cases rv with
    | tup h1 r1 => exact ⟨_, _, rfl, Evl.ex_t R.ex h1, by rw [r1.len]; exact hl, ks F Hs σ H ε _ _ _ _ R r1 q kk⟩
  · exact q.elim
/-- a, b, .. = a list -/
def gLstY (n : Nat) (gs : List PTG) : PTG := fun d ε Q => match d with
  | .lst ds => gd (ds.length = n) (gAll gs ds ε Q)
  | _ => False
theorem yg_lst {es : List Expr} {k : Nat} {gs : List PTG} {n : Nat} {sl : List Nat} (hc : X.calm = true) (h : YGs X es gs sl) (hn : (assignEach es X.env).length = n := by rfl) (hst : (assignEach es X.env).findIdx? (·.1) = none := by rfl) : YG X (.Tuple es k pos) (gLstY n gs) sl := by
  obtain ⟨ts, ps, ks⟩ := h.ex
  refine ⟨_, pg_lst hc ps hn hst, fun F Hs σ H ε v d Q' Q R rv q kk => ?_⟩
  unfold gLstY at q
  split at q
  · obtain ⟨hl, q⟩ := gd_elim q
    cases rv with
    | lst h1 r1 => exact ⟨_, _, rfl, SqL.of (R.ex _ _ h1), by rw [r1.len]; exact hl, ks F Hs σ H ε _ _ _ _ R r1 q kk⟩
  · exact q.elim
end

/-! ### what is walked -/
structure Seqs (K : PySem.W.Frag) (Hs : Hp) (J : It) (ds : List D) : Prop where
  go : ∀ i H, Ex Hs H → i < ds.length → J.go i H
  stop : ∀ i H, Ex Hs H → ds.length ≤ i → J.stop i H
  yld : ∀ (i : Nat) (F Hc : Hp) (σ : St) (H : Hp) (ε : PEnv) (x : V) (H' : Hp), Ex Hs Hc → RelS K F Hc σ H ε → i < ds.length → J.yld i H x H' → ∃ Hc' d, Ex Hc Hc' ∧ RelS K F Hc' σ H' ε ∧ ds[i]? = some d ∧ Rep K Hc' x d
structure YI (X : Cx) (W : WX) (Ξ : Xi) (tg iter : Expr) (r : PTN) : Prop where
  ex : ∃ wi, PI X tg iter wi ∧ ∀ (F Hs : Hp) (σ : St) (H : Hp) (ε : PEnv) (Q' : List D → PEnv → Prop) (R' : It → Hp → Prop), RelS X.K F Hs σ H ε → Lk X.K F Hs W Ξ → r ε Q' →
    (∀ J H' Hs' ds ε', Ex Hs Hs' → RelS X.K F Hs' σ H' ε' → Seqs X.K Hs' J ds → Q' ds ε' → R' J H') → wi σ H R'
theorem seqs_list {K : PySem.W.Frag} {Hs : Hp} {a : Addr} {vs : List V} {ds : List D} (h : SqL K Hs a vs) (r : Reps K Hs vs ds) : Seqs K Hs (Itl K a) ds where
  go := fun i H e hi => by
    rw [← r.len] at hi
    exact ⟨vs, vs[i], Evl.ex_l e h, by simp [hi]⟩
  stop := fun i H e hi => ⟨vs, Evl.ex_l e h, by rw [r.len]; exact hi⟩
  yld := fun i F Hc σ H ε x H' e R hi y => by
    obtain ⟨rfl, y⟩ := y
    have e2 := y vs (Evl.ex_l (e.trans R.ex) h)
    obtain ⟨d, h1, h2⟩ := r.getV e2
    exact ⟨Hc, d, Evl.Ex.refl _, R, h1, h2.mono e⟩
theorem seqs_tup {K : PySem.W.Frag} {Hs : Hp} {a : Addr} {vs : List V} {ds : List D} (h : SqT K Hs a vs) (r : Reps K Hs vs ds) : Seqs K Hs (Itt K a) ds where
  go := fun i H e hi => by
    rw [← r.len] at hi
    exact ⟨vs, vs[i], Evl.ex_t e h, by simp [hi]⟩
  stop := fun i H e hi => ⟨vs, Evl.ex_t e h, by rw [r.len]; exact hi⟩
  yld := fun i F Hc σ H ε x H' e R hi y => by
    obtain ⟨rfl, y⟩ := y
    have e2 := y vs (Evl.ex_t (e.trans R.ex) h)
    obtain ⟨d, h1, h2⟩ := r.getV e2
    exact ⟨Hc, d, Evl.Ex.refl _, R, h1, h2.mono e⟩
def rangeD (lo : Int) (n : Nat) : List D := (List.range n).map fun (i : Nat) => D.int (lo + (i : Int))
theorem rangeD_len {lo : Int} {n : Nat} : (rangeD lo n).length = n := by unfold rangeD; rw [List.length_map, List.length_range]
theorem rangeD_get {lo : Int} {n i : Nat} {d : D} (h : (rangeD lo n)[i]? = some d) : i < n ∧ d = .int (lo + (i : Int)) := by
  unfold rangeD at h
  rw [List.getElem?_map] at h
  by_cases hi : i < n
  · rw [List.getElem?_range hi] at h
    exact ⟨hi, (Option.some.inj h).symm⟩
  · rw [List.getElem?_eq_none (by rw [List.length_range]; omega)] at h
    cases h
theorem seqs_range {K : PySem.W.Frag} {Hs : Hp} {lo : Int} {n : Nat} : Seqs K Hs (Itr lo n) (rangeD lo n) where
  go := fun i H e hi => by rw [rangeD_len] at hi; exact hi
  stop := fun i H e hi => by rw [rangeD_len] at hi; exact hi
  yld := fun i F Hc σ H ε x H' e R hi y => by
    rw [rangeD_len] at hi
    obtain ⟨rfl, rfl⟩ := y
    refine ⟨Hc, .int (lo + i), Evl.Ex.refl _, R, ?_, .int _⟩
    unfold rangeD
    rw [List.getElem?_map, List.getElem?_range hi] <;> rfl
section
variable {X : Cx} {W : WX} {Ξ : Xi} {tg a b : Expr} {pos p : Pos}
/-- for x in a list -/
def yiLst (r : PTE) : PTN := fun ε Q => r ε fun t ε' => out ε' t fun d ε2 => match d with
  | .lst ds => Q ds ε2
  | _ => False
theorem yi_lst {r : PTE} (h : YE X W Ξ a r) : YI X W Ξ tg a (yiLst r) := by
  obtain ⟨t, p, k⟩ := h.ex
  refine ⟨_, pi_list p, fun F Hs σ H ε Q' R' R L q kk => k F Hs σ H ε _ _ R L q fun v H1 Hs1 t ε1 e1 R1 p1 q1 => ?_⟩
  obtain ⟨d, ε2, Hs2, e2, R2, rv, q2⟩ := R1.out p1 q1
  split at q2
  · cases rv with
    | lst h1 r1 => exact ⟨_, rfl, ⟨_, SqL.of (R2.ex _ _ h1)⟩, kk _ H1 Hs2 _ ε2 (e1.trans e2) R2 (seqs_list (SqL.of h1) r1) q2⟩
  · exact q2.elim
/-- for x in a list that is only read -/
def yiFrl (r : PTE) : PTN := fun ε Q => r ε fun t ε' => out ε' t fun d ε2 => match d with
  | .frl ds => Q ds ε2
  | _ => False
theorem yi_frl {r : PTE} (h : YE X W Ξ a r) : YI X W Ξ tg a (yiFrl r) := by
  obtain ⟨t, p, k⟩ := h.ex
  refine ⟨_, pi_list p, fun F Hs σ H ε Q' R' R L q kk => k F Hs σ H ε _ _ R L q fun v H1 Hs1 t ε1 e1 R1 p1 q1 => ?_⟩
  obtain ⟨d, ε2, Hs2, e2, R2, rv, q2⟩ := R1.out p1 q1
  split at q2
  · cases rv with
    | frl h1 r1 => exact ⟨_, rfl, ⟨_, Evl.ex_l R2.ex h1.sq⟩, kk _ H1 Hs2 _ ε2 (e1.trans e2) R2 (seqs_list h1.sq r1) q2⟩
  · exact q2.elim
def yiTup (r : PTE) : PTN := fun ε Q => r ε fun t ε' => out ε' t fun d ε2 => match d with
  | .tup ds => Q ds ε2
  | _ => False
theorem yi_tup {r : PTE} (h : YE X W Ξ a r) : YI X W Ξ tg a (yiTup r) := by
  obtain ⟨t, p, k⟩ := h.ex
  refine ⟨_, pi_tup p, fun F Hs σ H ε Q' R' R L q kk => k F Hs σ H ε _ _ R L q fun v H1 Hs1 t ε1 e1 R1 p1 q1 => ?_⟩
  obtain ⟨d, ε2, Hs2, e2, R2, rv, q2⟩ := R1.out p1 q1
  split at q2
  · cases rv with
    | tup h1 r1 => exact ⟨_, rfl, ⟨_, Evl.ex_t R2.ex h1⟩, kk _ H1 Hs2 _ ε2 (e1.trans e2) R2 (seqs_tup h1 r1) q2⟩
  · exact q2.elim
def smallB : Int → Bool
  | .ofNat n => Nat.ble n 4611686018427387903
  | .negSucc n => Nat.ble n 4611686018427387903
theorem small_of {j : Int} (h : smallB j = true) : -4611686018427387904 ≤ j ∧ j < 4611686018427387904 := by
  cases j with
  | ofNat n =>
    have h := Nat.le_of_ble_eq_true h
    constructor
    · show _ ≤ ((n : Nat) : Int)
      omega
    · show ((n : Nat) : Int) < _
      omega
  | negSucc n =>
    have h := Nat.le_of_ble_eq_true h
    rw [Int.negSucc_eq]
    omega
theorem small_by {j : Int} (h0 : 0 ≤ j) (h : j < 4611686018427387904) : smallB j = true := by
  cases j with
  | ofNat n =>
    replace h : ((n : Nat) : Int) < _ := h
    exact Nat.ble_eq_true_of_le (by omega)
  | negSucc n =>
    rw [Int.negSucc_eq] at h0
    omega
def rg1 (Q : List D → Prop) : List D → Prop
  | [.int j] => gd (smallB j = true) (Q (rangeD 0 j.toNat))
  | _ => False
def rg2 (Q : List D → Prop) : List D → Prop
  | [.int i, .int j] => gd (smallB i = true ∧ smallB j = true) (Q (rangeD i (j - i).toNat))
  | _ => False
def yiRg1 (rs : PTL) : PTN := fun ε Q => rs ε fun ts ε1 => ress ε1 ts (rg1 fun ds => Q ds ε1)
def yiRg2 (rs : PTL) : PTN := fun ε Q => rs ε fun ts ε1 => ress ε1 ts (rg2 fun ds => Q ds ε1)
theorem yi_range1 {rs : PTL} (hg : Gl X "range") (hm : X.mg "range" = none) (h : YL X W Ξ [a] rs) (hs : starEach [a] X.env = [(false, eval a X.env)] := by rfl) : YI X W Ξ tg (.Call (.Name "range" p) [a] [] pos) (yiRg1 rs) := by
  obtain ⟨t, pa, k⟩ := h.ex
  refine ⟨_, pi_range1 hg hm pa hs, fun F Hs σ H ε Q' R' R L q kk => k F Hs σ H ε _ _ R L q fun vs H1 Hs1 ts ε1 e1 R1 p1 q1 => ?_⟩
  obtain ⟨ds, rv, q2⟩ := R1.ress p1 q1
  unfold rg1 at q2
  split at q2
  · obtain ⟨v, rfl, r⟩ := rv.one
    have q2 := gd_elim q2
    exact ⟨_, by rw [r.int'], (small_of q2.1).1, (small_of q2.1).2, kk _ H1 Hs1 _ ε1 e1 R1 seqs_range q2.2⟩
  · exact q2.elim
theorem yi_range2 {rs : PTL} (hg : Gl X "range") (hm : X.mg "range" = none) (h : YL X W Ξ [a, b] rs) (hs : starEach [a, b] X.env = [(false, eval a X.env), (false, eval b X.env)] := by rfl) (hs2 : starEach [b] X.env = [(false, eval b X.env)] := by rfl) : YI X W Ξ tg (.Call (.Name "range" p) [a, b] [] pos) (yiRg2 rs) := by
  obtain ⟨t, pa, k⟩ := h.ex
  refine ⟨_, pi_range2 hg hm pa hs hs2, fun F Hs σ H ε Q' R' R L q kk => k F Hs σ H ε _ _ R L q fun vs H1 Hs1 ts ε1 e1 R1 p1 q1 => ?_⟩
  obtain ⟨ds, rv, q2⟩ := R1.ress p1 q1
  unfold rg2 at q2
  split at q2
  · obtain ⟨v, w, rfl, r1, r2⟩ := rv.two
    have q2 := gd_elim q2
    exact ⟨_, _, by rw [r1.int', r2.int'], ⟨(small_of q2.1.1).1, (small_of q2.1.1).2, (small_of q2.1.2).1, (small_of q2.1.2).2⟩, kk _ H1 Hs1 _ ε1 e1 R1 seqs_range q2.2⟩
  · exact q2.elim

/-! ### comprehensions -/
def wipeE (ε : PEnv) : List Nat → PEnv
  | [] => ε
  | v :: vs => (wipeE ε vs).set v none
/-- nothing that is owned stands in these slots -/
def freeE (ε : PEnv) : List Nat → Prop
  | [] => True
  | v :: vs => (match ε[v]? with
    | some (some (.o _)) => False
    | some (some (.od _)) => False
    | _ => True) ∧ freeE ε vs
theorem wipeE_len (ε : PEnv) : ∀ vs : List Nat, (wipeE ε vs).length = ε.length
  | [] => rfl
  | v :: vs => by unfold wipeE; rw [List.length_set, wipeE_len ε vs]
theorem wipeE_some {ε : PEnv} {i : Nat} {s : S} : ∀ {vs : List Nat}, (wipeE ε vs)[i]? = some (some s) → ε[i]? = some (some s) ∧ i ∉ vs
  | [], h => ⟨h, by simp⟩
  | v :: vs, h => by
    unfold wipeE at h
    by_cases hi : v = i
    · subst hi
      by_cases hv : v < (wipeE ε vs).length
      · rw [List.getElem?_set_self hv] at h; cases h
      · rw [List.getElem?_eq_none (by simpa using hv)] at h; cases h
    · rw [List.getElem?_set_ne hi] at h
      obtain ⟨h1, h2⟩ := wipeE_some h
      exact ⟨h1, by simp only [List.mem_cons, not_or]; exact ⟨fun e => hi e.symm, h2⟩⟩
theorem wipeE_get {ε : PEnv} {i : Nat} : ∀ {vs : List Nat}, i ∉ vs → (wipeE ε vs)[i]? = ε[i]?
  | [], _ => rfl
  | v :: vs, h => by
    simp only [List.mem_cons, not_or] at h
    unfold wipeE
    rw [List.getElem?_set_ne (Ne.symm h.1), wipeE_get h.2]
theorem wipe_get {σ : St} {i : Nat} : ∀ {vs : List Nat}, i ∉ vs → (wipe σ vs)[i]? = σ[i]?
  | [], _ => rfl
  | v :: vs, h => by
    simp only [List.mem_cons, not_or] at h
    unfold wipe
    rw [List.getElem?_set_ne (Ne.symm h.1), wipe_get h.2]
theorem freeE_own {ε : PEnv} {i : Nat} {s : S} (e : ε[i]? = some (some s)) (so : s.own = true) : ∀ {vs : List Nat}, freeE ε vs → i ∉ vs
  | [], _ => by simp
  | v :: vs, h => by
    simp only [List.mem_cons, not_or]
    refine ⟨fun z => ?_, freeE_own e so h.2⟩
    subst z
    have h1 := h.1
    rw [e] at h1
    cases s <;> first | exact h1 | cases so
section
variable {K : PySem.W.Frag} {F Hs Hs' H H' : Hp} {σ : St} {ε : PEnv}
theorem SlotOk.at {i : Nat} {s : S} {σ' : St} (h : SlotOk K F Hs σ H i s) (e : σ'[i]? = σ[i]?) : SlotOk K F Hs σ' H i s := by
  cases s <;> (unfold SlotOk at h ⊢; dsimp only at h ⊢; rw [e]; exact h)
theorem RelS.wipe (R : RelS K F Hs σ H ε) (vs : List Nat) : RelS K F Hs (L2.wipe σ vs) H (wipeE ε vs) := by
  refine ⟨R.ex, R.fr, by rw [wipe_length, wipeE_len]; exact R.len, fun j t q => ?_, fun j k t u hn h1 h2 h3 h4 => ?_⟩
  · obtain ⟨h1, h2⟩ := wipeE_some q
    exact (R.sl j t h1).at (wipe_get h2)
  · obtain ⟨g1, n1⟩ := wipeE_some h1
    obtain ⟨g2, n2⟩ := wipeE_some h2
    rw [wipe_get n1, wipe_get n2]
    exact R.ds j k t u hn g1 g2 h3 h4
theorem RelS.unwipe {vs : List Nat} (R : RelS K F Hs σ H ε) (R' : RelS K F Hs' (L2.wipe σ vs) H' (wipeE ε vs)) (e : Ex Hs Hs') (hf : freeE ε vs) : RelS K F Hs' σ H' ε := by
  refine ⟨R'.ex, R'.fr, R.len, fun j t q => ?_, R.ds⟩
  by_cases hj : j ∈ vs
  · have z := R.sl j t q
    cases t with
    | v d =>
      obtain ⟨v, h1, h2⟩ := z
      exact ⟨v, h1, h2.mono e⟩
    | o ds => exact absurd hj (freeE_own q rfl hf)
    | od ds => exact absurd hj (freeE_own q rfl hf)
  · exact (R'.sl j t (by rw [wipeE_get hj]; exact q)).at (wipe_get hj).symm
end
/-- [e for target in iter if test] -/
def ynLc (ri : PTN) (g : PTG) (rt : PTT) (re : PTE) (vs : List Nat) : PTN := fun ε Q => ri ε fun ds ε1 => freeE ε1 vs ∧ ds.length ≤ 16777216 ∧ ∃ Wp : Nat → List D → Prop, Wp 0 [] ∧
  (∀ i d acc, i < ds.length → ds[i]? = some d → acc.length ≤ i → Wp i acc → g d (wipeE ε1 vs) fun ε2 => rt ε2 fun k ε3 => match k with
    | true => re ε3 fun t ε4 => out ε4 t fun y ε5 => wipeE ε5 vs = wipeE ε1 vs ∧ Wp (i + 1) (acc ++ [y])
    | false => wipeE ε3 vs = wipeE ε1 vs ∧ Wp (i + 1) acc) ∧ ∀ acc, acc.length ≤ ds.length → Wp ds.length acc → Q acc ε1
def yYes : PTT := fun ε Q => Q true ε
/-- a clause's tests -/
structure YTs (X : Cx) (W : WX) (Ξ : Xi) (es : List Expr) (r : PTT) : Prop where
  ex : ∃ t, PTs X es t ∧ ∀ (F Hs : Hp) (σ : St) (H : Hp) (ε : PEnv) (Q' : Bool → PEnv → Prop) (Q : Bool → Hp → Prop), RelS X.K F Hs σ H ε → Lk X.K F Hs W Ξ → r ε Q' → KT X.K F Hs σ Q' Q → t σ H Q
theorem yts_nil : YTs X W Ξ [] yYes := ⟨_, pts_nil, fun F Hs σ H ε Q' Q R _ q k => k true H Hs ε (Evl.Ex.refl _) R q⟩
theorem yts_one {r : PTT} (h : YT X W Ξ a r) : YTs X W Ξ [a] r := by
  obtain ⟨t, p, k⟩ := h.ex
  exact ⟨t, pts_one p, k⟩
theorem YTs.canon {es : List Expr} {r : PTT} (h : YTs X W Ξ es r) : PTs X es (cT X.K W Ξ r) := by
  obtain ⟨t, p, k⟩ := h.ex
  exact ⟨fun pins s σ H Q I ⟨F, Hs, ε, Q', R, L, q, kk⟩ => p.run pins s σ H Q I (k F Hs σ H ε Q' Q R L q kk)⟩


theorem lc_reads {X : Cx} {W : WX} {Ξ : Xi} {own : List (Str × Nat)} {ri : PTN} {g : PTG} {rt : PTT} {re : PTE} {sl : List Nat} {wi : TI}
    (ki : ∀ (F Hs : Hp) (σ : St) (H : Hp) (ε : PEnv) (Q' : List D → PEnv → Prop) (R' : It → Hp → Prop), RelS X.K F Hs σ H ε → Lk X.K F Hs W Ξ → ri ε Q' →
      (∀ J H' Hs' ds ε', Ex Hs Hs' → RelS X.K F Hs' σ H' ε' → Seqs X.K Hs' J ds → Q' ds ε' → R' J H') → wi σ H R')
    (hsl : (sl.all fun i => (own.map (·.2)).contains i) = true) (F Hs : Hp) (σ : St) (H : Hp) (ε : PEnv) (Q' : List D → PEnv → Prop) (Q : VK) (R : RelS X.K F Hs σ H ε) (L : Lk X.K F Hs W Ξ) (q : ynLc ri g rt re (own.map (·.2)) ε Q') (k : KN X.K F Hs σ Q' Q) :
    tLc wi (cG X.K g sl) (cT X.K W0 Ξ0 rt) (cE X.K W0 Ξ0 re) (own.map (·.2)) σ H Q := by
  have hsl' : ∀ i ∈ sl, i ∈ own.map (·.2) := fun i hi => by simpa using List.all_eq_true.mp hsl i hi
  generalize own.map (·.2) = ws at hsl' q ⊢
  refine ki F Hs σ H ε _ _ R L q fun J H1 Hs1 ds ε1 e1 R1 sq ⟨hf, hl, Wp, w0, wt, wd⟩ => fun Dl hD => ?_
  obtain ⟨n1, n2, n3⟩ := R1.nobody hD
  have R2 : RelS X.K F Hs1 σ (upd H1 Dl (.lst [])) ε1 := R1.lay hD
  have lt' : Lk X.K F Hs1 W Ξ := L.mono e1
  -- the turns
  refine ⟨fun i m H => m = ds.length - i ∧ i ≤ ds.length ∧ ∃ (Hc : Hp) (av : List V) (acc : List D), Ex Hs1 Hc ∧ RelS X.K (upd F Dl (.lst av)) Hc (L2.wipe σ ws) H (wipeE ε1 ws) ∧ Reps X.K Hc av acc ∧ acc.length ≤ i ∧ Wp i acc, ⟨ds.length, by simp, Nat.zero_le _, Hs1, [], [], Evl.Ex.refl _, ?_, .nil, Nat.le_refl _, w0⟩, ?_⟩
  · refine (R2.wipe ws).lend upd_same n1 fun i s e so z => ?_
    obtain ⟨g1, g2⟩ := wipeE_some e
    rw [wipe_get g2] at z
    exact n3 i s g1 so z
  · rintro i m H2 ⟨rfl, hil, Hc, av, acc, ec, Rc, ra, hla, wp⟩
    by_cases hlt : i < ds.length
    · refine .inr ⟨sq.go i H2 (ec.trans Rc.ex) hlt, fun H' => i + 1 ≤ ds.length ∧ ∃ (Hc : Hp) (av : List V) (acc : List D), Ex Hs1 Hc ∧ RelS X.K (upd F Dl (.lst av)) Hc (L2.wipe σ ws) H' (wipeE ε1 ws) ∧ Reps X.K Hc av acc ∧ acc.length ≤ i + 1 ∧ Wp (i + 1) acc,
        fun H' n' => ⟨ds.length - (i + 1), by omega, rfl, n'.1, n'.2⟩, fun x H3 y => ?_⟩
      obtain ⟨Hc3, d, e3, R3, hd, rx⟩ := sq.yld i _ Hc _ H2 _ x H3 ec Rc hlt y
      refine ⟨_, Hc3, _, d, _, R3, rx, wt i d acc hlt hd hla wp, fun σ4 H4 Hc4 ε4 e4 o4 R4 q4 => ?_⟩
      have w4 : L2.wipe σ4 ws = L2.wipe σ ws := by
        rw [o4 ws hsl']
        have idem : ∀ (vs us : List Nat), (∀ v ∈ vs, v ∈ us) → L2.wipe (L2.wipe σ us) vs = L2.wipe σ us := by
          intro vs
          induction vs with
          | nil => intro _ _; rfl
          | cons v vs ih =>
            intro us hv
            show (L2.wipe (L2.wipe σ us) vs).set v none = L2.wipe σ us
            rw [ih us fun w hw => hv w (List.mem_cons_of_mem _ hw)]
            have in_ : ∀ {us : List Nat}, v ∈ us → (L2.wipe σ us).set v none = L2.wipe σ us := by
              intro us
              induction us with
              | nil => intro h; cases h
              | cons u us ih =>
                intro h
                show ((L2.wipe σ us).set u none).set v none = (L2.wipe σ us).set u none
                by_cases e : u = v
                · subst e
                  rw [List.set_set]
                · rw [List.set_comm _ _ e, ih (by
                    rcases List.mem_cons.mp h with h | h
                    · exact absurd h.symm e
                    · exact h)]
            exact in_ (hv v (List.mem_cons_self ..))
        exact idem ws ws fun _ h => h
      refine ⟨w4, ⟨_, Hc4, ε4, _, R4, Lk.none, q4, fun b H5 Hc5 ε5 e5 R5 q5 => ?_⟩⟩
      cases b with
      | true =>
        show (if true = true then _ else _)
        rw [if_pos rfl]
        refine ⟨_, Hc5, ε5, _, R5, Lk.none, q5, fun z H6 Hc6 t6 ε6 e6 R6 p6 q6 => ?_⟩
        obtain ⟨yd, ε7, Hc7, e7, R7, ry, we, wp7⟩ := R6.out p6 q6
        have ex : Ex Hc Hc7 := (((e3.trans e4).trans e5).trans e6).trans e7
        have R8 := R7.wipe ws
        rw [w4, we] at R8
        obtain ⟨R9, b1, b2, b3⟩ := R8.back n2
        refine ⟨av, b1, by rw [ra.len]; exact line_lt (by omega), hlt, Hc7, av ++ [z], acc ++ [yd], ec.trans ex, ?_, (ra.mono ex).append (.cons ry .nil), by rw [List.length_append]; simp; omega, wp7⟩
        exact (R9.touch b2 n2 b3).lend upd_same b2 b3
      | false =>
        show (if false = true then _ else _)
        rw [if_neg Bool.false_ne_true]
        obtain ⟨we, wp7⟩ := q5
        have ex : Ex Hc Hc5 := (e3.trans e4).trans e5
        have R8 := R5.wipe ws
        rw [w4, we] at R8
        exact ⟨hlt, Hc5, av, acc, ec.trans ex, R8, ra.mono ex, by omega, wp7⟩
    · have ei : i = ds.length := by omega
      subst ei
      refine .inl ⟨sq.stop _ H2 (ec.trans Rc.ex) (Nat.le_refl _), ?_⟩
      obtain ⟨R9, b1, b2, b3⟩ := Rc.back n2
      have R10 := R2.unwipe R9 ec hf
      refine k Dl H2 Hc av acc ε1 (e1.trans ec) R10 b1 b2 n2 (fun i s e so z => ?_) ra (wd acc hla wp)
      have hi := freeE_own e so hf
      exact b3 i s (by rw [wipeE_get hi]; exact e) so (by rw [wipe_get hi]; exact z)
theorem yn_lc {tg iter elt : Expr} {ifs : List Expr} {scope : Scope} {own : List (Str × Nat)} {ri : PTN} {g : PTG} {rt : PTT} {re : PTE} {sl : List Nat} (hc : X.calm = true) (hN : X.N.Nodup) (hi : YI X W Ξ tg iter ri) (ok : BlkOk X.N X.env.scope scope own)
    (hg : ∀ (s : Shared) (H : Hp) (C : Addr) (cl : List (Str × Addr)) (fp : List Addr), YG (X.blk s H scope (compEnvC scope cl C X.env) fp) tg g sl)
    (ht : ∀ (s : Shared) (H : Hp) (C : Addr) (cl : List (Str × Addr)) (fp : List Addr), YTs (X.blk s H scope (compEnvC scope cl C X.env) fp) W0 Ξ0 ifs rt)
    (he : ∀ (s : Shared) (H : Hp) (C : Addr) (cl : List (Str × Addr)) (fp : List Addr), YE (X.blk s H scope (compEnvC scope cl C X.env) fp) W0 Ξ0 elt re)
    (hsl : (sl.all fun i => (own.map (·.2)).contains i) = true := by decide) (hs : ∀ x, foldedSetIterable iter X.env x = pure x := by intro _; rfl) :
    YN X W Ξ (.ListComp elt [⟨tg, iter, ifs, 0⟩] scope pos) (ynLc ri g rt re (own.map (·.2))) := by
  obtain ⟨wi, pi, ki⟩ := hi.ex
  exact ⟨_, pe_lc (g := cG X.K g sl) (tt := cT X.K W0 Ξ0 rt) (te := cE X.K W0 Ξ0 re) hc hN pi ok (fun s H C cl fp => (hg s H C cl fp).canon) (fun s H C cl fp => (ht s H C cl fp).canon) (fun s H C cl fp => (he s H C cl fp).canon) hs, lc_reads ki hsl⟩
end
end PL

set_option Elab.async false
set_option linter.all false
set_option autoImplicit false
set_option maxRecDepth 100000
set_option maxHeartbeats 2000000
/-! Statements and defs, over plain data. -/
namespace PL
open PySem PySem.Spec PyProof.Rows L2
open Evl (Ex)

structure PEnds where
  nx : PEnv → Prop
  rt : D → PEnv → Prop
  bk : PEnv → Prop := fun _ => False
  ct : PEnv → Prop := fun _ => False
abbrev PTS := PEnds → PEnv → Prop
structure EOk (K : PySem.W.Frag) (F Hs : Hp) (Δ : PEnds) (Dd : Ends) : Prop where
  nx : ∀ (σ' : St) (H' Hs' : Hp) (ε' : PEnv), Ex Hs Hs' → RelS K F Hs' σ' H' ε' → Δ.nx ε' → Dd.nx σ' H'
  rt : ∀ (v : V) (σ' : St) (H' Hs' : Hp) (d : D) (ε' : PEnv), Ex Hs Hs' → RelS K F Hs' σ' H' ε' → Rep K Hs' v d → Δ.rt d ε' → Dd.rt v H'
  bk : ∀ (σ' : St) (H' Hs' : Hp) (ε' : PEnv), Ex Hs Hs' → RelS K F Hs' σ' H' ε' → Δ.bk ε' → Dd.bk σ' H'
  ct : ∀ (σ' : St) (H' Hs' : Hp) (ε' : PEnv), Ex Hs Hs' → RelS K F Hs' σ' H' ε' → Δ.ct ε' → Dd.ct σ' H'
theorem EOk.mono {K : PySem.W.Frag} {F Hs Hs' : Hp} {Δ : PEnds} {Dd : Ends} (e : Ex Hs Hs') (h : EOk K F Hs Δ Dd) : EOk K F Hs' Δ Dd :=
  ⟨fun σ' H' Hs' ε' e2 => h.nx σ' H' Hs' ε' (e.trans e2), fun v σ' H' Hs' d ε' e2 => h.rt v σ' H' Hs' d ε' (e.trans e2), fun σ' H' Hs' ε' e2 => h.bk σ' H' Hs' ε' (e.trans e2), fun σ' H' Hs' ε' e2 => h.ct σ' H' Hs' ε' (e.trans e2)⟩
structure YS (X : Cx) (W : WX) (Ξ : Xi) (st : Stmt) (r : PTS) : Prop where
  ex : ∃ t, PS X st t ∧ ∀ (F Hs : Hp) (σ : St) (H : Hp) (ε : PEnv) (Δ : PEnds) (Dd : Ends), RelS X.K F Hs σ H ε → Lk X.K F Hs W Ξ → r Δ ε → EOk X.K F Hs Δ Dd → t Dd σ H
structure YSs (X : Cx) (W : WX) (Ξ : Xi) (st : List Stmt) (r : PTS) : Prop where
  ex : ∃ t, PSs X st t ∧ ∀ (F Hs : Hp) (σ : St) (H : Hp) (ε : PEnv) (Δ : PEnds) (Dd : Ends), RelS X.K F Hs σ H ε → Lk X.K F Hs W Ξ → r Δ ε → EOk X.K F Hs Δ Dd → t Dd σ H
def cSs (K : PySem.W.Frag) (W : WX) (Ξ : Xi) (r : PTS) : TS := fun Dd σ H => ∃ (F Hs : Hp) (ε : PEnv) (Δ : PEnds), RelS K F Hs σ H ε ∧ Lk K F Hs W Ξ ∧ r Δ ε ∧ EOk K F Hs Δ Dd
theorem YSs.canon {X : Cx} {W : WX} {Ξ : Xi} {st : List Stmt} {r : PTS} (h : YSs X W Ξ st r) : PSs X st (cSs X.K W Ξ r) := by
  obtain ⟨t, p, k⟩ := h.ex
  exact ⟨fun pins s σ H Dd I ⟨F, Hs, ε, Δ, R, L, q, kk⟩ => p.run pins s σ H Dd I (k F Hs σ H ε Δ Dd R L q kk)⟩

section
variable {X : Cx} {W : WX} {Ξ : Xi} {st : Stmt} {rest : List Stmt} {r u : PTS} {e : Expr} {pos : Pos}
def ysNext : PTS := fun Δ ε => Δ.nx ε
def ysSeq (r u : PTS) : PTS := fun Δ ε => r { Δ with nx := fun ε' => u Δ ε' } ε
theorem yss_nil : YSs X W Ξ [] ysNext := ⟨_, pss_nil, fun F Hs σ H ε Δ Dd R L q k => k.nx σ H Hs ε (Evl.Ex.refl _) R q⟩
theorem yss_cons (h1 : YS X W Ξ st r) (h2 : YSs X W Ξ rest u) : YSs X W Ξ (st :: rest) (ysSeq r u) := by
  obtain ⟨t, p, k⟩ := h1.ex
  obtain ⟨t2, p2, k2⟩ := h2.ex
  refine ⟨_, pss_cons p p2, fun F Hs σ H ε Δ Dd R L q kk => k F Hs σ H ε _ _ R L q ⟨fun σ' H' Hs' ε' e R' q' => ?_, kk.rt, kk.bk, kk.ct⟩⟩
  exact k2 F Hs' σ' H' ε' Δ Dd R' (L.mono e) q' (kk.mono e)
theorem yss_one (h1 : YS X W Ξ st r) : YSs X W Ξ [st] r := by
  obtain ⟨t, p, k⟩ := h1.ex
  exact ⟨_, pss_one p, k⟩
theorem ys_pass : YS X W Ξ (.Pass pos) ysNext := ⟨_, ps_pass, fun F Hs σ H ε Δ Dd R L q k => k.nx σ H Hs ε (Evl.Ex.refl _) R q⟩
def ysBrk : PTS := fun Δ ε => Δ.bk ε
def ysCnt : PTS := fun Δ ε => Δ.ct ε
theorem ys_break : YS X W Ξ (.Break pos) ysBrk := ⟨_, ps_break, fun F Hs σ H ε Δ Dd R L q k => k.bk σ H Hs ε (Evl.Ex.refl _) R q⟩
theorem ys_continue : YS X W Ξ (.Continue pos) ysCnt := ⟨_, ps_continue, fun F Hs σ H ε Δ Dd R L q k => k.ct σ H Hs ε (Evl.Ex.refl _) R q⟩
/-- x = e -/
def ysAsg (re : PTE) (i : Nat) : PTS := fun Δ ε => re ε fun t ε' => out ε' t fun d ε2 => Δ.nx (ε2.set i (some (.v d)))
theorem ys_set (i : Nat) {x : Str} {pos' : Pos} {re : PTE} (hN : X.N.Nodup) (hi : X.N[i]? = some x) (hx : Loc X.env.scope x) (he : YE X W Ξ e re) (hs : swapsWith e (some (.Name x pos')) pos.line X.env = pure false := by rfl)
    (hf : X.fn x = true ∨ X.env.scope.names.lookup x = some .local := by first | exact .inl rfl | exact .inr rfl | assumption) : YS X W Ξ (.Assign [.Name x pos'] e pos) (ysAsg re i) := by
  obtain ⟨t, p, k⟩ := he.ex
  refine ⟨_, ps_set hN hi hx p hs hf, fun F Hs σ H ε Δ Dd R L q kk => k F Hs σ H ε _ _ R L q fun v H1 Hs1 t1 ε1 e1 R1 p1 q1 => ?_⟩
  obtain ⟨d, ε2, Hs2, e2, R2, rv, q2⟩ := R1.out p1 q1
  exact kk.nx _ H1 Hs2 _ (e1.trans e2) (R2.store rv i) q2
/-- x = a new list, that x owns -/
def ysAsgO (rn : PTN) (i : Nat) : PTS := fun Δ ε => rn ε fun ds ε' => Δ.nx (ε'.set i (some (.o ds)))
theorem storeO_of {K : PySem.W.Frag} {F Hs H : Hp} {σ : St} {ε : PEnv} {p : Addr} {vs : List V} {ds : List D} (R : RelS K F Hs σ H ε) (i : Nat) (hH : H p = some (.lst vs)) (hp : Hs p = none) (hF : F p = none) (hn : Nobody σ ε p) (r : Reps K Hs vs ds) :
    RelS K F Hs (σ.set i (some (.ref p))) H (ε.set i (some (.o ds))) := by
  refine R.storeO rfl i hn fun hi => ?_
  exact ⟨p, vs, by rw [List.getElem?_set_self (by rw [R.len]; exact hi)], hp, hF, hH, r⟩
theorem ys_setO (i : Nat) {x : Str} {pos' : Pos} {rn : PTN} (hN : X.N.Nodup) (hi : X.N[i]? = some x) (hx : Loc X.env.scope x) (he : YN X W Ξ e rn) (hs : swapsWith e (some (.Name x pos')) pos.line X.env = pure false := by rfl)
    (hf : X.fn x = true ∨ X.env.scope.names.lookup x = some .local := by first | exact .inl rfl | exact .inr rfl | assumption) : YS X W Ξ (.Assign [.Name x pos'] e pos) (ysAsgO rn i) := by
  obtain ⟨t, p, k⟩ := he.ex
  refine ⟨_, ps_set hN hi hx p hs hf, fun F Hs σ H ε Δ Dd R L q kk => k F Hs σ H ε _ _ R L q fun p H' Hs' vs ds ε' e R' g1 g2 g3 g4 rs q' => ?_⟩
  exact kk.nx _ H' Hs' _ e (storeO_of R' i g1 g2 g3 g4 rs) q'
/-- x = [.. for ..] -/
theorem ys_setLc (i : Nat) {y : Str} {py spos : Pos} {tg iter elt : Expr} {ifs : List Expr} {scope : Scope} {own : List (Str × Nat)} {ri : PTN} {g : PTG} {rt : PTT} {re : PTE} {sl : List Nat} (o : Bool) (hc : X.calm = true) (hN : X.N.Nodup) (hy : X.N[i]? = some y) (hyl : X.env.scope.names.lookup y = some .local)
    (hsw : swapsWith (.ListComp elt [⟨tg, iter, ifs, 0⟩] scope pos) (some (.Name y py)) spos.line X.env = pure true) (hi : YI X W Ξ tg iter ri) (ok : BlkOk X.N X.env.scope scope own)
    (hg : ∀ (s : Shared) (H : Hp) (C : Addr) (cl : List (Str × Addr)) (fp : List Addr), YG (X.blk s H scope (compEnvC scope cl C X.env) fp) tg g sl)
    (ht : ∀ (s : Shared) (H : Hp) (C : Addr) (cl : List (Str × Addr)) (fp : List Addr), YTs (X.blk s H scope (compEnvC scope cl C X.env) fp) W0 Ξ0 ifs rt)
    (he : ∀ (s : Shared) (H : Hp) (C : Addr) (cl : List (Str × Addr)) (fp : List Addr), YE (X.blk s H scope (compEnvC scope cl C X.env) fp) W0 Ξ0 elt re)
    (hsl : (sl.all fun i => (own.map (·.2)).contains i) = true := by decide) (hs : ∀ x, foldedSetIterable iter X.env x = pure x := by intro _; rfl) :
    YS X W Ξ (.Assign [.Name y py] (.ListComp elt [⟨tg, iter, ifs, 0⟩] scope pos) spos) (match o with
      | true => ysAsgO (ynLc ri g rt re (own.map (·.2))) i
      | false => ysAsg (yNew (ynLc ri g rt re (own.map (·.2)))) i) := by
  obtain ⟨wi, pi, ki⟩ := hi.ex
  refine ⟨_, ps_setLc (g := cG X.K g sl) (tt := cT X.K W0 Ξ0 rt) (te := cE X.K W0 Ξ0 re) hc hN hy hyl hsw pi ok (fun s H C cl fp => (hg s H C cl fp).canon) (fun s H C cl fp => (ht s H C cl fp).canon) (fun s H C cl fp => (he s H C cl fp).canon) hs, fun F Hs σ H ε Δ Dd R L q kk => ?_⟩
  cases o with
  | true =>
    refine lc_reads ki hsl F Hs σ H ε _ _ R L q fun p H' Hs' vs ds ε' e R' g1 g2 g3 g4 rs q' => ?_
    exact kk.nx _ H' Hs' _ e (storeO_of R' i g1 g2 g3 g4 rs) q'
  | false =>
    refine lc_reads ki hsl F Hs σ H ε _ _ R L q fun p H' Hs' vs ds ε' e R' g1 g2 g3 g4 rs q' => ?_
    exact kk.nx _ H' _ _ (e.trans (ex_upd g2)) ((R'.adopt g1 g2 g3 g4).store (.lst upd_same (rs.mono (ex_upd g2))) i) q'
/-- targets = e -/
def ysAsgG (re : PTE) (g : PTG) : PTS := fun Δ ε => re ε fun t ε' => out ε' t fun d ε2 => g d ε2 Δ.nx
theorem ys_asg {tg : Expr} {re : PTE} {g : PTG} {sl : List Nat} (he : YE X W Ξ e re) (hg : YG X tg g sl) (hs : swapsWithSole [tg] e pos.line X.env = pure false := by rfl) (hw : swappedStores [tg] e X.env = pure none := by rfl)
    (h1 : (assignEach [tg] X.env).map (·.2) = [assign tg X.env] := by rfl) : YS X W Ξ (.Assign [tg] e pos) (ysAsgG re g) := by
  obtain ⟨t, p, k⟩ := he.ex
  obtain ⟨tg', pg, kg⟩ := hg.ex
  refine ⟨_, ps_asg p pg hs hw h1, fun F Hs σ H ε Δ Dd R L q kk => k F Hs σ H ε _ _ R L q fun v H1 Hs1 t1 ε1 e1 R1 p1 q1 => ?_⟩
  obtain ⟨d, ε2, Hs2, e2, R2, rv, q2⟩ := R1.out p1 q1
  exact kg F Hs2 σ H1 ε2 v d _ _ R2 rv q2 fun σ3 H3 Hs3 ε3 e3 _ R3 q3 => kk.nx σ3 H3 Hs3 ε3 ((e1.trans e2).trans e3) R3 q3
/-- x += e -/
def ysAug (f : Int → Int → Int) (i : Nat) (re : PTE) : PTS := fun Δ ε => match ε[i]? with
  | some (some (.v (.int a))) => re ε fun t ε' => res ε' t (asI fun b => Δ.nx (ε'.set i (some (.v (.int (f a b))))))
  | _ => False
theorem ys_aug (i : Nat) {x : Str} {pos' : Pos} {op : Operator} {f : Int → Int → Int} {re : PTE} (ho : PIp X op (ipI f)) (hN : X.N.Nodup) (hi : X.N[i]? = some x) (hx : Loc X.env.scope x) (he : YE X W Ξ e re) (hf : X.fn x = true ∨ X.env.scope.names.lookup x = some .local := by first | exact .inl rfl | exact .inr rfl | assumption) :
    YS X W Ξ (.AugAssign (.Name x pos') op e pos) (ysAug f i re) := by
  obtain ⟨t, p, k⟩ := he.ex
  refine ⟨_, ps_aug hN hi hx p ho hf, fun F Hs σ H ε Δ Dd R L q kk => ?_⟩
  unfold ysAug at q
  split at q
  · rename_i a ea
    obtain ⟨v, h1, h2⟩ := R.sl i _ ea
    cases h2
    refine ⟨_, h1, k F Hs σ H ε _ _ R L q fun v H1 Hs1 t1 ε1 e1 R1 p1 q1 => ?_⟩
    obtain ⟨d, rv, q2⟩ := R1.res p1 q1
    cases d with
    | int b => exact ⟨a, b, rfl, rv.int', kk.nx _ H1 Hs1 _ e1 (R1.store (.int _) i) q2⟩
    | _ => exact False.elim q2
  · exact q.elim
theorem ys_augAdd (i : Nat) {x : Str} {pos' : Pos} {re : PTE} (hN : X.N.Nodup) (hi : X.N[i]? = some x) (hx : Loc X.env.scope x) (he : YE X W Ξ e re) (hf : X.fn x = true ∨ X.env.scope.names.lookup x = some .local := by first | exact .inl rfl | exact .inr rfl | assumption) :
    YS X W Ξ (.AugAssign (.Name x pos') .Add e pos) (ysAug (fun a b => a + b) i re) := ys_aug i ip_add hN hi hx he hf
/-- e -/
def ysDrop (re : PTE) : PTS := fun Δ ε => re ε fun _ ε' => Δ.nx ε'
theorem ys_expr {re : PTE} (he : YE X W Ξ e re) (hs : swapsWith e none pos.line X.env = pure false := by rfl) : YS X W Ξ (.Expr e pos) (ysDrop re) := by
  obtain ⟨t, p, k⟩ := he.ex
  exact ⟨_, ps_expr p hs, fun F Hs σ H ε Δ Dd R L q kk => k F Hs σ H ε _ _ R L q fun v H1 Hs1 t1 ε1 e1 R1 p1 q1 => kk.nx σ H1 Hs1 ε1 e1 R1 q1⟩
def ysRet (re : PTE) : PTS := fun Δ ε => re ε fun t ε' => out ε' t fun d ε2 => Δ.rt d ε2
theorem ys_ret {re : PTE} (he : YE X W Ξ e re) : YS X W Ξ (.Return (some e) pos) (ysRet re) := by
  obtain ⟨t, p, k⟩ := he.ex
  refine ⟨_, ps_ret p, fun F Hs σ H ε Δ Dd R L q kk => k F Hs σ H ε _ _ R L q fun v H1 Hs1 t1 ε1 e1 R1 p1 q1 => ?_⟩
  obtain ⟨d, ε2, Hs2, e2, R2, rv, q2⟩ := R1.out p1 q1
  exact kk.rt v σ H1 Hs2 d ε2 (e1.trans e2) R2 rv q2
def ysIf (rt : PTT) (r u : PTS) : PTS := fun Δ ε => rt ε fun k ε' => match k with
  | true => r Δ ε'
  | false => u Δ ε'
theorem ys_if {c : Expr} {a b : List Stmt} {rt : PTT} (hc : YT X W Ξ c rt) (ha : YSs X W Ξ a r) (hb : YSs X W Ξ b u) : YS X W Ξ (.If c a b pos) (ysIf rt r u) := by
  obtain ⟨t, p, k⟩ := hc.ex
  obtain ⟨t1, p1, k1⟩ := ha.ex
  obtain ⟨t2, p2, k2⟩ := hb.ex
  refine ⟨_, ps_if p p1 p2, fun F Hs σ H ε Δ Dd R L q kk => k F Hs σ H ε _ _ R L q fun b H1 Hs1 ε1 e1 R1 q1 => ?_⟩
  cases b with
  | true =>
    show (if true = true then _ else _)
    rw [if_pos rfl]
    exact k1 F Hs1 σ H1 ε1 Δ Dd R1 (L.mono e1) q1 (kk.mono e1)
  | false =>
    show (if false = true then _ else _)
    rw [if_neg Bool.false_ne_true]
    exact k2 F Hs1 σ H1 ε1 Δ Dd R1 (L.mono e1) q1 (kk.mono e1)
/-- while, by an invariant and a measure -/
def ysWhile (rt : PTT) (rb : PTS) : PTS := fun Δ ε => ∃ Wp : Nat → PEnv → Prop, (∃ m, Wp m ε) ∧ ∀ m ε, Wp m ε → rt ε fun k ε' => match k with
  | true => rb { Δ with nx := fun ε2 => ∃ m', m' < m ∧ Wp m' ε2, ct := fun ε2 => ∃ m', m' < m ∧ Wp m' ε2, bk := Δ.nx } ε'
  | false => Δ.nx ε'
theorem ys_while {c : Expr} {body : List Stmt} {rt : PTT} {rb : PTS} (hp : PassesOwn (model X.prog X.w) X.A X.env X.xe) (hc : YT X W Ξ c rt) (hb : YSs X W Ξ body rb) : YS X W Ξ (.While c body [] pos) (ysWhile rt rb) := by
  obtain ⟨t, p, k⟩ := hc.ex
  obtain ⟨t1, p1, k1⟩ := hb.ex
  refine ⟨_, ps_while hp p p1, fun F Hs σ H ε Δ Dd R L q kk => ?_⟩
  obtain ⟨Wp, ⟨m0, w0⟩, turn⟩ := q
  refine ⟨fun m σ H => ∃ Hc ε, Ex Hs Hc ∧ RelS X.K F Hc σ H ε ∧ Wp m ε, ⟨m0, Hs, ε, Evl.Ex.refl _, R, w0⟩, ?_⟩
  rintro m σ1 H1 ⟨Hc, ε1, ec, R1, w1⟩
  refine k F Hc σ1 H1 ε1 _ _ R1 (L.mono ec) (turn m ε1 w1) fun b H2 Hs2 ε2 e2 R2 q2 => ?_
  cases b with
  | true =>
    show (if true = true then _ else _)
    rw [if_pos rfl]
    refine ⟨fun σ' H' => ∃ m', m' < m ∧ ∃ Hc ε, Ex Hs Hc ∧ RelS X.K F Hc σ' H' ε ∧ Wp m' ε, fun σ' H' ⟨m', hm, z⟩ => ⟨m', hm, z⟩, ?_⟩
    have again : ∀ (σ' : St) (H' Hs' : Hp) (ε' : PEnv), Ex Hs2 Hs' → RelS X.K F Hs' σ' H' ε' → (∃ m', m' < m ∧ Wp m' ε') → ∃ m', m' < m ∧ ∃ Hc ε, Ex Hs Hc ∧ RelS X.K F Hc σ' H' ε ∧ Wp m' ε :=
      fun σ' H' Hs' ε' e' R' ⟨m', hm, w'⟩ => ⟨m', hm, Hs', ε', (ec.trans e2).trans e', R', w'⟩
    exact k1 F Hs2 σ1 H2 ε2 _ _ R2 (L.mono (ec.trans e2)) q2 ⟨again, fun v σ' H' Hs' d ε' e' => kk.rt v σ' H' Hs' d ε' ((ec.trans e2).trans e'), fun σ' H' Hs' ε' e' => kk.nx σ' H' Hs' ε' ((ec.trans e2).trans e'), again⟩
  | false =>
    show (if false = true then _ else _)
    rw [if_neg Bool.false_ne_true]
    exact kk.nx σ1 H2 Hs2 ε2 (ec.trans e2) R2 q2
/-- for, by an invariant over the turn -/
def ysFor (ri : PTN) (g : PTG) (rb : PTS) : PTS := fun Δ ε => ri ε fun ds ε1 => ∃ Wp : Nat → PEnv → Prop, Wp 0 ε1 ∧
  (∀ i d ε, i < ds.length → ds[i]? = some d → Wp i ε → g d ε fun ε2 => rb { Δ with nx := Wp (i + 1), ct := Wp (i + 1), bk := Δ.nx } ε2) ∧ ∀ ε, Wp ds.length ε → Δ.nx ε
theorem ys_for {tg iter : Expr} {body : List Stmt} {ri : PTN} {g : PTG} {rb : PTS} {sl : List Nat} (hp : PassesOwn (model X.prog X.w) X.A X.env X.xe) (hc : X.calm = true) (hi : YI X W Ξ tg iter ri) (hg : YG X tg g sl) (hb : YSs X W Ξ body rb)
    (hs : ∀ x, foldedSetIterable iter X.env x = pure x := by intro _; rfl) : YS X W Ξ (.For tg iter body [] pos) (ysFor ri g rb) := by
  obtain ⟨wi, pi, ki⟩ := hi.ex
  obtain ⟨tg', pg, kg⟩ := hg.ex
  obtain ⟨t1, p1, k1⟩ := hb.ex
  refine ⟨_, ps_for hp hc pi pg p1 hs, fun F Hs σ H ε Δ Dd R L q kk => ?_⟩
  refine ki F Hs σ H ε _ _ R L q fun J H1 Hs1 ds ε1 e1 R1 sq ⟨Wp, w0, turn, done⟩ => ?_
  refine ⟨fun i m σ H => m = ds.length - i ∧ i ≤ ds.length ∧ ∃ Hc ε, Ex Hs1 Hc ∧ RelS X.K F Hc σ H ε ∧ Wp i ε, ⟨ds.length, by simp, Nat.zero_le _, Hs1, ε1, Evl.Ex.refl _, R1, w0⟩, ?_⟩
  rintro i m σ2 H2 ⟨rfl, hil, Hc, ε2, ec, R2, w2⟩
  by_cases hlt : i < ds.length
  · refine .inr ⟨sq.go i H2 (ec.trans R2.ex) hlt, fun σ' H' => ∃ Hc ε, Ex Hs1 Hc ∧ RelS X.K F Hc σ' H' ε ∧ Wp (i + 1) ε, fun σ' H' n' => ⟨ds.length - (i + 1), by omega, rfl, hlt, n'⟩, fun x H3 y => ?_⟩
    obtain ⟨Hc3, d, e3, R3, hd, rx⟩ := sq.yld i F Hc σ2 H2 ε2 x H3 ec R2 hlt y
    refine kg F Hc3 σ2 H3 ε2 x d _ _ R3 rx (turn i d ε2 hlt hd w2) fun σ4 H4 Hc4 ε4 e4 _ R4 q4 => ?_
    have ex4 : Ex Hs1 Hc4 := (ec.trans e3).trans e4
    have again : ∀ (σ' : St) (H' Hs' : Hp) (ε' : PEnv), Ex Hc4 Hs' → RelS X.K F Hs' σ' H' ε' → Wp (i + 1) ε' → ∃ Hc ε, Ex Hs1 Hc ∧ RelS X.K F Hc σ' H' ε ∧ Wp (i + 1) ε := fun σ' H' Hs' ε' e' R' w' => ⟨Hs', ε', ex4.trans e', R', w'⟩
    exact k1 F Hc4 σ4 H4 ε4 _ _ R4 (L.mono (e1.trans ex4)) q4 ⟨again, fun v σ' H' Hs' d ε' e' => kk.rt v σ' H' Hs' d ε' ((e1.trans ex4).trans e'), fun σ' H' Hs' ε' e' => kk.nx σ' H' Hs' ε' ((e1.trans ex4).trans e'), again⟩
  · have ei : i = ds.length := by omega
    subst ei
    exact .inl ⟨sq.stop _ H2 (ec.trans R2.ex) (Nat.le_refl _), kk.nx σ2 H2 Hc ε2 (e1.trans ec) R2 (done ε2 w2)⟩

/-! ### a name's own list: append, extend, pop, an item stored -/
def ysApp (i : Nat) (re : PTE) : PTS := fun Δ ε => match ε[i]? with
  | some (some (.o _)) => re ε fun t ε' => out ε' t fun d ε2 => match ε2[i]? with
    | some (some (.o ds)) => gd (ds.length < 16777216) (Δ.nx (ε2.set i (some (.o (ds ++ [d])))))
    | _ => False
  | _ => False
theorem ys_app (i : Nat) {x : Str} {px pa pc : Pos} {re : PTE} (hN : X.N[i]? = some x) (hv : Vis X.env.scope x) (he : YE X W Ξ e re) (hd : (x == ("__debug__" : Str)) = false := by decide) (hcd : (x == ("__classdict__" : Str)) = false := by decide)
    (hbase : attributeBase (.Name x px) "append" X.env (eval (.Name x px) X.env) = eval (.Name x px) X.env := by rfl)
    (hfew : ((backTo pc (starEach (e :: []) X.env)).all (fun x => !x.1) && (backToKw pc (keywordEach [] X.env)).all (fun x => x.1.isSome)
      && decide ((e :: []).length + ([] : List Keyword).length + (if ([] : List Keyword).isEmpty then 0 else 1) < 30)) = true := by rfl)
    (hline : (pa.endLine == pc.line) = true := by rfl) (hs : starEach (e :: []) X.env = (false, eval e X.env) :: starEach [] X.env := by rfl) (hplain : (backTo pc (starEach [] X.env)).any (·.1) = false := by rfl)
    (hsw : swapsWith (.Call (.Attribute (.Name x px) "append" pa) [e] [] pc) none pos.line X.env = pure false := by rfl) :
    YS X W Ξ (.Expr (.Call (.Attribute (.Name x px) "append" pa) [e] [] pc) pos) (ysApp i re) := by
  obtain ⟨t, p, k⟩ := he.ex
  refine ⟨_, ps_expr (pe_bm PySem.F.plainAttrs_list PySem.F.slot_list_append PySem.F.type_list_append mt_append (pe_var hN hv hd hcd) (pa_cons p pa_nil hs) hbase hfew hline hs hplain) hsw, fun F Hs σ H ε Δ Dd R L q kk => ?_⟩
  unfold ysApp at q
  split at q
  · rename_i ds0 e0
    obtain ⟨p0, vs0, h1, h2, h3, h4, h5⟩ := R.sl i _ e0
    refine ⟨_, h1, .inl ⟨rfl, _, SqL.of h4⟩, ?_⟩
    refine k F Hs σ H ε _ _ R L q fun v H1 Hs1 t1 ε1 e1 R1 p1 q1 => ?_
    obtain ⟨d, ε2, Hs2, e2, R2, rv, q2⟩ := R1.out p1 q1
    split at q2
    · rename_i ds ei
      obtain ⟨p3, vs, g1, g2, g3, g4, g5⟩ := R2.sl i _ ei
      rw [h1] at g1
      cases g1
      have q2 := gd_elim q2
      refine ⟨_, vs, v, rfl, rfl, g4, by rw [g5.len]; exact line_lt q2.1, ?_⟩
      refine kk.nx σ _ Hs2 _ (e1.trans e2) (R2.change (s' := .o (ds ++ [d])) ei rfl rfl h1 g2 g3 ⟨_, _, h1, g2, g3, upd_same, g5.append (.cons rv .nil)⟩) q2.2
    · exact q2.elim
  · exact q.elim
def ysExt (i : Nat) (re : PTE) : PTS := fun Δ ε => match ε[i]? with
  | some (some (.o _)) => re ε fun t ε' => out ε' t fun d ε2 => match d, ε2[i]? with
    | .lst es, some (some (.o ds)) => gd (ds.length + es.length ≤ 16777216) (Δ.nx (ε2.set i (some (.o (ds ++ es)))))
    | _, _ => False
  | _ => False
theorem ys_ext (i : Nat) {x : Str} {px pa pc : Pos} {re : PTE} (hN : X.N[i]? = some x) (hv : Vis X.env.scope x) (he : YE X W Ξ e re) (hd : (x == ("__debug__" : Str)) = false := by decide) (hcd : (x == ("__classdict__" : Str)) = false := by decide)
    (hbase : attributeBase (.Name x px) "extend" X.env (eval (.Name x px) X.env) = eval (.Name x px) X.env := by rfl)
    (hfew : ((backTo pc (starEach (e :: []) X.env)).all (fun x => !x.1) && (backToKw pc (keywordEach [] X.env)).all (fun x => x.1.isSome)
      && decide ((e :: []).length + ([] : List Keyword).length + (if ([] : List Keyword).isEmpty then 0 else 1) < 30)) = true := by rfl)
    (hline : (pa.endLine == pc.line) = true := by rfl) (hs : starEach (e :: []) X.env = (false, eval e X.env) :: starEach [] X.env := by rfl) (hplain : (backTo pc (starEach [] X.env)).any (·.1) = false := by rfl)
    (hsw : swapsWith (.Call (.Attribute (.Name x px) "extend" pa) [e] [] pc) none pos.line X.env = pure false := by rfl) :
    YS X W Ξ (.Expr (.Call (.Attribute (.Name x px) "extend" pa) [e] [] pc) pos) (ysExt i re) := by
  obtain ⟨t, p, k⟩ := he.ex
  refine ⟨_, ps_expr (pe_bm PySem.F.plainAttrs_list PySem.F.slot_list_extend PySem.F.type_list_extend mt_extend (pe_var hN hv hd hcd) (pa_cons p pa_nil hs) hbase hfew hline hs hplain) hsw, fun F Hs σ H ε Δ Dd R L q kk => ?_⟩
  unfold ysExt at q
  split at q
  · rename_i ds0 e0
    obtain ⟨p0, vs0, h1, h2, h3, h4, h5⟩ := R.sl i _ e0
    refine ⟨_, h1, .inl ⟨rfl, _, SqL.of h4⟩, ?_⟩
    refine k F Hs σ H ε _ _ R L q fun v H1 Hs1 t1 ε1 e1 R1 p1 q1 => ?_
    obtain ⟨d, ε2, Hs2, e2, R2, rv, q2⟩ := R1.out p1 q1
    split at q2
    · rename_i es ds ei
      obtain ⟨p3, vs, g1, g2, g3, g4, g5⟩ := R2.sl i _ ei
      rw [h1] at g1
      cases g1
      have q2 := gd_elim q2
      cases rv with
      | lst hb rb =>
        refine ⟨_, _, vs, _, rfl, rfl, g4, R2.ex _ _ hb, by rw [g5.len, rb.len]; exact line_le q2.1, ?_⟩
        exact kk.nx σ _ Hs2 _ (e1.trans e2) (R2.change (s' := .o (ds ++ es)) ei rfl rfl h1 g2 g3 ⟨_, _, h1, g2, g3, upd_same, g5.append rb⟩) q2.2
    · exact q2.elim
  · exact q.elim
def unsnoc : List D → Option (List D × D)
  | [] => none
  | [d] => some ([], d)
  | d :: e :: ds => match unsnoc (e :: ds) with
    | some (es, x) => some (d :: es, x)
    | none => none
theorem unsnoc_snoc : ∀ (es : List D) (d : D), unsnoc (es ++ [d]) = some (es, d)
  | [], d => rfl
  | [e], d => rfl
  | e :: e2 :: es, d => by
    show (match unsnoc ((e2 :: es) ++ [d]) with
      | some (es, x) => some (e :: es, x)
      | none => none) = some (e :: e2 :: es, d)
    rw [unsnoc_snoc (e2 :: es) d]
theorem unsnoc_elim : ∀ {ds es : List D} {d : D}, unsnoc ds = some (es, d) → ds = es ++ [d]
  | [], _, _, h => by cases h
  | [x], _, _, h => by cases h; rfl
  | x :: y :: ds, es, d, h => by
    have h2 : (match unsnoc (y :: ds) with
      | some (es, z) => some (x :: es, z)
      | none => none) = some (es, d) := h
    split at h2
    · rename_i e
      cases h2
      rw [unsnoc_elim e] <;> rfl
    · cases h2
def yPop (i : Nat) : PTE := fun ε Q => match ε[i]? with
  | some (some (.o ds)) => opt (unsnoc ds) fun p => Q (.d p.2) (ε.set i (some (.o p.1)))
  | _ => False
theorem Reps.last {K : PySem.W.Frag} {H : Hp} {vs : List V} {es : List D} {d : D} (r : Reps K H vs (es ++ [d])) : ∃ v, vs[vs.length - 1]? = some v ∧ Rep K H v d ∧ Reps K H vs.dropLast es := by
  have hl := r.len
  rw [List.length_append] at hl
  have h1 : (es ++ [d])[vs.length - 1]? = some d := by
    have e : vs.length - 1 = es.length := by
      have : ([d] : List D).length = 1 := rfl
      omega
    rw [e]
    simp
  obtain ⟨v, h2, h3⟩ := r.get h1
  refine ⟨v, h2, h3, ?_⟩
  rw [List.dropLast_eq_take]
  have h4 := r.take (vs.length - 1)
  have e : (es ++ [d]).take (vs.length - 1) = es := by
    have e : vs.length - 1 = es.length := by
      have : ([d] : List D).length = 1 := rfl
      omega
    rw [e]
    simp
  rw [e] at h4
  exact h4
theorem ye_pop (i : Nat) {x : Str} {px pa pc : Pos} (hN : X.N[i]? = some x) (hv : Vis X.env.scope x) (hd : (x == ("__debug__" : Str)) = false := by decide) (hcd : (x == ("__classdict__" : Str)) = false := by decide)
    (hbase : attributeBase (.Name x px) "pop" X.env (eval (.Name x px) X.env) = eval (.Name x px) X.env := by rfl) (hline : (pa.endLine == pc.line) = true := by rfl) :
    YE X W Ξ (.Call (.Attribute (.Name x px) "pop" pa) [] [] pc) (yPop i) := by
  refine ⟨_, pe_bm0 PySem.F.plainAttrs_list PySem.F.slot_list_pop PySem.F.type_list_pop mt_pop (pe_var hN hv hd hcd) hbase hline, fun F Hs σ H ε Q' Q R L q k => ?_⟩
  unfold yPop at q
  split at q
  · rename_i ds e0
    obtain ⟨⟨es, d⟩, eu, q2⟩ := opt_elim q
    have eu := unsnoc_elim eu
    subst eu
    obtain ⟨p0, vs, h1, h2, h3, h4, h5⟩ := R.sl i _ e0
    obtain ⟨v, l1, l2, l3⟩ := h5.last
    refine ⟨_, h1, .inl ⟨rfl, _, SqL.of h4⟩, _, vs, v, rfl, rfl, h4, l1, ?_⟩
    exact k v _ Hs (.d d) _ (Evl.Ex.refl _) (R.change (s' := .o es) e0 rfl rfl h1 h2 h3 ⟨_, _, h1, h2, h3, upd_same, l3⟩) l2 q2
  · exact q.elim
def ysSetIx (i : Nat) (rj re : PTE) : PTS := fun Δ ε => re ε fun t ε1 => out ε1 t fun d ε2 => (match ε2[i]? with
  | some (some (.o _)) => rj ε2 fun t2 ε3 => res ε3 t2 (asI fun j => match ε3[i]? with
    | some (some (.o ds)) => opt (ixN ds.length j) fun n => Δ.nx (ε3.set i (some (.o (ds.set n d))))
    | _ => False)
  | _ => False)
theorem ys_setIx (i : Nat) {x : Str} {px ps : Pos} {j : Expr} {rj re : PTE} (hN : X.N[i]? = some x) (hv : Vis X.env.scope x) (hj : YE X W Ξ j rj) (he : YE X W Ξ e re) (hd : (x == ("__debug__" : Str)) = false := by decide) (hcd : (x == ("__classdict__" : Str)) = false := by decide)
    (ha : ∀ v, assign (.Subscript (.Name x px) j ps) X.env v = (do
      let ov ← holding [v] (eval (.Name x px) X.env)
      let iv ← holding [v, ov] (eval j X.env)
      standAt ps
      holding [v, ov, iv] (setItem ov iv v)
      release [v, ov, iv] []) := by intro _; rfl) (hs : swapsWithSole [.Subscript (.Name x px) j ps] e pos.line X.env = pure false := by rfl) (hw : swappedStores [.Subscript (.Name x px) j ps] e X.env = pure none := by rfl)
    (h1 : (assignEach [.Subscript (.Name x px) j ps] X.env).map (·.2) = [assign (.Subscript (.Name x px) j ps) X.env] := by rfl) :
    YS X W Ξ (.Assign [.Subscript (.Name x px) j ps] e pos) (ysSetIx i rj re) := by
  obtain ⟨t, p, k⟩ := he.ex
  obtain ⟨t2, p2, k2⟩ := hj.ex
  refine ⟨_, ps_asg p (pg_sub (pe_var hN hv hd hcd) p2 set_list ha) hs hw h1, fun F Hs σ H ε Δ Dd R L q kk => ?_⟩
  refine k F Hs σ H ε _ _ R L q fun v H1 Hs1 t1 ε1 e1 R1 p1 q1 => ?_
  obtain ⟨d, ε2, Hs2, e2, R2, rv, q2⟩ := R1.out p1 q1
  split at q2
  · rename_i ds0 e0
    obtain ⟨p0, vs0, g1, _⟩ := R2.sl i _ e0
    refine ⟨_, g1, ?_⟩
    refine k2 F Hs2 σ H1 ε2 _ _ R2 (L.mono (e1.trans e2)) q2 fun w H3 Hs3 t3 ε3 e3 R3 p3 q3 => ?_
    obtain ⟨dj, rj, q4⟩ := R3.res p3 q3
    cases dj with
    | int jj =>
      have q4 : (match ε3[i]? with
        | some (some (.o ds)) => opt (ixN ds.length jj) fun n => Δ.nx (ε3.set i (some (.o (ds.set n d))))
        | _ => False) := q4
      split at q4
      · rename_i ds ei
        obtain ⟨n, hn, q5⟩ := opt_elim q4
        obtain ⟨p3, vs, f1, f2, f3, f4, f5⟩ := R3.sl i _ ei
        rw [g1] at f1
        cases f1
        refine ⟨_, vs, jj, n, rfl, rj.int', f4, by rw [f5.len]; exact hn, ?_⟩
        exact kk.nx σ _ Hs3 _ ((e1.trans e2).trans e3) (R3.change (s' := .o (ds.set n d)) ei rfl rfl g1 f2 f3 ⟨_, _, g1, f2, f3, upd_same, f5.set (rv.mono e3) n⟩) q5
      · exact q4.elim
    | _ => exact False.elim q4
  · exact q2.elim

/-! ### raise -/
def ysRaise (c : Nat) (Ξ : Xi) : PTS := fun _ ε => Ξ c ε
theorem pmk_own0 {C : Addr} {bmB : List Value} {B newId initId : String} {x : Str} {p : Pos} (F : ExcBaseFacts B newId initId bmB) (q : PySem.W.excIn X.K C bmB newId = true) (gC : X.mg x = some (.ref C))
    (kC : PySem.W.keepIn X.K (.ref C) = true) (r : Raises X (.ref C)) (hg : Gl X x) (hdb : (x == ("__debug__" : Str)) = false := by decide) : PMk X (.Call (.Name x p) [] [] pos) (fun _ H Q => Q (.ref C) none H) := by
  intro pins s σ H Q I h
  refine wpAny_Call_Name_kw (ld_glob I hg gC ?_ hdb)
  refine PySem.W.callWith_K0 I.kIn kC ?_
  obtain ⟨bm, N, nm, qn, bs, hdct, sn, sub, ab, col, dd, k0, k1, k2, k3, k5, mN, hC, hN, hni, T⟩ := exc_obj I.kIn q
  refine wpAny_call_exc_subT F T hC hN hni (fun h' e hm => ?_) (by decide)
  exact mk_of I hm r h (I.hok.gone hm.new)
theorem ys_raise (c : Nat) {bmB : List Value} {B newId initId : String} {p p2 : Pos} (hc : X.calm = true) (tk : Takes X W) (F : ExcBaseFacts B newId initId bmB) (q : PySem.W.excIn X.K (exA X.K c) bmB newId = true) (gC : X.mg (exS c) = some (.ref (exA X.K c)))
    (kC : PySem.W.keepIn X.K (.ref (exA X.K c)) = true) (r : Raises X (.ref (exA X.K c))) {x : Str} (hx : exS c = x := by rfl) (hg : Gl X x) (hdb : (x == ("__debug__" : Str)) = false := by decide) : YS X W Ξ (.Raise (some (.Call (.Name x p) [] [] p2)) none pos) (ysRaise c Ξ) := by
  subst hx
  exact
  ⟨_, ps_raise hc tk (pmk_own0 F q gC kC r hg hdb), fun F Hs σ H ε Δ Dd R L q k => L c σ H Hs ε q (Evl.Ex.refl _) R⟩
end

/-! ### a def -/
def startE (N : List Str) (ds : List D) : PEnv := ds.map (fun d => some (.v d)) ++ List.replicate (N.length - ds.length) none
def foreign (Hs H : Hp) : Hp := fun p => match Hs p with
  | none => H p
  | some _ => none
theorem foreign_some {Hs H : Hp} {p : Addr} {o : HO} (h : foreign Hs H p = some o) : H p = some o ∧ Hs p = none := by
  unfold foreign at h
  cases e : Hs p with
  | none => rw [e] at h; exact ⟨h, rfl⟩
  | some u => rw [e] at h; cases h
theorem foreign_of {Hs H : Hp} {p : Addr} {o : HO} (h : H p = some o) (hn : Hs p = none) : foreign Hs H p = some o := by
  unfold foreign
  rw [hn]
  exact h
theorem RelS.keeps {K : PySem.W.Frag} {Hs H Hs' H' : Hp} {σ' : St} {ε' : PEnv} (R : RelS K (foreign Hs H) Hs' σ' H' ε') (e : Ex Hs Hs') : Keeps Hs H Hs' H' := ⟨e, R.ex, fun p o h hn => R.fr p o (foreign_of h hn)⟩
theorem start_get {N : List Str} {ds : List D} {i : Nat} {s : S} (h : (startE N ds)[i]? = some (some s)) : ∃ d, ds[i]? = some d ∧ s = .v d := by
  unfold startE at h
  by_cases hi : i < ds.length
  · rw [List.getElem?_append_left (by rw [List.length_map]; exact hi), List.getElem?_map] at h
    cases e : ds[i]? with
    | none => rw [e] at h; cases h
    | some d =>
      rw [e] at h
      refine ⟨d, rfl, ?_⟩
      exact (Option.some.inj (Option.some.inj h)).symm
  · rw [List.getElem?_append_right (by rw [List.length_map]; omega), List.getElem?_replicate] at h
    split at h <;> cases h
theorem start_at {N : List Str} {vs : List V} {i : Nat} {v : V} (h : vs[i]? = some v) : (L2.start N vs)[i]? = some (some v) := by
  unfold L2.start
  have hi : i < vs.length := (List.getElem?_eq_some_iff.mp h).1
  rw [List.getElem?_append_left (by rw [List.length_map]; exact hi), List.getElem?_map, h] <;> rfl
theorem rel_start {K : PySem.W.Frag} {Hs H : Hp} {N : List Str} {vs : List V} {ds : List D} (e : Ex Hs H) (r : Reps K Hs vs ds) : RelS K (foreign Hs H) Hs (L2.start N vs) H (startE N ds) := by
  refine ⟨e, fun p o h => foreign_some h, ?_, fun i s h => ?_, fun i j s t hn h1 h2 h3 h4 => ?_⟩
  · unfold L2.start startE
    rw [List.length_append, List.length_append, List.length_map, List.length_map, List.length_replicate, List.length_replicate, r.len]
  · obtain ⟨d, hd, rfl⟩ := start_get h
    obtain ⟨v, hv, rv⟩ := r.get hd
    exact ⟨v, start_at hv, rv⟩
  · obtain ⟨d, hd, rfl⟩ := start_get h1
    cases h3
section
variable {P : Program} {w : World} {K : PySem.W.Frag} {mg : Str → Option Value} {base : Heap} {x qual : Str} {params : Arguments} {body : List Stmt} {scope : Scope} {dvs : List V} {kws : List (Str × V)} {f : Addr} {fd : FuncData} {N ps : List Str} {k : Nat} {φ : Spec}
abbrev cxY (P : Program) (w : World) (K : PySem.W.Frag) (mg : Str → Option Value) (base : Heap) (N : List Str) (qual : Str) (scope : Scope) (f : Addr) (cdv : Value) (A : Around) (outer : List Env) (s : Shared) (H : Hp) (E : XK) : Cx := cxOf (L2.CX P w) P w K mg base N qual scope f cdv A outer s H E
abbrev wY (E : XK) : WX := fun cls d _ H => E cls d H
theorem fun_ok (F : FunD K x qual params body scope dvs kws f fd) (S : FnScope N ps scope) (len : ∀ ds Q E, φ ds Q E → ds.length = ps.length) (r : Xi → PTS)
    (hbody : ∀ (cdv : Value) (A : Around) (outer : List Env) (s : Shared) (H : Hp) (E : XK) (Ξ : Xi), Room k (A.deeper (envOfC qual scope s.heap.objs.size f cdv)) → YSs (cxY P w K mg base N qual scope f cdv A outer s H E) (wY E) Ξ body (r Ξ))
    (vc : ∀ (ds : List D) (Q' : D → Prop) (E' : Nat → Prop), φ ds Q' E' → r (fun c _ => E' c) { nx := fun _ => Q' .non, rt := fun d _ => Q' d } (startE N ds)) : FnOk P w K mg base (L2.CX P w) (k + 1) f fd ps (pSp K φ) := by
  refine F.ok S (fun vs H Q E h => ?_) (fun cdv A outer s H vs Q E hr h => ?_)
  · obtain ⟨Hs, ds, Q', E', _, rs, h, _⟩ := h
    rw [rs.len]
    exact len ds Q' E' h
  · obtain ⟨Hs, ds, Q', E', ex, rs, h, hq, he⟩ := h
    obtain ⟨t, p, kk⟩ := (hbody cdv A outer s H E (fun c _ => E' c) hr).ex
    refine ⟨t, p, kk (foreign Hs H) Hs _ H _ _ _ (rel_start ex rs) (fun c σ' H' Hs' ε' hc e' R' => he c hc H' Hs' (R'.keeps e')) (vc ds Q' E' h) ⟨fun σ' H' Hs' ε' e' R' q' => ?_, fun v σ' H' Hs' d ε' e' R' rv q' => ?_, fun _ _ _ _ _ _ q => q.elim, fun _ _ _ _ _ _ q => q.elim⟩⟩
    · exact hq .non q' .non H' Hs' (R'.keeps e') .non
    · exact hq d q' v H' Hs' (R'.keeps e') rv
end
end PL

set_option Elab.async false
set_option linter.all false
set_option autoImplicit false
set_option maxRecDepth 100000
set_option maxHeartbeats 2000000
/-! try, a pair stored, the pool opened in a def, the law's end. -/
namespace PL
open PySem PySem.Spec PyProof.Rows L2
open Evl (Ex)

/-! ### try: .. except PageError as e: .. -/
/-- is class c one that an except clause of class t takes (0: the base of all) -/
def exSub (c t : Nat) : Bool := c == t || t == 0
/-- what the written part says of the classes in cs -/
structure ExK (K : PySem.W.Frag) (cs : List Nat) : Prop where
  exm : ∀ c ∈ cs, PySem.W.exmOne K (.ref (exA K c)) (.ref (exA K 0)) = some true
  kit : ∀ c ∈ cs, ∀ t ∈ cs, PySem.W.kitOne K (.ref (exA K c)) (.ref (exA K t)) = some (exSub c t)
  exc : ∀ c ∈ cs, ExcC K (exA K c)
section
variable {X : Cx} {W : WX} {Ξ : Xi}
/-- the suite sees the error's class as a datum -/
def excD (a : Addr) : D := .vl (.ref a)
def ysTry (cs : List Nat) (i : Nat) (rb : Xi → PTS) (rs : Addr → Nat → PTS) : PTS := fun Δ ε =>
  rb (fun c ε' => c ∈ cs ∧ ∀ a : Addr, rs a c { nx := fun ε2 => Δ.nx (ε2.set i none), rt := fun d ε2 => Δ.rt d (ε2.set i none), bk := fun ε2 => Δ.bk (ε2.set i none), ct := fun ε2 => Δ.ct (ε2.set i none) } (ε'.set i (some (.v (excD a))))) Δ ε
theorem RelS.drop {K : PySem.W.Frag} {F Hs H : Hp} {σ : St} {ε : PEnv} (R : RelS K F Hs σ H ε) (i : Nat) : RelS K F Hs (σ.set i none) H (ε.set i none) := by
  refine ⟨R.ex, R.fr, by rw [List.length_set, List.length_set]; exact R.len, fun j t q => ?_, fun j k t u hn h1 h2 h3 h4 => ?_⟩
  · have hj : i ≠ j := by
      rintro rfl
      by_cases hi : i < ε.length
      · rw [List.getElem?_set_self hi] at q; cases q
      · rw [List.getElem?_eq_none (by rw [List.length_set]; omega)] at q; cases q
    rw [List.getElem?_set_ne hj] at q
    exact (R.sl j t q).at (List.getElem?_set_ne hj)
  · have ne : ∀ (j : Nat) (t : S), (ε.set i none)[j]? = some (some t) → i ≠ j := by
      rintro j t q rfl
      by_cases hi : i < ε.length
      · rw [List.getElem?_set_self hi] at q; cases q
      · rw [List.getElem?_eq_none (by rw [List.length_set]; omega)] at q; cases q
    have nj := ne j t h1
    have nk := ne k u h2
    rw [List.getElem?_set_ne nj] at h1 ⊢
    rw [List.getElem?_set_ne nk] at h2 ⊢
    exact R.ds j k t u hn h1 h2 h3 h4
theorem ys_try {cs : List Nat} (i : Nat) {n x : Str} {body suite : List Stmt} {b₀ : Stmt} {np pos pos' : Pos} {rb : Xi → PTS} {rs : Addr → Nat → PTS} (xk : ExK X.K cs) (hs : X.stack = X.env :: X.outer) (hf : X.env.frame = some X.env.locals) (hN : X.N.Nodup) (hi : X.N[i]? = some n)
    (hln : X.env.kindOf n = some .local) (hx : exS 0 = x) (hc : Names X x (.ref (exA X.K 0))) (tk : Takes X W)
    (hb : ∀ (W : WX) (Ξ : Xi) (pn : List (Addr × Obj)) (xe : Value → Shared → Prop), Takes (X.tr pn xe) W → PassesOwn (model X.prog X.w) X.A X.env xe → YSs (X.tr pn xe) W Ξ body (rb Ξ))
    (hsu : ∀ (c : Nat) (a : Addr) (oe : Obj) (pn : List (Addr × Obj)), c ∈ cs → ExcC X.K (exA X.K c) → Zc (.ref (exA X.K c)) none oe → (∃ vs, oe.data = .fields vs) → YSs (X.suite a ((a, oe) :: pn)) W0 Ξ0 (b₀ :: suite) (rs a c)) :
    YS X W Ξ (.Try body [.ExceptHandler (some (.Name x np)) (some n) (b₀ :: suite) pos'] [] [] pos) (ysTry cs i rb rs) := by
  subst hx
  let ts : Addr → Value → Option Addr → TS := fun a cls d Dd σ H => ∃ c, c ∈ cs ∧ cls = .ref (exA X.K c) ∧ d = none ∧ cSs X.K W0 Ξ0 (rs a c) Dd σ H
  have hsu' : ∀ (a : Addr) (oe : Obj) (cls : Value) (d : Option Addr) (pn : List (Addr × Obj)), Zc cls d oe → (∃ vs, oe.data = .fields vs) → PSs (X.suite a ((a, oe) :: pn)) (b₀ :: suite) (ts a cls d) := by
    intro a oe cls d pn hz hfv
    refine ⟨fun pins s σ H Dd I ⟨c, hc1, e1, e2, q⟩ => ?_⟩
    subst e1 e2
    exact (hsu c a oe pn hc1 (xk.exc c hc1) hz hfv).canon.run pins s σ H Dd I q
  -- the body, for any wish
  let tb : WX → TS := fun Wb Dd σ H => ∃ (Ξb : Xi), cSs X.K Wb Ξb (rb Ξb) Dd σ H
  have hb' : ∀ (W : WX) (pn : List (Addr × Obj)) (xe : Value → Shared → Prop), Takes (X.tr pn xe) W → PassesOwn (model X.prog X.w) X.A X.env xe → PSs (X.tr pn xe) body (tb W) := by
    intro W pn xe tk po
    exact ⟨fun pins s σ H Dd I ⟨Ξb, q⟩ => (hb W Ξb pn xe tk po).canon.run pins s σ H Dd I q⟩
  refine ⟨_, ps_try_as (ts := ts) (tb := tb) hs hf hN hi hln hc tk hb' hsu', fun F Hs σ H ε Δ Dd R L q kk => ?_⟩
  refine ⟨_, F, Hs, ε, Δ, R, ?_, q, kk⟩
  intro c σ' H' Hs' ε' hq e' R'
  obtain ⟨hc1, hq⟩ := hq
  refine ⟨true, xk.exm c hc1, fun _ a na => ?_, fun h => Bool.noConfusion h⟩
  have R2 : RelS X.K F Hs' (σ'.set i (some (.ref a))) H' (ε'.set i (some (.v (excD a)))) := R'.store (.vl (.ref a)) i
  refine ⟨c, hc1, rfl, rfl, F, Hs', _, _, R2, Lk.none, hq a, ⟨fun σ3 H3 Hs3 ε3 e3 R3 q3 => ?_, fun v σ3 H3 Hs3 d ε3 e3 R3 rv q3 => ?_, fun σ3 H3 Hs3 ε3 e3 R3 q3 => ?_, fun σ3 H3 Hs3 ε3 e3 R3 q3 => ?_⟩⟩
  · exact kk.nx _ H3 Hs3 _ (e'.trans e3) (R3.drop i) q3
  · exact kk.rt v _ H3 Hs3 d _ (e'.trans e3) (R3.drop i) rv q3
  · exact kk.bk _ H3 Hs3 _ (e'.trans e3) (R3.drop i) q3
  · exact kk.ct _ H3 Hs3 _ (e'.trans e3) (R3.drop i) q3
/-- isinstance(e, C), e what the suite holds -/
def yIsE (i : Nat) (a : Addr) (c t : Nat) : PTE := fun ε Q => ε[i]? = some (some (.v (excD a))) ∧ Q (.d (.bl (exSub c t))) ε
theorem ye_isE {a : Addr} {oe : Obj} {pn : List (Addr × Obj)} {cs : List Nat} (c t i : Nat) {n x : Str} {p p1 p2 pos : Pos} (xk : ExK X.K cs) (hc1 : c ∈ cs) (ht1 : t ∈ cs) (hz : Zc (.ref (exA X.K c)) none oe) (hf : ∃ vs, oe.data = .fields vs) (hg : Gl X "isinstance") (hm : X.mg "isinstance" = none)
    (hN : X.N[i]? = some n) (hv : Vis X.env.scope n) (hx : exS t = x) (hgx : Gl X x) (hmx : X.mg x = some (.ref (exA X.K t))) (hd : (n == ("__debug__" : Str)) = false := by decide) (hcd : (n == ("__classdict__" : Str)) = false := by decide) (hdx : (x == ("__debug__" : Str)) = false := by decide)
    (hst : starEach [.Name n p1, .Name x p2] X.env = (false, eval (.Name n p1) X.env) :: starEach [.Name x p2] X.env := by rfl) (hs2 : starEach [.Name x p2] X.env = (false, eval (.Name x p2) X.env) :: starEach [] X.env := by rfl) (hpl : (backTo pos (starEach [.Name x p2] X.env)).any (·.1) = false := by rfl) :
    YE (X.suite a ((a, oe) :: pn)) W Ξ (.Call (.Name "isinstance" p) [.Name n p1, .Name x p2] [] pos) (yIsE i a c t) := by
  subst hx
  have C := xk.exc c hc1
  refine ⟨_, pe_callB (X := X.suite a ((a, oe) :: pn)) (call_isE (X := X) C hz hf) hg hm PyProof.Rows.boot_isinstance (pa_cons (X := X.suite a ((a, oe) :: pn)) (pe_var (X := X.suite a ((a, oe) :: pn)) hN hv hd hcd) (pa_cons (X := X.suite a ((a, oe) :: pn)) (pe_glob (X := X.suite a ((a, oe) :: pn)) (v := .ref (exA X.K t)) hgx hmx rfl hdx) pa_nil hs2) hst) (by decide) (by decide) hst hpl, fun F Hs σ H ε Q' Q R L q k => ?_⟩
  obtain ⟨e0, q⟩ := q
  obtain ⟨v, h1, h2⟩ := R.sl i _ e0
  cases h2
  refine ⟨_, h1, ?_⟩
  exact ⟨.ref (exA X.K t), .ref (exA X.K t), exSub c t, rfl, fun u r => r, xk.kit c hc1 t ht1, k (.bl _) H Hs (.d (.bl _)) ε (Evl.Ex.refl _) R (.bl _) q⟩
end
end PL

set_option Elab.async false
set_option linter.all false
set_option autoImplicit false
set_option maxRecDepth 100000
set_option maxHeartbeats 2000000
/-! The stream of numbers, made, drawn from; a pair stored; the law's end. -/
namespace PL
open PySem PySem.Spec PyProof.Rows L2
open Evl (Ex)

/-! ### one tracked object told otherwise -/
section
variable {P : Program} {w : World} {H : Hp} {h h' : Heap} {p : Addr} {o o' : HO}
theorem retell_ok (ok : HOk P w H h) (hp : H p = some o) (n1 : ∀ a, o ≠ .own a) (n2 : ∀ xs, o ≠ .tup xs) (new : ObjOk P w (upd H p o') h p o') : HOk P w (upd H p o') h := fun b u e => by
  by_cases hb : b = p
  · subst hb
    rw [upd_same] at e
    cases e
    exact new
  · rw [upd_ne hb] at e
    have ne1 : ∀ c a, H c = some (.own a) → c ≠ p := fun c a q z => by
      subst z
      rw [hp] at q
      exact n1 a (Option.some.inj q)
    have ne2 : ∀ c xs, H c = some (.tup xs) → c ≠ p := fun c xs q z => by
      subst z
      rw [hp] at q
      exact n2 xs (Option.some.inj q)
    exact (ok b u e).stay (fun c v _ q => q) (fun c q => by rw [upd_ne (ne1 c b q)]; exact q) fun c xs q => by rw [upd_ne (ne2 c xs q)]; exact q
end
theorem pool_obj {P : Program} {w : World} {H : Hp} {h : Heap} {p : Addr} {ns : List Int} (x : ObjOk P w H h p (.lst (ns.map V.int))) (ok : PoolOk ns) (H' : Hp) : ObjOk P w H' h p (.ext (PoolAt p)) := by
  obtain ⟨z, its, n, r, e⟩ := x
  refine ⟨⟨its, n, ns, e, r, ok⟩, ⟨_, e⟩, fun h1 h2 ⟨its, n, ns, e, r, ok⟩ k => ⟨its, n, ns, k _ e, r, ok⟩⟩
theorem obj_pool {P : Program} {w : World} {H : Hp} {h : Heap} {p : Addr} (x : ObjOk P w H h p (.ext (PoolAt p))) (H' : Hp) : ∃ ns, PoolOk ns ∧ ObjOk P w H' h p (.lst (ns.map V.int)) := by
  obtain ⟨⟨its, n, ns, e, r, ok⟩, _⟩ := x
  refine ⟨ns, ok, ?_, its, n, r, e⟩
  rw [List.length_map, sizeLine_eq]
  exact Nat.le_trans ok.2.1 (by decide)
/-! ### drawing -/
/-- a draw, with the list in sight -/
def spPick : Sp := fun vs H Q _ => ∃ (p : Addr) (n : Int) (ns : List Int), vs = [.ref p, .int n] ∧ H p = some (.lst (ns.map V.int)) ∧ PoolOk ns ∧ 0 < n ∧
  ∀ (r : Int) (ns' : List Int), 0 ≤ r → r < n → PoolOk ns' → Q (.int r) (upd H p (.lst (ns'.map V.int)))
def φPick : Spec
  | [.pool, .int n], Q, _ => gd (0 < n) (∀ r : Int, 0 ≤ r → r < n → Q (.int r))
  | _, _, _ => False
theorem φPick_inv {ds : List D} {Q : D → Prop} {E : Nat → Prop} (h : φPick ds Q E) : ∃ n, ds = [.pool, .int n] ∧ 0 < n ∧ ∀ r : Int, 0 ≤ r → r < n → Q (.int r) := by
  unfold φPick at h
  split at h
  · exact ⟨_, rfl, gd_elim h⟩
  · exact h.elim
theorem cx_never {P : Program} {w : World} {outer : List Env} {H : Hp} {s s' : Shared} {u : Value} (h : L2.CX P w outer H s (fun _ _ _ => False) u s') : False := by
  obtain ⟨_, _, _, _, _, _, _, _, _, _, _, _, z⟩ := h
  exact z
section
variable {P : Program} {w : World} {K : PySem.W.Frag} {mg : Str → Option Value} {base : Heap} {k : Nat} {f : Addr} {fd : FuncData} {ps : List Str}
theorem env0_retell {A : Around} {outer : List Env} {s : Shared} {H : Hp} {p : Addr} {o o' : HO} (e : Env0 P w K mg base A outer s H) (hp : H p = some o) (n1 : ∀ a, o ≠ .own a) (n2 : ∀ xs, o ≠ .tup xs) (new : ObjOk P w (upd H p o') s.heap p o') : Env0 P w K mg base A outer s (upd H p o') :=
  
  have h1 : ∀ b, H b = none → upd H p o' b = none := fun b q => by
    have ne : b ≠ p := fun z => by
      subst z
      rw [q] at hp
      cases hp
    rw [upd_ne ne]
    exact q
  ⟨e.frames, e.mod, fun b u q => ⟨(e.bs b u q).1, h1 b (e.bs b u q).2⟩, e.bsz, e.funs, fun b hb => h1 b (e.frf b hb), retell_ok e.hok hp n1 n2 new, e.bare⟩
theorem pick_close (F : FnOk P w K mg base (L2.CX P w) k f fd ps spPick) : FnOk P w K mg base (L2.CX P w) k f fd ps (pSp K φPick) := by
  refine ⟨fun vs H Q E h => ?_, fun A outer s H args us vs Q E hr e0 hb hv h => ?_⟩
  · obtain ⟨Hs, ds, Q', E', ex, rs, h, _⟩ := h
    obtain ⟨n, rfl, h0n, hn⟩ := φPick_inv h
    · cases rs with
      | cons r1 r2 =>
        cases r2 with
        | cons r2 r3 =>
          cases r3
          cases r1
          cases r2
          exact F.len [.ref _, .int _] (upd H _ (.lst ([1, 1].map V.int))) (fun _ _ => True) (fun _ _ _ => False) ⟨_, _, [1, 1], rfl, upd_same, ⟨by decide, by decide, 1, rfl, by decide, by decide⟩, h0n, fun _ _ _ _ _ => trivial⟩
  · obtain ⟨Hs, ds, Q', E', ex, rs, h, hq, _⟩ := h
    obtain ⟨n, rfl, h0n, hn⟩ := φPick_inv h
    · cases rs with
      | cons r1 r2 =>
        cases r2 with
        | cons r2 r3 =>
          cases r3
          cases r1 with
          | pool hsp =>
            rename_i p
            cases r2
            have hp : H p = some (.ext (PoolAt p)) := ex _ _ hsp
            obtain ⟨ns, ok, ob⟩ := obj_pool (e0.hok p _ hp) (upd H p (.lst ([] : List V)))
            obtain ⟨ns, ok, ob⟩ := obj_pool (e0.hok p _ hp) (upd H p (.lst (ns.map V.int)))
            have ob2 : ObjOk P w (upd H p (.lst (ns.map V.int))) s.heap p (.lst (ns.map V.int)) := ob
            have e1 := env0_retell (o' := .lst (ns.map V.int)) e0 hp (fun a z => by cases z) (fun a z => by cases z) ob2
            refine codeAny_mono (F.run A outer s (upd H p (.lst (ns.map V.int))) args us [.ref p, .int n] (fun v H' => ∃ (r : Int) (ns' : List Int), v = .int r ∧ 0 ≤ r ∧ r < n ∧ PoolOk ns' ∧ H' = upd H p (.lst (ns'.map V.int))) (fun _ _ _ => False) hr e1 hb hv
              ⟨p, n, ns, rfl, upd_same, ok, h0n, fun r ns' h0 h1 ok' => ⟨r, ns', rfl, h0, h1, ok', upd_upd⟩⟩) fun rr s' hrr => ?_
            cases rr with
            | error e => exact (cx_never hrr).elim
            | ok fl =>
              cases fl with
              | ret u =>
                obtain ⟨v, H', os, bare, un, hok, rv, r, ns', rfl, h0, h1, ok', rfl⟩ := hrr
                have hpe : upd H p (.ext (PoolAt p)) = H := by
                  funext b
                  by_cases hb : b = p
                  · subst hb; rw [upd_same, hp]
                  · rw [upd_ne hb]
                have hok2 : HOk P w H s'.heap := by
                  have z := retell_ok (o' := .ext (PoolAt p)) hok (p := p) upd_same (fun a z => by cases z) (fun a z => by cases z) (pool_obj (hok p _ upd_same) ok' _)
                  rw [upd_upd, hpe] at z
                  exact z
                refine ⟨.int r, H, os, bare, ⟨fun b ob q n hf hx => un.keep b ob q ?_ hf hx, fun b ob q n hf hx => un.slot b ob q ?_ hf hx, fun b ob q n hx => n, un.there, fun b xs q => q, fun b ob u q => q, fun b ps q => ⟨#[], by rw [q]; simp⟩⟩, hok2, rv, ?_⟩
                · rw [upd_ne]
                  · exact n
                  · intro z; subst z; rw [hp] at n; cases n
                · rw [upd_ne]
                  · exact n
                  · intro z; subst z; rw [hp] at n; cases n
                · exact hq (.int r) (hn r h0 h1) (.int r) H Hs ⟨Evl.Ex.refl _, ex, fun b o q1 q2 => ⟨q1, q2⟩⟩ (.int r)
              | next => exact False.elim hrr
              | brk => exact False.elim hrr
              | cont => exact False.elim hrr
/-- the stream is made: a new list becomes the stream -/
def φList : Spec
  | [.frl ds], Q, _ => ∃ xs : List Int, ds = xs.map D.int ∧ xs.length ≤ 63 ∧ ∀ ns : List Int, PoolOk ns → Q (.lst (ns.map D.int))
  | _, _, _ => False
def φStream : Spec
  | [.frl ds], Q, _ => (∃ xs : List Int, ds = xs.map D.int ∧ xs.length ≤ 63) ∧ Q .pool
  | _, _, _ => False
/-- what is locked in H alone -/
def locked (H : Hp) : Hp := fun b => match H b with
  | some (.frz o u) => some (.frz o u)
  | _ => none
theorem locked_ex {H : Hp} : Ex (locked H) H := fun b o e => by
  unfold locked at e
  split at e
  · rename_i o' u h
    rw [h]
    exact e
  · cases e
theorem stream_close (F : FnOk P w K mg base (L2.CX P w) k f fd ps (pSp K φList)) : FnOk P w K mg base (L2.CX P w) k f fd ps (pSp K φStream) := by
  have conv : ∀ {vs H Q E}, pSp K φStream vs H Q E → pSp K φList vs H (fun v H' => ∃ (p : Addr) (ns : List Int) (Hs' : Hp), v = .ref p ∧ PoolOk ns ∧ Keeps (locked H) H Hs' H' ∧ Hs' p = some (.lst (ns.map V.int))) (fun _ _ _ => False) := by
    intro vs H Q E h
    obtain ⟨Hs, ds, Q', E', ex, rs, h, hq, he⟩ := h
    unfold φStream at h
    split at h
    · obtain ⟨⟨xs, rfl, hx⟩, h⟩ := h
      cases rs with
      | cons r1 r2 =>
        cases r2
        cases r1 with
        | frl hs rr =>
          rename_i a ws
          have er := rr.inv_ints
          subst er
          have hs2 : FrL K (locked H) a (xs.map V.int) := by
            rcases hs with ⟨o, hs⟩ | hs
            · refine .inl ⟨o, ?_⟩
              unfold locked
              rw [ex _ _ hs]
            · exact .inr hs
          refine ⟨locked H, _, fun d => ∃ ns, PoolOk ns ∧ d = .lst (ns.map D.int), fun _ => False, locked_ex, .cons (.frl hs2 (Reps.ints xs)) .nil, ⟨xs, rfl, hx, fun ns ok => ⟨ns, ok, rfl⟩⟩, fun d ⟨ns, ok, e⟩ v H' Hs' kp rv => ?_, fun _ z => z.elim⟩
          subst e
          cases rv with
          | lst hp rr2 =>
            have e2 := rr2.inv_ints
            subst e2
            exact ⟨_, ns, Hs', rfl, ok, kp, hp⟩
    · exact h.elim
  refine ⟨fun vs H Q E h => F.len _ _ _ _ (conv h), fun A outer s H args us vs Q E hr e0 hb hv h => ?_⟩
  refine codeAny_mono (F.run A outer s H args us vs _ (fun _ _ _ => False) hr e0 hb hv (conv h)) fun rr s' hrr => ?_
  obtain ⟨Hs, ds, Q', E', ex, rs, h, hq, he⟩ := h
  unfold φStream at h
  split at h
  · obtain ⟨_, h⟩ := h
    cases rr with
    | error e => exact (cx_never hrr).elim
    | ok fl =>
      cases fl with
      | ret u =>
        obtain ⟨v, H', os, bare, un, hok, rv, p, ns, Hs', rfl, ok, kp, hp⟩ := hrr
        have hp' : H' p = some (.lst (ns.map V.int)) := kp.2.1 _ _ hp
        have lp : locked H p = none := by
          cases e : locked H p with
          | none => rfl
          | some o =>
            have e2 := kp.1 _ _ e
            rw [hp] at e2
            unfold locked at e
            split at e
            · cases e
              cases e2
            · cases e
        have hH : H p = none := by
          cases e : H p with
          | none => rfl
          | some o =>
            have e2 := (kp.2.2 p o e lp).2
            rw [hp] at e2
            cases e2
        have hh : s.heap.get? p = none := by
          cases e : s.heap.get? p with
          | none => rfl
          | some o =>
            have e2 := un.free p o e hH (by simp)
            rw [hp'] at e2
            cases e2
        have old : ∀ b o, H b = some o → H' b = some o := fun b o q => by
          cases e : locked H b with
          | none => exact (kp.2.2 b o q e).1
          | some o' =>
            have q2 := locked_ex b o' e
            rw [q] at q2
            cases q2
            exact kp.2.1 _ _ (kp.1 _ _ e)
        have nep : ∀ b, H b ≠ none → b ≠ p := fun b q z => by
          subst z
          exact q hH
        have hok2 : HOk P w (upd H' p (.ext (PoolAt p))) s'.heap := retell_ok hok hp' (fun a z => by cases z) (fun a z => by cases z) (pool_obj (hok p _ hp') ok _)
        refine ⟨.ref p, upd H' p (.ext (PoolAt p)), os, bare, ⟨un.keep, un.slot, fun b ob q n hx => ?_, un.there, fun b xs q => ?_, fun b ob u q => ?_, fun b ps q => ?_⟩, hok2, rv, ?_⟩
        · have ne : b ≠ p := by
            intro z
            subst z
            rw [hh] at q
            cases q
          rw [upd_ne ne]
          exact un.free b ob q n hx
        · rw [upd_ne (nep b (by rw [q]; simp))]
          exact un.tups b xs q
        · rw [upd_ne (nep b (by rw [q]; simp))]
          exact un.frzs b ob u q
        · rw [upd_ne (nep b (by rw [q]; simp))]
          exact un.tbls b ps q
        · have hsp : Hs p = none := Evl.fresh_back ex hH
          refine hq .pool h (.ref p) _ (upd Hs p (.ext (PoolAt p))) ⟨ex_upd hsp, fun b o q => ?_, fun b o q1 q2 => ?_⟩ (.pool upd_same)
          · by_cases hb : b = p
            · subst hb
              rw [upd_same] at q ⊢
              exact q
            · rw [upd_ne hb] at q ⊢
              exact old b o (ex b o q)
          · have ne := nep b (by rw [q1]; simp)
            rw [upd_ne ne, upd_ne ne]
            exact ⟨old b o q1, q2⟩
      | next => exact False.elim hrr
      | brk => exact False.elim hrr
      | cont => exact False.elim hrr
  · exact h.elim
/-- the law's promise, as the head asks it -/
def φLaw : Spec
  | [.frl ds], Q, _ => ∃ xs : List Int, ds = xs.map D.int ∧ xs.length ≤ 63 ∧ Q (.bl true)
  | _, _, _ => False
theorem law_sp {H : Hp} {a : Addr} {ns : List Int} (hl : ns.length ≤ 63) (ho : L2.Only H) (hs : SqL K H a (ns.map V.int)) : pSp K φLaw [.ref a] H (fun v _ => v = .bl true) (fun _ _ _ => False) := by
  have hs2 : FrL K H a (ns.map V.int) := by
    rcases hs with (hs | ⟨o, hs⟩) | hs
    · rcases ho a with h | ⟨o, xs, h⟩
      · rw [hs] at h; cases h
      · rw [hs] at h; cases h
    · exact .inl ⟨o, hs⟩
    · exact .inr hs
  refine ⟨H, [.frl (ns.map D.int)], fun d => d = .bl true, fun _ => False, Evl.Ex.refl _, .cons (.frl hs2 (Reps.ints ns)) .nil, ⟨ns, rfl, hl, rfl⟩, fun d e v H' Hs' kp rv => ?_, fun _ z => z.elim⟩
  subst e
  cases rv
  rfl
end
end PL

set_option Elab.async false
set_option linter.all false
set_option autoImplicit false
set_option maxRecDepth 100000
set_option maxHeartbeats 2000000
/-! a, b = x, y -/
namespace PL
open PySem PySem.Spec PyProof.Rows L2
open Evl (Ex)
/-- what a name is to hold, on the way: a datum, or a new list that is nobody's yet -/
def Pend (K : PySem.W.Frag) (F Hs : Hp) (σ : St) (H : Hp) (ε : PEnv) (v : V) : S → Prop
  | .v d => Rep K Hs v d
  | .o ds => ∃ p vs, v = .ref p ∧ H p = some (.lst vs) ∧ Hs p = none ∧ F p = none ∧ Nobody σ ε p ∧ Reps K Hs vs ds
  | .od _ => False
abbrev PTX := PEnv → (S → PEnv → Prop) → Prop
structure YX (X : Cx) (W : WX) (Ξ : Xi) (e : Expr) (r : PTX) : Prop where
  ex : ∃ t, PE X e t ∧ ∀ (F Hs : Hp) (σ : St) (H : Hp) (ε : PEnv) (Q' : S → PEnv → Prop) (Q : VK), RelS X.K F Hs σ H ε → Lk X.K F Hs W Ξ → r ε Q' →
    (∀ (v : V) (H' Hs' : Hp) (s : S) (ε' : PEnv), Ex Hs Hs' → RelS X.K F Hs' σ H' ε' → Pend X.K F Hs' σ H' ε' v s → Q' s ε' → Q v H') → t σ H Q
section
variable {X : Cx} {W : WX} {Ξ : Xi} {e : Expr} {pos : Pos}
def yxE (r : PTE) : PTX := fun ε Q => r ε fun t ε1 => out ε1 t fun d ε2 => Q (.v d) ε2
def yxN (r : PTN) : PTX := fun ε Q => r ε fun ds ε1 => Q (.o ds) ε1
theorem yx_e {r : PTE} (h : YE X W Ξ e r) : YX X W Ξ e (yxE r) := by
  obtain ⟨t, p, k⟩ := h.ex
  refine ⟨t, p, fun F Hs σ H ε Q' Q R L q kk => k F Hs σ H ε _ _ R L q fun v H1 Hs1 t1 ε1 e1 R1 p1 q1 => ?_⟩
  obtain ⟨d, ε2, Hs2, e2, R2, rv, q2⟩ := R1.out p1 q1
  exact kk v H1 Hs2 (.v d) ε2 (e1.trans e2) R2 rv q2
theorem yx_n {r : PTN} (h : YN X W Ξ e r) : YX X W Ξ e (yxN r) := by
  obtain ⟨t, p, k⟩ := h.ex
  exact ⟨t, p, fun F Hs σ H ε Q' Q R L q kk => k F Hs σ H ε _ _ R L q fun p H' Hs' vs ds ε' e R' g1 g2 g3 g4 rs q' => kk (.ref p) H' Hs' (.o ds) ε' e R' ⟨p, vs, rfl, g1, g2, g3, g4, rs⟩ q'⟩
theorem pend_store {K : PySem.W.Frag} {F Hs H : Hp} {σ : St} {ε : PEnv} {v : V} {s : S} (R : RelS K F Hs σ H ε) (h : Pend K F Hs σ H ε v s) (i : Nat) : RelS K F Hs (σ.set i (some v)) H (ε.set i (some s)) := by
  cases s with
  | v d => exact R.store h i
  | o ds =>
    obtain ⟨p, vs, rfl, g1, g2, g3, g4, rs⟩ := h
    exact storeO_of R i g1 g2 g3 g4 rs
  | od _ => exact h.elim
def ysPar (i j : Nat) (ra rb : PTX) : PTS := fun Δ ε => ra ε fun s1 ε1 => rb ε1 fun s2 ε2 => Δ.nx ((ε2.set i (some s1)).set j (some s2))
theorem nobody_set {σ : St} {ε : PEnv} {p q : Addr} {s : S} {i : Nat} (h : Nobody σ ε p) (hq : q ≠ p) : Nobody (σ.set i (some (.ref q))) (ε.set i (some s)) p := fun k t e so z => by
  by_cases hk : i = k
  · subst hk
    by_cases hi : i < σ.length
    · rw [List.getElem?_set_self hi] at z
      exact hq (V.ref.inj (Option.some.inj (Option.some.inj z)))
    · rw [List.getElem?_eq_none (by rw [List.length_set]; omega)] at z
      cases z
  · rw [List.getElem?_set_ne hk] at e z
    exact h k t e so z
theorem nobody_setV {σ : St} {ε : PEnv} {p : Addr} {d : D} {v : V} {i : Nat} (h : Nobody σ ε p) : Nobody (σ.set i (some v)) (ε.set i (some (.v d))) p := fun k t e so z => by
  by_cases hk : i = k
  · subst hk
    by_cases hi : i < ε.length
    · rw [List.getElem?_set_self hi] at e
      cases e
      cases so
    · rw [List.getElem?_eq_none (by rw [List.length_set]; omega)] at e
      cases e
  · rw [List.getElem?_set_ne hk] at e z
    exact h k t e so z
theorem ys_par (i j : Nat) {x y : Str} {a b : Expr} {ra rb : PTX} {px py pt : Pos} {kt k2 : Nat} {pt2 : Pos} (hc : X.calm = true) (hN : X.N.Nodup) (hi : X.N[i]? = some x) (hj : X.N[j]? = some y) (hij : i ≠ j)
    (hx : X.env.scope.names.lookup x = some .local) (hy : X.env.scope.names.lookup y = some .local) (ha : YX X W Ξ a ra) (hb : YX X W Ξ b rb)
    (hst : starEach [a, b] X.env = (false, eval a X.env) :: starEach [b] X.env := by rfl) (hst2 : starEach [b] X.env = (false, eval b X.env) :: starEach [] X.env := by rfl)
    (hw : swappedStores [.Tuple [.Name x px, .Name y py] kt pt] (.Tuple [a, b] k2 pt2) X.env = pure (some [x, y]) := by rfl)
    (hs : swapsWithSole [.Tuple [.Name x px, .Name y py] kt pt] (.Tuple [a, b] k2 pt2) pos.line X.env = pure false := by rfl) :
    YS X W Ξ (.Assign [.Tuple [.Name x px, .Name y py] kt pt] (.Tuple [a, b] k2 pt2) pos) (ysPar i j ra rb) := by
  obtain ⟨ta, pa, ka⟩ := ha.ex
  obtain ⟨tb, pb, kb⟩ := hb.ex
  refine ⟨_, ps_par hc hN hi hj hij hx hy (pa_cons pa (pa_cons pb pa_nil hst2) hst) hw hs, fun F Hs σ H ε Δ Dd R L q kk => ?_⟩
  refine ka F Hs σ H ε _ _ R L q fun v H1 Hs1 s1 ε1 e1 R1 p1 q1 => ?_
  cases s1 with
  | v d =>
    refine kb F Hs1 σ H1 ε1 _ _ R1 (L.mono e1) q1 fun w H2 Hs2 s2 ε2 e2 R2 p2 q2 => ?_
    refine ⟨v, w, rfl, ?_⟩
    have R3 := R2.store (Rep.mono e2 p1) i
    refine kk.nx _ H2 Hs2 _ (e1.trans e2) (pend_store R3 ?_ j) q2
    cases s2 with
    | v d2 => exact p2
    | o ds =>
      obtain ⟨p, vs, rfl, g1, g2, g3, g4, rs⟩ := p2
      exact ⟨p, vs, rfl, g1, g2, g3, nobody_setV g4, rs⟩
    | od _ => exact p2.elim
  | o ds =>
    obtain ⟨p, vs, rfl, g1, g2, g3, g4, rs⟩ := p1
    have R1' := R1.lend g1 g2 g4
    have L' : Lk X.K (upd F p (.lst vs)) Hs1 W Ξ := fun c σ' H' Hs' ε' xc e' R' => L c σ' H' Hs' ε' xc (e1.trans e') (R'.back g3).1
    refine kb _ Hs1 σ H1 ε1 _ _ R1' L' q1 fun w H2 Hs2 s2 ε2 e2 R2 p2 q2 => ?_
    refine ⟨.ref p, w, rfl, ?_⟩
    obtain ⟨R2', b1, b2, b3⟩ := R2.back g3
    have R3 := storeO_of R2' i b1 b2 g3 b3 (rs.mono e2)
    refine kk.nx _ H2 Hs2 _ (e1.trans e2) (pend_store R3 ?_ j) q2
    cases s2 with
    | v d2 => exact p2
    | o ds2 =>
      obtain ⟨p', vs', rfl, f1, f2, f3, f4, rs'⟩ := p2
      have ne : p ≠ p' := by
        intro z
        subst z
        rw [upd_same] at f3
        cases f3
      exact ⟨p', vs', rfl, f1, f2, by rw [upd_ne (Ne.symm ne)] at f3; exact f3, nobody_set f4 ne, rs'⟩
    | od _ => exact p2.elim
  | od _ => exact p1.elim
end
end PL

set_option Elab.async false
set_option linter.all false
set_option autoImplicit false
set_option maxRecDepth 100000
set_option maxHeartbeats 2000000
/-! Short words for the printed derivations. -/
namespace PL
open PySem PySem.Spec PyProof.Rows L2
open Evl (Ex)
theorem atI_in {α : Type} {xs : List α} {i : Int} (h0 : 0 ≤ i) (h1 : i < (xs.length : Int)) : ∃ d, atI xs i = some d ∧ d ∈ xs := by
  obtain ⟨j, rfl⟩ := Int.eq_ofNat_of_zero_le h0
  have hn : j < xs.length := Int.ofNat_lt.mp h1
  exact ⟨xs[j], atI_nat (List.getElem?_eq_getElem hn), List.getElem_mem hn⟩
/-- an item at a place that is drawn -/
theorem pick_of {xs : List D} {i : Int} {Q : D → Prop} (h0 : 0 ≤ i) (h1 : i < (xs.length : Int)) (k : ∀ d, d ∈ xs → Q d) : opt (atI xs i) Q := by
  obtain ⟨d, e, hd⟩ := atI_in h0 h1
  exact opt_of e (k d hd)
/-- a def that may be called -/
structure CallOk (P : Program) (w : World) (K : PySem.W.Frag) (mg : Str → Option Value) (base : Heap) (k : Nat) (x : Str) (ps : List Str) (φ : Spec) : Prop where
  fn : ∃ fd, FnOk P w K mg base (L2.CX P w) k (He.ga K x) fd ps (pSp K φ) ∧ (∃ oc od sl, K.lookup (He.ga K x) = some ⟨oc, od, .func fd, sl⟩) ∧ ∀ (s : Shared) (us : List Value), us.length = ps.length → BindsTo s fd ⟨us, []⟩ (ps.zip us)
  kp : PySem.W.keepIn K (.ref (He.ga K x)) = true
  gl : mg x = some (.ref (He.ga K x))
theorem funLook {K : PySem.W.Frag} {x qual : Str} {params : Arguments} {body : List Stmt} {scope : Scope} {dvs : List V} {kws : List (Str × V)} {f : Addr} {fd : FuncData} (F : FunD K x qual params body scope dvs kws f fd) : ∃ oc od sl, K.lookup f = some ⟨oc, od, .func fd, sl⟩ := by
  obtain ⟨oc, od, dV, kV, doc, pm, an, cdv, ct, osl, rfl, lk, _⟩ := F.ex
  exact ⟨_, _, _, lk⟩
theorem CallOk.imp {P : Program} {w : World} {K : PySem.W.Frag} {mg : Str → Option Value} {base : Heap} {k : Nat} {x : Str} {ps : List Str} {φ ψ : Spec} (h : CallOk P w K mg base k x ps φ) (i : ∀ ds Q E, ψ ds Q E → φ ds Q E) : CallOk P w K mg base k x ps ψ := by
  obtain ⟨⟨fd, F, lk, b⟩, kp, gl⟩ := h
  exact ⟨⟨fd, F.imp fun vs H Q E ⟨Hs, ds, Q', E', a, b, c, d⟩ => ⟨Hs, ds, Q', E', a, b, i _ _ _ c, d⟩, lk, b⟩, kp, gl⟩
section
variable {X : Cx} {W : WX} {Ξ : Xi} {a b c : Expr} {es : List Expr} {pos : Pos}
theorem yeCall {φ : Spec} {rs : PTL} {k : Nat} {ps : List Str} {x : Str} {p : Pos} (C : CallOk X.prog X.w X.K X.mg X.base k x ps φ) (tk : Takes X W) (hr : Room k X.A) (h : YL X W Ξ (a :: es) rs) (hg : Gl X x := by rfl) (hdb : (x == ("__debug__" : Str)) = false := by decide)
    (he : starEach (a :: es) X.env = (false, eval a X.env) :: starEach es X.env := by rfl) (hpl : (backTo pos (starEach es X.env)).any (·.1) = false := by rfl) :
    YE X W Ξ (.Call (.Name x p) (a :: es) [] pos) (yCall φ Ξ rs) := by
  obtain ⟨⟨fd, F, _, b⟩, kp, gl⟩ := C
  exact ye_call F tk hr hg gl kp (fun s us _ hl => by rw [List.append_nil] at hl ⊢; exact b s us hl) h hdb he hpl
/-- a name is stored: the plain ways -/
theorem ysSet (i : Nat) {x : Str} {pos' : Pos} {re : PTE} (hN : X.N.Nodup) (he : YE X W Ξ a re) (hi : X.N[i]? = some x := by rfl) (hx : Loc X.env.scope x := by first | exact Or.inl rfl | exact Or.inr rfl) (hs : swapsWith a (some (.Name x pos')) pos.line X.env = pure false := by rfl)
    (hf : X.fn x = true ∨ X.env.scope.names.lookup x = some .local := by first | exact .inl rfl | exact .inr rfl) : YS X W Ξ (.Assign [.Name x pos'] a pos) (ysAsg re i) := ys_set i hN hi hx he hs hf
theorem ysSetO (i : Nat) {x : Str} {pos' : Pos} {rn : PTN} (hN : X.N.Nodup) (he : YN X W Ξ a rn) (hi : X.N[i]? = some x := by rfl) (hx : Loc X.env.scope x := by first | exact Or.inl rfl | exact Or.inr rfl) (hs : swapsWith a (some (.Name x pos')) pos.line X.env = pure false := by rfl)
    (hf : X.fn x = true ∨ X.env.scope.names.lookup x = some .local := by first | exact .inl rfl | exact .inr rfl) : YS X W Ξ (.Assign [.Name x pos'] a pos) (ysAsgO rn i) := ys_setO i hN hi hx he hs hf
theorem ygN {x : Str} (i : Nat) (hN : X.N.Nodup) (hi : X.N[i]? = some x := by rfl) (hx : Loc X.env.scope x := by first | exact Or.inl rfl | exact Or.inr rfl) (hf : X.fn x = true ∨ X.env.scope.names.lookup x = some .local := by first | exact .inl rfl | exact .inr rfl) : YG X (.Name x pos) (gN i) [i] := yg_name i hN hi hx hf
theorem ysApp' (i : Nat) {x : Str} {px pa pc : Pos} {re : PTE} (he : YE X W Ξ a re) (hN : X.N[i]? = some x := by rfl) (hv : Vis X.env.scope x := by first | exact Or.inl rfl | exact Or.inr (Or.inl rfl) | exact Or.inr (Or.inr rfl)) (hd : (x == ("__debug__" : Str)) = false := by decide) (hcd : (x == ("__classdict__" : Str)) = false := by decide)
    (hbase : attributeBase (.Name x px) "append" X.env (eval (.Name x px) X.env) = eval (.Name x px) X.env := by rfl)
    (hfew : ((backTo pc (starEach (a :: []) X.env)).all (fun x => !x.1) && (backToKw pc (keywordEach [] X.env)).all (fun x => x.1.isSome)
      && decide ((a :: []).length + ([] : List Keyword).length + (if ([] : List Keyword).isEmpty then 0 else 1) < 30)) = true := by rfl)
    (hline : (pa.endLine == pc.line) = true := by rfl) (hs : starEach (a :: []) X.env = (false, eval a X.env) :: starEach [] X.env := by rfl) (hplain : (backTo pc (starEach [] X.env)).any (·.1) = false := by rfl)
    (hsw : swapsWith (.Call (.Attribute (.Name x px) "append" pa) [a] [] pc) none pos.line X.env = pure false := by rfl) :
    YS X W Ξ (.Expr (.Call (.Attribute (.Name x px) "append" pa) [a] [] pc) pos) (ysApp i re) := ys_app i hN hv he hd hcd hbase hfew hline hs hplain hsw
theorem ysExt' (i : Nat) {x : Str} {px pa pc : Pos} {re : PTE} (he : YE X W Ξ a re) (hN : X.N[i]? = some x := by rfl) (hv : Vis X.env.scope x := by first | exact Or.inl rfl | exact Or.inr (Or.inl rfl) | exact Or.inr (Or.inr rfl)) (hd : (x == ("__debug__" : Str)) = false := by decide) (hcd : (x == ("__classdict__" : Str)) = false := by decide)
    (hbase : attributeBase (.Name x px) "extend" X.env (eval (.Name x px) X.env) = eval (.Name x px) X.env := by rfl)
    (hfew : ((backTo pc (starEach (a :: []) X.env)).all (fun x => !x.1) && (backToKw pc (keywordEach [] X.env)).all (fun x => x.1.isSome)
      && decide ((a :: []).length + ([] : List Keyword).length + (if ([] : List Keyword).isEmpty then 0 else 1) < 30)) = true := by rfl)
    (hline : (pa.endLine == pc.line) = true := by rfl) (hs : starEach (a :: []) X.env = (false, eval a X.env) :: starEach [] X.env := by rfl) (hplain : (backTo pc (starEach [] X.env)).any (·.1) = false := by rfl)
    (hsw : swapsWith (.Call (.Attribute (.Name x px) "extend" pa) [a] [] pc) none pos.line X.env = pure false := by rfl) :
    YS X W Ξ (.Expr (.Call (.Attribute (.Name x px) "extend" pa) [a] [] pc) pos) (ysExt i re) := ys_ext i hN hv he hd hcd hbase hfew hline hs hplain hsw
theorem yePop' (i : Nat) {x : Str} {px pa pc : Pos} (hN : X.N[i]? = some x := by rfl) (hv : Vis X.env.scope x := by first | exact Or.inl rfl | exact Or.inr (Or.inl rfl) | exact Or.inr (Or.inr rfl)) (hd : (x == ("__debug__" : Str)) = false := by decide) (hcd : (x == ("__classdict__" : Str)) = false := by decide)
    (hbase : attributeBase (.Name x px) "pop" X.env (eval (.Name x px) X.env) = eval (.Name x px) X.env := by rfl) (hline : (pa.endLine == pc.line) = true := by rfl) :
    YE X W Ξ (.Call (.Attribute (.Name x px) "pop" pa) [] [] pc) (yPop i) := ye_pop i hN hv hd hcd hbase hline
/-- a module's constant: an int, a text -/
structure GlI (mg : Str → Option Value) (x : Str) (i : Int) : Prop where
  ex : ∃ t, mg x = some (.int i t)
structure GlS (mg : Str → Option Value) (x z : Str) : Prop where
  ex : ∃ t, mg x = some (.str z t)
theorem yeGlI {x : Str} {i : Int} (h : GlI X.mg x i) (hg : Gl X x := by rfl) (hd : (x == ("__debug__" : Str)) = false := by decide) : YE X W Ξ (.Name x pos) (yC (.int i)) := by
  obtain ⟨t, e⟩ := h.ex
  exact ye_glob (v := .int i) hg e ⟨t, rfl⟩ (fun _ _ => .int i) hd
theorem yeGlS {x z : Str} (h : GlS X.mg x z) (hg : Gl X x := by rfl) (hd : (x == ("__debug__" : Str)) = false := by decide) : YE X W Ξ (.Name x pos) (yC (.str z)) := by
  obtain ⟨t, e⟩ := h.ex
  exact ye_glob (v := .str z) hg e ⟨t, rfl⟩ (fun _ _ => .str z) hd
theorem peTy {x : Str} {n : String} (hm : X.mg x = none) (hv : bootBuiltins x = some (.type n)) (hg : Gl X x := by rfl) (hn : x ≠ "__name__" := by decide) (hd : (x == ("__debug__" : Str)) = false := by decide) : PE X (.Name x pos) (tC (.ty n)) := pe_bltn hg hm hv rfl hn hd
theorem ye_chain {op op' : CmpOp} {o o' : OP2} {ra rb rc : PTE} (ho : OpY X (compareOp op) o) (ho' : OpY X (compareOp op') o') (ha : YE X W Ξ a ra) (hb : YE X W Ξ b rb) (hc : YE X W Ξ c rc) (hm : lastMarks [op, op'] [b, c] = false := by with_unfolding_all rfl) :
    YE X W Ξ (.Compare a [op, op'] [b, c] pos) (yChain o o' ra rb rc) := by
  obtain ⟨r, hr, h⟩ := ho
  obtain ⟨r', hr', h'⟩ := ho'
  obtain ⟨ta, pa, ka⟩ := ha.ex
  obtain ⟨tb, pb, kb⟩ := hb.ex
  obtain ⟨tc, pc, kc⟩ := hc.ex
  refine ⟨_, pe_chain hr hr' pa pb pc hm, fun F Hs σ H ε Q' Q R L q k => ?_⟩
  refine ka F Hs σ H ε _ _ R L q fun v H1 Hs1 t1 ε1 e1 R1 p1 q1 => ?_
  refine kb F Hs1 σ H1 ε1 _ _ R1 (L.mono e1) q1 fun w H2 Hs2 t2 ε2 e2 R2 p2 q2 => ?_
  obtain ⟨d1, v1, q3⟩ := R2.res (p1.mono e2) q2
  obtain ⟨d2, v2, q4⟩ := R2.res p2 q3
  refine h F Hs2 σ H2 ε2 v w d1 d2 _ _ R2 v1 v2 q4 fun z H3 Hs3 d e3 R3 p3 q5 => ?_
  obtain ⟨kk, e4, q6⟩ := asB_rep p3 q5
  refine ⟨kk, e4, ?_⟩
  cases kk with
  | true =>
    show (if true = true then _ else _)
    rw [if_pos rfl]
    refine kc F Hs3 σ H3 ε2 _ _ R3 (L.mono ((e1.trans e2).trans e3)) q6 fun u H4 Hs4 t3 ε4 e5 R4 p4 q7 => ?_
    obtain ⟨d2', v2', q8⟩ := R4.res ((p2.mono e3).mono e5) q7
    obtain ⟨d3, v3, q9⟩ := R4.res p4 q8
    exact h' F Hs4 σ H4 ε4 w u d2' d3 _ Q R4 v2' v3 q9 fun z H' Hs' d e6 R6 p6 q => k z H' Hs' (.d d) ε4 ((((e1.trans e2).trans e3).trans e5).trans e6) R6 p6 q
  | false =>
    show (if false = true then _ else _)
    rw [if_neg Bool.false_ne_true]
    exact k _ H3 Hs3 (.d (.bl false)) ε2 ((e1.trans e2).trans e3) R3 (.bl false) q6
/-- {} -/
def yDic0 : PTE := fun ε Q => Q (.d (.dic [])) ε
theorem ye_dic0 : YE X W Ξ (.Dict [] [] pos) yDic0 := by
  refine ⟨_, pe_dnewK, fun F Hs σ H ε Q' Q R L q k => fun p hp => ?_⟩
  obtain ⟨R3, e3⟩ := R.new (o := .dK []) hp
  exact k (.ref p) _ _ (.d (.dic [])) ε e3 R3 (.dic upd_same rfl .nil) q
/-- not a, by truth -/
def yNotB (r : PTE) : PTE := fun ε Q => r ε fun t ε' => res ε' t (asB fun k => Q (.d (.bl (!k))) ε')
theorem ye_not {r : PTE} (h : YE X W Ξ a r) : YE X W Ξ (.UnaryOp .Not a pos) (yNotB r) := by
  obtain ⟨t, p, k⟩ := h.ex
  refine ⟨_, pe_not p, fun F Hs σ H ε Q' Q R L q kk => k F Hs σ H ε _ _ R L q fun v H1 Hs1 t1 ε1 e1 R1 p1 q1 => ?_⟩
  obtain ⟨d, rv, q2⟩ := R1.res p1 q1
  cases d with
  | bl b => exact ⟨b, rv.bl', kk _ H1 Hs1 (.d (.bl (!b))) ε1 e1 R1 (.bl _) q2⟩
  | _ => exact False.elim q2
/-- for x in a list, a tuple -/
def yiSeq (r : PTE) : PTN := fun ε Q => r ε fun t ε' => out ε' t fun d ε2 => match d with
  | .lst ds => Q ds ε2
  | .frl ds => Q ds ε2
  | .tup ds => Q ds ε2
  | _ => False
def iSeq (K : PySem.W.Frag) (tl : TE) : TI := fun σ H R => tl σ H fun x H1 => ∃ a, x = .ref a ∧ (((∃ xs, SqL K H1 a xs) ∧ R (Itl K a) H1) ∨ ((∃ xs, SqT K H1 a xs) ∧ R (Itt K a) H1))
theorem pi_seq {tg l : Expr} {tl : TE} (hl : PE X l tl) : PI X tg l (iSeq X.K tl) := by
  refine ⟨fun pins s σ H R I h => ?_⟩
  refine thn (hl.run pins s σ H _ I h) fun v s1 ⟨x, H1, I1, r1, q1⟩ => ?_
  obtain ⟨a, e, q⟩ := q1
  subst e
  cases r1
  rcases q with ⟨⟨xs, hq⟩, q⟩ | ⟨⟨xs, hq⟩, q⟩
  · obtain ⟨its, rv, p, hz⟩ := I1.list hq
    refine wpAny_pyIter_list p.isList ?_
    refine ⟨s1.heap.objs.size, [s1.heap.objs.size], _, _, H1, rfl, I1.kept (t' := s1.toks) fun b o e => Heap.get?_push_of_some _ e, turn_list a _, ⟨_, Heap.get?_push_size _ rfl, rfl, rfl⟩, fun b hb => ?_, q⟩
    have e : b = s1.heap.objs.size := by simpa using hb
    subst e
    exact I1.fpOk (Nat.le_refl _) (I1.hok.fresh (Nat.le_refl _))
  · obtain ⟨its, rv, p, hz⟩ := I1.tuple hq
    refine wpAny_pyIter_tuple (show s1.heap.IsTuple a its.toArray from p) ?_
    refine ⟨s1.heap.objs.size, [s1.heap.objs.size], _, _, H1, rfl, I1.kept (t' := s1.toks) fun b o e => Heap.get?_push_of_some _ e, turn_tuple a _, ⟨_, Heap.get?_push_size _ rfl, rfl, rfl⟩, fun b hb => ?_, q⟩
    have e : b = s1.heap.objs.size := by simpa using hb
    subst e
    exact I1.fpOk (Nat.le_refl _) (I1.hok.fresh (Nat.le_refl _))
theorem yi_seq {tg : Expr} {r : PTE} (h : YE X W Ξ a r) : YI X W Ξ tg a (yiSeq r) := by
  obtain ⟨t, p, k⟩ := h.ex
  refine ⟨_, pi_seq p, fun F Hs σ H ε Q' R' R L q kk => k F Hs σ H ε _ _ R L q fun v H1 Hs1 t ε1 e1 R1 p1 q1 => ?_⟩
  obtain ⟨d, ε2, Hs2, e2, R2, rv, q2⟩ := R1.out p1 q1
  split at q2
  · cases rv with
    | lst h1 r1 => exact ⟨_, rfl, .inl ⟨⟨_, SqL.of (R2.ex _ _ h1)⟩, kk _ H1 Hs2 _ ε2 (e1.trans e2) R2 (seqs_list (SqL.of h1) r1) q2⟩⟩
  · cases rv with
    | frl h1 r1 => exact ⟨_, rfl, .inl ⟨⟨_, Evl.ex_l R2.ex h1.sq⟩, kk _ H1 Hs2 _ ε2 (e1.trans e2) R2 (seqs_list h1.sq r1) q2⟩⟩
  · cases rv with
    | tup h1 r1 => exact ⟨_, rfl, .inr ⟨⟨_, Evl.ex_t R2.ex h1⟩, kk _ H1 Hs2 _ ε2 (e1.trans e2) R2 (seqs_tup h1 r1) q2⟩⟩
  · exact q2.elim
def yChainT (o o' : OP2) (ra rb rc : PTE) : PTT := yB (yChain o o' ra rb rc)
theorem yt_chain {op op' : CmpOp} {o o' : OP2} {ra rb rc : PTE} (ho : OpY X (compareOp op) o) (ho' : OpY X (compareOp op') o') (ha : YE X W Ξ a ra) (hb : YE X W Ξ b rb) (hc : YE X W Ξ c rc) (hm : lastMarks [op, op'] [b, c] = false := by with_unfolding_all rfl) :
    YT X W Ξ (.Compare a [op, op'] [b, c] pos) (yChainT o o' ra rb rc) := by
  obtain ⟨r, hr, h⟩ := ho
  obtain ⟨r', hr', h'⟩ := ho'
  obtain ⟨ta, pa, ka⟩ := ha.ex
  obtain ⟨tb, pb, kb⟩ := hb.ex
  obtain ⟨tc, pc, kc⟩ := hc.ex
  refine ⟨_, pt_chain hr hr' pa pb pc hm, fun F Hs σ H ε Q' Q R L q k => ?_⟩
  refine ka F Hs σ H ε _ _ R L q fun v H1 Hs1 t1 ε1 e1 R1 p1 q1 => ?_
  refine kb F Hs1 σ H1 ε1 _ _ R1 (L.mono e1) q1 fun w H2 Hs2 t2 ε2 e2 R2 p2 q2 => ?_
  obtain ⟨d1, v1, q3⟩ := R2.res (p1.mono e2) q2
  obtain ⟨d2, v2, q4⟩ := R2.res p2 q3
  refine h F Hs2 σ H2 ε2 v w d1 d2 _ _ R2 v1 v2 q4 fun z H3 Hs3 d e3 R3 p3 q5 => ?_
  obtain ⟨kk, e4, q6⟩ := asB_rep p3 q5
  refine ⟨kk, e4, ?_⟩
  cases kk with
  | true =>
    show (if true = true then _ else _)
    rw [if_pos rfl]
    refine kc F Hs3 σ H3 ε2 _ _ R3 (L.mono ((e1.trans e2).trans e3)) q6 fun u H4 Hs4 t3 ε4 e5 R4 p4 q7 => ?_
    obtain ⟨d2', v2', q8⟩ := R4.res ((p2.mono e3).mono e5) q7
    obtain ⟨d3, v3, q9⟩ := R4.res p4 q8
    refine h' F Hs4 σ H4 ε4 w u d2' d3 _ _ R4 v2' v3 q9 fun z H' Hs' d e6 R6 p6 q => ?_
    obtain ⟨b, e7, q7⟩ := asB_rep p6 q
    exact ⟨b, e7, k b H' Hs' ε4 ((((e1.trans e2).trans e3).trans e5).trans e6) R6 q7⟩
  | false =>
    show (if false = true then _ else _)
    rw [if_neg Bool.false_ne_true]
    exact ⟨false, rfl, k false H3 Hs3 ε2 ((e1.trans e2).trans e3) R3 q6⟩
def ysNever : PTS := fun _ _ => False
theorem ys_never {st : Stmt} : YS X W Ξ st ysNever := ⟨_, ps_never, fun _ _ _ _ _ _ _ _ _ q _ => q.elim⟩
def ysRetN : PTS := fun Δ ε => Δ.rt .non ε
theorem ys_retN : YS X W Ξ (.Return none pos) ysRetN := ⟨_, ps_retN, fun F Hs σ H ε Δ Dd R L q k => k.rt .non σ H Hs .non ε (Evl.Ex.refl _) R .non q⟩
abbrev exBase : List Value := [.type "Exception", .type "BaseException", .type "object"]
end
end PL

set_option Elab.async false
set_option linter.all false
set_option autoImplicit false
set_option maxRecDepth 100000
set_option maxHeartbeats 2000000
/-! Loops and comprehensions over lists that lie open. -/
namespace PL
open PySem PySem.Spec PyProof.Rows L2
def forRun (g : PTG) (rb : PTS) (Δ : PEnds) : List D → PEnv → Prop
  | [], ε => Δ.nx ε
  | d :: ds, ε => g d ε fun ε2 => rb { Δ with nx := forRun g rb Δ ds, ct := forRun g rb Δ ds, bk := Δ.nx } ε2
theorem drop_get {α : Type} {xs : List α} {i : Nat} {d : α} (h : xs[i]? = some d) : xs.drop i = d :: xs.drop (i + 1) := by
  obtain ⟨hi, e⟩ := List.getElem?_eq_some_iff.mp h
  rw [List.drop_eq_getElem_cons hi, e]
theorem for_run {g : PTG} {rb : PTS} {Δ : PEnds} {ds : List D} {ε1 : PEnv} (h : forRun g rb Δ ds ε1) : ∃ Wp : Nat → PEnv → Prop, Wp 0 ε1 ∧
    (∀ i d ε, i < ds.length → ds[i]? = some d → Wp i ε → g d ε fun ε2 => rb { Δ with nx := Wp (i + 1), ct := Wp (i + 1), bk := Δ.nx } ε2) ∧ ∀ ε, Wp ds.length ε → Δ.nx ε := by
  refine ⟨fun i ε => forRun g rb Δ (ds.drop i) ε, h, fun i d ε hi hd w => ?_, fun ε w => ?_⟩
  · replace w : forRun g rb Δ (ds.drop i) ε := w
    rw [drop_get hd] at w
    exact w
  · replace w : forRun g rb Δ (ds.drop ds.length) ε := w
    rw [List.drop_length] at w
    exact w
def lcRun (g : PTG) (rt : PTT) (re : PTE) (vs : List Nat) (ε1 : PEnv) (Q : List D → PEnv → Prop) : List D → List D → Prop
  | [], acc => Q acc ε1
  | d :: ds, acc => g d (wipeE ε1 vs) fun ε2 => rt ε2 fun k ε3 => match k with
    | true => re ε3 fun t ε4 => out ε4 t fun y ε5 => wipeE ε5 vs = wipeE ε1 vs ∧ lcRun g rt re vs ε1 Q ds (acc ++ [y])
    | false => wipeE ε3 vs = wipeE ε1 vs ∧ lcRun g rt re vs ε1 Q ds acc
theorem lc_run {g : PTG} {rt : PTT} {re : PTE} {vs : List Nat} {ε1 : PEnv} {Q : List D → PEnv → Prop} {ds : List D} (h : lcRun g rt re vs ε1 Q ds []) : ∃ Wp : Nat → List D → Prop, Wp 0 [] ∧
  (∀ i d acc, i < ds.length → ds[i]? = some d → acc.length ≤ i → Wp i acc → g d (wipeE ε1 vs) fun ε2 => rt ε2 fun k ε3 => match k with
    | true => re ε3 fun t ε4 => out ε4 t fun y ε5 => wipeE ε5 vs = wipeE ε1 vs ∧ Wp (i + 1) (acc ++ [y])
    | false => wipeE ε3 vs = wipeE ε1 vs ∧ Wp (i + 1) acc) ∧ ∀ acc, acc.length ≤ ds.length → Wp ds.length acc → Q acc ε1 := by
  refine ⟨fun i acc => lcRun g rt re vs ε1 Q (ds.drop i) acc, h, fun i d acc hi hd hl w => ?_, fun acc hl w => ?_⟩
  · replace w : lcRun g rt re vs ε1 Q (ds.drop i) acc := w
    rw [drop_get hd] at w
    exact w
  · replace w : lcRun g rt re vs ε1 Q (ds.drop ds.length) acc := w
    rw [List.drop_length] at w
    exact w
theorem seq_step {r u : PTS} {Δ : PEnds} {ε : PEnv} (ε' : PEnv) (h1 : ∀ K : PEnv → Prop, K ε' → r { Δ with nx := K } ε) (h2 : u Δ ε') : ysSeq r u Δ ε := h1 _ h2
theorem seq_post {r u : PTS} {Δ : PEnds} {ε : PEnv} (Po : PEnv → Prop) (h1 : ∀ K : PEnv → Prop, (∀ ε', Po ε' → K ε') → r { Δ with nx := K } ε) (h2 : ∀ ε', Po ε' → u Δ ε') : ysSeq r u Δ ε := h1 _ h2
theorem gtup2 {i j : Nat} {d1 d2 : D} {ε : PEnv} {Q : PEnv → Prop} (h : Q ((ε.set i (some (.v d1))).set j (some (.v d2)))) : gTupY 2 [gN i, gN j] (.tup [d1, d2]) ε Q := h
end PL

set_option Elab.async false
set_option linter.all false
set_option autoImplicit false
set_option maxRecDepth 100000
set_option maxHeartbeats 2000000
/-! A number is drawn, by hand. -/
namespace PL
open PySem PySem.Spec PyProof.Rows L2
section
variable {K : PySem.W.Frag}
def r_len (K : PySem.W.Frag) : List V → Hp → VK → Prop := fun xs H Q => ∃ x n, xs = [x] ∧ LenV K x H n ∧ Q (.int (n : Nat)) H
def t_pick (K : PySem.W.Frag) : TS :=
  tSeq (tAsg (tOp (rIxL K) (tVar 0) (tC (.int 0))) (gName 2))
    (tSeq (tAsg (tOp (rI0 fun i j => V.int (i + j)) (tVar 2) (tC (.int 1))) (gSub (tVar 0) (tC (.int 0)) rSetL))
      (tSeq (tIfS (tTest (tOp rEq (tOp (rIxL K) (tVar 0) (tC (.int 0))) (tCB (r_len K) (tCons (tVar 0) tNil))))
          (tAsg (tC (.int 1)) (gSub (tVar 0) (tC (.int 0)) rSetL)) tNext)
        (tRet (tOp (rI (fun _ j => 0 < j) fun i j => V.int (i % j))
            (tCB (fun xs H Q => (∃ i, xs = [V.int i] ∧ Q (V.int i) H) ∨ ∃ k, xs = [V.bl k] ∧ Q (V.int (if k = true then 1 else 0)) H)
              (tCons (tOp (rIxL K) (tVar 0) (tVar 2)) tNil))
            (tVar 1)))))
theorem atI_int {ns : List Int} {i : Int} {x : Int} (h : atI ns i = some x) : atI (ns.map V.int) i = some (.int x) := by
  unfold atI at h ⊢
  rw [List.length_map]
  cases e : ixN ns.length i with
  | none => rw [e] at h; cases h
  | some j =>
    rw [e] at h
    show (ns.map V.int)[j]? = some (.int x)
    replace h : ns[j]? = some x := h
    rw [List.getElem?_map, h]
    rfl
theorem ix0 {n : Nat} (h : 0 < n) : ixN n 0 = some 0 := by
  unfold ixN
  rw [if_pos (Int.le_refl 0), if_pos (by omega)]
  rfl
theorem at0 {x : V} {xs : List V} : atI (x :: xs) 0 = some x := atI_nat (j := 0) (v := x) rfl
theorem pick_pure {vs : List V} {H : Hp} {Q : VK} {E : XK} (h : spPick vs H Q E) : t_pick K { nx := fun _ H' => Q .non H', rt := Q } (L2.start ["pool", "many", "place"] vs) H := by
  obtain ⟨p, n, ns, rfl, hH, ⟨hl1, hl2, c, hc, c1, c2⟩, hn, hQ⟩ := h
  cases ns with
  | nil => cases hc
  | cons c' tl =>
    obtain rfl : c' = c := Option.some.inj hc
    have hx : ∀ (d : Int) (H : Hp), H p = some (.lst ((d :: tl).map V.int)) → 0 ≤ d → True := fun _ _ _ _ => trivial
    -- the item drawn: place c' of the list with another head
    have fin : ∀ (d : Int) (H' : Hp), H' = upd H p (.lst ((d :: tl).map V.int)) → PoolOk (d :: tl) →
        (tRet (tOp (rI (fun _ j => 0 < j) fun i j => V.int (i % j))
            (tCB (fun xs H Q => (∃ i, xs = [V.int i] ∧ Q (V.int i) H) ∨ ∃ k, xs = [V.bl k] ∧ Q (V.int (if k = true then 1 else 0)) H)
              (tCons (tOp (rIxL K) (tVar 0) (tVar 2)) tNil))
            (tVar 1))) { nx := fun _ H' => Q .non H', rt := Q } [some (.ref p), some (.int n), some (.int c')] H' := by
      intro d H' hH' ok
      subst hH'
      have hlen : c' < ((d :: tl).length : Int) := c2
      obtain ⟨x, hx, _⟩ := atI_in (xs := d :: tl) (i := c') (by omega) hlen
      refine ⟨_, rfl, _, rfl, p, (d :: tl).map V.int, c', .int x, rfl, rfl, SqL.of upd_same, atI_int hx, .inl ⟨x, rfl, _, rfl, x, n, rfl, rfl, hn, ?_⟩⟩
      exact hQ _ (d :: tl) (Int.emod_nonneg _ (by omega)) (Int.emod_lt_of_pos _ hn) ok
    refine ⟨_, rfl, p, _, 0, .int c', rfl, rfl, SqL.of hH, at0, ?_⟩
    refine ⟨_, rfl, c', 1, rfl, rfl, ?_⟩
    refine ⟨_, rfl, p, _, 0, 0, rfl, rfl, hH, ix0 (by rw [List.length_map]; exact Nat.succ_pos _), ?_⟩
    have e1 : upd H p (.lst (((c' :: tl).map V.int).set 0 (.int (c' + 1)))) = upd H p (.lst (((c' + 1) :: tl).map V.int)) := rfl
    refine ⟨_, rfl, p, _, 0, .int (c' + 1), rfl, rfl, SqL.of upd_same, at0, ?_⟩
    refine ⟨_, rfl, .ref p, (((c' + 1) :: tl).map V.int).length, rfl, .inl ⟨_, SqL.of upd_same, rfl⟩, ?_⟩
    refine ⟨rfl, _, rfl, ?_⟩
    have hm : (((c' + 1) :: tl).map V.int).length = tl.length + 1 := by rw [List.length_map]; rfl
    have hd : decide (V.int (c' + 1) = V.int ((((c' + 1) :: tl).map V.int).length : Nat)) = decide (c' + 1 = ((tl.length + 1 : Nat) : Int)) := by
      rw [hm]
      by_cases q : c' + 1 = ((tl.length + 1 : Nat) : Int)
      · rw [decide_eq_true q, decide_eq_true (by rw [q])]
      · rw [decide_eq_false q, decide_eq_false (fun z => q (V.int.inj z))]
    show (if decide (V.int (c' + 1) = V.int ((((c' + 1) :: tl).map V.int).length : Nat)) = true then _ else _)
    rw [hd]
    have hl : (((c' :: tl).length : Nat) : Int) = ((tl.length + 1 : Nat) : Int) := rfl
    by_cases q : c' + 1 = ((tl.length + 1 : Nat) : Int)
    · rw [if_pos (decide_eq_true q)]
      refine ⟨_, rfl, p, _, 0, 0, rfl, rfl, upd_same, ix0 (by rw [List.length_set, List.length_map]; exact Nat.succ_pos _), ?_⟩
      refine fin 1 _ ?_ ⟨hl1, hl2, 1, rfl, by decide, by show (1 : Int) < ((tl.length + 1 : Nat) : Int); replace hl1 : 2 ≤ tl.length + 1 := hl1; omega⟩
      rw [upd_upd]
      rfl
    · rw [if_neg (by rw [decide_eq_false q]; exact Bool.false_ne_true)]
      refine fin (c' + 1) _ rfl ⟨hl1, hl2, c' + 1, rfl, by omega, by show c' + 1 < ((tl.length + 1 : Nat) : Int); rw [hl] at c2; omega⟩
end
end PL

set_option Elab.async false
set_option linter.all false
set_option autoImplicit false
set_option maxRecDepth 100000
set_option maxHeartbeats 2000000
/-! The head: what is looked at; the law's end. -/
namespace PL
open PySem PySem.Spec PyProof.Rows L2
def excB (K : PySem.W.Frag) (a : Addr) : Bool :=
  He.eqO (PySem.W.findIn K (.ref a) "__getattribute__") (some (some (.builtin "BaseException.__getattribute__"))) &&
  (He.eqO (PySem.W.findIn K (.ref a) "__getattr__") (some none) && (decide (PySem.W.subIn K (.ref a) (.type "BaseException") = some true) &&
  (PySem.W.hasDictIn K a && (He.eqO (PySem.W.findIn K (.ref a) "__class__") (some (some (.builtin "object.__class__"))) &&
  (He.eqO (PySem.W.specialIn K (.builtin "object.__class__") "__get__") (some (some (.builtin "getset_descriptor.__get__"))) &&
  (decide (PySem.W.takesIn K (.builtin "object.__class__") = some true) && decide (PySem.W.mroIn K a (.type "object") = some true)))))))
theorem excB_ok {K : PySem.W.Frag} {a : Addr} (h : excB K a = true) : ExcC K a := by
  obtain ⟨h1, h⟩ := He.ba h
  obtain ⟨h2, h⟩ := He.ba h
  obtain ⟨h3, h⟩ := He.ba h
  obtain ⟨h4, h⟩ := He.ba h
  obtain ⟨h5, h⟩ := He.ba h
  obtain ⟨h6, h⟩ := He.ba h
  obtain ⟨h7, h8⟩ := He.ba h
  exact ⟨He.eqO_ok h1, He.eqO_ok h2, of_decide_eq_true h3, h4, He.eqO_ok h5, He.eqO_ok h6, of_decide_eq_true h7, of_decide_eq_true h8⟩
def exB (cs : List Nat) (K : PySem.W.Frag) : Bool := cs.all fun c =>
  PySem.W.excIn K (exA K c) exBase "Exception.__new__" && (PySem.W.keepIn K (.ref (exA K c)) && (decide (PySem.W.subIn K (.ref (exA K c)) (.type "BaseException") = some true) &&
  (decide (PySem.W.typeIn K (.ref (exA K c)) = some (.type "type")) && (excB K (exA K c) && (decide (PySem.W.exmOne K (.ref (exA K c)) (.ref (exA K 0)) = some true) &&
  cs.all fun t => decide (PySem.W.kitOne K (.ref (exA K c)) (.ref (exA K t)) = some (exSub c t)))))))
structure ExF (K : PySem.W.Frag) (c : Nat) : Prop where
  x : PySem.W.excIn K (exA K c) exBase "Exception.__new__" = true
  k : PySem.W.keepIn K (.ref (exA K c)) = true
  s : PySem.W.subIn K (.ref (exA K c)) (.type "BaseException") = some true
  t : PySem.W.typeIn K (.ref (exA K c)) = some (.type "type")
theorem exB_at {cs : List Nat} {K : PySem.W.Frag} (h : exB cs K = true) {c : Nat} (hc : c ∈ cs) : ExF K c ∧ ExcC K (exA K c) ∧ PySem.W.exmOne K (.ref (exA K c)) (.ref (exA K 0)) = some true ∧ ∀ t ∈ cs, PySem.W.kitOne K (.ref (exA K c)) (.ref (exA K t)) = some (exSub c t) := by
  have h := List.all_eq_true.mp h c hc
  obtain ⟨h1, h⟩ := He.ba h
  obtain ⟨h2, h⟩ := He.ba h
  obtain ⟨h3, h⟩ := He.ba h
  obtain ⟨h4, h⟩ := He.ba h
  obtain ⟨h5, h⟩ := He.ba h
  obtain ⟨h6, h7⟩ := He.ba h
  exact ⟨⟨h1, h2, of_decide_eq_true h3, of_decide_eq_true h4⟩, excB_ok h5, of_decide_eq_true h6, fun t ht => of_decide_eq_true (List.all_eq_true.mp h7 t ht)⟩
theorem exB_k {cs : List Nat} {K : PySem.W.Frag} (h : exB cs K = true) : ExK K cs :=
  ⟨fun c hc => (exB_at h hc).2.2.1, fun c hc => (exB_at h hc).2.2.2, fun c hc => (exB_at h hc).2.1⟩
/-- the law's end -/
theorem walk_ofP {l : PySem.W.OpenLaw} {k : Nat} {q : Program} {loose : List Str} {XP : (Str → Option Value) → Heap → Prop} {YP : World → Heap → Prop} {d : DefRec}
    (hn : l.most = some 63) (hdf : d.params.defaults = []) (hr : Room k callerA)
    (F : ∀ (w : World) (mg : Str → Option Value) (h : Heap), YP w h → h.Ns mainGlobals mg →
      ∃ (K : PySem.W.Frag), K.In h ∧ mg d.name = some (.ref (He.ga K "law")) ∧ ∀ base : Heap, CallOk l.prog w K mg base k "law" ["script"] φLaw) :
    PySem.W.WalkO q loose XP YP l.row.toRowW d [] (fun f vs => PySem.call f vs) := by
  refine Att.attach_call hn hdf fun w s₀ s₁ mg mb fa o pm cd doc a vs ns G Y ho hd hcd hmg hobj hints hlen hg => ?_
  obtain ⟨K, KX, gl, hF⟩ := F w mg _ Y G.T.g
  obtain rfl : fa = He.ga K "law" := by
    have e := hmg.symm.trans gl
    cases e
    rfl
  obtain ⟨fd, _, lk, hb⟩ := (hF s₁.heap).fn
  have hF2 : ∀ base : Heap, K.In base → base.Ns mainGlobals mg → FnOk l.prog w K mg base (L2.CX l.prog w) k (He.ga K "law") fd ["script"] (pSp K φLaw) := fun base _ _ => by
    obtain ⟨fd', F', lk', _⟩ := (hF base).fn
    obtain ⟨_, _, _, e1⟩ := lk
    obtain ⟨_, _, _, e2⟩ := lk'
    rw [e1] at e2
    cases e2
    exact F'
  exact law_call KX G.T.g G.T.b G.T.builtins G.T.nolimit hg hobj hints (Nat.le_trans hlen (by rw [sizeLine_eq]; decide)) hr hF2 (fun s u => hb s [u] rfl) (fun H hO hS => law_sp hlen hO hS) fun H e s' h => cx_never h
theorem CallOk.stream {P : Program} {w : World} {K : PySem.W.Frag} {mg : Str → Option Value} {base : Heap} {k : Nat} {x : Str} {ps : List Str} (h : CallOk P w K mg base k x ps φList) : CallOk P w K mg base k x ps φStream := by
  obtain ⟨⟨fd, F, lk, b⟩, kp, gl⟩ := h
  exact ⟨⟨fd, stream_close F, lk, b⟩, kp, gl⟩
end PL

set_option Elab.async false
set_option linter.all false
set_option autoImplicit false
set_option maxRecDepth 100000
set_option maxHeartbeats 1000000
namespace PL.K63
open PySem PySem.Spec PyProof.Rows L2
local macro_rules | `(tactic| walk_at "y") => `(tactic| conv => whnf)
/-- a datum of a kind that isinstance tells -/
def regB : D → Bool
  | .vl _ => false
  | .pool => false
  | _ => true
def isWholeB : D → Bool
  | .int _ => true
  | _ => false
def φ_is_whole : Spec
  | [d], Q, _ => regB d = true ∧ Q (.bl (isWholeB d))
  | _, _, _ => False
def φ_is_whole_or_none : Spec
  | [d], Q, _ => regB d = true ∧ Q (.bl (isNon d || isWholeB d))
  | _, _, _ => False
def isSizeB : D → Bool
  | .int i => decide (0 ≤ i)
  | _ => false
def φ_is_size : Spec
  | [d], Q, _ => regB d = true ∧ Q (.bl (isSizeB d))
  | _, _, _ => False
def isPairB : D → Bool
  | .tup xs => decide ((xs.length : Int) = 2)
  | _ => false
def φ_is_pair : Spec
  | [d], Q, _ => regB d = true ∧ Q (.bl (isPairB d))
  | _, _, _ => False
def regT : D → Bool
  | .tup xs => xs.all regB
  | d => regB d
def wantsB : D → Bool
  | .tup [.int a, .int b] => decide (0 ≤ a) && (decide (0 ≤ b) && decide (a ≤ b))
  | _ => false
def φ_are_wants : Spec
  | [d], Q, _ => regT d = true ∧ Q (.bl (wantsB d))
  | _, _, _ => False
def boundsB : D → Bool
  | .tup [.int a, .non] => decide (0 ≤ a)
  | .tup [.int a, .int b] => decide (0 ≤ a) && decide (0 ≤ b)
  | _ => false
def φ_are_bounds : Spec
  | [d], Q, _ => regT d = true ∧ Q (.bl (boundsB d))
  | _, _, _ => False
abbrev N_is_whole : List Str := ["value"]
def r_is_whole (Ξ : Xi) : PTS :=
  (ysRet (yAndV (yIs .int (yVar 0)) (yNotB (yIs .bool (yVar 0)))))
theorem vc_is_whole (ds : List D) (Q' : D → Prop) (E' : Nat → Prop) (h : φ_is_whole ds Q' E') : r_is_whole (fun c _ => E' c) { nx := fun _ => Q' .non, rt := fun d _ => Q' d } (startE N_is_whole ds) := by
  unfold φ_is_whole at h
  split at h
  · rename_i d
    obtain ⟨h1, h2⟩ := h
    cases d <;> first | (cases h1; done) | exact h2
  · exact h.elim
abbrev N_is_whole_or_none : List Str := ["value"]
def r_is_whole_or_none (Ξ : Xi) : PTS :=
  (ysRet (yOrV (yBin (oIsN false) (yVar 0) (yC .non)) (yCall φ_is_whole Ξ (ylCons (yVar 0) ylNil))))
theorem vc_is_whole_or_none (ds : List D) (Q' : D → Prop) (E' : Nat → Prop) (h : φ_is_whole_or_none ds Q' E') : r_is_whole_or_none (fun c _ => E' c) { nx := fun _ => Q' .non, rt := fun d _ => Q' d } (startE N_is_whole_or_none ds) := by
  unfold φ_is_whole_or_none at h
  split at h
  · rename_i d
    obtain ⟨h1, h2⟩ := h
    cases d <;> first | (cases h1; done) | exact ⟨rfl, h2⟩ | exact h2
  · exact h.elim
abbrev N_is_size : List Str := ["value"]
def r_is_size (Ξ : Xi) : PTS :=
  (ysRet (yAndV (yCall φ_is_whole Ξ (ylCons (yVar 0) ylNil)) (yBin oGe (yVar 0) (yC (.int 0)))))
theorem vc_is_size (ds : List D) (Q' : D → Prop) (E' : Nat → Prop) (h : φ_is_size ds Q' E') : r_is_size (fun c _ => E' c) { nx := fun _ => Q' .non, rt := fun d _ => Q' d } (startE N_is_size ds) := by
  unfold φ_is_size at h
  split at h
  · rename_i d
    obtain ⟨h1, h2⟩ := h
    cases d <;> first | (cases h1; done) | exact ⟨rfl, h2⟩
  · exact h.elim
abbrev N_is_pair : List Str := ["value"]
def r_is_pair (Ξ : Xi) : PTS :=
  (ysRet (yAndV (yIs .tuple (yVar 0)) (yBin (oEq false) (yCB oLen (ylCons (yVar 0) ylNil)) (yC (.int 2)))))
theorem vc_is_pair (ds : List D) (Q' : D → Prop) (E' : Nat → Prop) (h : φ_is_pair ds Q' E') : r_is_pair (fun c _ => E' c) { nx := fun _ => Q' .non, rt := fun d _ => Q' d } (startE N_is_pair ds) := by
  unfold φ_is_pair at h
  split at h
  · rename_i d
    obtain ⟨h1, h2⟩ := h
    cases d <;> first | (cases h1; done) | exact h2
  · exact h.elim
theorem isSize_true {d : D} (h : isSizeB d = true) : ∃ i, d = .int i ∧ 0 ≤ i := by
  cases d with
  | int i => exact ⟨i, rfl, of_decide_eq_true h⟩
  | _ => cases h
theorem pair_true {d : D} (h : isPairB d = true) : ∃ x y, d = .tup [x, y] := by
  cases d with
  | tup xs =>
    rcases xs with _ | ⟨x, _ | ⟨y, _ | ⟨z, xs⟩⟩⟩
    · cases h
    · cases h
    · exact ⟨x, y, rfl⟩
    · have h := of_decide_eq_true (p := (((x :: y :: z :: xs).length : Nat) : Int) = 2) h
      simp only [List.length_cons] at h
      omega
  | _ => cases h
theorem wants_pair {d : D} (h : isPairB d = false) : wantsB d = false := by
  unfold wantsB
  split
  · cases h
  · rfl
theorem bounds_pair {d : D} (h : isPairB d = false) : boundsB d = false := by
  unfold boundsB
  split
  · cases h
  · cases h
  · rfl
theorem regT_reg {d : D} (h : regT d = true) : regB d = true := by
  cases d <;> first | rfl | exact h
theorem wants_no1 {x y : D} (h : isSizeB x = false) : wantsB (.tup [x, y]) = false := by
  unfold wantsB
  split
  · rename_i a b e
    cases e
    have : decide (0 ≤ a) = false := h
    rw [this] <;> rfl
  · rfl
theorem wants_no2 {x y : D} (h : isSizeB y = false) : wantsB (.tup [x, y]) = false := by
  unfold wantsB
  split
  · rename_i a b e
    cases e
    have : decide (0 ≤ b) = false := h
    rw [this]
    simp
  · rfl
theorem bounds_no1 {x y : D} (h : isSizeB x = false) : boundsB (.tup [x, y]) = false := by
  unfold boundsB
  split
  · rename_i a e
    cases e
    exact h
  · rename_i a b e
    cases e
    have : decide (0 ≤ a) = false := h
    rw [this] <;> rfl
  · rfl
theorem bounds_no2 {x y : D} (h : isSizeB y = false) (hn : isNon y = false) : boundsB (.tup [x, y]) = false := by
  unfold boundsB
  split
  · rename_i a e
    cases e
    cases hn
  · rename_i a b e
    cases e
    have : decide (0 ≤ b) = false := h
    rw [this]
    simp
  · rfl
abbrev N_are_wants : List Str := ["value"]
def r_are_wants (Ξ : Xi) : PTS :=
  (ysRet (yAndV (yCall φ_is_pair Ξ (ylCons (yVar 0) ylNil)) (yAndV (yCall φ_is_size Ξ (ylCons (yIx (yVar 0) (yC (.int 0))) ylNil)) (yAndV (yCall φ_is_size Ξ (ylCons (yIx (yVar 0) (yC (.int 1))) ylNil)) (yBin oLe (yIx (yVar 0) (yC (.int 0))) (yIx (yVar 0) (yC (.int 1))))))))
theorem vc_are_wants (ds : List D) (Q' : D → Prop) (E' : Nat → Prop) (h : φ_are_wants ds Q' E') : r_are_wants (fun c _ => E' c) { nx := fun _ => Q' .non, rt := fun d _ => Q' d } (startE N_are_wants ds) := by
  unfold φ_are_wants at h
  split at h
  · rename_i d
    obtain ⟨h1, h2⟩ := h
    refine ⟨regT_reg h1, ?_⟩
    cases hp : isPairB d with
    | false =>
      rw [wants_pair hp] at h2
      exact h2
    | true =>
      obtain ⟨x, y, rfl⟩ := pair_true hp
      have hr : regB x = true ∧ regB y = true := by simpa [regT] using h1
      refine ⟨hr.1, ?_⟩
      cases hx : isSizeB x with
      | false =>
        rw [wants_no1 hx] at h2
        exact h2
      | true =>
        refine ⟨hr.2, ?_⟩
        cases hy : isSizeB y with
        | false =>
          rw [wants_no2 hy] at h2
          exact h2
        | true =>
          obtain ⟨i, rfl, hi⟩ := isSize_true hx
          obtain ⟨j, rfl, hj⟩ := isSize_true hy
          have e : wantsB (.tup [.int i, .int j]) = decide (i ≤ j) := by
            show (decide (0 ≤ i) && (decide (0 ≤ j) && decide (i ≤ j))) = decide (i ≤ j)
            rw [decide_eq_true hi, decide_eq_true hj] <;> rfl
          rw [e] at h2
          exact h2
  · exact h.elim
abbrev N_are_bounds : List Str := ["value"]
def r_are_bounds (Ξ : Xi) : PTS :=
  (ysRet (yAndV (yCall φ_is_pair Ξ (ylCons (yVar 0) ylNil)) (yAndV (yCall φ_is_size Ξ (ylCons (yIx (yVar 0) (yC (.int 0))) ylNil)) (yOrV (yBin (oIsN false) (yIx (yVar 0) (yC (.int 1))) (yC .non)) (yCall φ_is_size Ξ (ylCons (yIx (yVar 0) (yC (.int 1))) ylNil))))))
theorem vc_are_bounds (ds : List D) (Q' : D → Prop) (E' : Nat → Prop) (h : φ_are_bounds ds Q' E') : r_are_bounds (fun c _ => E' c) { nx := fun _ => Q' .non, rt := fun d _ => Q' d } (startE N_are_bounds ds) := by
  unfold φ_are_bounds at h
  split at h
  · rename_i d
    obtain ⟨h1, h2⟩ := h
    refine ⟨regT_reg h1, ?_⟩
    cases hp : isPairB d with
    | false =>
      rw [bounds_pair hp] at h2
      exact h2
    | true =>
      obtain ⟨x, y, rfl⟩ := pair_true hp
      have hr : regB x = true ∧ regB y = true := by simpa [regT] using h1
      refine ⟨hr.1, ?_⟩
      cases hx : isSizeB x with
      | false =>
        rw [bounds_no1 hx] at h2
        exact h2
      | true =>
        obtain ⟨i, rfl, hi⟩ := isSize_true hx
        cases y with
        | non =>
          have e : boundsB (.tup [.int i, .non]) = true := decide_eq_true hi
          rw [e] at h2
          exact h2
        | int j =>
          have e : boundsB (.tup [.int i, .int j]) = decide (0 ≤ j) := by
            show (decide (0 ≤ i) && decide (0 ≤ j)) = decide (0 ≤ j)
            rw [decide_eq_true hi] <;> rfl
          rw [e] at h2
          exact ⟨rfl, h2⟩
        | vl _ => cases hr.2
        | pool => cases hr.2
        | _ => exact ⟨rfl, h2⟩
  · exact h.elim

end PL.K63

set_option Elab.async false
set_option linter.all false
set_option autoImplicit false
set_option maxRecDepth 100000
set_option maxHeartbeats 1000000
namespace PL.K63
open PySem PySem.Spec PyProof.Rows L2
local macro_rules | `(tactic| walk_at "y") => `(tactic| conv => whnf)
/-- a number or None -/
def oI : Option Int → D
  | some i => .int i
  | none => .non
def maxI (i j : Int) : Int := if j > i then j else i
def minI (i j : Int) : Int := if j < i then j else i
structure Case where
  room : Int
  first : Option Int
  last : Option Int
  told : Option Int
  lo : Int
  hi : Int
  least : Int
  most : Option Int
  edge : Int
def caseD (c : Case) : List D := [.int c.room, oI c.first, oI c.last, oI c.told, .tup [.int c.lo, .int c.hi], .tup [.int c.least, oI c.most], .int c.edge]
def sizeW (room : Int) (f l t : Option Int) (lo hi e : Int) : Int := match t with
  | some t => t
  | none => match f, l with
    | some f, some l => maxI 0 (room - e - f - l)
    | some f, none => maxI lo (minI hi (room - e - f - 0))
    | none, some l => maxI lo (minI hi (room - e - 0 - l))
    | none, none => maxI lo (minI hi (room - e - 0 - 0))
def φ_size_within : Spec
  | [.int room, a, b, c, .tup [.int lo, .int hi], .int e], Q, _ => ∃ f l t, a = oI f ∧ b = oI l ∧ c = oI t ∧ Q (.int (sizeW room f l t lo hi e))
  | _, _, _ => False
abbrev N_size_within : List Str := ["room", "first", "last", "told", "wants", "edge", "left"]
def r_size_within (Ξ : Xi) : PTS :=
  (ysSeq (ysIf (yBinT (oIsN true) (yVar 3) (yC .non))
  (ysRet (yVar 3))
  ysNext)
  (ysSeq (ysAsg (yBin oSub (yBin oSub (yBin oSub (yVar 0) (yVar 5)) (yIf (yBinT (oIsN false) (yVar 1) (yC .non)) (yC (.int 0)) (yVar 1))) (yIf (yBinT (oIsN false) (yVar 2) (yC .non)) (yC (.int 0)) (yVar 2))) 6)
  (ysSeq (ysIf (yAnd (yBinT (oIsN true) (yVar 1) (yC .non)) (yBinT (oIsN true) (yVar 2) (yC .non)))
  (ysRet (yCB oMax2 (ylCons (yC (.int 0)) (ylCons (yVar 6) ylNil))))
  ysNext)
  (ysRet (yCB oMax2 (ylCons (yIx (yVar 4) (yC (.int 0))) (ylCons (yCB oMin2 (ylCons (yIx (yVar 4) (yC (.int 1))) (ylCons (yVar 6) ylNil))) ylNil)))))))
theorem vc_size_within (ds : List D) (Q' : D → Prop) (E' : Nat → Prop) (h : φ_size_within ds Q' E') : r_size_within (fun c _ => E' c) { nx := fun _ => Q' .non, rt := fun d _ => Q' d } (startE N_size_within ds) := by
  unfold φ_size_within at h
  split at h
  · rename_i room a b c lo hi e
    obtain ⟨f, l, t, rfl, rfl, rfl, h⟩ := h
    cases t with
    | some t => exact h
    | none => cases f <;> cases l <;> exact h
  · exact h.elim
def sizeC (c : Case) : Int :=
  let s0 := sizeW c.room c.first c.last c.told c.lo c.hi c.edge
  let s1 := match c.most with
    | some m => minI s0 m
    | none => s0
  maxI s1 c.least
def spanC (c : Case) : List D := match c.first with
  | some f => [.int f, .int (sizeC c)]
  | none => match c.last with
    | none => [.int 0, .int (sizeC c)]
    | some l => [.int (c.room - l - c.edge - sizeC c), .int (sizeC c)]
def φ_span_within : Spec := fun ds Q _ => ∃ c : Case, ds = caseD c ∧ Q (.tup (spanC c))
abbrev N_span_within : List Str := ["room", "first", "last", "told", "wants", "bounds", "edge", "size"]
def r_span_within (Ξ : Xi) : PTS :=
  (ysSeq (ysAsg (yCall φ_size_within Ξ (ylCons (yVar 0) (ylCons (yVar 1) (ylCons (yVar 2) (ylCons (yVar 3) (ylCons (yVar 4) (ylCons (yVar 6) ylNil))))))) 7)
  (ysSeq (ysIf (yBinT (oIsN true) (yIx (yVar 5) (yC (.int 1))) (yC .non))
  (ysAsg (yCB oMin2 (ylCons (yVar 7) (ylCons (yIx (yVar 5) (yC (.int 1))) ylNil))) 7)
  ysNext)
  (ysSeq (ysAsg (yCB oMax2 (ylCons (yVar 7) (ylCons (yIx (yVar 5) (yC (.int 0))) ylNil))) 7)
  (ysSeq (ysIf (yBinT (oIsN true) (yVar 1) (yC .non))
  (ysRet (yTup (ylCons (yVar 1) (ylCons (yVar 7) ylNil))))
  ysNext)
  (ysRet (yTup (ylCons (yIf (yBinT (oIsN false) (yVar 2) (yC .non)) (yC (.int 0)) (yBin oSub (yBin oSub (yBin oSub (yVar 0) (yVar 2)) (yVar 6)) (yVar 7))) (ylCons (yVar 7) ylNil))))))))
theorem vc_span_within (ds : List D) (Q' : D → Prop) (E' : Nat → Prop) (h : φ_span_within ds Q' E') : r_span_within (fun c _ => E' c) { nx := fun _ => Q' .non, rt := fun d _ => Q' d } (startE N_span_within ds) := by
  obtain ⟨c, rfl, h⟩ := h
  obtain ⟨room, first, last, told, lo, hi, least, most, edge⟩ := c
  refine ⟨first, last, told, rfl, rfl, rfl, ?_⟩
  cases most <;> cases first <;> cases last <;> exact h

end PL.K63

set_option Elab.async false
set_option linter.all false
set_option autoImplicit false
set_option maxRecDepth 100000
set_option maxHeartbeats 1000000
namespace PL.K63
open PySem PySem.Spec PyProof.Rows L2
local macro_rules | `(tactic| walk_at "y") => `(tactic| conv => whnf)
def OkC (c : Case) : Prop := 0 ≤ c.room ∧ (∀ t, c.told = some t → 0 ≤ t) ∧ 0 ≤ c.lo ∧ c.lo ≤ c.hi ∧ 0 ≤ c.least ∧ (∀ t, c.most = some t → 0 ≤ t)
def whN (d : D) : Bool := isNon d || isWholeB d
def regsB : List D → Bool
  | [room, first, last, told, wants, bounds, edges] => regB room && (regB first && (regB last && (regB told && (regT wants && (regT bounds && regB edges)))))
  | _ => false
def validB : List D → Bool
  | [room, first, last, told, wants, bounds, edges] => isSizeB room && (whN first && (whN last && ((isNon told || isSizeB told) && (wantsB wants && (boundsB bounds && isWholeB edges)))))
  | _ => false
theorem whN_of {d : D} (h : whN d = true) : ∃ o, d = oI o := by
  cases d with
  | non => exact ⟨none, rfl⟩
  | int i => exact ⟨some i, rfl⟩
  | _ => cases h
theorem told_of {d : D} (h : (isNon d || isSizeB d) = true) : ∃ o, d = oI o ∧ ∀ t, o = some t → 0 ≤ t := by
  cases d with
  | non => exact ⟨none, rfl, fun t e => by cases e⟩
  | int i => exact ⟨some i, rfl, fun t e => by cases e; exact of_decide_eq_true h⟩
  | _ => cases h
theorem wants_of {d : D} (h : wantsB d = true) : ∃ a b, d = .tup [.int a, .int b] ∧ 0 ≤ a ∧ a ≤ b := by
  unfold wantsB at h
  split at h
  · rename_i a b
    simp only [Bool.and_eq_true, decide_eq_true_eq] at h
    exact ⟨a, b, rfl, h.1, h.2.2⟩
  · cases h
theorem bounds_of {d : D} (h : boundsB d = true) : ∃ a o, d = .tup [.int a, oI o] ∧ 0 ≤ a ∧ ∀ t, o = some t → 0 ≤ t := by
  unfold boundsB at h
  split at h
  · rename_i a
    exact ⟨a, none, rfl, of_decide_eq_true h, fun t e => by cases e⟩
  · rename_i a b
    simp only [Bool.and_eq_true, decide_eq_true_eq] at h
    exact ⟨a, some b, rfl, h.1, fun t e => by cases e; exact h.2⟩
  · cases h
theorem whole_of {d : D} (h : isWholeB d = true) : ∃ i, d = .int i := by
  cases d with
  | int i => exact ⟨i, rfl⟩
  | _ => cases h
def φ_span_in : Spec := fun ds Q E => regsB ds = true ∧ (∀ c, validB ds = true → ds = caseD c → OkC c → Q (.tup (spanC c))) ∧ (validB ds = false → E 10)
theorem φ_span_in_inv {ds : List D} {Q : D → Prop} {E : Nat → Prop} (h : φ_span_in ds Q E) : ∃ a b c d e f g, ds = [a, b, c, d, e, f, g] := by
  have h := h.1
  unfold regsB at h
  split at h
  · exact ⟨_, _, _, _, _, _, _, rfl⟩
  · cases h
abbrev N_span_in : List Str := ["room", "first", "last", "told", "wants", "bounds", "edges"]
def r_span_in (Ξ : Xi) : PTS :=
  (ysSeq (ysIf (yOr (yNot (yTru (yCall φ_is_size Ξ (ylCons (yVar 0) ylNil)))) (yOr (yNot (yTru (yCall φ_is_whole_or_none Ξ (ylCons (yVar 1) ylNil)))) (yNot (yTru (yCall φ_is_whole_or_none Ξ (ylCons (yVar 2) ylNil))))))
  (ysRaise 10 Ξ)
  ysNext)
  (ysSeq (ysIf (yAnd (yBinT (oIsN true) (yVar 3) (yC .non)) (yNot (yTru (yCall φ_is_size Ξ (ylCons (yVar 3) ylNil)))))
  (ysRaise 10 Ξ)
  ysNext)
  (ysSeq (ysIf (yOr (yNot (yTru (yCall φ_are_wants Ξ (ylCons (yVar 4) ylNil)))) (yOr (yNot (yTru (yCall φ_are_bounds Ξ (ylCons (yVar 5) ylNil)))) (yNot (yTru (yCall φ_is_whole Ξ (ylCons (yVar 6) ylNil))))))
  (ysRaise 10 Ξ)
  ysNext)
  (ysRet (yCall φ_span_within Ξ (ylCons (yVar 0) (ylCons (yVar 1) (ylCons (yVar 2) (ylCons (yVar 3) (ylCons (yVar 4) (ylCons (yVar 5) (ylCons (yVar 6) ylNil))))))))))))
theorem vc_span_in (ds : List D) (Q' : D → Prop) (E' : Nat → Prop) (h : φ_span_in ds Q' E') : r_span_in (fun c _ => E' c) { nx := fun _ => Q' .non, rt := fun d _ => Q' d } (startE N_span_in ds) := by
  obtain ⟨room, first, last, told, wants, bounds, edges, rfl⟩ := φ_span_in_inv h
  obtain ⟨hr, hg, hb⟩ := h
  simp only [regsB, Bool.and_eq_true] at hr
  obtain ⟨r1, r2, r3, r4, r5, r6, r7⟩ := hr
  replace hb := fun z => hb z
  refine ⟨r1, ?_⟩
  cases e1 : isSizeB room with
  | false => exact hb (by simp [validB, e1])
  | true =>
    refine ⟨r2, ?_⟩
    cases e2 : whN first with
    | false =>
      have e2' : (isNon first || isWholeB first) = false := e2
      rw [e2']
      exact hb (by simp [validB, e2])
    | true =>
      have e2' : (isNon first || isWholeB first) = true := e2
      rw [e2']
      refine ⟨r3, ?_⟩
      cases e3 : whN last with
      | false =>
        have e3' : (isNon last || isWholeB last) = false := e3
        rw [e3']
        exact hb (by simp [validB, e3])
      | true =>
        have e3' : (isNon last || isWholeB last) = true := e3
        rw [e3']
        cases told with
        | vl _ => cases r4
        | pool => cases r4
        | non =>
          refine ⟨r5, ?_⟩
          cases e5 : wantsB wants with
          | false => exact hb (by simp [validB, e5])
          | true =>
            refine ⟨r6, ?_⟩
            cases e6 : boundsB bounds with
            | false => exact hb (by simp [validB, e6])
            | true =>
              refine ⟨r7, ?_⟩
              cases e7 : isWholeB edges with
              | false => exact hb (by simp [validB, e7])
              | true =>
                obtain ⟨ro, rfl, hro⟩ := isSize_true e1
                obtain ⟨fi, rfl⟩ := whN_of e2
                obtain ⟨la, rfl⟩ := whN_of e3
                obtain ⟨a, b, rfl, ha, hab⟩ := wants_of e5
                obtain ⟨le, mo, rfl, hle, hmo⟩ := bounds_of e6
                obtain ⟨ed, rfl⟩ := whole_of e7
                have hv : validB [.int ro, oI fi, oI la, .non, .tup [.int a, .int b], .tup [.int le, oI mo], .int ed] = true := by
                  show (_ && (_ && (_ && (_ && (_ && (_ && _)))))) = true
                  rw [e1, e2, e3, e5, e6, e7]
                  rfl
                exact ⟨⟨ro, fi, la, none, a, b, le, mo, ed⟩, rfl, hg ⟨ro, fi, la, none, a, b, le, mo, ed⟩ hv rfl ⟨hro, (fun t e => by cases e), ha, hab, hle, hmo⟩⟩
        | int i =>
          refine ⟨rfl, ?_⟩
          cases e4 : isSizeB (.int i) with
          | false =>
            exact hb (by
              have e4' : isSizeB (.int i) = false := e4
              simp [validB, e4', isNon])
          | true =>
            refine ⟨r5, ?_⟩
            cases e5 : wantsB wants with
            | false => exact hb (by simp [validB, e5])
            | true =>
              refine ⟨r6, ?_⟩
              cases e6 : boundsB bounds with
              | false => exact hb (by simp [validB, e6])
              | true =>
                refine ⟨r7, ?_⟩
                cases e7 : isWholeB edges with
                | false => exact hb (by simp [validB, e7])
                | true =>
                  obtain ⟨ro, rfl, hro⟩ := isSize_true e1
                  obtain ⟨fi, rfl⟩ := whN_of e2
                  obtain ⟨la, rfl⟩ := whN_of e3
                  obtain ⟨a, b, rfl, ha, hab⟩ := wants_of e5
                  obtain ⟨le, mo, rfl, hle, hmo⟩ := bounds_of e6
                  obtain ⟨ed, rfl⟩ := whole_of e7
                  have hv : validB [.int ro, oI fi, oI la, .int i, .tup [.int a, .int b], .tup [.int le, oI mo], .int ed] = true := by
                    show (_ && (_ && (_ && (_ && (_ && (_ && _)))))) = true
                    rw [e1, e2, e3, e5, e6, e7]
                    rw [e4]; rfl
                  exact ⟨⟨ro, fi, la, some i, a, b, le, mo, ed⟩, rfl, hg ⟨ro, fi, la, some i, a, b, le, mo, ed⟩ hv rfl ⟨hro, (fun t e => by cases e; exact of_decide_eq_true e4), ha, hab, hle, hmo⟩⟩
        | _ => exact ⟨rfl, hb (by simp [validB, isNon, isSizeB])⟩

end PL.K63

set_option Elab.async false
set_option linter.all false
set_option autoImplicit false
set_option maxRecDepth 100000
set_option maxHeartbeats 1000000
namespace PL.K63
open PySem PySem.Spec PyProof.Rows L2
local macro_rules | `(tactic| walk_at "y") => `(tactic| conv => whnf)
def φ_law_told : Spec
  | [.lst [a, b, c, d, e, f, g]], Q, E => φ_span_in [a, b, c, d, e, f, g] Q E
  | _, _, _ => False
abbrev N_law_told : List Str := ["case"]
def r_law_told (Ξ : Xi) : PTS :=
  (ysRet (yCall φ_span_in Ξ (ylCons (yIx (yVar 0) (yC (.int 0))) (ylCons (yIx (yVar 0) (yC (.int 1))) (ylCons (yIx (yVar 0) (yC (.int 2))) (ylCons (yIx (yVar 0) (yC (.int 3))) (ylCons (yIx (yVar 0) (yC (.int 4))) (ylCons (yIx (yVar 0) (yC (.int 5))) (ylCons (yIx (yVar 0) (yC (.int 6))) ylNil)))))))))
theorem vc_law_told (ds : List D) (Q' : D → Prop) (E' : Nat → Prop) (h : φ_law_told ds Q' E') : r_law_told (fun c _ => E' c) { nx := fun _ => Q' .non, rt := fun d _ => Q' d } (startE N_law_told ds) := by
  unfold φ_law_told at h
  split at h
  · exact h
  · exact h.elim
def φ_law_refused : Spec
  | [.lst [a, b, c, d, e, f, g]], Q, _ => regsB [a, b, c, d, e, f, g] = true ∧ validB [a, b, c, d, e, f, g] = false ∧ Q (.bl true)
  | _, _, _ => False
abbrev exCs : List Nat := [0, 10, 11, 12]
abbrev N_law_refused : List Str := ["case", "e"]
def r_law_refused (Ξ : Xi) : PTS :=
  (ysSeq (ysTry exCs 1 (fun Ξb => (ysDrop (yCall φ_law_told Ξb (ylCons (yVar 0) ylNil))))
  (fun a c => (ysRet (yAndV (yIsE 1 a c 10) (yAndV (yNotB (yIsE 1 a c 11)) (yNotB (yIsE 1 a c 12)))))))
  (ysRet (yC (.bl false))))
theorem vc_law_refused (ds : List D) (Q' : D → Prop) (E' : Nat → Prop) (h : φ_law_refused ds Q' E') : r_law_refused (fun c _ => E' c) { nx := fun _ => Q' .non, rt := fun d _ => Q' d } (startE N_law_refused ds) := by
  unfold φ_law_refused at h
  split at h
  · obtain ⟨h1, h2, h3⟩ := h
    walk_at "y"
    refine ⟨h1, fun c hv => ?_, fun _ => ?_⟩
    · rw [h2] at hv
      cases hv
    · refine ⟨by decide, fun a => ?_⟩
      exact ⟨rfl, rfl, rfl, h3⟩
  · exact h.elim
def φ_law_due : Spec := fun ds Q _ => ∃ c : Case, ds = [.lst (caseD c)] ∧ OkC c ∧ Q (.tup (spanC c))
theorem sorted3 {a b s : Int} {ns : List Int} (hp : ns.Perm [a, b, s]) (hs : ns.Pairwise (· ≤ ·)) (hab : a ≤ b) : ∃ x z, ns = [x, maxI a (minI b s), z] := by
  have pw : ∀ x y z : Int, x ≤ y → y ≤ z → [x, y, z].Pairwise (· ≤ ·) := fun x y z h1 h2 => by
    refine .cons (fun w hw => ?_) (.cons (fun w hw => ?_) (.cons (fun w hw => by cases hw) .nil))
    · rcases List.mem_cons.mp hw with rfl | hw
      · exact h1
      · rw [List.mem_singleton.mp hw]; exact Int.le_trans h1 h2
    · rw [List.mem_singleton.mp hw]; exact h2
  have eq : ∀ l : List Int, l.Pairwise (· ≤ ·) → l.Perm [a, b, s] → ns = l := fun l h1 h2 => List.Perm.eq_of_pairwise (fun a b _ _ h1 h2 => Int.le_antisymm h1 h2) hs h1 (hp.trans h2.symm)
  by_cases h1 : s < a
  · refine ⟨s, b, ?_⟩
    have e : maxI a (minI b s) = a := by unfold maxI minI; split <;> split at * <;> omega
    rw [e]
    exact eq _ (pw _ _ _ (by omega) hab) ((List.Perm.swap a s [b]).trans ((List.Perm.swap b s []).cons a))
  · by_cases h2 : s < b
    · refine ⟨a, b, ?_⟩
      have e : maxI a (minI b s) = s := by unfold maxI minI; split <;> split at * <;> omega
      rw [e]
      exact eq _ (pw _ _ _ (by omega) (by omega)) ((List.Perm.swap b s []).cons a)
    · refine ⟨a, s, ?_⟩
      have e : maxI a (minI b s) = b := by unfold maxI minI; split <;> split at * <;> omega
      rw [e]
      exact eq _ (pw _ _ _ hab (by omega)) (List.Perm.refl _)
def r_due_tail (Ξ : Xi) : PTS :=
  (ysSeq (ysIf (yBinT (oIsN true) (yVar 4) (yC .non))
  (ysAsg (yVar 4) 9)
  ysNext)
  (ysSeq (ysIf (yAnd (yBinT (oIsN true) (yIx (yVar 6) (yC (.int 1))) (yC .non)) (yBinT oLt (yIx (yVar 6) (yC (.int 1))) (yVar 9)))
  (ysAsg (yIx (yVar 6) (yC (.int 1))) 9)
  ysNext)
  (ysSeq (ysIf (yBinT oGt (yIx (yVar 6) (yC (.int 0))) (yVar 9))
  (ysAsg (yIx (yVar 6) (yC (.int 0))) 9)
  ysNext)
  (ysSeq (ysIf (yAnd (yBinT (oIsN false) (yVar 2) (yC .non)) (yBinT (oIsN true) (yVar 3) (yC .non)))
  (ysRet (yTup (ylCons (yBin oSub (yBin oSub (yBin oSub (yVar 1) (yVar 7)) (yVar 3)) (yVar 9)) (ylCons (yVar 9) ylNil))))
  ysNext)
  (ysSeq (ysIf (yBinT (oIsN false) (yVar 2) (yC .non))
  (ysRet (yTup (ylCons (yC (.int 0)) (ylCons (yVar 9) ylNil))))
  ysNext)
  (ysRet (yTup (ylCons (yVar 2) (ylCons (yVar 9) ylNil)))))))))
def r_due_t2 (Ξ : Xi) : PTS :=
  (ysSeq (ysIf (yBinT oGt (yIx (yVar 6) (yC (.int 0))) (yVar 9))
  (ysAsg (yIx (yVar 6) (yC (.int 0))) 9)
  ysNext)
  (ysSeq (ysIf (yAnd (yBinT (oIsN false) (yVar 2) (yC .non)) (yBinT (oIsN true) (yVar 3) (yC .non)))
  (ysRet (yTup (ylCons (yBin oSub (yBin oSub (yBin oSub (yVar 1) (yVar 7)) (yVar 3)) (yVar 9)) (ylCons (yVar 9) ylNil))))
  ysNext)
  (ysSeq (ysIf (yBinT (oIsN false) (yVar 2) (yC .non))
  (ysRet (yTup (ylCons (yC (.int 0)) (ylCons (yVar 9) ylNil))))
  ysNext)
  (ysRet (yTup (ylCons (yVar 2) (ylCons (yVar 9) ylNil)))))))
def r_due_t3 (Ξ : Xi) : PTS :=
  (ysSeq (ysIf (yAnd (yBinT (oIsN false) (yVar 2) (yC .non)) (yBinT (oIsN true) (yVar 3) (yC .non)))
  (ysRet (yTup (ylCons (yBin oSub (yBin oSub (yBin oSub (yVar 1) (yVar 7)) (yVar 3)) (yVar 9)) (ylCons (yVar 9) ylNil))))
  ysNext)
  (ysSeq (ysIf (yBinT (oIsN false) (yVar 2) (yC .non))
  (ysRet (yTup (ylCons (yC (.int 0)) (ylCons (yVar 9) ylNil))))
  ysNext)
  (ysRet (yTup (ylCons (yVar 2) (ylCons (yVar 9) ylNil))))))
abbrev dueE (c : Case) (e8 : D) (s : Int) : PEnv := [some (.v (.lst (caseD c))), some (.v (.int c.room)), some (.v (oI c.first)), some (.v (oI c.last)), some (.v (oI c.told)), some (.v (.tup [.int c.lo, .int c.hi])), some (.v (.tup [.int c.least, oI c.most])), some (.v (.int c.edge)), some (.v e8), some (.v (.int s)), none]
theorem due_t3 {c : Case} {e8 : D} {s : Int} {Q' : D → Prop} {E' : Nat → Prop} (hs : s = sizeC c) (h : Q' (.tup (spanC c))) : r_due_t3 (fun c _ => E' c) { nx := fun _ => Q' .non, rt := fun d _ => Q' d } (dueE c e8 s) := by
  subst hs
  obtain ⟨room, first, last, told, lo, hi, least, most, edge⟩ := c
  cases first with
  | some f => cases last <;> exact h
  | none =>
    cases last with
    | none => exact h
    | some l =>
      generalize hz : sizeC ⟨room, none, some l, told, lo, hi, least, most, edge⟩ = s at h ⊢
      have e : (D.tup (spanC ⟨room, none, some l, told, lo, hi, least, most, edge⟩)) = .tup [.int (room - edge - l - s), .int s] := by
        show D.tup [.int (room - l - edge - sizeC _), .int (sizeC _)] = _
        rw [hz]
        have : room - l - edge - s = room - edge - l - s := by omega
        rw [this]
      rw [e] at h
      exact h
theorem due_t2 {c : Case} {e8 : D} {s : Int} {Q' : D → Prop} {E' : Nat → Prop} (hs : maxI s c.least = sizeC c) (h : Q' (.tup (spanC c))) : r_due_t2 (fun c _ => E' c) { nx := fun _ => Q' .non, rt := fun d _ => Q' d } (dueE c e8 s) := by
  unfold maxI at hs
  walk_at "y"
  split
  · rename_i hd
    replace hd : decide (s < c.least) = true := hd
    have hd := of_decide_eq_true hd
    rw [if_pos hd] at hs
    exact due_t3 (E' := E') hs h
  · rename_i hd
    replace hd : decide (s < c.least) = false := hd
    have hd := of_decide_eq_false hd
    rw [if_neg hd] at hs
    exact due_t3 (E' := E') hs h
theorem due_tail {c : Case} {e8 : D} {s : Int} {Q' : D → Prop} {E' : Nat → Prop} (hs : c.told.getD s = sizeW c.room c.first c.last c.told c.lo c.hi c.edge) (h : Q' (.tup (spanC c))) : r_due_tail (fun c _ => E' c) { nx := fun _ => Q' .non, rt := fun d _ => Q' d } (dueE c e8 s) := by
  obtain ⟨room, first, last, told, lo, hi, least, most, edge⟩ := c
  have fin : ∀ s1 : Int, s1 = sizeW room first last told lo hi edge → (match oI most with
      | .int m => (match decide (m < s1) with
        | true => r_due_t2 (fun c _ => E' c) { nx := fun _ => Q' .non, rt := fun d _ => Q' d } (dueE ⟨room, first, last, told, lo, hi, least, most, edge⟩ e8 m)
        | false => r_due_t2 (fun c _ => E' c) { nx := fun _ => Q' .non, rt := fun d _ => Q' d } (dueE ⟨room, first, last, told, lo, hi, least, most, edge⟩ e8 s1))
      | _ => r_due_t2 (fun c _ => E' c) { nx := fun _ => Q' .non, rt := fun d _ => Q' d } (dueE ⟨room, first, last, told, lo, hi, least, most, edge⟩ e8 s1)) := fun s1 h1 => by
    cases most with
    | none => exact due_t2 (E' := E') (by rw [h1]; rfl) h
    | some m =>
      show (match decide (m < s1) with
        | true => _
        | false => _)
      cases hd : decide (m < s1) with
      | true =>
        have hd := of_decide_eq_true hd
        refine due_t2 (E' := E') ?_ h
        show maxI m least = maxI (minI (sizeW room first last told lo hi edge) m) least
        rw [← h1]
        unfold minI
        rw [if_pos hd]
      | false =>
        have hd := of_decide_eq_false hd
        refine due_t2 (E' := E') ?_ h
        show maxI s1 least = maxI (minI (sizeW room first last told lo hi edge) m) least
        rw [← h1]
        unfold minI
        rw [if_neg hd]
  cases told with
  | none => cases most <;> exact fin s hs
  | some t => cases most <;> exact fin t hs
abbrev N_law_due : List Str := ["case", "room", "first", "last", "told", "wants", "bounds", "edges", "ends", "size", "side"]
def r_law_due (Ξ : Xi) : PTS :=
  (ysSeq (ysAsgG (yVar 0) (gLstY 7 [(gN 1), (gN 2), (gN 3), (gN 4), (gN 5), (gN 6), (gN 7)]))
  (ysSeq (ysAsg (yNew (ynLc (yiSeq (yNew (ynLst (ylCons (yVar 2) (ylCons (yVar 3) ylNil))))) (gN 10) (yBinT (oIsN true) (yVar 10) (yC .non)) (yVar 10) [10])) 8)
  (ysSeq (ysAsg (yBin oSub (yBin oSub (yVar 1) (yVar 7)) (yCB oSum (ylCons (yVar 8) ylNil))) 9)
  (ysSeq (ysIf (yBinT (oEq false) (yCB oLen (ylCons (yVar 8) ylNil)) (yC (.int 2)))
  (ysAsg (yCB oMax2 (ylCons (yC (.int 0)) (ylCons (yVar 9) ylNil))) 9)
  (ysAsg (yIx (yNew (ynCB oSorted (ylCons (yNew (ynLst (ylCons (yIx (yVar 5) (yC (.int 0))) (ylCons (yIx (yVar 5) (yC (.int 1))) (ylCons (yVar 9) ylNil))))) ylNil))) (yC (.int 1))) 9))
  (ysSeq (ysIf (yBinT (oIsN true) (yVar 4) (yC .non))
  (ysAsg (yVar 4) 9)
  ysNext)
  (ysSeq (ysIf (yAnd (yBinT (oIsN true) (yIx (yVar 6) (yC (.int 1))) (yC .non)) (yBinT oLt (yIx (yVar 6) (yC (.int 1))) (yVar 9)))
  (ysAsg (yIx (yVar 6) (yC (.int 1))) 9)
  ysNext)
  (ysSeq (ysIf (yBinT oGt (yIx (yVar 6) (yC (.int 0))) (yVar 9))
  (ysAsg (yIx (yVar 6) (yC (.int 0))) 9)
  ysNext)
  (ysSeq (ysIf (yAnd (yBinT (oIsN false) (yVar 2) (yC .non)) (yBinT (oIsN true) (yVar 3) (yC .non)))
  (ysRet (yTup (ylCons (yBin oSub (yBin oSub (yBin oSub (yVar 1) (yVar 7)) (yVar 3)) (yVar 9)) (ylCons (yVar 9) ylNil))))
  ysNext)
  (ysSeq (ysIf (yBinT (oIsN false) (yVar 2) (yC .non))
  (ysRet (yTup (ylCons (yC (.int 0)) (ylCons (yVar 9) ylNil))))
  ysNext)
  (ysRet (yTup (ylCons (yVar 2) (ylCons (yVar 9) ylNil)))))))))))))
theorem vc_law_due (ds : List D) (Q' : D → Prop) (E' : Nat → Prop) (h : φ_law_due ds Q' E') : r_law_due (fun c _ => E' c) { nx := fun _ => Q' .non, rt := fun d _ => Q' d } (startE N_law_due ds) := by
  obtain ⟨c, rfl, hc, h⟩ := h
  have t := fun (e8 : D) (s : Int) hs => due_tail (c := c) (e8 := e8) (s := s) (E' := E') hs h
  obtain ⟨room, first, last, told, lo, hi, least, most, edge⟩ := c
  obtain ⟨h1, h2, h3, h4, h5, h6⟩ := hc
  cases first with
  | some f =>
    cases last with
    | some l =>
      refine ⟨⟨trivial, trivial⟩, Nat.le_of_ble_eq_true rfl, lc_run ?_⟩
      refine ⟨rfl, rfl, ?_⟩
      refine t _ _ ?_
      cases told with
      | some t => rfl
      | none =>
        show (if room - edge - [f, l].sum > 0 then room - edge - [f, l].sum else 0) = maxI 0 (room - edge - f - l)
        have e : room - edge - [f, l].sum = room - edge - f - l := by simp; omega
        rw [e]
        rfl
    | none =>
      refine ⟨⟨trivial, trivial⟩, Nat.le_of_ble_eq_true rfl, lc_run ?_⟩
      refine ⟨rfl, rfl, ?_⟩
      intro ns' hp hs
      obtain ⟨x, z, rfl⟩ := sorted3 hp hs h4
      refine t _ _ ?_
      cases told with
      | some t => rfl
      | none =>
        show maxI lo (minI hi (room - edge - [f].sum)) = maxI lo (minI hi (room - edge - f - 0))
        have e : room - edge - [f].sum = room - edge - f - 0 := by simp
        rw [e]
  | none =>
    cases last with
    | some l =>
      refine ⟨⟨trivial, trivial⟩, Nat.le_of_ble_eq_true rfl, lc_run ?_⟩
      refine ⟨rfl, rfl, ?_⟩
      intro ns' hp hs
      obtain ⟨x, z, rfl⟩ := sorted3 hp hs h4
      refine t _ _ ?_
      cases told with
      | some t => rfl
      | none =>
        show maxI lo (minI hi (room - edge - [l].sum)) = maxI lo (minI hi (room - edge - 0 - l))
        have e : room - edge - [l].sum = room - edge - 0 - l := by simp
        rw [e]
    | none =>
      refine ⟨⟨trivial, trivial⟩, Nat.le_of_ble_eq_true rfl, lc_run ?_⟩
      refine ⟨rfl, rfl, ?_⟩
      intro ns' hp hs
      obtain ⟨x, z, rfl⟩ := sorted3 hp hs h4
      refine t _ _ ?_
      cases told with
      | some t => rfl
      | none =>
        show maxI lo (minI hi (room - edge - ([] : List Int).sum)) = maxI lo (minI hi (room - edge - 0 - 0))
        have e : room - edge - ([] : List Int).sum = room - edge - 0 - 0 := by simp
        rw [e]

end PL.K63

set_option Elab.async false
set_option linter.all false
set_option autoImplicit false
set_option maxRecDepth 100000
set_option maxHeartbeats 1000000
namespace PL.K63
open PySem PySem.Spec PyProof.Rows L2
local macro_rules | `(tactic| walk_at "y") => `(tactic| conv => whnf)
def φ_law_same : Spec
  | [.tup [.int a, .int b], .tup [.int c, .int d]], Q, _ => gd (a = c ∧ b = d) (Q (.bl true))
  | _, _, _ => False
abbrev N_law_same : List Str := ["told", "due", "pairs", "turn", "one", "other", "key", "k"]
def r_law_same (Ξ : Xi) : PTS :=
  (ysSeq (ysAsgO (ynLst (ylCons (yTup (ylCons (yVar 0) (ylCons (yVar 1) ylNil))) ylNil)) 2)
  (ysSeq (ysFor (yiRg1 (ylCons (yBin oPow (yC (.int 10)) (yC (.int 7))) ylNil)) (gN 3)
  (ysSeq (ysIf (yBinT (oEq false) (yVar 2) (yNew (ynLst ylNil)))
  (ysRet (yC (.bl true)))
  ysNext)
  (ysSeq (ysAsgG (yPop 2) (gTupY 2 [(gN 4), (gN 5)]))
  (ysIf (yBinT (oIsN false) (yVar 5) (yC .non))
  (ysIf (yBinT (oIsN true) (yVar 4) (yC .non))
  (ysRet (yC (.bl false)))
  ysNext)
  (ysIf (yTru (yIs .bool (yVar 5)))
  (ysIf (yOr (yNot (yTru (yIs .bool (yVar 4)))) (yBinT (oEq true) (yVar 4) (yVar 5)))
  (ysRet (yC (.bl false)))
  ysNext)
  (ysIf (yTru (yIs .int (yVar 5)))
  (ysIf (yOr (yNot (yTru (yIs .int (yVar 4)))) (yOr (yTru (yIs .bool (yVar 4))) (yBinT (oEq true) (yVar 4) (yVar 5))))
  (ysRet (yC (.bl false)))
  ysNext)
  (ysIf (yTru (yIs .str (yVar 5)))
  (ysIf (yOr (yNot (yTru (yIs .str (yVar 4)))) (yBinT (oEq true) (yVar 4) (yVar 5)))
  (ysRet (yC (.bl false)))
  ysNext)
  (ysIf (yTru (yIs .dict (yVar 5)))
  (ysSeq ysNever
  (ysSeq (ysExt 2 (yNew (ynLc (yiSeq (yVar 5)) (gN 6) yYes (yTup (ylCons (yIx (yVar 4) (yVar 6)) (ylCons (yIx (yVar 5) (yVar 6)) ylNil))) [6])))
  ysNever))
  (ysIf (yOr (yAnd (yTru (yIs .tuple (yVar 5))) (yNot (yTru (yIs .tuple (yVar 4))))) (yAnd (yTru (yIs .list (yVar 5))) (yNot (yTru (yIs .list (yVar 4))))))
  (ysRet (yC (.bl false)))
  (ysIf (yBinT (oEq true) (yCB oLen (ylCons (yVar 4) ylNil)) (yCB oLen (ylCons (yVar 5) ylNil)))
  (ysRet (yC (.bl false)))
  (ysExt 2 (yNew (ynLc (yiRg1 (ylCons (yCB oLen (ylCons (yVar 5) ylNil)) ylNil)) (gN 7) yYes (yTup (ylCons (yIx (yVar 4) (yVar 7)) (ylCons (yIx (yVar 5) (yVar 7)) ylNil))) [7])))))))))))))
  (ysRet (yC (.bl false)))))
theorem vc_law_same (ds : List D) (Q' : D → Prop) (E' : Nat → Prop) (h : φ_law_same ds Q' E') : r_law_same (fun c _ => E' c) { nx := fun _ => Q' .non, rt := fun d _ => Q' d } (startE N_law_same ds) := by
  unfold φ_law_same at h
  split at h
  · rename_i a b c d
    obtain ⟨⟨rfl, rfl⟩, h2⟩ := gd_elim h
    let e1 (ps : List D) (t x y k : Option S) : PEnv := [some (.v (.tup [.int a, .int b])), some (.v (.tup [.int a, .int b])), some (.o ps), t, x, y, none, k]
    refine ⟨fun i ε => (i = 0 ∧ ε = e1 [.tup [.tup [.int a, .int b], .tup [.int a, .int b]]] none none none none) ∨ (i = 1 ∧ ∃ t x y k, ε = e1 [.tup [.int a, .int a], .tup [.int b, .int b]] t x y k) ∨
      (i = 2 ∧ ∃ t x y k, ε = e1 [.tup [.int a, .int a]] t x y k) ∨ (i = 3 ∧ ∃ t x y k, ε = e1 [] t x y k), .inl ⟨rfl, rfl⟩, fun i dd ε hi hd w => ?_, fun ε w => ?_⟩
    · have hdd := (rangeD_get hd).2
      subst hdd
      rcases w with ⟨rfl, rfl⟩ | ⟨rfl, t, x, y, k, rfl⟩ | ⟨rfl, t, x, y, k, rfl⟩ | ⟨rfl, t, x, y, k, rfl⟩
      · refine ⟨⟨trivial, trivial⟩, Nat.le_of_ble_eq_true rfl, lc_run ?_⟩
        refine ⟨rfl, rfl, ?_⟩
        exact .inr (.inl ⟨rfl, _, _, _, _, rfl⟩)
      · have eb : decide (b = b) = true := decide_eq_true rfl
        walk_at "y"
        split
        · rename_i hq
          replace hq : (!decide (b = b)) = true := hq
          rw [eb] at hq
          cases hq
        · exact .inr (.inr (.inl ⟨rfl, _, _, _, _, rfl⟩))
      · have eb : decide (a = a) = true := decide_eq_true rfl
        walk_at "y"
        split
        · rename_i hq
          replace hq : (!decide (a = a)) = true := hq
          rw [eb] at hq
          cases hq
        · exact .inr (.inr (.inr ⟨rfl, _, _, _, _, rfl⟩))
      · exact h2
    · rw [rangeD_len] at w
      have e : ((10 : Int) ^ Int.toNat 7).toNat = 10000000 := by decide
      replace w : (((10 : Int) ^ Int.toNat 7).toNat = 0 ∧ _) ∨ (((10 : Int) ^ Int.toNat 7).toNat = 1 ∧ _) ∨ (((10 : Int) ^ Int.toNat 7).toNat = 2 ∧ _) ∨ (((10 : Int) ^ Int.toNat 7).toNat = 3 ∧ _) := w
      rw [e] at w
      rcases w with ⟨w, _⟩ | ⟨w, _⟩ | ⟨w, _⟩ | ⟨w, _⟩ <;> exact absurd w (by decide)
  · exact h.elim
/-! ### what is wrong -/
def wrongL (c : Case) : List (Nat × List D) :=
  let lo : D := .int c.lo
  let hi : D := .int c.hi
  let le : D := .int c.least
  let mo : D := oI c.most
  let ro : D := .int c.room
  let t12 : List D := [.bl true, .bl false, .str ("" : Str), .str ("1" : Str), .lst [.int 1], .tup [.int 1], .dic []]
  [(0, [.int (-1), .non, .bl true, .bl false, .str (toString c.room), .lst [ro], .tup [ro], .dic []]),
   (1, t12), (2, t12),
   (3, [.int (-1), .bl true, .bl false, .str ("0" : Str), .lst [.int 0], .tup [.int 0]]),
   (4, [.lst [lo, hi], .tup [lo], .tup [.int (c.hi + 1), hi], .tup [.int (-1), hi], .tup [lo, hi, hi], .non, lo, .tup [.non, hi], .tup [lo, .non], .tup [.bl false, hi], .tup [.int 0, .bl true], .tup [.str (toString c.lo), hi]] ++ [.tup [], .tup [.tup [lo, hi]], .tup [lo, .lst [hi]]]),
   (5, [.lst [le, mo], .tup [le], .tup [.int (-1), mo], .tup [le, .int (-1)], .tup [le, mo, .int 0], .non, le, .tup [.non, mo], .tup [.bl true, mo], .tup [le, .bl false]] ++ [.tup [], .tup [le, .str ("0" : Str)], .tup [.str ("0" : Str), mo], .tup [.lst [le], mo]]),
   (6, [.non, .bl true, .bl false, .str ("0" : Str), .lst [.int 0], .tup [.int 0]])]
def pairD (p : Nat × List D) : D := .tup [.int (p.1 : Int), .lst p.2]
/-- small enough to be written -/
def SmallC (c : Case) : Prop := c.room.natAbs.log2 < 1920 ∧ c.lo.natAbs.log2 < 1920
def φ_law_wrong : Spec := fun ds Q _ => ∃ c : Case, ds = [.lst (caseD c)] ∧ SmallC c ∧ Q (.lst ((wrongL c).map pairD))
abbrev N_law_wrong : List Str := ["case", "lo", "hi", "least", "most", "found", "place", "wants", "bounds"]
def r_law_wrong (Ξ : Xi) : PTS :=
  (ysSeq (ysAsgG (yIx (yVar 0) (yC (.int 4))) (gTupY 2 [(gN 1), (gN 2)]))
  (ysSeq (ysAsgG (yIx (yVar 0) (yC (.int 5))) (gTupY 2 [(gN 3), (gN 4)]))
  (ysSeq (ysAsgO (ynLst (ylCons (yTup (ylCons (yC (.int 0)) (ylCons (yNew (ynLst (ylCons (yNeg (yC (.int 1))) (ylCons (yC .non) (ylCons (yC (.bl true)) (ylCons (yC (.bl false)) (ylCons (yCB oStr (ylCons (yIx (yVar 0) (yC (.int 0))) ylNil)) (ylCons (yNew (ynLst (ylCons (yIx (yVar 0) (yC (.int 0))) ylNil))) (ylCons (yTup (ylCons (yIx (yVar 0) (yC (.int 0))) ylNil)) (ylCons yDic0 ylNil)))))))))) ylNil))) ylNil)) 5)
  (ysSeq (ysFor (yiSeq (yNew (ynLst (ylCons (yC (.int 1)) (ylCons (yC (.int 2)) ylNil))))) (gN 6)
  (ysApp 5 (yTup (ylCons (yVar 6) (ylCons (yNew (ynLst (ylCons (yC (.bl true)) (ylCons (yC (.bl false)) (ylCons (yC (.str ("" : Str))) (ylCons (yC (.str ("1" : Str))) (ylCons (yNew (ynLst (ylCons (yC (.int 1)) ylNil))) (ylCons (yTup (ylCons (yC (.int 1)) ylNil)) (ylCons yDic0 ylNil))))))))) ylNil)))))
  (ysSeq (ysApp 5 (yTup (ylCons (yC (.int 3)) (ylCons (yNew (ynLst (ylCons (yNeg (yC (.int 1))) (ylCons (yC (.bl true)) (ylCons (yC (.bl false)) (ylCons (yC (.str ("0" : Str))) (ylCons (yNew (ynLst (ylCons (yC (.int 0)) ylNil))) (ylCons (yTup (ylCons (yC (.int 0)) ylNil)) ylNil)))))))) ylNil))))
  (ysSeq (ysAsg (yNew (ynLst (ylCons (yNew (ynLst (ylCons (yVar 1) (ylCons (yVar 2) ylNil)))) (ylCons (yTup (ylCons (yVar 1) ylNil)) (ylCons (yTup (ylCons (yBin oAdd (yVar 2) (yC (.int 1))) (ylCons (yVar 2) ylNil))) (ylCons (yTup (ylCons (yNeg (yC (.int 1))) (ylCons (yVar 2) ylNil))) (ylCons (yTup (ylCons (yVar 1) (ylCons (yVar 2) (ylCons (yVar 2) ylNil)))) (ylCons (yC .non) (ylCons (yVar 1) (ylCons (yTup (ylCons (yC .non) (ylCons (yVar 2) ylNil))) (ylCons (yTup (ylCons (yVar 1) (ylCons (yC .non) ylNil))) (ylCons (yTup (ylCons (yC (.bl false)) (ylCons (yVar 2) ylNil))) (ylCons (yTup (ylCons (yC (.int 0)) (ylCons (yC (.bl true)) ylNil))) (ylCons (yTup (ylCons (yCB oStr (ylCons (yVar 1) ylNil)) (ylCons (yVar 2) ylNil))) ylNil)))))))))))))) 7)
  (ysSeq (ysApp 5 (yTup (ylCons (yC (.int 4)) (ylCons (yBin oAdd (yVar 7) (yNew (ynLst (ylCons (yTup ylNil) (ylCons (yTup (ylCons (yTup (ylCons (yVar 1) (ylCons (yVar 2) ylNil))) ylNil)) (ylCons (yTup (ylCons (yVar 1) (ylCons (yNew (ynLst (ylCons (yVar 2) ylNil))) ylNil))) ylNil)))))) ylNil))))
  (ysSeq (ysAsg (yNew (ynLst (ylCons (yNew (ynLst (ylCons (yVar 3) (ylCons (yVar 4) ylNil)))) (ylCons (yTup (ylCons (yVar 3) ylNil)) (ylCons (yTup (ylCons (yNeg (yC (.int 1))) (ylCons (yVar 4) ylNil))) (ylCons (yTup (ylCons (yVar 3) (ylCons (yNeg (yC (.int 1))) ylNil))) (ylCons (yTup (ylCons (yVar 3) (ylCons (yVar 4) (ylCons (yC (.int 0)) ylNil)))) (ylCons (yC .non) (ylCons (yVar 3) (ylCons (yTup (ylCons (yC .non) (ylCons (yVar 4) ylNil))) (ylCons (yTup (ylCons (yC (.bl true)) (ylCons (yVar 4) ylNil))) (ylCons (yTup (ylCons (yVar 3) (ylCons (yC (.bl false)) ylNil))) ylNil)))))))))))) 8)
  (ysSeq (ysApp 5 (yTup (ylCons (yC (.int 5)) (ylCons (yBin oAdd (yVar 8) (yNew (ynLst (ylCons (yTup ylNil) (ylCons (yTup (ylCons (yVar 3) (ylCons (yC (.str ("0" : Str))) ylNil))) (ylCons (yTup (ylCons (yC (.str ("0" : Str))) (ylCons (yVar 4) ylNil))) (ylCons (yTup (ylCons (yNew (ynLst (ylCons (yVar 3) ylNil))) (ylCons (yVar 4) ylNil))) ylNil))))))) ylNil))))
  (ysSeq (ysApp 5 (yTup (ylCons (yC (.int 6)) (ylCons (yNew (ynLst (ylCons (yC .non) (ylCons (yC (.bl true)) (ylCons (yC (.bl false)) (ylCons (yC (.str ("0" : Str))) (ylCons (yNew (ynLst (ylCons (yC (.int 0)) ylNil))) (ylCons (yTup (ylCons (yC (.int 0)) ylNil)) ylNil)))))))) ylNil))))
  (ysRet (yVar 5))))))))))))
theorem vc_law_wrong (ds : List D) (Q' : D → Prop) (E' : Nat → Prop) (h : φ_law_wrong ds Q' E') : r_law_wrong (fun c _ => E' c) { nx := fun _ => Q' .non, rt := fun d _ => Q' d } (startE N_law_wrong ds) := by
  obtain ⟨c, rfl, ⟨h1, h2⟩, h⟩ := h
  obtain ⟨room, first, last, told, lo, hi, least, most, edge⟩ := c
  let c : Case := ⟨room, first, last, told, lo, hi, least, most, edge⟩
  let L : List (Nat × List D) := wrongL c
  let e (fd : Option S) (p w b : Option S) : PEnv := [some (.v (.lst (caseD c))), some (.v (.int lo)), some (.v (.int hi)), some (.v (.int least)), some (.v (oI most)), fd, p, w, b]
  let f (n : Nat) : Option S := some (.o ((L.take n).map pairD))
  let W : List D := [.lst [.int lo, .int hi], .tup [.int lo], .tup [.int (hi + 1), .int hi], .tup [.int (-1), .int hi], .tup [.int lo, .int hi, .int hi], .non, .int lo, .tup [.non, .int hi], .tup [.int lo, .non], .tup [.bl false, .int hi], .tup [.int 0, .bl true], .tup [.str (toString lo), .int hi]]
  let B : List D := [.lst [.int least, oI most], .tup [.int least], .tup [.int (-1), oI most], .tup [.int least, .int (-1)], .tup [.int least, oI most, .int 0], .non, .int least, .tup [.non, oI most], .tup [.bl true, oI most], .tup [.int least, .bl false]]
  refine seq_step [some (.v (.lst (caseD c))), some (.v (.int lo)), some (.v (.int hi)), none, none, none, none, none, none] (fun K k => k) ?_
  refine seq_step [some (.v (.lst (caseD c))), some (.v (.int lo)), some (.v (.int hi)), some (.v (.int least)), some (.v (oI most)), none, none, none, none] (fun K k => k) ?_
  refine seq_step (e (f 1) none none none) (fun K k => gd_of h1 k) ?_
  refine seq_step (e (f 3) (some (.v (.int 2))) none none) (fun K k => for_run k) ?_
  refine seq_step (e (f 4) (some (.v (.int 2))) none none) (fun K k => k) ?_
  refine seq_step (e (f 4) (some (.v (.int 2))) (some (.v (.lst W))) none) (fun K k => gd_of h2 k) ?_
  refine seq_step (e (f 5) (some (.v (.int 2))) (some (.v (.lst W))) none) (fun K k => k) ?_
  refine seq_step (e (f 5) (some (.v (.int 2))) (some (.v (.lst W))) (some (.v (.lst B)))) (fun K k => k) ?_
  refine seq_step (e (f 6) (some (.v (.int 2))) (some (.v (.lst W))) (some (.v (.lst B)))) (fun K k => k) ?_
  refine seq_step (e (f 7) (some (.v (.int 2))) (some (.v (.lst W))) (some (.v (.lst B)))) (fun K k => k) ?_
  exact h

end PL.K63

set_option Elab.async false
set_option linter.all false
set_option autoImplicit false
set_option maxRecDepth 100000
set_option maxHeartbeats 1000000
namespace PL.K63
open PySem PySem.Spec PyProof.Rows L2
local macro_rules | `(tactic| walk_at "y") => `(tactic| conv => whnf)
/-- the stream, made -/
def φ_law_pool : Spec := fun ds Q _ => ∃ xs : List Int, ds = [.frl (xs.map D.int)] ∧ xs.length ≤ 63 ∧ ∀ ns : List Int, 900 ≤ ns.length → ns.length ≤ 5000 → Q (.lst (ns.map D.int))
theorem int_of {xs : List Int} {i : Nat} {d : D} (h : (xs.map D.int)[i]? = some d) : ∃ x, d = .int x := by
  rw [List.getElem?_map] at h
  cases e : xs[i]? with
  | none => rw [e] at h; cases h
  | some x => rw [e] at h; exact ⟨x, (Option.some.inj h).symm⟩
theorem map_snoc {ns : List Int} {x : Int} : ns.map D.int ++ [D.int x] = (ns ++ [x]).map D.int := by simp
theorem map_snoc2 {ns : List Int} {x y : Int} : ns.map D.int ++ [D.int x, D.int y] = (ns ++ [x, y]).map D.int := by simp
abbrev N_law_pool : List Str := ["script", "pool", "cell", "rest", "k", "state"]
def r_law_pool (Ξ : Xi) : PTS :=
  (ysSeq (ysAsgO (ynLst ylNil) 1)
  (ysSeq (ysFor (yiFrl (yVar 0)) (gN 2)
  (ysSeq (ysAsg (yBin oMod (yCB oInt (ylCons (yVar 2) ylNil)) (yBin oPow (yC (.int 60)) (yC (.int 60)))) 3)
  (ysIf (yBinT oGe (yVar 3) (yBin oPow (yC (.int 10)) (yC (.int 18))))
  (ysFor (yiRg1 (ylCons (yC (.int 60)) ylNil)) (gN 4)
  (ysSeq (ysApp 1 (yBin oMod (yCB oInt (ylCons (yVar 3) ylNil)) (yC (.int 60))))
  (ysSeq (ysAsg (yCB oInt (ylCons (yBin oFdiv (yVar 3) (yC (.int 60))) ylNil)) 3)
  (ysIf (yBinT (oEq false) (yVar 3) (yC (.int 0)))
  ysBrk
  ysNext))))
  (ysAsgO (ynAdd (yVar 1) (yNew (ynLst (ylCons (yBin oMod (yCB oInt (ylCons (yVar 3) ylNil)) (yC (.int 60))) (ylCons (yBin oMod (yCB oInt (ylCons (yBin oFdiv (yVar 3) (yC (.int 60))) ylNil)) (yC (.int 60))) ylNil))))) 1))))
  (ysSeq (ysAsg (yC (.int 17)) 5)
  (ysSeq (ysFor (yiFrl (yVar 0)) (gN 2)
  (ysAsg (yBin oMod (yCB oInt (ylCons (yBin oAdd (yBin oMul (yVar 5) (yC (.int 31))) (yBin oMod (yCB oInt (ylCons (yVar 2) ylNil)) (yC (.int 2147483647)))) ylNil)) (yC (.int 2147483647))) 5))
  (ysSeq (ysFor (yiRg1 (ylCons (yC (.int 900)) ylNil)) (gN 4)
  (ysSeq (ysAsg (yBin oMod (yCB oInt (ylCons (yBin oAdd (yBin oMul (yVar 5) (yC (.int 48271))) (yC (.int 11))) ylNil)) (yC (.int 2147483647))) 5)
  (ysApp 1 (yBin oMod (yCB oInt (ylCons (yBin oFdiv (yVar 5) (yC (.int 97))) ylNil)) (yC (.int 60))))))
  (ysRet (yVar 1)))))))
theorem vc_law_pool (ds : List D) (Q' : D → Prop) (E' : Nat → Prop) (h : φ_law_pool ds Q' E') : r_law_pool (fun c _ => E' c) { nx := fun _ => Q' .non, rt := fun d _ => Q' d } (startE N_law_pool ds) := by
  obtain ⟨xs, rfl, hx, h⟩ := h
  let e (ns : List Int) (c r k s : Option S) : PEnv := [some (.v (.frl (xs.map D.int))), some (.o (ns.map D.int)), c, r, k, s]
  refine seq_step (e [] none none none none) (fun K k => k) ?_
  refine seq_post (fun ε => ∃ ns c r k, ns.length ≤ 60 * 63 ∧ ε = e ns c r k none) (fun K kk => ⟨fun i ε => ∃ ns c r k, ns.length ≤ 60 * i ∧ ε = e ns c r k none, ⟨[], none, none, none, Nat.zero_le _, rfl⟩, fun i d ε hi hd w => ?_, fun ε ⟨ns, c, r, k, hl, q⟩ => kk ε ⟨ns, c, r, k, by rw [List.length_map] at hl; omega, q⟩⟩) fun ε w => ?_
  · obtain ⟨x, rfl⟩ := int_of hd
    obtain ⟨ns, c, r, k, hl, rfl⟩ := w
    rw [List.length_map] at hi
    refine seq_step (e ns (some (.v (.int x))) (some (.v (.int (x % 60 ^ 60)))) k none) (fun K k => k) ?_
    walk_at "y"
    split
    · refine ⟨fun j ε => ∃ ns r k, ns.length ≤ 60 * i + j ∧ ε = e ns (some (.v (.int x))) (some (.v (.int r))) k none, ⟨ns, _, k, hl, rfl⟩, fun j d ε hj hd w => ?_, fun ε w => ?_⟩
      · have hdd := rangeD_get hd
        rw [hdd.2]
        obtain ⟨ns, r, k, hl, rfl⟩ := w
        have hj : j < 60 := hdd.1
        refine gd_of (show (ns.map D.int).length < 16777216 by rw [List.length_map]; omega) ?_
        rw [map_snoc]
        walk_at "y"
        split
        · exact ⟨_, _, _, _, by rw [List.length_append]; show ns.length + 1 ≤ 60 * (i + 1); omega, rfl⟩
        · exact ⟨_, _, _, by rw [List.length_append]; show ns.length + 1 ≤ 60 * i + (j + 1); omega, rfl⟩
      · obtain ⟨ns, r, k, hl, rfl⟩ := w
        rw [rangeD_len] at hl
        exact ⟨ns, _, _, _, by show ns.length ≤ 60 * (i + 1); exact Nat.le_trans hl (by show 60 * i + 60 ≤ _; omega), rfl⟩
    · refine gd_of (show (ns.map D.int).length + 2 ≤ 16777216 by rw [List.length_map]; omega) ?_
      rename_i hq
      rw [map_snoc2]
      exact ⟨_, _, _, _, by rw [List.length_append]; show ns.length + 2 ≤ 60 * (i + 1); omega, rfl⟩
  · obtain ⟨ns, c, r, k, hl, rfl⟩ := w
    refine seq_step (e ns c r k (some (.v (.int 17)))) (fun K k => k) ?_
    refine seq_post (fun ε => ∃ c s, ε = e ns c r k (some (.v (.int s)))) (fun K kk => ⟨fun i ε => ∃ c s, ε = e ns c r k (some (.v (.int s))), ⟨c, 17, rfl⟩, fun i d ε hi hd w => ?_, fun ε w => kk ε w⟩) fun ε w => ?_
    · obtain ⟨x, rfl⟩ := int_of hd
      obtain ⟨c, s, rfl⟩ := w
      exact gd_of (.inr ⟨by decide, by decide⟩) ⟨_, _, rfl⟩
    · obtain ⟨c, s, rfl⟩ := w
      refine ⟨fun j ε => ∃ ns' k s, ns'.length = ns.length + j ∧ ε = e ns' c r k (some (.v (.int s))), ⟨ns, k, s, rfl, rfl⟩, fun j d ε hj hd w => ?_, fun ε w => ?_⟩
      · have hdd := rangeD_get hd
        rw [hdd.2]
        obtain ⟨ns', k, s, hl', rfl⟩ := w
        have hj : j < 900 := hdd.1
        refine gd_of (.inr ⟨by decide, by decide⟩) ?_
        refine gd_of (show (ns'.map D.int).length < 16777216 by rw [List.length_map]; omega) ?_
        rw [map_snoc]
        exact ⟨_, _, _, by rw [List.length_append, hl']; rfl, rfl⟩
      · obtain ⟨ns', k, s, hl', rfl⟩ := w
        rw [rangeD_len] at hl'
        replace hl' : ns'.length = ns.length + 900 := hl'
        exact h ns' (by omega) (by omega)
def φ_law_stream : Spec := φStream
abbrev N_law_stream : List Str := ["script"]
def r_law_stream (Ξ : Xi) : PTS :=
  (ysRet (yBin oAdd (yNew (ynLst (ylCons (yC (.int 1)) ylNil))) (yCall φ_law_pool Ξ (ylCons (yVar 0) ylNil))))
theorem vc_law_stream (ds : List D) (Q' : D → Prop) (E' : Nat → Prop) (h : φList ds Q' E') : r_law_stream (fun c _ => E' c) { nx := fun _ => Q' .non, rt := fun d _ => Q' d } (startE N_law_stream ds) := by
  unfold φList at h
  split at h
  · obtain ⟨xs, rfl, hx, h⟩ := h
    refine ⟨xs, rfl, hx, fun ns h1 h2 => ?_⟩
    refine gd_of (show 1 + (ns.map D.int).length ≤ 16777216 by rw [List.length_map]; omega) ?_
    refine h (1 :: ns) ⟨?_, ?_, 1, rfl, by decide, ?_⟩
    · show 2 ≤ ns.length + 1; omega
    · show ns.length + 1 ≤ _; omega
    · show (1 : Int) < ((ns.length + 1 : Nat) : Int); omega
  · exact h.elim

end PL.K63

set_option Elab.async false
set_option linter.all false
set_option autoImplicit false
set_option maxRecDepth 100000
set_option maxHeartbeats 1000000
namespace PL.K63
open PySem PySem.Spec PyProof.Rows L2
local macro_rules | `(tactic| walk_at "y") => `(tactic| conv => whnf)
def φ_law_pick : Spec := φPick
def φ_law_number : Spec
  | [.pool, .int lo, .int hi], Q, _ => gd (lo ≤ hi) (∀ r : Int, lo ≤ r → r ≤ hi → Q (.int r))
  | _, _, _ => False
theorem two_of {r : Int} (h0 : 0 ≤ r) (h1 : r < 2) : r = 0 ∨ r = 1 := by omega
theorem three_of {r : Int} (h0 : 0 ≤ r) (h1 : r < 3) : r = 0 ∨ r = 1 ∨ r = 2 := by omega
theorem four_of {r : Int} (h0 : 0 ≤ r) (h1 : r < 4) : r = 0 ∨ r = 1 ∨ r = 2 ∨ r = 3 := by omega
abbrev N_law_number : List Str := ["pool", "low", "high", "kind"]
def r_law_number (Ξ : Xi) : PTS :=
  (ysSeq (ysAsg (yCall φ_law_pick Ξ (ylCons (yVar 0) (ylCons (yC (.int 6)) ylNil))) 3)
  (ysSeq (ysIf (yBinT oLt (yVar 3) (yC (.int 2)))
  (ysRet (yIx (yNew (ynLst (ylCons (yVar 1) (ylCons (yVar 2) ylNil)))) (yVar 3)))
  ysNext)
  (ysRet (yBin oAdd (yVar 1) (yBin oMod (yCB oInt (ylCons (yBin oAdd (yBin oMul (yCall φ_law_pick Ξ (ylCons (yVar 0) (ylCons (yC (.int 60)) ylNil))) (yC (.int 60))) (yCall φ_law_pick Ξ (ylCons (yVar 0) (ylCons (yC (.int 60)) ylNil)))) ylNil)) (yBin oAdd (yBin oSub (yVar 2) (yVar 1)) (yC (.int 1))))))))
theorem vc_law_number (ds : List D) (Q' : D → Prop) (E' : Nat → Prop) (h : φ_law_number ds Q' E') : r_law_number (fun c _ => E' c) { nx := fun _ => Q' .non, rt := fun d _ => Q' d } (startE N_law_number ds) := by
  unfold φ_law_number at h
  split at h
  · rename_i lo hi
    obtain ⟨hle, h2⟩ := gd_elim h
    intro k k0 k1
    walk_at "y"
    split
    · rename_i hq
      have hq : k < 2 := of_decide_eq_true hq
      rcases two_of k0 hq with rfl | rfl
      · exact h2 lo (Int.le_refl _) hle
      · exact h2 hi hle (Int.le_refl _)
    · intro r a0 a1
      refine gd_of (.inr ⟨by decide, by decide⟩) ?_
      intro r2 b0 b1
      have hp : 0 < hi - lo + 1 := by omega
      refine gd_of hp ?_
      exact h2 _ (by have := Int.emod_nonneg (r * 60 + r2) (show hi - lo + 1 ≠ 0 by omega); omega) (by have := Int.emod_lt_of_pos (r * 60 + r2) hp; omega)
  · exact h.elim
def φ_law_case : Spec
  | [.pool], Q, _ => ∀ c, OkC c → SmallC c → Q (.lst (caseD c))
  | _, _, _ => False
theorem small_log {n : Nat} (h : n < 4096) : n.log2 < 1920 := by
  by_cases h0 : n = 0
  · subst h0; decide
  · exact (Nat.log2_lt h0).2 (Nat.lt_of_lt_of_le h (Nat.pow_le_pow_right (n := 2) (by decide) (show 12 ≤ 1920 by decide)))
abbrev N_law_case : List Str := ["pool", "room", "sides", "turn", "far", "number", "edges", "told", "lo", "hi", "least", "most"]
def r_law_case (Ξ : Xi) : PTS :=
  (ysSeq (ysAsg (yCall φ_law_number Ξ (ylCons (yVar 0) (ylCons (yC (.int 0)) (ylCons (yIx (yNew (ynLst (ylCons (yC (.int 60)) (ylCons (yC (.int 60)) (ylCons (yC (.int 3000)) ylNil))))) (yCall φ_law_pick Ξ (ylCons (yVar 0) (ylCons (yC (.int 3)) ylNil)))) ylNil)))) 1)
  (ysSeq (ysAsgO (ynLst ylNil) 2)
  (ysSeq (ysFor (yiRg1 (ylCons (yC (.int 2)) ylNil)) (gN 3)
  (ysSeq (ysAsg (yIx (yNew (ynLst (ylCons (yC (.int 5)) (ylCons (yC (.int 60)) (ylCons (yC (.int 999)) ylNil))))) (yCall φ_law_pick Ξ (ylCons (yVar 0) (ylCons (yC (.int 3)) ylNil)))) 4)
  (ysSeq (ysAsg (yCall φ_law_number Ξ (ylCons (yVar 0) (ylCons (yNeg (yVar 4)) (ylCons (yVar 4) ylNil)))) 5)
  (ysApp 2 (yIx (yNew (ynLst (ylCons (yVar 5) (ylCons (yC .non) ylNil)))) (yCall φ_law_pick Ξ (ylCons (yVar 0) (ylCons (yC (.int 2)) ylNil))))))))
  (ysSeq (ysAsg (yIx (yNew (ynLst (ylCons (yC (.int 0)) (ylCons (yCall φ_law_number Ξ (ylCons (yVar 0) (ylCons (yC (.int 0)) (ylCons (yC (.int 12)) ylNil)))) (ylCons (yCall φ_law_number Ξ (ylCons (yVar 0) (ylCons (yNeg (yC (.int 60))) (ylCons (yC (.int 60)) ylNil)))) ylNil))))) (yCall φ_law_pick Ξ (ylCons (yVar 0) (ylCons (yC (.int 3)) ylNil)))) 6)
  (ysSeq (ysIf (yAnd (yBinT (oEq false) (yCall φ_law_pick Ξ (ylCons (yVar 0) (ylCons (yC (.int 3)) ylNil))) (yC (.int 0))) (yBinT (oIsN true) (yIx (yVar 2) (yC (.int 0))) (yC .non)))
  (ysSetIx 2 (yC (.int 1)) (yBin oSub (yBin oSub (yBin oSub (yVar 1) (yIx (yVar 2) (yC (.int 0)))) (yVar 6)) (yCall φ_law_pick Ξ (ylCons (yVar 0) (ylCons (yC (.int 3)) ylNil)))))
  ysNext)
  (ysSeq (ysAsg (yIx (yNew (ynLst (ylCons (yC .non) (ylCons (yC .non) (ylCons (yCall φ_law_number Ξ (ylCons (yVar 0) (ylCons (yC (.int 0)) (ylCons (yC (.int 80)) ylNil)))) ylNil))))) (yCall φ_law_pick Ξ (ylCons (yVar 0) (ylCons (yC (.int 3)) ylNil)))) 7)
  (ysSeq (ysAsg (yCall φ_law_number Ξ (ylCons (yVar 0) (ylCons (yC (.int 0)) (ylCons (yC (.int 40)) ylNil)))) 8)
  (ysSeq (ysAsg (yBin oAdd (yVar 8) (yIx (yNew (ynLst (ylCons (yC (.int 0)) (ylCons (yCall φ_law_pick Ξ (ylCons (yVar 0) (ylCons (yC (.int 60)) ylNil))) (ylCons (yCall φ_law_number Ξ (ylCons (yVar 0) (ylCons (yC (.int 0)) (ylCons (yC (.int 3000)) ylNil)))) ylNil))))) (yCall φ_law_pick Ξ (ylCons (yVar 0) (ylCons (yC (.int 3)) ylNil))))) 9)
  (ysSeq (ysAsg (yIx (yNew (ynLst (ylCons (yC (.int 0)) (ylCons (yC (.int 0)) (ylCons (yCall φ_law_number Ξ (ylCons (yVar 0) (ylCons (yC (.int 0)) (ylCons (yC (.int 80)) ylNil)))) ylNil))))) (yCall φ_law_pick Ξ (ylCons (yVar 0) (ylCons (yC (.int 3)) ylNil)))) 10)
  (ysSeq (ysAsg (yIx (yNew (ynLst (ylCons (yC .non) (ylCons (yC .non) (ylCons (yCall φ_law_number Ξ (ylCons (yVar 0) (ylCons (yC (.int 0)) (ylCons (yC (.int 80)) ylNil)))) (ylCons (yCall φ_law_number Ξ (ylCons (yVar 0) (ylCons (yC (.int 0)) (ylCons (yC (.int 9)) ylNil)))) ylNil)))))) (yCall φ_law_pick Ξ (ylCons (yVar 0) (ylCons (yC (.int 4)) ylNil)))) 11)
  (ysRet (yNew (ynLst (ylCons (yVar 1) (ylCons (yIx (yVar 2) (yC (.int 0))) (ylCons (yIx (yVar 2) (yC (.int 1))) (ylCons (yVar 7) (ylCons (yTup (ylCons (yVar 8) (ylCons (yVar 9) ylNil))) (ylCons (yTup (ylCons (yVar 10) (ylCons (yVar 11) ylNil))) (ylCons (yVar 6) ylNil))))))))))))))))))))
theorem vc_law_case (ds : List D) (Q' : D → Prop) (E' : Nat → Prop) (h : φ_law_case ds Q' E') : r_law_case (fun c _ => E' c) { nx := fun _ => Q' .non, rt := fun d _ => Q' d } (startE N_law_case ds) := by
  unfold φ_law_case at h
  split at h
  · let e (ro si tu fa nu ed to lo hi le mo : Option S) : PEnv := [some (.v .pool), ro, si, tu, fa, nu, ed, to, lo, hi, le, mo]
    let I (i : Int) : Option S := some (.v (.int i))
    refine seq_post (fun ε => ∃ ro : Int, 0 ≤ ro ∧ ro ≤ 3000 ∧ ε = e (I ro) none none none none none none none none none none) (fun K kk => ?_) ?_
    · intro r a0 a1
      rcases three_of a0 a1 with rfl | rfl | rfl
      · exact fun x h0 h1 => kk _ ⟨x, h0, Int.le_trans h1 (by decide), rfl⟩
      · exact fun x h0 h1 => kk _ ⟨x, h0, Int.le_trans h1 (by decide), rfl⟩
      · exact fun x h0 h1 => kk _ ⟨x, h0, Int.le_trans h1 (by decide), rfl⟩
    rintro _ ⟨ro, r0, r1, rfl⟩
    refine seq_step (e (I ro) (some (.o [])) none none none none none none none none none) (fun K k => k) ?_
    let J (ss : List (Option Int)) : Option S := some (.o (ss.map oI))
    refine seq_post (fun ε => ∃ s1 s2 t f n, ε = e (I ro) (J [s1, s2]) t f n none none none none none none) (fun K kk => ⟨fun i ε => ∃ ss t f n, ss.length = i ∧ ε = e (I ro) (J ss) t f n none none none none none none, ⟨[], none, none, none, rfl, rfl⟩, fun i d ε hi hd w => ?_, fun ε w => ?_⟩) ?_
    · obtain ⟨ss, t, f, n, hl, rfl⟩ := w
      have hdd := rangeD_get hd
      have hi : i < 2 := hdd.1
      rw [hdd.2]
      refine seq_post (fun ε => ∃ fa : Int, 0 ≤ fa ∧ ε = e (I ro) (J ss) (I (0 + (i : Int))) (I fa) n none none none none none none) (fun K kk => ?_) ?_
      · intro r a0 a1
        rcases three_of a0 a1 with rfl | rfl | rfl
        · exact kk _ ⟨5, by decide, rfl⟩
        · exact kk _ ⟨60, by decide, rfl⟩
        · exact kk _ ⟨999, by decide, rfl⟩
      rintro _ ⟨fa, f0, rfl⟩
      refine seq_post (fun ε => ∃ nu : Int, ε = e (I ro) (J ss) (I (0 + (i : Int))) (I fa) (I nu) none none none none none none) (fun K kk => ?_) ?_
      · exact gd_of (by omega) fun x h0 h1 => kk _ ⟨x, rfl⟩
      rintro _ ⟨nu, rfl⟩
      intro r a0 a1
      have hlen : (ss.map oI).length < 16777216 := by rw [List.length_map]; omega
      have hsn : ∀ o, ss.map oI ++ [oI o] = (ss ++ [o]).map oI := fun o => by simp
      rcases two_of a0 a1 with rfl | rfl
      · refine gd_of hlen ?_
        refine ⟨ss ++ [some nu], I (0 + (i : Int)), I fa, I nu, by rw [List.length_append, hl]; rfl, ?_⟩
        show _ = e (I ro) (some (.o ((ss ++ [some nu]).map oI))) (I (0 + (i : Int))) (I fa) (I nu) none none none none none none
        rw [← hsn]
        rfl
      · refine gd_of hlen ?_
        refine ⟨ss ++ [none], I (0 + (i : Int)), I fa, I nu, by rw [List.length_append, hl]; rfl, ?_⟩
        show _ = e (I ro) (some (.o ((ss ++ [none]).map oI))) (I (0 + (i : Int))) (I fa) (I nu) none none none none none none
        rw [← hsn]
        rfl
    · obtain ⟨ss, t, f, n, hl, rfl⟩ := w
      rcases ss with _ | ⟨s1, _ | ⟨s2, _ | ⟨s3, ss⟩⟩⟩
      · cases hl
      · cases hl
      · exact kk _ ⟨s1, s2, t, f, n, rfl⟩
      · cases hl
    rintro _ ⟨s1, s2, t, f, n, rfl⟩
    refine seq_post (fun ε => ∃ ed : Int, ε = e (I ro) (J [s1, s2]) t f n (I ed) none none none none none) (fun K kk => ?_) ?_
    · intro x x0 x1 y y0 y1 r a0 a1
      rcases three_of a0 a1 with rfl | rfl | rfl
      · exact kk _ ⟨0, rfl⟩
      · exact kk _ ⟨x, rfl⟩
      · exact kk _ ⟨y, rfl⟩
    rintro _ ⟨ed, rfl⟩
    refine seq_post (fun ε => ∃ s1 s2, ε = e (I ro) (J [s1, s2]) t f n (I ed) none none none none none) (fun K kk => ?_) ?_
    · intro r a0 a1
      rcases three_of a0 a1 with rfl | rfl | rfl
      · cases s1 with
        | none => exact kk _ ⟨none, s2, rfl⟩
        | some v =>
          intro r a0 a1
          exact kk _ ⟨some v, some (ro - v - ed - r), rfl⟩
      · exact kk _ ⟨s1, s2, rfl⟩
      · exact kk _ ⟨s1, s2, rfl⟩
    rintro _ ⟨s1, s2, rfl⟩
    refine seq_post (fun ε => ∃ to : Option Int, (∀ t, to = some t → 0 ≤ t) ∧ ε = e (I ro) (J [s1, s2]) t f n (I ed) (some (.v (oI to))) none none none none) (fun K kk => ?_) ?_
    · intro x x0 x1 r a0 a1
      rcases three_of a0 a1 with rfl | rfl | rfl
      · exact kk _ ⟨none, fun t e => (by cases e), rfl⟩
      · exact kk _ ⟨none, fun t e => (by cases e), rfl⟩
      · exact kk _ ⟨some x, fun t e => (by cases e; exact x0), rfl⟩
    rintro _ ⟨to, hto, rfl⟩
    refine seq_post (fun ε => ∃ lo : Int, 0 ≤ lo ∧ lo ≤ 40 ∧ ε = e (I ro) (J [s1, s2]) t f n (I ed) (some (.v (oI to))) (I lo) none none none) (fun K kk => fun x x0 x1 => kk _ ⟨x, x0, x1, rfl⟩) ?_
    rintro _ ⟨lo, l0, l1, rfl⟩
    refine seq_post (fun ε => ∃ hi : Int, lo ≤ hi ∧ ε = e (I ro) (J [s1, s2]) t f n (I ed) (some (.v (oI to))) (I lo) (I hi) none none) (fun K kk => ?_) ?_
    · intro x x0 x1 y y0 y1 r a0 a1
      rcases three_of a0 a1 with rfl | rfl | rfl
      · exact kk _ ⟨lo + 0, by omega, rfl⟩
      · exact kk _ ⟨lo + x, by omega, rfl⟩
      · exact kk _ ⟨lo + y, by omega, rfl⟩
    rintro _ ⟨hi, lh, rfl⟩
    refine seq_post (fun ε => ∃ le : Int, 0 ≤ le ∧ ε = e (I ro) (J [s1, s2]) t f n (I ed) (some (.v (oI to))) (I lo) (I hi) (I le) none) (fun K kk => ?_) ?_
    · intro x x0 x1 r a0 a1
      rcases three_of a0 a1 with rfl | rfl | rfl
      · exact kk _ ⟨0, by decide, rfl⟩
      · exact kk _ ⟨0, by decide, rfl⟩
      · exact kk _ ⟨x, x0, rfl⟩
    rintro _ ⟨le, le0, rfl⟩
    refine seq_post (fun ε => ∃ mo : Option Int, (∀ t, mo = some t → 0 ≤ t) ∧ ε = e (I ro) (J [s1, s2]) t f n (I ed) (some (.v (oI to))) (I lo) (I hi) (I le) (some (.v (oI mo)))) (fun K kk => ?_) ?_
    · intro x x0 x1 y y0 y1 r a0 a1
      rcases four_of a0 a1 with rfl | rfl | rfl | rfl
      · exact kk _ ⟨none, fun t e => (by cases e), rfl⟩
      · exact kk _ ⟨none, fun t e => (by cases e), rfl⟩
      · exact kk _ ⟨some x, fun t e => (by cases e; exact x0), rfl⟩
      · exact kk _ ⟨some y, fun t e => (by cases e; exact y0), rfl⟩
    rintro _ ⟨mo, hmo, rfl⟩
    exact h ⟨ro, s1, s2, to, lo, hi, le, mo, ed⟩ ⟨r0, hto, l0, lh, le0, hmo⟩ ⟨small_log (by show ro.natAbs < 4096; omega), small_log (by show lo.natAbs < 4096; omega)⟩
  · exact h.elim

end PL.K63

set_option Elab.async false
set_option linter.all false
set_option autoImplicit false
set_option maxRecDepth 100000
set_option maxHeartbeats 1000000
namespace PL.K63
open PySem PySem.Spec PyProof.Rows L2
local macro_rules | `(tactic| walk_at "y") => `(tactic| conv => whnf)
/-! ### the law -/
def partB : Nat → D → Bool
  | 0 => isSizeB
  | 1 => whN
  | 2 => whN
  | 3 => fun d => isNon d || isSizeB d
  | 4 => wantsB
  | 5 => boundsB
  | _ => isWholeB
def regP : Nat → D → Bool
  | 4 => regT
  | 5 => regT
  | _ => regB
theorem regs_ok (c : Case) : regsB (caseD c) = true := by
  obtain ⟨room, first, last, told, lo, hi, least, most, edge⟩ := c
  cases first <;> cases last <;> cases told <;> cases most <;> rfl
theorem valid_ok {c : Case} (ok : OkC c) : validB (caseD c) = true := by
  obtain ⟨room, first, last, told, lo, hi, least, most, edge⟩ := c
  obtain ⟨h1, h2, h3, h4, h5, h6⟩ := ok
  have w1 : ∀ o, whN (oI o) = true := fun o => by cases o <;> rfl
  have w2 : (isNon (oI told) || isSizeB (oI told)) = true := by
    cases told with
    | none => rfl
    | some t => exact decide_eq_true (h2 t rfl)
  have w3 : wantsB (.tup [.int lo, .int hi]) = true := by
    show (decide (0 ≤ lo) && (decide (0 ≤ hi) && decide (lo ≤ hi))) = true
    have h3 : 0 ≤ lo := h3
    have h4 : lo ≤ hi := h4
    rw [decide_eq_true h3, decide_eq_true h4, decide_eq_true (show 0 ≤ hi by omega)]
    rfl
  have w4 : boundsB (.tup [.int least, oI most]) = true := by
    cases most with
    | none => exact decide_eq_true h5
    | some t =>
      show (decide (0 ≤ least) && decide (0 ≤ t)) = true
      rw [decide_eq_true (show 0 ≤ least from h5), decide_eq_true (h6 t rfl)]
      rfl
  have w5 : isSizeB (.int room) = true := decide_eq_true h1
  show (isSizeB (.int room) && (whN (oI first) && (whN (oI last) && ((isNon (oI told) || isSizeB (oI told)) && (wantsB (.tup [.int lo, .int hi]) && (boundsB (.tup [.int least, oI most]) && true)))))) = true
  rw [w5, w1, w1, w2, w3, w4]
  rfl
theorem oI_inj {a b : Option Int} (h : oI a = oI b) : a = b := by
  cases a <;> cases b <;> first | rfl | (cases h; done) | (cases h; rfl)
theorem case_inj {c c' : Case} (h : caseD c = caseD c') : c = c' := by
  obtain ⟨room, first, last, told, lo, hi, least, most, edge⟩ := c
  obtain ⟨room', first', last', told', lo', hi', least', most', edge'⟩ := c'
  simp only [caseD, List.cons.injEq, D.int.injEq, D.tup.injEq, and_true] at h
  obtain ⟨rfl, h2, h3, h4, ⟨rfl, rfl⟩, ⟨rfl, h6⟩, rfl⟩ := h
  have := oI_inj h2
  have := oI_inj h3
  have := oI_inj h4
  have := oI_inj h6
  subst_vars
  rfl
theorem span_form (c : Case) : ∃ a b, spanC c = [.int a, .int b] := by
  unfold spanC
  split
  · exact ⟨_, _, rfl⟩
  · split
    · exact ⟨_, _, rfl⟩
    · exact ⟨_, _, rfl⟩
theorem bad_set (c : Case) {n : Nat} {v : D} (hn : n < 7) (h1 : regP n v = true) (h2 : partB n v = false) : regsB ((caseD c).set n v) = true ∧ validB ((caseD c).set n v) = false := by
  have ro := regs_ok c
  unfold caseD regsB at ro
  simp only [Bool.and_eq_true] at ro
  obtain ⟨r1, r2, r3, r4, r5, r6, r7⟩ := ro
  rcases n with _ | _ | _ | _ | _ | _ | _ | n
  · simp only [caseD, List.set, regsB, validB]
    replace h1 : regB v = true := h1
    replace h2 : isSizeB v = false := h2
    simp [h1, h2, r2, r3, r4, r5, r6, r7]
  · simp only [caseD, List.set, regsB, validB]
    replace h1 : regB v = true := h1
    replace h2 : whN v = false := h2
    simp [h1, h2, r1, r2, r3, r4, r5, r6, r7]
  · simp only [caseD, List.set, regsB, validB]
    replace h1 : regB v = true := h1
    replace h2 : whN v = false := h2
    simp [h1, h2, r1, r2, r3, r4, r5, r6, r7]
  · simp only [caseD, List.set, regsB, validB]
    replace h1 : regB v = true := h1
    replace h2 : (isNon v || isSizeB v) = false := h2
    simp [h1, h2, r1, r2, r3, r4, r5, r6, r7]
  · simp only [caseD, List.set, regsB, validB]
    replace h1 : regT v = true := h1
    replace h2 : wantsB v = false := h2
    simp [h1, h2, r1, r2, r3, r4, r5, r6, r7]
  · simp only [caseD, List.set, regsB, validB]
    replace h1 : regT v = true := h1
    replace h2 : boundsB v = false := h2
    simp [h1, h2, r1, r2, r3, r4, r5, r6, r7]
  · simp only [caseD, List.set, regsB, validB]
    replace h1 : regB v = true := h1
    replace h2 : isWholeB v = false := h2
    simp [h1, h2, r1, r2, r3, r4, r5, r6, r7]
  · omega
theorem wrong_all (c : Case) : ∀ p ∈ wrongL c, p.1 < 7 ∧ 0 < p.2.length ∧ ∀ v ∈ p.2, regP p.1 v = true ∧ partB p.1 v = false := by
  obtain ⟨room, first, last, told, lo, hi, least, most, edge⟩ := c
  have hh : wantsB (.tup [.int (hi + 1), .int hi]) = false := by
    show (decide (0 ≤ hi + 1) && (decide (0 ≤ hi) && decide (hi + 1 ≤ hi))) = false
    rw [decide_eq_false (show ¬ (hi + 1 ≤ hi) by omega)]
    simp
  have hb : ∀ t : Int, boundsB (.tup [.int t, .int (-1)]) = false := fun t => by
    show (decide (0 ≤ t) && false) = false
    simp
  cases most <;> (unfold wrongL; (repeat' (first | exact List.forall_mem_nil _ | refine List.forall_mem_cons.2 ⟨?_, ?_⟩)) <;> refine ⟨Nat.le_of_ble_eq_true rfl, Nat.le_of_ble_eq_true rfl, ?_⟩ <;> (repeat' (first | exact List.forall_mem_nil _ | refine List.forall_mem_cons.2 ⟨?_, ?_⟩)) <;> first | exact ⟨rfl, rfl⟩ | exact ⟨rfl, hh⟩ | exact ⟨rfl, hb _⟩)
def mir (c : Case) : Case := { c with first := c.last, last := c.first }
theorem mir_ok {c : Case} (h : OkC c) : OkC (mir c) := h
theorem told_ok {c : Case} (ok : OkC c) {Q : D → Prop} {E : Nat → Prop} (h : Q (.tup (spanC c))) : φ_law_told [.lst (caseD c)] Q E := by
  refine ⟨regs_ok c, fun c' _ e _ => ?_, fun hb => ?_⟩
  · have e2 : c = c' := case_inj e
    rw [← e2]
    exact h
  · have hv := valid_ok ok
    rw [show validB (caseD c) = false from hb] at hv
    cases hv
theorem same_ok {c : Case} {Q : D → Prop} {E : Nat → Prop} (h : Q (.bl true)) : φ_law_same [.tup (spanC c), .tup (spanC c)] Q E := by
  obtain ⟨a, b, e⟩ := span_form c
  rw [e]
  exact gd_of ⟨rfl, rfl⟩ h
theorem refused_ok {c : Case} {n : Nat} {v : D} (hn : n < 7) (h1 : regP n v = true) (h2 : partB n v = false) {Q : D → Prop} {E : Nat → Prop} (h : Q (.bl true)) : φ_law_refused [.lst ((caseD c).set n v)] Q E := by
  obtain ⟨a, b⟩ := bad_set c hn h1 h2
  rcases n with _ | _ | _ | _ | _ | _ | _ | n
  · exact ⟨a, b, h⟩
  · exact ⟨a, b, h⟩
  · exact ⟨a, b, h⟩
  · exact ⟨a, b, h⟩
  · exact ⟨a, b, h⟩
  · exact ⟨a, b, h⟩
  · exact ⟨a, b, h⟩
  · omega
theorem not_bad {c : Case} (ok : OkC c) (hb : validB (caseD c) = false) : False := by
  rw [valid_ok ok] at hb
  cases hb
def φ_law : Spec := φLaw
abbrev N_law : List Str := ["script", "pool", "turn", "case", "due", "mirror", "place", "values", "value"]
def r_law (Ξ : Xi) : PTS :=
  (ysSeq (ysAsg (yCall φ_law_stream Ξ (ylCons (yVar 0) ylNil)) 1)
  (ysSeq (ysFor (yiRg1 (ylCons (yC (.int 12)) ylNil)) (gN 2)
  (ysSeq (ysAsg (yCall φ_law_case Ξ (ylCons (yVar 1) ylNil)) 3)
  (ysSeq (ysAsg (yCall φ_law_due Ξ (ylCons (yVar 3) ylNil)) 4)
  (ysSeq (ysIf (yNot (yTru (yCall φ_law_same Ξ (ylCons (yCall φ_law_told Ξ (ylCons (yVar 3) ylNil)) (ylCons (yVar 4) ylNil)))))
  (ysRet (yC (.bl false)))
  ysNext)
  (ysSeq (ysAsg (yBin oAdd (yNew (ynLst (ylCons (yIx (yVar 3) (yC (.int 0))) (ylCons (yIx (yVar 3) (yC (.int 2))) (ylCons (yIx (yVar 3) (yC (.int 1))) ylNil))))) (yNew (ynSl (yVar 3) (yoSome (yC (.int 3))) yoNone))) 5)
  (ysSeq (ysIf (yNot (yTru (yCall φ_law_same Ξ (ylCons (yCall φ_law_told Ξ (ylCons (yVar 5) ylNil)) (ylCons (yCall φ_law_due Ξ (ylCons (yVar 5) ylNil)) ylNil)))))
  (ysRet (yC (.bl false)))
  ysNext)
  (ysSeq (ysFor (yiSeq (yCall φ_law_wrong Ξ (ylCons (yVar 3) ylNil))) (gTupY 2 [(gN 6), (gN 7)])
  (ysSeq (ysAsg (yIx (yVar 7) (yCall φ_law_pick Ξ (ylCons (yVar 1) (ylCons (yCB oLen (ylCons (yVar 7) ylNil)) ylNil)))) 8)
  (ysIf (yNot (yTru (yCall φ_law_refused Ξ (ylCons (yBin oAdd (yBin oAdd (yNew (ynSl (yVar 3) yoNone (yoSome (yVar 6)))) (yNew (ynLst (ylCons (yVar 8) ylNil)))) (yNew (ynSl (yVar 3) (yoSome (yBin oAdd (yVar 6) (yC (.int 1)))) yoNone))) ylNil))))
  (ysRet (yC (.bl false)))
  ysNext)))
  (ysIf (yNot (yTru (yCall φ_law_same Ξ (ylCons (yCall φ_law_told Ξ (ylCons (yVar 3) ylNil)) (ylCons (yVar 4) ylNil)))))
  (ysRet (yC (.bl false)))
  ysNext))))))))
  (ysRet (yC (.bl true)))))
theorem vc_law (ds : List D) (Q' : D → Prop) (E' : Nat → Prop) (h : φ_law ds Q' E') : r_law (fun c _ => E' c) { nx := fun _ => Q' .non, rt := fun d _ => Q' d } (startE N_law ds) := by
  unfold φ_law φLaw at h
  split at h
  · obtain ⟨xs, rfl, hx, h⟩ := h
    let e (tu ca du mi pl vs va : Option S) : PEnv := [some (.v (.frl (xs.map D.int))), some (.v .pool), tu, ca, du, mi, pl, vs, va]
    let C (c : Case) : Option S := some (.v (.lst (caseD c)))
    refine seq_step (e none none none none none none none) (fun K k => ⟨⟨xs, rfl, hx⟩, k⟩) ?_
    refine seq_post (fun ε => True) (fun K kk => ⟨fun i ε => ∃ tu ca du mi pl vs va, ε = e tu ca du mi pl vs va, ⟨_, _, _, _, _, _, _, rfl⟩, fun i d ε hi hd w => ?_, fun ε w => kk ε trivial⟩) fun ε _ => h
    obtain ⟨tu, ca, du, mi, pl, vs, va, rfl⟩ := w
    have hdd := (rangeD_get hd).2
    subst hdd
    refine seq_post (fun ε => ∃ c, OkC c ∧ SmallC c ∧ ε = e (some (.v (.int (0 + (i : Int))))) (C c) du mi pl vs va) (fun K kk => fun c o m => kk _ ⟨c, o, m, rfl⟩) ?_
    rintro _ ⟨c, ok, sm, rfl⟩
    generalize some (S.v (D.int (0 + (i : Int)))) = tu
    obtain ⟨a, b, es⟩ := span_form c
    obtain ⟨a', b', es'⟩ := span_form (mir c)
    let T (c : Case) : Option S := some (.v (.tup [.int a, .int b]))
    refine seq_step (e tu (C c) (T c) mi pl vs va) (fun K k => ⟨c, rfl, ok, by rw [es]; exact k⟩) ?_
    refine seq_step (e tu (C c) (T c) mi pl vs va) (fun K k => ?_) ?_
    · refine ⟨regs_ok c, fun c' _ e2 _ => ?_, fun hb => (not_bad ok hb).elim⟩
      obtain rfl : c = c' := case_inj e2
      rw [es]
      exact gd_of ⟨rfl, rfl⟩ k
    refine seq_step (e tu (C c) (T c) (C (mir c)) pl vs va) (fun K k => k) ?_
    refine seq_step (e tu (C c) (T c) (C (mir c)) pl vs va) (fun K k => ?_) ?_
    · refine ⟨regs_ok (mir c), fun c' _ e2 _ => ?_, fun hb => (not_bad (mir_ok ok) hb).elim⟩
      obtain rfl : mir c = c' := case_inj e2
      refine ⟨mir c, rfl, mir_ok ok, ?_⟩
      rw [es']
      exact gd_of ⟨rfl, rfl⟩ k
    refine seq_post (fun ε => ∃ pl vs va, ε = e tu (C c) (T c) (C (mir c)) pl vs va) (fun K kk => ⟨c, rfl, sm, fun i ε => ∃ pl vs va, ε = e tu (C c) (T c) (C (mir c)) pl vs va, ⟨_, _, _, rfl⟩, fun i d ε hi hd w => ?_, fun ε w => kk ε w⟩) ?_
    · obtain ⟨pl, vs, va, rfl⟩ := w
      obtain ⟨p, hp, rfl⟩ := List.mem_map.mp (List.mem_of_getElem? hd)
      obtain ⟨n, ws⟩ := p
      obtain ⟨hn, hw, hall⟩ := wrong_all c _ hp
      let N : Option S := some (.v (.int (n : Int)))
      let V : Option S := some (.v (.lst ws))
      refine gtup2 (d1 := .int (n : Int)) (d2 := .lst ws) ?_
      refine seq_post (fun ε => ∃ v, v ∈ ws ∧ ε = e tu (C c) (T c) (C (mir c)) N V (some (.v v))) (fun K kk => ?_) ?_
      · refine gd_of (show (0 : Int) < ((ws.length : Nat) : Int) by replace hw : 0 < ws.length := hw; omega) ?_
        intro r r0 r1
        exact pick_of r0 r1 fun v hv => kk _ ⟨v, hv, rfl⟩
      rintro _ ⟨v, hv, rfl⟩
      obtain ⟨b1, b2⟩ := hall v hv
      obtain ⟨g1, g2⟩ := bad_set c hn b1 b2
      replace hn : n < 7 := hn
      clear hall hp hd b1 b2 hw
      rcases n with _ | _ | _ | _ | _ | _ | _ | n
      · exact ⟨g1, g2, _, _, _, rfl⟩
      · exact ⟨g1, g2, _, _, _, rfl⟩
      · exact ⟨g1, g2, _, _, _, rfl⟩
      · exact ⟨g1, g2, _, _, _, rfl⟩
      · exact ⟨g1, g2, _, _, _, rfl⟩
      · exact ⟨g1, g2, _, _, _, rfl⟩
      · exact ⟨g1, g2, _, _, _, rfl⟩
      · omega
    rintro _ ⟨pl, vs, va, rfl⟩
    refine ⟨regs_ok c, fun c' _ e2 _ => ?_, fun hb => (not_bad ok hb).elim⟩
    obtain rfl : c = c' := case_inj e2
    rw [es]
    exact gd_of ⟨rfl, rfl⟩ ⟨_, _, _, _, _, _, _, rfl⟩
  · exact h.elim
theorem len_span_within (ds : List D) (Q : D → Prop) (E : Nat → Prop) (h : φ_span_within ds Q E) : ds.length = 7 := by
  obtain ⟨c, rfl, _⟩ := h
  rfl
theorem len_span_in (ds : List D) (Q : D → Prop) (E : Nat → Prop) (h : φ_span_in ds Q E) : ds.length = 7 := by
  obtain ⟨_, _, _, _, _, _, _, rfl⟩ := φ_span_in_inv h
  rfl
theorem len_law_pool (ds : List D) (Q : D → Prop) (E : Nat → Prop) (h : φ_law_pool ds Q E) : ds.length = 1 := by
  obtain ⟨xs, rfl, _⟩ := h
  rfl
theorem len_law_due (ds : List D) (Q : D → Prop) (E : Nat → Prop) (h : φ_law_due ds Q E) : ds.length = 1 := by
  obtain ⟨c, rfl, _⟩ := h
  rfl
theorem len_law_wrong (ds : List D) (Q : D → Prop) (E : Nat → Prop) (h : φ_law_wrong ds Q E) : ds.length = 1 := by
  obtain ⟨c, rfl, _⟩ := h
  rfl

end PL.K63

set_option Elab.async false
set_option linter.all false
set_option autoImplicit false
set_option maxRecDepth 100000
set_option maxHeartbeats 2000000
namespace PL.K63
open PySem PySem.Spec PyProof.Rows L2
def topS (i : Nat) : Stmt := PySem.Challenge.pw_pageseen_k63_one_direction_in_a_frame.main.body.getD i (.Pass ⟨0, 0, 0, 0⟩)
abbrev s_is_whole : Stmt := topS 6
abbrev s_is_whole_or_none : Stmt := topS 7
abbrev s_is_size : Stmt := topS 8
abbrev s_is_pair : Stmt := topS 9
abbrev s_are_wants : Stmt := topS 10
abbrev s_are_bounds : Stmt := topS 11
abbrev s_size_within : Stmt := topS 12
abbrev s_span_within : Stmt := topS 13
abbrev s_span_in : Stmt := topS 14
abbrev s_law_pool : Stmt := topS 16
abbrev s_law_stream : Stmt := topS 17
abbrev s_law_pick : Stmt := topS 18
abbrev s_law_number : Stmt := topS 19
abbrev s_law_same : Stmt := topS 20
abbrev s_law_case : Stmt := topS 21
abbrev s_law_due : Stmt := topS 22
abbrev s_law_told : Stmt := topS 23
abbrev s_law_wrong : Stmt := topS 24
abbrev s_law_refused : Stmt := topS 25
abbrev s_law : Stmt := topS 26
/-- what the head tells -/
structure Txt (K : PySem.W.Frag) (mg : Str → Option Value) : Prop where
  g_is_whole : mg "is_whole" = some (.ref (He.ga K "is_whole"))
  d_is_whole : ∃ fd, FunD K "is_whole" "is_whole" (defArgs s_is_whole) (defBody s_is_whole) (defScope s_is_whole) [] [] (He.ga K "is_whole") fd
  g_is_whole_or_none : mg "is_whole_or_none" = some (.ref (He.ga K "is_whole_or_none"))
  d_is_whole_or_none : ∃ fd, FunD K "is_whole_or_none" "is_whole_or_none" (defArgs s_is_whole_or_none) (defBody s_is_whole_or_none) (defScope s_is_whole_or_none) [] [] (He.ga K "is_whole_or_none") fd
  g_is_size : mg "is_size" = some (.ref (He.ga K "is_size"))
  d_is_size : ∃ fd, FunD K "is_size" "is_size" (defArgs s_is_size) (defBody s_is_size) (defScope s_is_size) [] [] (He.ga K "is_size") fd
  g_is_pair : mg "is_pair" = some (.ref (He.ga K "is_pair"))
  d_is_pair : ∃ fd, FunD K "is_pair" "is_pair" (defArgs s_is_pair) (defBody s_is_pair) (defScope s_is_pair) [] [] (He.ga K "is_pair") fd
  g_are_wants : mg "are_wants" = some (.ref (He.ga K "are_wants"))
  d_are_wants : ∃ fd, FunD K "are_wants" "are_wants" (defArgs s_are_wants) (defBody s_are_wants) (defScope s_are_wants) [] [] (He.ga K "are_wants") fd
  g_are_bounds : mg "are_bounds" = some (.ref (He.ga K "are_bounds"))
  d_are_bounds : ∃ fd, FunD K "are_bounds" "are_bounds" (defArgs s_are_bounds) (defBody s_are_bounds) (defScope s_are_bounds) [] [] (He.ga K "are_bounds") fd
  g_size_within : mg "size_within" = some (.ref (He.ga K "size_within"))
  d_size_within : ∃ fd, FunD K "size_within" "size_within" (defArgs s_size_within) (defBody s_size_within) (defScope s_size_within) [] [] (He.ga K "size_within") fd
  g_span_within : mg "span_within" = some (.ref (He.ga K "span_within"))
  d_span_within : ∃ fd, FunD K "span_within" "span_within" (defArgs s_span_within) (defBody s_span_within) (defScope s_span_within) [] [] (He.ga K "span_within") fd
  g_span_in : mg "span_in" = some (.ref (He.ga K "span_in"))
  d_span_in : ∃ fd, FunD K "span_in" "span_in" (defArgs s_span_in) (defBody s_span_in) (defScope s_span_in) [] [] (He.ga K "span_in") fd
  g_law_pool : mg "_law_pool" = some (.ref (He.ga K "_law_pool"))
  d_law_pool : ∃ fd, FunD K "_law_pool" "_law_pool" (defArgs s_law_pool) (defBody s_law_pool) (defScope s_law_pool) [] [] (He.ga K "_law_pool") fd
  g_law_stream : mg "_law_stream" = some (.ref (He.ga K "_law_stream"))
  d_law_stream : ∃ fd, FunD K "_law_stream" "_law_stream" (defArgs s_law_stream) (defBody s_law_stream) (defScope s_law_stream) [] [] (He.ga K "_law_stream") fd
  g_law_pick : mg "_law_pick" = some (.ref (He.ga K "_law_pick"))
  d_law_pick : ∃ fd, FunD K "_law_pick" "_law_pick" (defArgs s_law_pick) (defBody s_law_pick) (defScope s_law_pick) [] [] (He.ga K "_law_pick") fd
  g_law_number : mg "_law_number" = some (.ref (He.ga K "_law_number"))
  d_law_number : ∃ fd, FunD K "_law_number" "_law_number" (defArgs s_law_number) (defBody s_law_number) (defScope s_law_number) [] [] (He.ga K "_law_number") fd
  g_law_same : mg "_law_same" = some (.ref (He.ga K "_law_same"))
  d_law_same : ∃ fd, FunD K "_law_same" "_law_same" (defArgs s_law_same) (defBody s_law_same) (defScope s_law_same) [] [] (He.ga K "_law_same") fd
  g_law_case : mg "_law_case" = some (.ref (He.ga K "_law_case"))
  d_law_case : ∃ fd, FunD K "_law_case" "_law_case" (defArgs s_law_case) (defBody s_law_case) (defScope s_law_case) [] [] (He.ga K "_law_case") fd
  g_law_due : mg "_law_due" = some (.ref (He.ga K "_law_due"))
  d_law_due : ∃ fd, FunD K "_law_due" "_law_due" (defArgs s_law_due) (defBody s_law_due) (defScope s_law_due) [] [] (He.ga K "_law_due") fd
  g_law_told : mg "_law_told" = some (.ref (He.ga K "_law_told"))
  d_law_told : ∃ fd, FunD K "_law_told" "_law_told" (defArgs s_law_told) (defBody s_law_told) (defScope s_law_told) [] [] (He.ga K "_law_told") fd
  g_law_wrong : mg "_law_wrong" = some (.ref (He.ga K "_law_wrong"))
  d_law_wrong : ∃ fd, FunD K "_law_wrong" "_law_wrong" (defArgs s_law_wrong) (defBody s_law_wrong) (defScope s_law_wrong) [] [] (He.ga K "_law_wrong") fd
  g_law_refused : mg "_law_refused" = some (.ref (He.ga K "_law_refused"))
  d_law_refused : ∃ fd, FunD K "_law_refused" "_law_refused" (defArgs s_law_refused) (defBody s_law_refused) (defScope s_law_refused) [] [] (He.ga K "_law_refused") fd
  g_law : mg "law" = some (.ref (He.ga K "law"))
  d_law : ∃ fd, FunD K "law" "law" (defArgs s_law) (defBody s_law) (defScope s_law) [] [] (He.ga K "law") fd
  n_all : mg "all" = none
  n_bool : mg "bool" = none
  n_dict : mg "dict" = none
  n_int : mg "int" = none
  n_isinstance : mg "isinstance" = none
  n_len : mg "len" = none
  n_list : mg "list" = none
  n_max : mg "max" = none
  n_min : mg "min" = none
  n_range : mg "range" = none
  n_sorted : mg "sorted" = none
  n_str : mg "str" = none
  n_sum : mg "sum" = none
  n_tuple : mg "tuple" = none
  g_PageError : mg "PageError" = some (.ref (He.ga K "PageError"))
  g_BadList : mg "BadList" = some (.ref (He.ga K "BadList"))
  g_BadMarks : mg "BadMarks" = some (.ref (He.ga K "BadMarks"))
  g_BadParts : mg "BadParts" = some (.ref (He.ga K "BadParts"))
  x_PageError : PySem.W.excIn K (He.ga K "PageError") exBase "Exception.__new__" = true
  k_PageError : PySem.W.keepIn K (.ref (He.ga K "PageError")) = true
  s_PageError : PySem.W.subIn K (.ref (He.ga K "PageError")) (.type "BaseException") = some true
  t_PageError : PySem.W.typeIn K (.ref (He.ga K "PageError")) = some (.type "type")
  x_BadList : PySem.W.excIn K (He.ga K "BadList") exBase "Exception.__new__" = true
  k_BadList : PySem.W.keepIn K (.ref (He.ga K "BadList")) = true
  s_BadList : PySem.W.subIn K (.ref (He.ga K "BadList")) (.type "BaseException") = some true
  t_BadList : PySem.W.typeIn K (.ref (He.ga K "BadList")) = some (.type "type")
  x_BadMarks : PySem.W.excIn K (He.ga K "BadMarks") exBase "Exception.__new__" = true
  k_BadMarks : PySem.W.keepIn K (.ref (He.ga K "BadMarks")) = true
  s_BadMarks : PySem.W.subIn K (.ref (He.ga K "BadMarks")) (.type "BaseException") = some true
  t_BadMarks : PySem.W.typeIn K (.ref (He.ga K "BadMarks")) = some (.type "type")
  x_BadParts : PySem.W.excIn K (He.ga K "BadParts") exBase "Exception.__new__" = true
  k_BadParts : PySem.W.keepIn K (.ref (He.ga K "BadParts")) = true
  s_BadParts : PySem.W.subIn K (.ref (He.ga K "BadParts")) (.type "BaseException") = some true
  t_BadParts : PySem.W.typeIn K (.ref (He.ga K "BadParts")) = some (.type "type")
  xk : ExK K exCs

section
variable {P : Program} {w : World} {K : PySem.W.Frag} {mg : Str → Option Value} {base : Heap}
abbrev N_law_pick : List Str := ["pool", "many", "place"]
abbrev P_law_pick : List Str := ["pool", "many"]
theorem sc_law_pick : FnScope N_law_pick P_law_pick (defScope s_law_pick) := ⟨rfl, rfl, rfl, by decide +kernel, rfl, by decide +kernel, by decide +kernel⟩
theorem ok_law_pick (T : Txt K mg) : CallOk P w K mg base 1 "_law_pick" P_law_pick φ_law_pick := by
  obtain ⟨fd, F⟩ := T.d_law_pick
  refine ⟨⟨fd, pick_close (F.ok sc_law_pick (fun vs H Q E h => ?_) (fun cdv A outer s H vs Q E hr h => ?_)), funLook F, F.bindsA fun _ _ _ _ _ _ us hl => match us, hl with | [_, _], _ => rfl⟩, F.kp, T.g_law_pick⟩
  · obtain ⟨p, n, ns, rfl, _⟩ := h
    rfl
  · refine ⟨_, PSs.nox (pss_cons (ps_set (i := 2) sc_law_pick.nd rfl (Or.inl rfl) (pe_ix ix_list (pv 0) pe_int (fun _ _ => rfl)))
      (pss_cons (ps_asg (pe_op op_add (pv 2) pe_int) (pg_sub (pv 0) pe_int set_list))
      (pss_cons (ps_if (pt_cmpR op_eq (pe_ix ix_list (pv 0) pe_int (fun _ _ => rfl)) (pe_callB call_len rfl T.n_len PySem.boot_len (pa_cons (pv 0) pa_nil)) (nomark _))
        (pss_one (ps_asg pe_int (pg_sub (pv 0) pe_int set_list))) pss_nil)
      (pss_one (ps_ret (pe_op op_mod (pe_callTy call_int1 rfl T.n_int boot_int (pa_cons (pe_ix ix_list (pv 0) (pv 2) (fun _ _ => rfl)) pa_nil)) (pv 1))))))), ?_⟩
    exact pick_pure h

abbrev P_is_whole : List Str := ["value"]
theorem sc_is_whole : FnScope N_is_whole P_is_whole (defScope s_is_whole) := ⟨rfl, rfl, rfl, by decide +kernel, rfl, by decide +kernel, by decide +kernel⟩
theorem ok_is_whole (T : Txt K mg) (vc : ∀ (ds : List D) (Q' : D → Prop) (E' : Nat → Prop), φ_is_whole ds Q' E' → r_is_whole (fun c _ => E' c) { nx := fun _ => Q' .non, rt := fun d _ => Q' d } (startE N_is_whole ds)) (len : ∀ ds Q E, φ_is_whole ds Q E → ds.length = 1) :
    CallOk P w K mg base 1 "is_whole" P_is_whole φ_is_whole := by
  obtain ⟨fd, F⟩ := T.d_is_whole
  refine ⟨⟨fd, fun_ok F sc_is_whole len r_is_whole (fun cdv A outer s H E Ξ hr => ?_) vc, funLook F, F.bindsA fun _ _ _ _ _ _ us hl => match us, hl with | [_], _ => rfl⟩, F.kp, T.g_is_whole⟩
  exact (yss_one (ys_ret (ye_and (ye_isA .int (ye_var 0) (peTy T.n_int boot_int) (by rfl) T.n_isinstance) (ye_one (ye_not (ye_isA .bool (ye_var 0) (peTy T.n_bool boot_bool) (by rfl) T.n_isinstance))))))
abbrev P_is_whole_or_none : List Str := ["value"]
theorem sc_is_whole_or_none : FnScope N_is_whole_or_none P_is_whole_or_none (defScope s_is_whole_or_none) := ⟨rfl, rfl, rfl, by decide +kernel, rfl, by decide +kernel, by decide +kernel⟩
theorem ok_is_whole_or_none (T : Txt K mg) (C_is_whole : CallOk P w K mg base 1 "is_whole" P_is_whole φ_is_whole) (vc : ∀ (ds : List D) (Q' : D → Prop) (E' : Nat → Prop), φ_is_whole_or_none ds Q' E' → r_is_whole_or_none (fun c _ => E' c) { nx := fun _ => Q' .non, rt := fun d _ => Q' d } (startE N_is_whole_or_none ds)) (len : ∀ ds Q E, φ_is_whole_or_none ds Q E → ds.length = 1) :
    CallOk P w K mg base 2 "is_whole_or_none" P_is_whole_or_none φ_is_whole_or_none := by
  obtain ⟨fd, F⟩ := T.d_is_whole_or_none
  refine ⟨⟨fd, fun_ok F sc_is_whole_or_none len r_is_whole_or_none (fun cdv A outer s H E Ξ hr => ?_) vc, funLook F, F.bindsA fun _ _ _ _ _ _ us hl => match us, hl with | [_], _ => rfl⟩, F.kp, T.g_is_whole_or_none⟩
  exact (yss_one (ys_ret (ye_or (ye_cmp oy_isN (ye_var 0) ye_non) (ye_one (yeCall C_is_whole (takes_of rfl rfl rfl rfl) (hr.mono (by decide)) (yl_cons (ye_var 0) yl_nil))))))
abbrev P_is_size : List Str := ["value"]
theorem sc_is_size : FnScope N_is_size P_is_size (defScope s_is_size) := ⟨rfl, rfl, rfl, by decide +kernel, rfl, by decide +kernel, by decide +kernel⟩
theorem ok_is_size (T : Txt K mg) (C_is_whole : CallOk P w K mg base 1 "is_whole" P_is_whole φ_is_whole) (vc : ∀ (ds : List D) (Q' : D → Prop) (E' : Nat → Prop), φ_is_size ds Q' E' → r_is_size (fun c _ => E' c) { nx := fun _ => Q' .non, rt := fun d _ => Q' d } (startE N_is_size ds)) (len : ∀ ds Q E, φ_is_size ds Q E → ds.length = 1) :
    CallOk P w K mg base 2 "is_size" P_is_size φ_is_size := by
  obtain ⟨fd, F⟩ := T.d_is_size
  refine ⟨⟨fd, fun_ok F sc_is_size len r_is_size (fun cdv A outer s H E Ξ hr => ?_) vc, funLook F, F.bindsA fun _ _ _ _ _ _ us hl => match us, hl with | [_], _ => rfl⟩, F.kp, T.g_is_size⟩
  exact (yss_one (ys_ret (ye_and (yeCall C_is_whole (takes_of rfl rfl rfl rfl) (hr.mono (by decide)) (yl_cons (ye_var 0) yl_nil)) (ye_one (ye_cmp oy_ge (ye_var 0) ye_int)))))
abbrev P_is_pair : List Str := ["value"]
theorem sc_is_pair : FnScope N_is_pair P_is_pair (defScope s_is_pair) := ⟨rfl, rfl, rfl, by decide +kernel, rfl, by decide +kernel, by decide +kernel⟩
theorem ok_is_pair (T : Txt K mg) (vc : ∀ (ds : List D) (Q' : D → Prop) (E' : Nat → Prop), φ_is_pair ds Q' E' → r_is_pair (fun c _ => E' c) { nx := fun _ => Q' .non, rt := fun d _ => Q' d } (startE N_is_pair ds)) (len : ∀ ds Q E, φ_is_pair ds Q E → ds.length = 1) :
    CallOk P w K mg base 1 "is_pair" P_is_pair φ_is_pair := by
  obtain ⟨fd, F⟩ := T.d_is_pair
  refine ⟨⟨fd, fun_ok F sc_is_pair len r_is_pair (fun cdv A outer s H E Ξ hr => ?_) vc, funLook F, F.bindsA fun _ _ _ _ _ _ us hl => match us, hl with | [_], _ => rfl⟩, F.kp, T.g_is_pair⟩
  exact (yss_one (ys_ret (ye_and (ye_isA .tuple (ye_var 0) (peTy T.n_tuple boot_tuple) (by rfl) T.n_isinstance) (ye_one (ye_cmp (oy_eq hr.units) (ye_callB cy_len (by rfl) T.n_len PySem.boot_len (yl_cons (ye_var 0) yl_nil)) ye_int)))))
abbrev P_are_wants : List Str := ["value"]
theorem sc_are_wants : FnScope N_are_wants P_are_wants (defScope s_are_wants) := ⟨rfl, rfl, rfl, by decide +kernel, rfl, by decide +kernel, by decide +kernel⟩
theorem ok_are_wants (T : Txt K mg) (C_is_pair : CallOk P w K mg base 1 "is_pair" P_is_pair φ_is_pair) (C_is_size : CallOk P w K mg base 2 "is_size" P_is_size φ_is_size) (vc : ∀ (ds : List D) (Q' : D → Prop) (E' : Nat → Prop), φ_are_wants ds Q' E' → r_are_wants (fun c _ => E' c) { nx := fun _ => Q' .non, rt := fun d _ => Q' d } (startE N_are_wants ds)) (len : ∀ ds Q E, φ_are_wants ds Q E → ds.length = 1) :
    CallOk P w K mg base 3 "are_wants" P_are_wants φ_are_wants := by
  obtain ⟨fd, F⟩ := T.d_are_wants
  refine ⟨⟨fd, fun_ok F sc_are_wants len r_are_wants (fun cdv A outer s H E Ξ hr => ?_) vc, funLook F, F.bindsA fun _ _ _ _ _ _ us hl => match us, hl with | [_], _ => rfl⟩, F.kp, T.g_are_wants⟩
  exact (yss_one (ys_ret (ye_and (yeCall C_is_pair (takes_of rfl rfl rfl rfl) (hr.mono (by decide)) (yl_cons (ye_var 0) yl_nil)) (ye_and (yeCall C_is_size (takes_of rfl rfl rfl rfl) (hr.mono (by decide)) (yl_cons (ye_ix (ye_var 0) ye_int) yl_nil)) (ye_and (yeCall C_is_size (takes_of rfl rfl rfl rfl) (hr.mono (by decide)) (yl_cons (ye_ix (ye_var 0) ye_int) yl_nil)) (ye_one (ye_cmp oy_le (ye_ix (ye_var 0) ye_int) (ye_ix (ye_var 0) ye_int))))))))
abbrev P_are_bounds : List Str := ["value"]
theorem sc_are_bounds : FnScope N_are_bounds P_are_bounds (defScope s_are_bounds) := ⟨rfl, rfl, rfl, by decide +kernel, rfl, by decide +kernel, by decide +kernel⟩
theorem ok_are_bounds (T : Txt K mg) (C_is_pair : CallOk P w K mg base 1 "is_pair" P_is_pair φ_is_pair) (C_is_size : CallOk P w K mg base 2 "is_size" P_is_size φ_is_size) (vc : ∀ (ds : List D) (Q' : D → Prop) (E' : Nat → Prop), φ_are_bounds ds Q' E' → r_are_bounds (fun c _ => E' c) { nx := fun _ => Q' .non, rt := fun d _ => Q' d } (startE N_are_bounds ds)) (len : ∀ ds Q E, φ_are_bounds ds Q E → ds.length = 1) :
    CallOk P w K mg base 3 "are_bounds" P_are_bounds φ_are_bounds := by
  obtain ⟨fd, F⟩ := T.d_are_bounds
  refine ⟨⟨fd, fun_ok F sc_are_bounds len r_are_bounds (fun cdv A outer s H E Ξ hr => ?_) vc, funLook F, F.bindsA fun _ _ _ _ _ _ us hl => match us, hl with | [_], _ => rfl⟩, F.kp, T.g_are_bounds⟩
  exact (yss_one (ys_ret (ye_and (yeCall C_is_pair (takes_of rfl rfl rfl rfl) (hr.mono (by decide)) (yl_cons (ye_var 0) yl_nil)) (ye_and (yeCall C_is_size (takes_of rfl rfl rfl rfl) (hr.mono (by decide)) (yl_cons (ye_ix (ye_var 0) ye_int) yl_nil)) (ye_one (ye_or (ye_cmp oy_isN (ye_ix (ye_var 0) ye_int) ye_non) (ye_one (yeCall C_is_size (takes_of rfl rfl rfl rfl) (hr.mono (by decide)) (yl_cons (ye_ix (ye_var 0) ye_int) yl_nil)))))))))
abbrev P_size_within : List Str := ["room", "first", "last", "told", "wants", "edge"]
theorem sc_size_within : FnScope N_size_within P_size_within (defScope s_size_within) := ⟨rfl, rfl, rfl, by decide +kernel, rfl, by decide +kernel, by decide +kernel⟩
theorem ok_size_within (T : Txt K mg) (vc : ∀ (ds : List D) (Q' : D → Prop) (E' : Nat → Prop), φ_size_within ds Q' E' → r_size_within (fun c _ => E' c) { nx := fun _ => Q' .non, rt := fun d _ => Q' d } (startE N_size_within ds)) (len : ∀ ds Q E, φ_size_within ds Q E → ds.length = 6) :
    CallOk P w K mg base 1 "size_within" P_size_within φ_size_within := by
  obtain ⟨fd, F⟩ := T.d_size_within
  refine ⟨⟨fd, fun_ok F sc_size_within len r_size_within (fun cdv A outer s H E Ξ hr => ?_) vc, funLook F, F.bindsA fun _ _ _ _ _ _ us hl => match us, hl with | [_, _, _, _, _, _], _ => rfl⟩, F.kp, T.g_size_within⟩
  exact (yss_cons (ys_if (yt_cmp oy_notN (ye_var 3) ye_non)
  (yss_one (ys_ret (ye_var 3)))
  yss_nil)
  (yss_cons (ysSet 6 sc_size_within.nd (ye_bin oy_sub (ye_bin oy_sub (ye_bin oy_sub (ye_var 0) (ye_var 5)) (ye_if (yt_cmp oy_isN (ye_var 1) ye_non) ye_int (ye_var 1))) (ye_if (yt_cmp oy_isN (ye_var 2) ye_non) ye_int (ye_var 2))))
  (yss_cons (ys_if (YW.yt (yw_and (yt_cmp oy_notN (ye_var 1) ye_non) (yw_and1 (yt_cmp oy_notN (ye_var 2) ye_non))))
  (yss_one (ys_ret (ye_callB (cy_max2 rfl) (by rfl) T.n_max boot_max (yl_cons ye_int (yl_cons (ye_var 6) yl_nil)))))
  yss_nil)
  (yss_one (ys_ret (ye_callB (cy_max2 rfl) (by rfl) T.n_max boot_max (yl_cons (ye_ix (ye_var 4) ye_int) (yl_cons (ye_callB (cy_min2 rfl) (by rfl) T.n_min boot_min (yl_cons (ye_ix (ye_var 4) ye_int) (yl_cons (ye_var 6) yl_nil))) yl_nil))))))))
abbrev P_span_within : List Str := ["room", "first", "last", "told", "wants", "bounds", "edge"]
theorem sc_span_within : FnScope N_span_within P_span_within (defScope s_span_within) := ⟨rfl, rfl, rfl, by decide +kernel, rfl, by decide +kernel, by decide +kernel⟩
theorem ok_span_within (T : Txt K mg) (C_size_within : CallOk P w K mg base 1 "size_within" P_size_within φ_size_within) (vc : ∀ (ds : List D) (Q' : D → Prop) (E' : Nat → Prop), φ_span_within ds Q' E' → r_span_within (fun c _ => E' c) { nx := fun _ => Q' .non, rt := fun d _ => Q' d } (startE N_span_within ds)) (len : ∀ ds Q E, φ_span_within ds Q E → ds.length = 7) :
    CallOk P w K mg base 2 "span_within" P_span_within φ_span_within := by
  obtain ⟨fd, F⟩ := T.d_span_within
  refine ⟨⟨fd, fun_ok F sc_span_within len r_span_within (fun cdv A outer s H E Ξ hr => ?_) vc, funLook F, F.bindsA fun _ _ _ _ _ _ us hl => match us, hl with | [_, _, _, _, _, _, _], _ => rfl⟩, F.kp, T.g_span_within⟩
  exact (yss_cons (ysSet 7 sc_span_within.nd (yeCall C_size_within (takes_of rfl rfl rfl rfl) (hr.mono (by decide)) (yl_cons (ye_var 0) (yl_cons (ye_var 1) (yl_cons (ye_var 2) (yl_cons (ye_var 3) (yl_cons (ye_var 4) (yl_cons (ye_var 6) yl_nil))))))))
  (yss_cons (ys_if (yt_cmp oy_notN (ye_ix (ye_var 5) ye_int) ye_non)
  (yss_one (ysSet 7 sc_span_within.nd (ye_callB (cy_min2 rfl) (by rfl) T.n_min boot_min (yl_cons (ye_var 7) (yl_cons (ye_ix (ye_var 5) ye_int) yl_nil)))))
  yss_nil)
  (yss_cons (ysSet 7 sc_span_within.nd (ye_callB (cy_max2 rfl) (by rfl) T.n_max boot_max (yl_cons (ye_var 7) (yl_cons (ye_ix (ye_var 5) ye_int) yl_nil))))
  (yss_cons (ys_if (yt_cmp oy_notN (ye_var 1) ye_non)
  (yss_one (ys_ret (ye_tup (yl_cons (ye_var 1) (yl_cons (ye_var 7) yl_nil)))))
  yss_nil)
  (yss_one (ys_ret (ye_tup (yl_cons (ye_if (yt_cmp oy_isN (ye_var 2) ye_non) ye_int (ye_bin oy_sub (ye_bin oy_sub (ye_bin oy_sub (ye_var 0) (ye_var 2)) (ye_var 6)) (ye_var 7))) (yl_cons (ye_var 7) yl_nil)))))))))
abbrev P_span_in : List Str := ["room", "first", "last", "told", "wants", "bounds", "edges"]
theorem sc_span_in : FnScope N_span_in P_span_in (defScope s_span_in) := ⟨rfl, rfl, rfl, by decide +kernel, rfl, by decide +kernel, by decide +kernel⟩
theorem ok_span_in (T : Txt K mg) (C_is_size : CallOk P w K mg base 2 "is_size" P_is_size φ_is_size) (C_is_whole_or_none : CallOk P w K mg base 2 "is_whole_or_none" P_is_whole_or_none φ_is_whole_or_none) (C_are_wants : CallOk P w K mg base 3 "are_wants" P_are_wants φ_are_wants) (C_are_bounds : CallOk P w K mg base 3 "are_bounds" P_are_bounds φ_are_bounds) (C_is_whole : CallOk P w K mg base 1 "is_whole" P_is_whole φ_is_whole) (C_span_within : CallOk P w K mg base 2 "span_within" P_span_within φ_span_within) (vc : ∀ (ds : List D) (Q' : D → Prop) (E' : Nat → Prop), φ_span_in ds Q' E' → r_span_in (fun c _ => E' c) { nx := fun _ => Q' .non, rt := fun d _ => Q' d } (startE N_span_in ds)) (len : ∀ ds Q E, φ_span_in ds Q E → ds.length = 7) :
    CallOk P w K mg base 4 "span_in" P_span_in φ_span_in := by
  obtain ⟨fd, F⟩ := T.d_span_in
  refine ⟨⟨fd, fun_ok F sc_span_in len r_span_in (fun cdv A outer s H E Ξ hr => ?_) vc, funLook F, F.bindsA fun _ _ _ _ _ _ us hl => match us, hl with | [_, _, _, _, _, _, _], _ => rfl⟩, F.kp, T.g_span_in⟩
  exact (yss_cons (ys_if (YW.yt (yw_or (yt_not (yt_tru (yeCall C_is_size (takes_of rfl rfl rfl rfl) (hr.mono (by decide)) (yl_cons (ye_var 0) yl_nil)))) (yw_or (yt_not (yt_tru (yeCall C_is_whole_or_none (takes_of rfl rfl rfl rfl) (hr.mono (by decide)) (yl_cons (ye_var 1) yl_nil)))) (yw_or1 (yt_not (yt_tru (yeCall C_is_whole_or_none (takes_of rfl rfl rfl rfl) (hr.mono (by decide)) (yl_cons (ye_var 2) yl_nil))))))))
  (yss_one (ys_raise 10 rfl (takes_of rfl rfl rfl rfl) PySem.F.excBase_Exception T.x_BadList T.g_BadList T.k_BadList (raises_own T.s_BadList T.t_BadList) rfl (by rfl)))
  yss_nil)
  (yss_cons (ys_if (YW.yt (yw_and (yt_cmp oy_notN (ye_var 3) ye_non) (yw_and1 (yt_not (yt_tru (yeCall C_is_size (takes_of rfl rfl rfl rfl) (hr.mono (by decide)) (yl_cons (ye_var 3) yl_nil)))))))
  (yss_one (ys_raise 10 rfl (takes_of rfl rfl rfl rfl) PySem.F.excBase_Exception T.x_BadList T.g_BadList T.k_BadList (raises_own T.s_BadList T.t_BadList) rfl (by rfl)))
  yss_nil)
  (yss_cons (ys_if (YW.yt (yw_or (yt_not (yt_tru (yeCall C_are_wants (takes_of rfl rfl rfl rfl) (hr.mono (by decide)) (yl_cons (ye_var 4) yl_nil)))) (yw_or (yt_not (yt_tru (yeCall C_are_bounds (takes_of rfl rfl rfl rfl) (hr.mono (by decide)) (yl_cons (ye_var 5) yl_nil)))) (yw_or1 (yt_not (yt_tru (yeCall C_is_whole (takes_of rfl rfl rfl rfl) (hr.mono (by decide)) (yl_cons (ye_var 6) yl_nil))))))))
  (yss_one (ys_raise 10 rfl (takes_of rfl rfl rfl rfl) PySem.F.excBase_Exception T.x_BadList T.g_BadList T.k_BadList (raises_own T.s_BadList T.t_BadList) rfl (by rfl)))
  yss_nil)
  (yss_one (ys_ret (yeCall C_span_within (takes_of rfl rfl rfl rfl) (hr.mono (by decide)) (yl_cons (ye_var 0) (yl_cons (ye_var 1) (yl_cons (ye_var 2) (yl_cons (ye_var 3) (yl_cons (ye_var 4) (yl_cons (ye_var 5) (yl_cons (ye_var 6) yl_nil)))))))))))))
abbrev P_law_pool : List Str := ["script"]
theorem sc_law_pool : FnScope N_law_pool P_law_pool (defScope s_law_pool) := ⟨rfl, rfl, rfl, by decide +kernel, rfl, by decide +kernel, by decide +kernel⟩
theorem ok_law_pool (T : Txt K mg) (vc : ∀ (ds : List D) (Q' : D → Prop) (E' : Nat → Prop), φ_law_pool ds Q' E' → r_law_pool (fun c _ => E' c) { nx := fun _ => Q' .non, rt := fun d _ => Q' d } (startE N_law_pool ds)) (len : ∀ ds Q E, φ_law_pool ds Q E → ds.length = 1) :
    CallOk P w K mg base 1 "_law_pool" P_law_pool φ_law_pool := by
  obtain ⟨fd, F⟩ := T.d_law_pool
  refine ⟨⟨fd, fun_ok F sc_law_pool len r_law_pool (fun cdv A outer s H E Ξ hr => ?_) vc, funLook F, F.bindsA fun _ _ _ _ _ _ us hl => match us, hl with | [_], _ => rfl⟩, F.kp, T.g_law_pool⟩
  exact (yss_cons (ysSetO 1 sc_law_pool.nd (yn_lst yl_nil))
  (yss_cons (ys_for (passes_of rfl) rfl (yi_frl (ye_var 0)) (ygN 2 sc_law_pool.nd)
  (yss_cons (ysSet 3 sc_law_pool.nd (ye_bin oy_mod (ye_callTy cy_int (by rfl) T.n_int boot_int (yl_cons (ye_var 2) yl_nil)) (ye_bin oy_pow ye_int ye_int)))
  (yss_one (ys_if (yt_cmp oy_ge (ye_var 3) (ye_bin oy_pow ye_int ye_int))
  (yss_one (ys_for (passes_of rfl) rfl (yi_range1 (by rfl) T.n_range (yl_cons ye_int yl_nil)) (ygN 4 sc_law_pool.nd)
  (yss_cons (ysApp' 1 (ye_bin oy_mod (ye_callTy cy_int (by rfl) T.n_int boot_int (yl_cons (ye_var 3) yl_nil)) ye_int))
  (yss_cons (ysSet 3 sc_law_pool.nd (ye_callTy cy_int (by rfl) T.n_int boot_int (yl_cons (ye_bin oy_fdiv (ye_var 3) ye_int) yl_nil)))
  (yss_one (ys_if (yt_cmp (oy_eq hr.units) (ye_var 3) ye_int)
  (yss_one ys_break)
  yss_nil))))))
  (yss_one (ysSetO 1 sc_law_pool.nd (yn_add (ye_var 1) (yn_lst (yl_cons (ye_bin oy_mod (ye_callTy cy_int (by rfl) T.n_int boot_int (yl_cons (ye_var 3) yl_nil)) ye_int) (yl_cons (ye_bin oy_mod (ye_callTy cy_int (by rfl) T.n_int boot_int (yl_cons (ye_bin oy_fdiv (ye_var 3) ye_int) yl_nil)) ye_int) yl_nil))).ye)))))))
  (yss_cons (ysSet 5 sc_law_pool.nd ye_int)
  (yss_cons (ys_for (passes_of rfl) rfl (yi_frl (ye_var 0)) (ygN 2 sc_law_pool.nd)
  (yss_one (ysSet 5 sc_law_pool.nd (ye_bin oy_mod (ye_callTy cy_int (by rfl) T.n_int boot_int (yl_cons (ye_bin oy_add (ye_bin oy_mul (ye_var 5) ye_int) (ye_bin oy_mod (ye_callTy cy_int (by rfl) T.n_int boot_int (yl_cons (ye_var 2) yl_nil)) ye_int)) yl_nil)) ye_int))))
  (yss_cons (ys_for (passes_of rfl) rfl (yi_range1 (by rfl) T.n_range (yl_cons ye_int yl_nil)) (ygN 4 sc_law_pool.nd)
  (yss_cons (ysSet 5 sc_law_pool.nd (ye_bin oy_mod (ye_callTy cy_int (by rfl) T.n_int boot_int (yl_cons (ye_bin oy_add (ye_bin oy_mul (ye_var 5) ye_int) ye_int) yl_nil)) ye_int))
  (yss_one (ysApp' 1 (ye_bin oy_mod (ye_callTy cy_int (by rfl) T.n_int boot_int (yl_cons (ye_bin oy_fdiv (ye_var 5) ye_int) yl_nil)) ye_int)))))
  (yss_one (ys_ret (ye_var 1))))))))
abbrev P_law_stream : List Str := ["script"]
theorem sc_law_stream : FnScope N_law_stream P_law_stream (defScope s_law_stream) := ⟨rfl, rfl, rfl, by decide +kernel, rfl, by decide +kernel, by decide +kernel⟩
theorem ok_law_stream (T : Txt K mg) (C_law_pool : CallOk P w K mg base 1 "_law_pool" P_law_pool φ_law_pool) (vc : ∀ (ds : List D) (Q' : D → Prop) (E' : Nat → Prop), φList ds Q' E' → r_law_stream (fun c _ => E' c) { nx := fun _ => Q' .non, rt := fun d _ => Q' d } (startE N_law_stream ds)) (len : ∀ ds Q E, φList ds Q E → ds.length = 1) :
    CallOk P w K mg base 2 "_law_stream" P_law_stream φList := by
  obtain ⟨fd, F⟩ := T.d_law_stream
  refine ⟨⟨fd, fun_ok F sc_law_stream len r_law_stream (fun cdv A outer s H E Ξ hr => ?_) vc, funLook F, F.bindsA fun _ _ _ _ _ _ us hl => match us, hl with | [_], _ => rfl⟩, F.kp, T.g_law_stream⟩
  exact (yss_one (ys_ret (ye_bin oy_add (yn_lst (yl_cons ye_int yl_nil)).ye (yeCall C_law_pool (takes_of rfl rfl rfl rfl) (hr.mono (by decide)) (yl_cons (ye_var 0) yl_nil)))))
abbrev P_law_number : List Str := ["pool", "low", "high"]
theorem sc_law_number : FnScope N_law_number P_law_number (defScope s_law_number) := ⟨rfl, rfl, rfl, by decide +kernel, rfl, by decide +kernel, by decide +kernel⟩
theorem ok_law_number (T : Txt K mg) (C_law_pick : CallOk P w K mg base 1 "_law_pick" P_law_pick φ_law_pick) (vc : ∀ (ds : List D) (Q' : D → Prop) (E' : Nat → Prop), φ_law_number ds Q' E' → r_law_number (fun c _ => E' c) { nx := fun _ => Q' .non, rt := fun d _ => Q' d } (startE N_law_number ds)) (len : ∀ ds Q E, φ_law_number ds Q E → ds.length = 3) :
    CallOk P w K mg base 2 "_law_number" P_law_number φ_law_number := by
  obtain ⟨fd, F⟩ := T.d_law_number
  refine ⟨⟨fd, fun_ok F sc_law_number len r_law_number (fun cdv A outer s H E Ξ hr => ?_) vc, funLook F, F.bindsA fun _ _ _ _ _ _ us hl => match us, hl with | [_, _, _], _ => rfl⟩, F.kp, T.g_law_number⟩
  exact (yss_cons (ysSet 3 sc_law_number.nd (yeCall C_law_pick (takes_of rfl rfl rfl rfl) (hr.mono (by decide)) (yl_cons (ye_var 0) (yl_cons ye_int yl_nil))))
  (yss_cons (ys_if (yt_cmp oy_lt (ye_var 3) ye_int)
  (yss_one (ys_ret (ye_ix (yn_lst (yl_cons (ye_var 1) (yl_cons (ye_var 2) yl_nil))).ye (ye_var 3))))
  yss_nil)
  (yss_one (ys_ret (ye_bin oy_add (ye_var 1) (ye_bin oy_mod (ye_callTy cy_int (by rfl) T.n_int boot_int (yl_cons (ye_bin oy_add (ye_bin oy_mul (yeCall C_law_pick (takes_of rfl rfl rfl rfl) (hr.mono (by decide)) (yl_cons (ye_var 0) (yl_cons ye_int yl_nil))) ye_int) (yeCall C_law_pick (takes_of rfl rfl rfl rfl) (hr.mono (by decide)) (yl_cons (ye_var 0) (yl_cons ye_int yl_nil)))) yl_nil)) (ye_bin oy_add (ye_bin oy_sub (ye_var 2) (ye_var 1)) ye_int)))))))
abbrev P_law_same : List Str := ["told", "due"]
theorem sc_law_same : FnScope N_law_same P_law_same (defScope s_law_same) := ⟨rfl, rfl, rfl, by decide +kernel, rfl, by decide +kernel, by decide +kernel⟩
theorem ok_law_same (T : Txt K mg) (vc : ∀ (ds : List D) (Q' : D → Prop) (E' : Nat → Prop), φ_law_same ds Q' E' → r_law_same (fun c _ => E' c) { nx := fun _ => Q' .non, rt := fun d _ => Q' d } (startE N_law_same ds)) (len : ∀ ds Q E, φ_law_same ds Q E → ds.length = 2) :
    CallOk P w K mg base 1 "_law_same" P_law_same φ_law_same := by
  obtain ⟨fd, F⟩ := T.d_law_same
  refine ⟨⟨fd, fun_ok F sc_law_same len r_law_same (fun cdv A outer s H E Ξ hr => ?_) vc, funLook F, F.bindsA fun _ _ _ _ _ _ us hl => match us, hl with | [_, _], _ => rfl⟩, F.kp, T.g_law_same⟩
  exact (yss_cons (ysSetO 2 sc_law_same.nd (yn_lst (yl_cons (ye_tup (yl_cons (ye_var 0) (yl_cons (ye_var 1) yl_nil))) yl_nil)))
  (yss_cons (ys_for (passes_of rfl) rfl (yi_range1 (by rfl) T.n_range (yl_cons (ye_bin oy_pow ye_int ye_int) yl_nil)) (ygN 3 sc_law_same.nd)
  (yss_cons (ys_if (yt_cmp (oy_eq hr.units) (ye_var 2) (yn_lst yl_nil).ye)
  (yss_one (ys_ret ye_bl))
  yss_nil)
  (yss_cons (ys_asg (yePop' 2) (yg_tup rfl (ygs_cons (ygN 4 sc_law_same.nd) (ygs_cons (ygN 5 sc_law_same.nd) ygs_nil))))
  (yss_one (ys_if (yt_cmp oy_isN (ye_var 5) ye_non)
  (yss_one (ys_if (yt_cmp oy_notN (ye_var 4) ye_non)
  (yss_one (ys_ret ye_bl))
  yss_nil))
  (yss_one (ys_if (yt_tru (ye_isA .bool (ye_var 5) (peTy T.n_bool boot_bool) (by rfl) T.n_isinstance))
  (yss_one (ys_if (YW.yt (yw_or (yt_not (yt_tru (ye_isA .bool (ye_var 4) (peTy T.n_bool boot_bool) (by rfl) T.n_isinstance))) (yw_or1 (yt_cmp (oy_ne hr.units) (ye_var 4) (ye_var 5)))))
  (yss_one (ys_ret ye_bl))
  yss_nil))
  (yss_one (ys_if (yt_tru (ye_isA .int (ye_var 5) (peTy T.n_int boot_int) (by rfl) T.n_isinstance))
  (yss_one (ys_if (YW.yt (yw_or (yt_not (yt_tru (ye_isA .int (ye_var 4) (peTy T.n_int boot_int) (by rfl) T.n_isinstance))) (yw_or (yt_tru (ye_isA .bool (ye_var 4) (peTy T.n_bool boot_bool) (by rfl) T.n_isinstance)) (yw_or1 (yt_cmp (oy_ne hr.units) (ye_var 4) (ye_var 5))))))
  (yss_one (ys_ret ye_bl))
  yss_nil))
  (yss_one (ys_if (yt_tru (ye_isA .str (ye_var 5) (peTy T.n_str boot_str) (by rfl) T.n_isinstance))
  (yss_one (ys_if (YW.yt (yw_or (yt_not (yt_tru (ye_isA .str (ye_var 4) (peTy T.n_str boot_str) (by rfl) T.n_isinstance))) (yw_or1 (yt_cmp (oy_ne hr.units) (ye_var 4) (ye_var 5)))))
  (yss_one (ys_ret ye_bl))
  yss_nil))
  (yss_one (ys_if (yt_tru (ye_isA .dict (ye_var 5) (peTy T.n_dict boot_dict) (by rfl) T.n_isinstance))
  (yss_cons ys_never
  (yss_cons (ysExt' 2 (yn_lc (own := [(("key" : Str), 6)]) rfl sc_law_same.nd (yi_seq (ye_var 5)) (blkOk_by (by rfl)) (fun _ _ _ _ _ => (ygN 6 sc_law_same.nd)) (fun _ _ _ _ _ => yts_nil) (fun _ _ _ _ _ => (ye_tup (yl_cons (ye_ix (ye_var 4) (ye_var 6)) (yl_cons (ye_ix (ye_var 5) (ye_var 6)) yl_nil))))).ye)
  (yss_one ys_never)))
  (yss_one (ys_if (YW.yt (yw_or (YW.yt (yw_and (yt_tru (ye_isA .tuple (ye_var 5) (peTy T.n_tuple boot_tuple) (by rfl) T.n_isinstance)) (yw_and1 (yt_not (yt_tru (ye_isA .tuple (ye_var 4) (peTy T.n_tuple boot_tuple) (by rfl) T.n_isinstance)))))) (yw_or1 (YW.yt (yw_and (yt_tru (ye_isA .list (ye_var 5) (peTy T.n_list boot_list) (by rfl) T.n_isinstance)) (yw_and1 (yt_not (yt_tru (ye_isA .list (ye_var 4) (peTy T.n_list boot_list) (by rfl) T.n_isinstance)))))))))
  (yss_one (ys_ret ye_bl))
  (yss_one (ys_if (yt_cmp (oy_ne hr.units) (ye_callB cy_len (by rfl) T.n_len PySem.boot_len (yl_cons (ye_var 4) yl_nil)) (ye_callB cy_len (by rfl) T.n_len PySem.boot_len (yl_cons (ye_var 5) yl_nil)))
  (yss_one (ys_ret ye_bl))
  (yss_one (ysExt' 2 (yn_lc (own := [(("k" : Str), 7)]) rfl sc_law_same.nd (yi_range1 (by rfl) T.n_range (yl_cons (ye_callB cy_len (by rfl) T.n_len PySem.boot_len (yl_cons (ye_var 5) yl_nil)) yl_nil)) (blkOk_by (by rfl)) (fun _ _ _ _ _ => (ygN 7 sc_law_same.nd)) (fun _ _ _ _ _ => yts_nil) (fun _ _ _ _ _ => (ye_tup (yl_cons (ye_ix (ye_var 4) (ye_var 7)) (yl_cons (ye_ix (ye_var 5) (ye_var 7)) yl_nil))))).ye)))))))))))))))))))
  (yss_one (ys_ret ye_bl))))
abbrev P_law_case : List Str := ["pool"]
theorem sc_law_case : FnScope N_law_case P_law_case (defScope s_law_case) := ⟨rfl, rfl, rfl, by decide +kernel, rfl, by decide +kernel, by decide +kernel⟩
theorem ok_law_case (T : Txt K mg) (C_law_number : CallOk P w K mg base 2 "_law_number" P_law_number φ_law_number) (C_law_pick : CallOk P w K mg base 1 "_law_pick" P_law_pick φ_law_pick) (vc : ∀ (ds : List D) (Q' : D → Prop) (E' : Nat → Prop), φ_law_case ds Q' E' → r_law_case (fun c _ => E' c) { nx := fun _ => Q' .non, rt := fun d _ => Q' d } (startE N_law_case ds)) (len : ∀ ds Q E, φ_law_case ds Q E → ds.length = 1) :
    CallOk P w K mg base 3 "_law_case" P_law_case φ_law_case := by
  obtain ⟨fd, F⟩ := T.d_law_case
  refine ⟨⟨fd, fun_ok F sc_law_case len r_law_case (fun cdv A outer s H E Ξ hr => ?_) vc, funLook F, F.bindsA fun _ _ _ _ _ _ us hl => match us, hl with | [_], _ => rfl⟩, F.kp, T.g_law_case⟩
  exact (yss_cons (ysSet 1 sc_law_case.nd (yeCall C_law_number (takes_of rfl rfl rfl rfl) (hr.mono (by decide)) (yl_cons (ye_var 0) (yl_cons ye_int (yl_cons (ye_ix (yn_lst (yl_cons ye_int (yl_cons ye_int (yl_cons ye_int yl_nil)))).ye (yeCall C_law_pick (takes_of rfl rfl rfl rfl) (hr.mono (by decide)) (yl_cons (ye_var 0) (yl_cons ye_int yl_nil)))) yl_nil)))))
  (yss_cons (ysSetO 2 sc_law_case.nd (yn_lst yl_nil))
  (yss_cons (ys_for (passes_of rfl) rfl (yi_range1 (by rfl) T.n_range (yl_cons ye_int yl_nil)) (ygN 3 sc_law_case.nd)
  (yss_cons (ysSet 4 sc_law_case.nd (ye_ix (yn_lst (yl_cons ye_int (yl_cons ye_int (yl_cons ye_int yl_nil)))).ye (yeCall C_law_pick (takes_of rfl rfl rfl rfl) (hr.mono (by decide)) (yl_cons (ye_var 0) (yl_cons ye_int yl_nil)))))
  (yss_cons (ysSet 5 sc_law_case.nd (yeCall C_law_number (takes_of rfl rfl rfl rfl) (hr.mono (by decide)) (yl_cons (ye_var 0) (yl_cons (ye_neg (ye_var 4)) (yl_cons (ye_var 4) yl_nil)))))
  (yss_one (ysApp' 2 (ye_ix (yn_lst (yl_cons (ye_var 5) (yl_cons ye_non yl_nil))).ye (yeCall C_law_pick (takes_of rfl rfl rfl rfl) (hr.mono (by decide)) (yl_cons (ye_var 0) (yl_cons ye_int yl_nil)))))))))
  (yss_cons (ysSet 6 sc_law_case.nd (ye_ix (yn_lst (yl_cons ye_int (yl_cons (yeCall C_law_number (takes_of rfl rfl rfl rfl) (hr.mono (by decide)) (yl_cons (ye_var 0) (yl_cons ye_int (yl_cons ye_int yl_nil)))) (yl_cons (yeCall C_law_number (takes_of rfl rfl rfl rfl) (hr.mono (by decide)) (yl_cons (ye_var 0) (yl_cons (ye_neg ye_int) (yl_cons ye_int yl_nil)))) yl_nil)))).ye (yeCall C_law_pick (takes_of rfl rfl rfl rfl) (hr.mono (by decide)) (yl_cons (ye_var 0) (yl_cons ye_int yl_nil)))))
  (yss_cons (ys_if (YW.yt (yw_and (yt_cmp (oy_eq hr.units) (yeCall C_law_pick (takes_of rfl rfl rfl rfl) (hr.mono (by decide)) (yl_cons (ye_var 0) (yl_cons ye_int yl_nil))) ye_int) (yw_and1 (yt_cmp oy_notN (ye_ix (ye_var 2) ye_int) ye_non))))
  (yss_one (ys_setIx 2 (by rfl) (by first | exact Or.inl rfl | exact Or.inr (Or.inl rfl)) ye_int (ye_bin oy_sub (ye_bin oy_sub (ye_bin oy_sub (ye_var 1) (ye_ix (ye_var 2) ye_int)) (ye_var 6)) (yeCall C_law_pick (takes_of rfl rfl rfl rfl) (hr.mono (by decide)) (yl_cons (ye_var 0) (yl_cons ye_int yl_nil))))))
  yss_nil)
  (yss_cons (ysSet 7 sc_law_case.nd (ye_ix (yn_lst (yl_cons ye_non (yl_cons ye_non (yl_cons (yeCall C_law_number (takes_of rfl rfl rfl rfl) (hr.mono (by decide)) (yl_cons (ye_var 0) (yl_cons ye_int (yl_cons ye_int yl_nil)))) yl_nil)))).ye (yeCall C_law_pick (takes_of rfl rfl rfl rfl) (hr.mono (by decide)) (yl_cons (ye_var 0) (yl_cons ye_int yl_nil)))))
  (yss_cons (ysSet 8 sc_law_case.nd (yeCall C_law_number (takes_of rfl rfl rfl rfl) (hr.mono (by decide)) (yl_cons (ye_var 0) (yl_cons ye_int (yl_cons ye_int yl_nil)))))
  (yss_cons (ysSet 9 sc_law_case.nd (ye_bin oy_add (ye_var 8) (ye_ix (yn_lst (yl_cons ye_int (yl_cons (yeCall C_law_pick (takes_of rfl rfl rfl rfl) (hr.mono (by decide)) (yl_cons (ye_var 0) (yl_cons ye_int yl_nil))) (yl_cons (yeCall C_law_number (takes_of rfl rfl rfl rfl) (hr.mono (by decide)) (yl_cons (ye_var 0) (yl_cons ye_int (yl_cons ye_int yl_nil)))) yl_nil)))).ye (yeCall C_law_pick (takes_of rfl rfl rfl rfl) (hr.mono (by decide)) (yl_cons (ye_var 0) (yl_cons ye_int yl_nil))))))
  (yss_cons (ysSet 10 sc_law_case.nd (ye_ix (yn_lst (yl_cons ye_int (yl_cons ye_int (yl_cons (yeCall C_law_number (takes_of rfl rfl rfl rfl) (hr.mono (by decide)) (yl_cons (ye_var 0) (yl_cons ye_int (yl_cons ye_int yl_nil)))) yl_nil)))).ye (yeCall C_law_pick (takes_of rfl rfl rfl rfl) (hr.mono (by decide)) (yl_cons (ye_var 0) (yl_cons ye_int yl_nil)))))
  (yss_cons (ysSet 11 sc_law_case.nd (ye_ix (yn_lst (yl_cons ye_non (yl_cons ye_non (yl_cons (yeCall C_law_number (takes_of rfl rfl rfl rfl) (hr.mono (by decide)) (yl_cons (ye_var 0) (yl_cons ye_int (yl_cons ye_int yl_nil)))) (yl_cons (yeCall C_law_number (takes_of rfl rfl rfl rfl) (hr.mono (by decide)) (yl_cons (ye_var 0) (yl_cons ye_int (yl_cons ye_int yl_nil)))) yl_nil))))).ye (yeCall C_law_pick (takes_of rfl rfl rfl rfl) (hr.mono (by decide)) (yl_cons (ye_var 0) (yl_cons ye_int yl_nil)))))
  (yss_one (ys_ret (yn_lst (yl_cons (ye_var 1) (yl_cons (ye_ix (ye_var 2) ye_int) (yl_cons (ye_ix (ye_var 2) ye_int) (yl_cons (ye_var 7) (yl_cons (ye_tup (yl_cons (ye_var 8) (yl_cons (ye_var 9) yl_nil))) (yl_cons (ye_tup (yl_cons (ye_var 10) (yl_cons (ye_var 11) yl_nil))) (yl_cons (ye_var 6) yl_nil)))))))).ye))))))))))))
abbrev P_law_due : List Str := ["case"]
theorem sc_law_due : FnScope N_law_due P_law_due (defScope s_law_due) := ⟨rfl, rfl, rfl, by decide +kernel, rfl, by decide +kernel, by decide +kernel⟩
theorem ok_law_due (T : Txt K mg) (vc : ∀ (ds : List D) (Q' : D → Prop) (E' : Nat → Prop), φ_law_due ds Q' E' → r_law_due (fun c _ => E' c) { nx := fun _ => Q' .non, rt := fun d _ => Q' d } (startE N_law_due ds)) (len : ∀ ds Q E, φ_law_due ds Q E → ds.length = 1) :
    CallOk P w K mg base 1 "_law_due" P_law_due φ_law_due := by
  obtain ⟨fd, F⟩ := T.d_law_due
  refine ⟨⟨fd, fun_ok F sc_law_due len r_law_due (fun cdv A outer s H E Ξ hr => ?_) vc, funLook F, F.bindsA fun _ _ _ _ _ _ us hl => match us, hl with | [_], _ => rfl⟩, F.kp, T.g_law_due⟩
  exact (yss_cons (ys_asg (ye_var 0) (yg_lst rfl (ygs_cons (ygN 1 sc_law_due.nd) (ygs_cons (ygN 2 sc_law_due.nd) (ygs_cons (ygN 3 sc_law_due.nd) (ygs_cons (ygN 4 sc_law_due.nd) (ygs_cons (ygN 5 sc_law_due.nd) (ygs_cons (ygN 6 sc_law_due.nd) (ygs_cons (ygN 7 sc_law_due.nd) ygs_nil)))))))))
  (yss_cons (ys_setLc (own := [(("side" : Str), 10)]) 8 false rfl sc_law_due.nd rfl rfl (sw_true rfl rfl rfl (by decide +kernel)) (yi_seq (yn_lst (yl_cons (ye_var 2) (yl_cons (ye_var 3) yl_nil))).ye) (blkOk_by (by rfl)) (fun _ _ _ _ _ => (ygN 10 sc_law_due.nd)) (fun _ _ _ _ _ => (yts_one (yt_cmp oy_notN (ye_var 10) ye_non))) (fun _ _ _ _ _ => (ye_var 10)))
  (yss_cons (ysSet 9 sc_law_due.nd (ye_bin oy_sub (ye_bin oy_sub (ye_var 1) (ye_var 7)) (ye_callB (cy_sum rfl) (by rfl) T.n_sum boot_sum (yl_cons (ye_var 8) yl_nil))))
  (yss_cons (ys_if (yt_cmp (oy_eq hr.units) (ye_callB cy_len (by rfl) T.n_len PySem.boot_len (yl_cons (ye_var 8) yl_nil)) ye_int)
  (yss_one (ysSet 9 sc_law_due.nd (ye_callB (cy_max2 rfl) (by rfl) T.n_max boot_max (yl_cons ye_int (yl_cons (ye_var 9) yl_nil)))))
  (yss_one (ysSet 9 sc_law_due.nd (ye_ix (yn_callB cn_sorted (by rfl) T.n_sorted boot_sorted (yl_cons (yn_lst (yl_cons (ye_ix (ye_var 5) ye_int) (yl_cons (ye_ix (ye_var 5) ye_int) (yl_cons (ye_var 9) yl_nil)))).ye yl_nil)).ye ye_int))))
  (yss_cons (ys_if (yt_cmp oy_notN (ye_var 4) ye_non)
  (yss_one (ysSet 9 sc_law_due.nd (ye_var 4)))
  yss_nil)
  (yss_cons (ys_if (YW.yt (yw_and (yt_cmp oy_notN (ye_ix (ye_var 6) ye_int) ye_non) (yw_and1 (yt_cmp oy_lt (ye_ix (ye_var 6) ye_int) (ye_var 9)))))
  (yss_one (ysSet 9 sc_law_due.nd (ye_ix (ye_var 6) ye_int)))
  yss_nil)
  (yss_cons (ys_if (yt_cmp oy_gt (ye_ix (ye_var 6) ye_int) (ye_var 9))
  (yss_one (ysSet 9 sc_law_due.nd (ye_ix (ye_var 6) ye_int)))
  yss_nil)
  (yss_cons (ys_if (YW.yt (yw_and (yt_cmp oy_isN (ye_var 2) ye_non) (yw_and1 (yt_cmp oy_notN (ye_var 3) ye_non))))
  (yss_one (ys_ret (ye_tup (yl_cons (ye_bin oy_sub (ye_bin oy_sub (ye_bin oy_sub (ye_var 1) (ye_var 7)) (ye_var 3)) (ye_var 9)) (yl_cons (ye_var 9) yl_nil)))))
  yss_nil)
  (yss_cons (ys_if (yt_cmp oy_isN (ye_var 2) ye_non)
  (yss_one (ys_ret (ye_tup (yl_cons ye_int (yl_cons (ye_var 9) yl_nil)))))
  yss_nil)
  (yss_one (ys_ret (ye_tup (yl_cons (ye_var 2) (yl_cons (ye_var 9) yl_nil))))))))))))))
abbrev P_law_told : List Str := ["case"]
theorem sc_law_told : FnScope N_law_told P_law_told (defScope s_law_told) := ⟨rfl, rfl, rfl, by decide +kernel, rfl, by decide +kernel, by decide +kernel⟩
theorem ok_law_told (T : Txt K mg) (C_span_in : CallOk P w K mg base 4 "span_in" P_span_in φ_span_in) (vc : ∀ (ds : List D) (Q' : D → Prop) (E' : Nat → Prop), φ_law_told ds Q' E' → r_law_told (fun c _ => E' c) { nx := fun _ => Q' .non, rt := fun d _ => Q' d } (startE N_law_told ds)) (len : ∀ ds Q E, φ_law_told ds Q E → ds.length = 1) :
    CallOk P w K mg base 5 "_law_told" P_law_told φ_law_told := by
  obtain ⟨fd, F⟩ := T.d_law_told
  refine ⟨⟨fd, fun_ok F sc_law_told len r_law_told (fun cdv A outer s H E Ξ hr => ?_) vc, funLook F, F.bindsA fun _ _ _ _ _ _ us hl => match us, hl with | [_], _ => rfl⟩, F.kp, T.g_law_told⟩
  exact (yss_one (ys_ret (yeCall C_span_in (takes_of rfl rfl rfl rfl) (hr.mono (by decide)) (yl_cons (ye_ix (ye_var 0) ye_int) (yl_cons (ye_ix (ye_var 0) ye_int) (yl_cons (ye_ix (ye_var 0) ye_int) (yl_cons (ye_ix (ye_var 0) ye_int) (yl_cons (ye_ix (ye_var 0) ye_int) (yl_cons (ye_ix (ye_var 0) ye_int) (yl_cons (ye_ix (ye_var 0) ye_int) yl_nil))))))))))
abbrev P_law_wrong : List Str := ["case"]
theorem sc_law_wrong : FnScope N_law_wrong P_law_wrong (defScope s_law_wrong) := ⟨rfl, rfl, rfl, by decide +kernel, rfl, by decide +kernel, by decide +kernel⟩
theorem ok_law_wrong (T : Txt K mg) (vc : ∀ (ds : List D) (Q' : D → Prop) (E' : Nat → Prop), φ_law_wrong ds Q' E' → r_law_wrong (fun c _ => E' c) { nx := fun _ => Q' .non, rt := fun d _ => Q' d } (startE N_law_wrong ds)) (len : ∀ ds Q E, φ_law_wrong ds Q E → ds.length = 1) :
    CallOk P w K mg base 1 "_law_wrong" P_law_wrong φ_law_wrong := by
  obtain ⟨fd, F⟩ := T.d_law_wrong
  refine ⟨⟨fd, fun_ok F sc_law_wrong len r_law_wrong (fun cdv A outer s H E Ξ hr => ?_) vc, funLook F, F.bindsA fun _ _ _ _ _ _ us hl => match us, hl with | [_], _ => rfl⟩, F.kp, T.g_law_wrong⟩
  exact (yss_cons (ys_asg (ye_ix (ye_var 0) ye_int) (yg_tup rfl (ygs_cons (ygN 1 sc_law_wrong.nd) (ygs_cons (ygN 2 sc_law_wrong.nd) ygs_nil))))
  (yss_cons (ys_asg (ye_ix (ye_var 0) ye_int) (yg_tup rfl (ygs_cons (ygN 3 sc_law_wrong.nd) (ygs_cons (ygN 4 sc_law_wrong.nd) ygs_nil))))
  (yss_cons (ysSetO 5 sc_law_wrong.nd (yn_lst (yl_cons (ye_tup (yl_cons ye_int (yl_cons (yn_lst (yl_cons (ye_neg ye_int) (yl_cons ye_non (yl_cons ye_bl (yl_cons ye_bl (yl_cons (ye_callTy cy_str (by rfl) T.n_str boot_str (yl_cons (ye_ix (ye_var 0) ye_int) yl_nil)) (yl_cons (yn_lst (yl_cons (ye_ix (ye_var 0) ye_int) yl_nil)).ye (yl_cons (ye_tup (yl_cons (ye_ix (ye_var 0) ye_int) yl_nil)) (yl_cons ye_dic0 yl_nil))))))))).ye yl_nil))) yl_nil)))
  (yss_cons (ys_for (passes_of rfl) rfl (yi_seq (yn_lst (yl_cons ye_int (yl_cons ye_int yl_nil))).ye) (ygN 6 sc_law_wrong.nd)
  (yss_one (ysApp' 5 (ye_tup (yl_cons (ye_var 6) (yl_cons (yn_lst (yl_cons ye_bl (yl_cons ye_bl (yl_cons ye_str (yl_cons ye_str (yl_cons (yn_lst (yl_cons ye_int yl_nil)).ye (yl_cons (ye_tup (yl_cons ye_int yl_nil)) (yl_cons ye_dic0 yl_nil)))))))).ye yl_nil))))))
  (yss_cons (ysApp' 5 (ye_tup (yl_cons ye_int (yl_cons (yn_lst (yl_cons (ye_neg ye_int) (yl_cons ye_bl (yl_cons ye_bl (yl_cons ye_str (yl_cons (yn_lst (yl_cons ye_int yl_nil)).ye (yl_cons (ye_tup (yl_cons ye_int yl_nil)) yl_nil))))))).ye yl_nil))))
  (yss_cons (ysSet 7 sc_law_wrong.nd (yn_lst (yl_cons (yn_lst (yl_cons (ye_var 1) (yl_cons (ye_var 2) yl_nil))).ye (yl_cons (ye_tup (yl_cons (ye_var 1) yl_nil)) (yl_cons (ye_tup (yl_cons (ye_bin oy_add (ye_var 2) ye_int) (yl_cons (ye_var 2) yl_nil))) (yl_cons (ye_tup (yl_cons (ye_neg ye_int) (yl_cons (ye_var 2) yl_nil))) (yl_cons (ye_tup (yl_cons (ye_var 1) (yl_cons (ye_var 2) (yl_cons (ye_var 2) yl_nil)))) (yl_cons ye_non (yl_cons (ye_var 1) (yl_cons (ye_tup (yl_cons ye_non (yl_cons (ye_var 2) yl_nil))) (yl_cons (ye_tup (yl_cons (ye_var 1) (yl_cons ye_non yl_nil))) (yl_cons (ye_tup (yl_cons ye_bl (yl_cons (ye_var 2) yl_nil))) (yl_cons (ye_tup (yl_cons ye_int (yl_cons ye_bl yl_nil))) (yl_cons (ye_tup (yl_cons (ye_callTy cy_str (by rfl) T.n_str boot_str (yl_cons (ye_var 1) yl_nil)) (yl_cons (ye_var 2) yl_nil))) yl_nil))))))))))))).ye)
  (yss_cons (ysApp' 5 (ye_tup (yl_cons ye_int (yl_cons (ye_bin oy_add (ye_var 7) (yn_lst (yl_cons (ye_tup yl_nil) (yl_cons (ye_tup (yl_cons (ye_tup (yl_cons (ye_var 1) (yl_cons (ye_var 2) yl_nil))) yl_nil)) (yl_cons (ye_tup (yl_cons (ye_var 1) (yl_cons (yn_lst (yl_cons (ye_var 2) yl_nil)).ye yl_nil))) yl_nil)))).ye) yl_nil))))
  (yss_cons (ysSet 8 sc_law_wrong.nd (yn_lst (yl_cons (yn_lst (yl_cons (ye_var 3) (yl_cons (ye_var 4) yl_nil))).ye (yl_cons (ye_tup (yl_cons (ye_var 3) yl_nil)) (yl_cons (ye_tup (yl_cons (ye_neg ye_int) (yl_cons (ye_var 4) yl_nil))) (yl_cons (ye_tup (yl_cons (ye_var 3) (yl_cons (ye_neg ye_int) yl_nil))) (yl_cons (ye_tup (yl_cons (ye_var 3) (yl_cons (ye_var 4) (yl_cons ye_int yl_nil)))) (yl_cons ye_non (yl_cons (ye_var 3) (yl_cons (ye_tup (yl_cons ye_non (yl_cons (ye_var 4) yl_nil))) (yl_cons (ye_tup (yl_cons ye_bl (yl_cons (ye_var 4) yl_nil))) (yl_cons (ye_tup (yl_cons (ye_var 3) (yl_cons ye_bl yl_nil))) yl_nil))))))))))).ye)
  (yss_cons (ysApp' 5 (ye_tup (yl_cons ye_int (yl_cons (ye_bin oy_add (ye_var 8) (yn_lst (yl_cons (ye_tup yl_nil) (yl_cons (ye_tup (yl_cons (ye_var 3) (yl_cons ye_str yl_nil))) (yl_cons (ye_tup (yl_cons ye_str (yl_cons (ye_var 4) yl_nil))) (yl_cons (ye_tup (yl_cons (yn_lst (yl_cons (ye_var 3) yl_nil)).ye (yl_cons (ye_var 4) yl_nil))) yl_nil))))).ye) yl_nil))))
  (yss_cons (ysApp' 5 (ye_tup (yl_cons ye_int (yl_cons (yn_lst (yl_cons ye_non (yl_cons ye_bl (yl_cons ye_bl (yl_cons ye_str (yl_cons (yn_lst (yl_cons ye_int yl_nil)).ye (yl_cons (ye_tup (yl_cons ye_int yl_nil)) yl_nil))))))).ye yl_nil))))
  (yss_one (ys_ret (ye_var 5)))))))))))))
abbrev P_law_refused : List Str := ["case"]
theorem sc_law_refused : FnScope N_law_refused P_law_refused (defScope s_law_refused) := ⟨rfl, rfl, rfl, by decide +kernel, rfl, by decide +kernel, by decide +kernel⟩
theorem ok_law_refused (T : Txt K mg) (C_law_told : CallOk P w K mg base 5 "_law_told" P_law_told φ_law_told) (vc : ∀ (ds : List D) (Q' : D → Prop) (E' : Nat → Prop), φ_law_refused ds Q' E' → r_law_refused (fun c _ => E' c) { nx := fun _ => Q' .non, rt := fun d _ => Q' d } (startE N_law_refused ds)) (len : ∀ ds Q E, φ_law_refused ds Q E → ds.length = 1) :
    CallOk P w K mg base 6 "_law_refused" P_law_refused φ_law_refused := by
  obtain ⟨fd, F⟩ := T.d_law_refused
  refine ⟨⟨fd, fun_ok F sc_law_refused len r_law_refused (fun cdv A outer s H E Ξ hr => ?_) vc, funLook F, F.bindsA fun _ _ _ _ _ _ us hl => match us, hl with | [_], _ => rfl⟩, F.kp, T.g_law_refused⟩
  exact (yss_cons (ys_try (cs := exCs) 1 T.xk rfl rfl sc_law_refused.nd (by rfl) rfl rfl ⟨by rfl, by decide, .inl T.g_PageError⟩ (takes_of rfl rfl rfl rfl)
  (rb := fun Ξb => (ysDrop (yCall φ_law_told Ξb (ylCons (yVar 0) ylNil)))) (rs := fun a c => (ysRet (yAndV (yIsE 1 a c 10) (yAndV (yNotB (yIsE 1 a c 11)) (yNotB (yIsE 1 a c 12))))))
  (fun Wb Ξb pn xe tkb po => (yss_one (ys_expr (yeCall C_law_told tkb (hr.mono (by decide)) (yl_cons (ye_var 0) yl_nil)))))
  (fun c a oe pn hc xc hz hf => (yss_one (ys_ret (ye_and (ye_isE c 10 1 T.xk hc (by decide) hz hf (by rfl) T.n_isinstance (by rfl) (by first | exact Or.inl rfl | exact Or.inr rfl) (by rfl) (by rfl) T.g_BadList) (ye_and (ye_not (ye_isE c 11 1 T.xk hc (by decide) hz hf (by rfl) T.n_isinstance (by rfl) (by first | exact Or.inl rfl | exact Or.inr rfl) (by rfl) (by rfl) T.g_BadMarks)) (ye_one (ye_not (ye_isE c 12 1 T.xk hc (by decide) hz hf (by rfl) T.n_isinstance (by rfl) (by first | exact Or.inl rfl | exact Or.inr rfl) (by rfl) (by rfl) T.g_BadParts)))))))))
  (yss_one (ys_ret ye_bl)))
abbrev P_law : List Str := ["script"]
theorem sc_law : FnScope N_law P_law (defScope s_law) := ⟨rfl, rfl, rfl, by decide +kernel, rfl, by decide +kernel, by decide +kernel⟩
theorem ok_law (T : Txt K mg) (C_law_stream : CallOk P w K mg base 2 "_law_stream" P_law_stream φ_law_stream) (C_law_case : CallOk P w K mg base 3 "_law_case" P_law_case φ_law_case) (C_law_due : CallOk P w K mg base 1 "_law_due" P_law_due φ_law_due) (C_law_same : CallOk P w K mg base 1 "_law_same" P_law_same φ_law_same) (C_law_told : CallOk P w K mg base 5 "_law_told" P_law_told φ_law_told) (C_law_wrong : CallOk P w K mg base 1 "_law_wrong" P_law_wrong φ_law_wrong) (C_law_pick : CallOk P w K mg base 1 "_law_pick" P_law_pick φ_law_pick) (C_law_refused : CallOk P w K mg base 6 "_law_refused" P_law_refused φ_law_refused) (vc : ∀ (ds : List D) (Q' : D → Prop) (E' : Nat → Prop), φ_law ds Q' E' → r_law (fun c _ => E' c) { nx := fun _ => Q' .non, rt := fun d _ => Q' d } (startE N_law ds)) (len : ∀ ds Q E, φ_law ds Q E → ds.length = 1) :
    CallOk P w K mg base 7 "law" P_law φ_law := by
  obtain ⟨fd, F⟩ := T.d_law
  refine ⟨⟨fd, fun_ok F sc_law len r_law (fun cdv A outer s H E Ξ hr => ?_) vc, funLook F, F.bindsA fun _ _ _ _ _ _ us hl => match us, hl with | [_], _ => rfl⟩, F.kp, T.g_law⟩
  exact (yss_cons (ysSet 1 sc_law.nd (yeCall C_law_stream (takes_of rfl rfl rfl rfl) (hr.mono (by decide)) (yl_cons (ye_var 0) yl_nil)))
  (yss_cons (ys_for (passes_of rfl) rfl (yi_range1 (by rfl) T.n_range (yl_cons ye_int yl_nil)) (ygN 2 sc_law.nd)
  (yss_cons (ysSet 3 sc_law.nd (yeCall C_law_case (takes_of rfl rfl rfl rfl) (hr.mono (by decide)) (yl_cons (ye_var 1) yl_nil)))
  (yss_cons (ysSet 4 sc_law.nd (yeCall C_law_due (takes_of rfl rfl rfl rfl) (hr.mono (by decide)) (yl_cons (ye_var 3) yl_nil)))
  (yss_cons (ys_if (yt_not (yt_tru (yeCall C_law_same (takes_of rfl rfl rfl rfl) (hr.mono (by decide)) (yl_cons (yeCall C_law_told (takes_of rfl rfl rfl rfl) (hr.mono (by decide)) (yl_cons (ye_var 3) yl_nil)) (yl_cons (ye_var 4) yl_nil)))))
  (yss_one (ys_ret ye_bl))
  yss_nil)
  (yss_cons (ysSet 5 sc_law.nd (ye_bin oy_add (yn_lst (yl_cons (ye_ix (ye_var 3) ye_int) (yl_cons (ye_ix (ye_var 3) ye_int) (yl_cons (ye_ix (ye_var 3) ye_int) yl_nil)))).ye (yn_sl (ye_var 3) (yo_some ye_int) yo_none).ye))
  (yss_cons (ys_if (yt_not (yt_tru (yeCall C_law_same (takes_of rfl rfl rfl rfl) (hr.mono (by decide)) (yl_cons (yeCall C_law_told (takes_of rfl rfl rfl rfl) (hr.mono (by decide)) (yl_cons (ye_var 5) yl_nil)) (yl_cons (yeCall C_law_due (takes_of rfl rfl rfl rfl) (hr.mono (by decide)) (yl_cons (ye_var 5) yl_nil)) yl_nil)))))
  (yss_one (ys_ret ye_bl))
  yss_nil)
  (yss_cons (ys_for (passes_of rfl) rfl (yi_seq (yeCall C_law_wrong (takes_of rfl rfl rfl rfl) (hr.mono (by decide)) (yl_cons (ye_var 3) yl_nil))) (yg_tup rfl (ygs_cons (ygN 6 sc_law.nd) (ygs_cons (ygN 7 sc_law.nd) ygs_nil)))
  (yss_cons (ysSet 8 sc_law.nd (ye_ix (ye_var 7) (yeCall C_law_pick (takes_of rfl rfl rfl rfl) (hr.mono (by decide)) (yl_cons (ye_var 1) (yl_cons (ye_callB cy_len (by rfl) T.n_len PySem.boot_len (yl_cons (ye_var 7) yl_nil)) yl_nil)))))
  (yss_one (ys_if (yt_not (yt_tru (yeCall C_law_refused (takes_of rfl rfl rfl rfl) (hr.mono (by decide)) (yl_cons (ye_bin oy_add (ye_bin oy_add (yn_sl (ye_var 3) yo_none (yo_some (ye_var 6))).ye (yn_lst (yl_cons (ye_var 8) yl_nil)).ye) (yn_sl (ye_var 3) (yo_some (ye_bin oy_add (ye_var 6) ye_int)) yo_none).ye) yl_nil))))
  (yss_one (ys_ret ye_bl))
  yss_nil))))
  (yss_one (ys_if (yt_not (yt_tru (yeCall C_law_same (takes_of rfl rfl rfl rfl) (hr.mono (by decide)) (yl_cons (yeCall C_law_told (takes_of rfl rfl rfl rfl) (hr.mono (by decide)) (yl_cons (ye_var 3) yl_nil)) (yl_cons (ye_var 4) yl_nil)))))
  (yss_one (ys_ret ye_bl))
  yss_nil)))))))))
  (yss_one (ys_ret ye_bl))))
end
end PL.K63

set_option Elab.async false
set_option linter.all false
set_option autoImplicit false
set_option maxRecDepth 100000
set_option maxHeartbeats 2000000
namespace PL.K63
open PySem PySem.Spec PyProof.Rows L2
def fa : List He.Fa := [.glo "is_whole",
  .glo "is_whole_or_none",
  .glo "is_size",
  .glo "is_pair",
  .glo "are_wants",
  .glo "are_bounds",
  .glo "size_within",
  .glo "span_within",
  .glo "span_in",
  .glo "_law_pool",
  .glo "_law_stream",
  .glo "_law_pick",
  .glo "_law_number",
  .glo "_law_same",
  .glo "_law_case",
  .glo "_law_due",
  .glo "_law_told",
  .glo "_law_wrong",
  .glo "_law_refused",
  .glo "law",
  .free "all",
  .free "bool",
  .free "dict",
  .free "int",
  .free "isinstance",
  .free "len",
  .free "list",
  .free "max",
  .free "min",
  .free "range",
  .free "sorted",
  .free "str",
  .free "sum",
  .free "tuple",
  .glo "PageError",
  .glo "BadList",
  .glo "BadMarks",
  .glo "BadParts"]
def fn : List He.DefD := [⟨("is_whole", none), "is_whole", "is_whole", defArgs s_is_whole, defBody s_is_whole, defScope s_is_whole, [], []⟩,
  ⟨("is_whole_or_none", none), "is_whole_or_none", "is_whole_or_none", defArgs s_is_whole_or_none, defBody s_is_whole_or_none, defScope s_is_whole_or_none, [], []⟩,
  ⟨("is_size", none), "is_size", "is_size", defArgs s_is_size, defBody s_is_size, defScope s_is_size, [], []⟩,
  ⟨("is_pair", none), "is_pair", "is_pair", defArgs s_is_pair, defBody s_is_pair, defScope s_is_pair, [], []⟩,
  ⟨("are_wants", none), "are_wants", "are_wants", defArgs s_are_wants, defBody s_are_wants, defScope s_are_wants, [], []⟩,
  ⟨("are_bounds", none), "are_bounds", "are_bounds", defArgs s_are_bounds, defBody s_are_bounds, defScope s_are_bounds, [], []⟩,
  ⟨("size_within", none), "size_within", "size_within", defArgs s_size_within, defBody s_size_within, defScope s_size_within, [], []⟩,
  ⟨("span_within", none), "span_within", "span_within", defArgs s_span_within, defBody s_span_within, defScope s_span_within, [], []⟩,
  ⟨("span_in", none), "span_in", "span_in", defArgs s_span_in, defBody s_span_in, defScope s_span_in, [], []⟩,
  ⟨("_law_pool", none), "_law_pool", "_law_pool", defArgs s_law_pool, defBody s_law_pool, defScope s_law_pool, [], []⟩,
  ⟨("_law_stream", none), "_law_stream", "_law_stream", defArgs s_law_stream, defBody s_law_stream, defScope s_law_stream, [], []⟩,
  ⟨("_law_pick", none), "_law_pick", "_law_pick", defArgs s_law_pick, defBody s_law_pick, defScope s_law_pick, [], []⟩,
  ⟨("_law_number", none), "_law_number", "_law_number", defArgs s_law_number, defBody s_law_number, defScope s_law_number, [], []⟩,
  ⟨("_law_same", none), "_law_same", "_law_same", defArgs s_law_same, defBody s_law_same, defScope s_law_same, [], []⟩,
  ⟨("_law_case", none), "_law_case", "_law_case", defArgs s_law_case, defBody s_law_case, defScope s_law_case, [], []⟩,
  ⟨("_law_due", none), "_law_due", "_law_due", defArgs s_law_due, defBody s_law_due, defScope s_law_due, [], []⟩,
  ⟨("_law_told", none), "_law_told", "_law_told", defArgs s_law_told, defBody s_law_told, defScope s_law_told, [], []⟩,
  ⟨("_law_wrong", none), "_law_wrong", "_law_wrong", defArgs s_law_wrong, defBody s_law_wrong, defScope s_law_wrong, [], []⟩,
  ⟨("_law_refused", none), "_law_refused", "_law_refused", defArgs s_law_refused, defBody s_law_refused, defScope s_law_refused, [], []⟩,
  ⟨("law", none), "law", "law", defArgs s_law, defBody s_law, defScope s_law, [], []⟩]
def loose : List Str := ["PageError",
  "BadList",
  "BadMarks",
  "BadParts",
  "is_whole",
  "is_whole_or_none",
  "is_size",
  "is_pair",
  "are_wants",
  "are_bounds",
  "size_within",
  "span_within",
  "span_in",
  "_law_pool",
  "_law_stream",
  "_law_pick",
  "_law_number",
  "_law_same",
  "_law_case",
  "_law_due",
  "_law_told",
  "_law_wrong",
  "_law_refused"]
abbrev R : PySem.W.OpenRow := PySem.W.OpenLaw.row PySem.Challenge.rw_pageseen_k63_one_direction_in_a_frame
abbrev hk : PySem.W.Hook := He.hookX 4 fa fn [] [] (exB exCs)
def ob (s : PySem.W.SharedT) : He.AlX := He.obsX 4 fa fn [] [] (exB exCs) (HandSHeadRun.getT s)
theorem ob_eq (s : PySem.W.SharedT) : ob s = hk.obs s.abs := He.obsX_eq (HandSHeadRun.getT_eq s)
set_option maxHeartbeats 0
theorem run (w : World) : HandSHeadRun.RunEq R (PySem.W.view R.prog [26]) hk ob 4000 loose w := by
  intro os
  kernel_rfl
theorem txt {K : PySem.W.Frag} {h h' : Heap} {mg : Str → Option Value} {w : World} (X : K.In h) (G : h.Ns mainGlobals mg) (c : He.SaysX fa fn [] [] (exB exCs) w h' K) : Txt K mg where
  g_is_whole := He.glo_ok X G (c.t.d.fact 0 (f := .glo "is_whole") rfl)
  d_is_whole := c.t.d.def_ 0 rfl
  g_is_whole_or_none := He.glo_ok X G (c.t.d.fact 1 (f := .glo "is_whole_or_none") rfl)
  d_is_whole_or_none := c.t.d.def_ 1 rfl
  g_is_size := He.glo_ok X G (c.t.d.fact 2 (f := .glo "is_size") rfl)
  d_is_size := c.t.d.def_ 2 rfl
  g_is_pair := He.glo_ok X G (c.t.d.fact 3 (f := .glo "is_pair") rfl)
  d_is_pair := c.t.d.def_ 3 rfl
  g_are_wants := He.glo_ok X G (c.t.d.fact 4 (f := .glo "are_wants") rfl)
  d_are_wants := c.t.d.def_ 4 rfl
  g_are_bounds := He.glo_ok X G (c.t.d.fact 5 (f := .glo "are_bounds") rfl)
  d_are_bounds := c.t.d.def_ 5 rfl
  g_size_within := He.glo_ok X G (c.t.d.fact 6 (f := .glo "size_within") rfl)
  d_size_within := c.t.d.def_ 6 rfl
  g_span_within := He.glo_ok X G (c.t.d.fact 7 (f := .glo "span_within") rfl)
  d_span_within := c.t.d.def_ 7 rfl
  g_span_in := He.glo_ok X G (c.t.d.fact 8 (f := .glo "span_in") rfl)
  d_span_in := c.t.d.def_ 8 rfl
  g_law_pool := He.glo_ok X G (c.t.d.fact 9 (f := .glo "_law_pool") rfl)
  d_law_pool := c.t.d.def_ 9 rfl
  g_law_stream := He.glo_ok X G (c.t.d.fact 10 (f := .glo "_law_stream") rfl)
  d_law_stream := c.t.d.def_ 10 rfl
  g_law_pick := He.glo_ok X G (c.t.d.fact 11 (f := .glo "_law_pick") rfl)
  d_law_pick := c.t.d.def_ 11 rfl
  g_law_number := He.glo_ok X G (c.t.d.fact 12 (f := .glo "_law_number") rfl)
  d_law_number := c.t.d.def_ 12 rfl
  g_law_same := He.glo_ok X G (c.t.d.fact 13 (f := .glo "_law_same") rfl)
  d_law_same := c.t.d.def_ 13 rfl
  g_law_case := He.glo_ok X G (c.t.d.fact 14 (f := .glo "_law_case") rfl)
  d_law_case := c.t.d.def_ 14 rfl
  g_law_due := He.glo_ok X G (c.t.d.fact 15 (f := .glo "_law_due") rfl)
  d_law_due := c.t.d.def_ 15 rfl
  g_law_told := He.glo_ok X G (c.t.d.fact 16 (f := .glo "_law_told") rfl)
  d_law_told := c.t.d.def_ 16 rfl
  g_law_wrong := He.glo_ok X G (c.t.d.fact 17 (f := .glo "_law_wrong") rfl)
  d_law_wrong := c.t.d.def_ 17 rfl
  g_law_refused := He.glo_ok X G (c.t.d.fact 18 (f := .glo "_law_refused") rfl)
  d_law_refused := c.t.d.def_ 18 rfl
  g_law := He.glo_ok X G (c.t.d.fact 19 (f := .glo "law") rfl)
  d_law := c.t.d.def_ 19 rfl
  n_all := He.free_ok X G (c.t.d.fact 20 (f := .free "all") rfl)
  n_bool := He.free_ok X G (c.t.d.fact 21 (f := .free "bool") rfl)
  n_dict := He.free_ok X G (c.t.d.fact 22 (f := .free "dict") rfl)
  n_int := He.free_ok X G (c.t.d.fact 23 (f := .free "int") rfl)
  n_isinstance := He.free_ok X G (c.t.d.fact 24 (f := .free "isinstance") rfl)
  n_len := He.free_ok X G (c.t.d.fact 25 (f := .free "len") rfl)
  n_list := He.free_ok X G (c.t.d.fact 26 (f := .free "list") rfl)
  n_max := He.free_ok X G (c.t.d.fact 27 (f := .free "max") rfl)
  n_min := He.free_ok X G (c.t.d.fact 28 (f := .free "min") rfl)
  n_range := He.free_ok X G (c.t.d.fact 29 (f := .free "range") rfl)
  n_sorted := He.free_ok X G (c.t.d.fact 30 (f := .free "sorted") rfl)
  n_str := He.free_ok X G (c.t.d.fact 31 (f := .free "str") rfl)
  n_sum := He.free_ok X G (c.t.d.fact 32 (f := .free "sum") rfl)
  n_tuple := He.free_ok X G (c.t.d.fact 33 (f := .free "tuple") rfl)
  g_PageError := He.glo_ok X G (c.t.d.fact 34 (f := .glo "PageError") rfl)
  g_BadList := He.glo_ok X G (c.t.d.fact 35 (f := .glo "BadList") rfl)
  g_BadMarks := He.glo_ok X G (c.t.d.fact 36 (f := .glo "BadMarks") rfl)
  g_BadParts := He.glo_ok X G (c.t.d.fact 37 (f := .glo "BadParts") rfl)
  x_PageError := (exB_at c.more (c := 0) (by decide)).1.x
  k_PageError := (exB_at c.more (c := 0) (by decide)).1.k
  s_PageError := (exB_at c.more (c := 0) (by decide)).1.s
  t_PageError := (exB_at c.more (c := 0) (by decide)).1.t
  x_BadList := (exB_at c.more (c := 10) (by decide)).1.x
  k_BadList := (exB_at c.more (c := 10) (by decide)).1.k
  s_BadList := (exB_at c.more (c := 10) (by decide)).1.s
  t_BadList := (exB_at c.more (c := 10) (by decide)).1.t
  x_BadMarks := (exB_at c.more (c := 11) (by decide)).1.x
  k_BadMarks := (exB_at c.more (c := 11) (by decide)).1.k
  s_BadMarks := (exB_at c.more (c := 11) (by decide)).1.s
  t_BadMarks := (exB_at c.more (c := 11) (by decide)).1.t
  x_BadParts := (exB_at c.more (c := 12) (by decide)).1.x
  k_BadParts := (exB_at c.more (c := 12) (by decide)).1.k
  s_BadParts := (exB_at c.more (c := 12) (by decide)).1.s
  t_BadParts := (exB_at c.more (c := 12) (by decide)).1.t
  xk := exB_k c.more
/-! how many -/
theorem len_is_whole (ds : List D) (Q : D → Prop) (E : Nat → Prop) (h : φ_is_whole ds Q E) : ds.length = 1 := by
  unfold φ_is_whole at h
  split at h <;> first | rfl | exact h.elim
theorem len_is_whole_or_none (ds : List D) (Q : D → Prop) (E : Nat → Prop) (h : φ_is_whole_or_none ds Q E) : ds.length = 1 := by
  unfold φ_is_whole_or_none at h
  split at h <;> first | rfl | exact h.elim
theorem len_is_size (ds : List D) (Q : D → Prop) (E : Nat → Prop) (h : φ_is_size ds Q E) : ds.length = 1 := by
  unfold φ_is_size at h
  split at h <;> first | rfl | exact h.elim
theorem len_is_pair (ds : List D) (Q : D → Prop) (E : Nat → Prop) (h : φ_is_pair ds Q E) : ds.length = 1 := by
  unfold φ_is_pair at h
  split at h <;> first | rfl | exact h.elim
theorem len_are_wants (ds : List D) (Q : D → Prop) (E : Nat → Prop) (h : φ_are_wants ds Q E) : ds.length = 1 := by
  unfold φ_are_wants at h
  split at h <;> first | rfl | exact h.elim
theorem len_are_bounds (ds : List D) (Q : D → Prop) (E : Nat → Prop) (h : φ_are_bounds ds Q E) : ds.length = 1 := by
  unfold φ_are_bounds at h
  split at h <;> first | rfl | exact h.elim
theorem len_size_within (ds : List D) (Q : D → Prop) (E : Nat → Prop) (h : φ_size_within ds Q E) : ds.length = 6 := by
  unfold φ_size_within at h
  split at h <;> first | rfl | exact h.elim
theorem len_law_stream (ds : List D) (Q : D → Prop) (E : Nat → Prop) (h : φList ds Q E) : ds.length = 1 := by
  unfold φList at h
  split at h <;> first | rfl | exact h.elim
theorem len_law_number (ds : List D) (Q : D → Prop) (E : Nat → Prop) (h : φ_law_number ds Q E) : ds.length = 3 := by
  unfold φ_law_number at h
  split at h <;> first | rfl | exact h.elim
theorem len_law_same (ds : List D) (Q : D → Prop) (E : Nat → Prop) (h : φ_law_same ds Q E) : ds.length = 2 := by
  unfold φ_law_same at h
  split at h <;> first | rfl | exact h.elim
theorem len_law_case (ds : List D) (Q : D → Prop) (E : Nat → Prop) (h : φ_law_case ds Q E) : ds.length = 1 := by
  unfold φ_law_case at h
  split at h <;> first | rfl | exact h.elim
theorem len_law_told (ds : List D) (Q : D → Prop) (E : Nat → Prop) (h : φ_law_told ds Q E) : ds.length = 1 := by
  unfold φ_law_told at h
  split at h <;> first | rfl | exact h.elim
theorem len_law_refused (ds : List D) (Q : D → Prop) (E : Nat → Prop) (h : φ_law_refused ds Q E) : ds.length = 1 := by
  unfold φ_law_refused at h
  split at h <;> first | rfl | exact h.elim
theorem len_law (ds : List D) (Q : D → Prop) (E : Nat → Prop) (h : φ_law ds Q E) : ds.length = 1 := by
  unfold φ_law φLaw at h
  split at h <;> first | rfl | exact h.elim
theorem all {P : Program} {w : World} {K : PySem.W.Frag} {mg : Str → Option Value} (T : Txt K mg) (base : Heap) : CallOk P w K mg base 7 "law" ["script"] φLaw := by
  have C_law_pick := ok_law_pick (P := P) (w := w) (base := base) T
  have C_is_whole := ok_is_whole (P := P) (w := w) (base := base) T vc_is_whole len_is_whole
  have C_is_whole_or_none := ok_is_whole_or_none (P := P) (w := w) (base := base) T C_is_whole vc_is_whole_or_none len_is_whole_or_none
  have C_is_size := ok_is_size (P := P) (w := w) (base := base) T C_is_whole vc_is_size len_is_size
  have C_is_pair := ok_is_pair (P := P) (w := w) (base := base) T vc_is_pair len_is_pair
  have C_are_wants := ok_are_wants (P := P) (w := w) (base := base) T C_is_pair C_is_size vc_are_wants len_are_wants
  have C_are_bounds := ok_are_bounds (P := P) (w := w) (base := base) T C_is_pair C_is_size vc_are_bounds len_are_bounds
  have C_size_within := ok_size_within (P := P) (w := w) (base := base) T vc_size_within len_size_within
  have C_span_within := ok_span_within (P := P) (w := w) (base := base) T C_size_within vc_span_within len_span_within
  have C_span_in := ok_span_in (P := P) (w := w) (base := base) T C_is_size C_is_whole_or_none C_are_wants C_are_bounds C_is_whole C_span_within vc_span_in len_span_in
  have C_law_pool := ok_law_pool (P := P) (w := w) (base := base) T vc_law_pool len_law_pool
  have C_law_stream := ok_law_stream (P := P) (w := w) (base := base) T C_law_pool vc_law_stream len_law_stream
  have C_law_stream := C_law_stream.stream
  have C_law_number := ok_law_number (P := P) (w := w) (base := base) T C_law_pick vc_law_number len_law_number
  have C_law_same := ok_law_same (P := P) (w := w) (base := base) T vc_law_same len_law_same
  have C_law_case := ok_law_case (P := P) (w := w) (base := base) T C_law_number C_law_pick vc_law_case len_law_case
  have C_law_due := ok_law_due (P := P) (w := w) (base := base) T vc_law_due len_law_due
  have C_law_told := ok_law_told (P := P) (w := w) (base := base) T C_span_in vc_law_told len_law_told
  have C_law_wrong := ok_law_wrong (P := P) (w := w) (base := base) T vc_law_wrong len_law_wrong
  have C_law_refused := ok_law_refused (P := P) (w := w) (base := base) T C_law_told vc_law_refused len_law_refused
  have C_law := ok_law (P := P) (w := w) (base := base) T C_law_stream C_law_case C_law_due C_law_same C_law_told C_law_wrong C_law_pick C_law_refused vc_law len_law
  exact C_law
end PL.K63
open PySem PySem.W PySem.Calls PyProof.Rows
set_option maxHeartbeats 0
theorem PySem.Challenge.cw_pageseen_k63_one_direction_in_a_frame_holds : PySem.Challenge.rw_pageseen_k63_one_direction_in_a_frame.Holds := by
  w_on; o_law
  refine HandSHeadRun.head_any (r := OpenLaw.row PySem.Challenge.rw_pageseen_k63_one_direction_in_a_frame) (q := view (OpenLaw.row PySem.Challenge.rw_pageseen_k63_one_direction_in_a_frame).prog [26]) (H := PL.K63.hk) (ob := PL.K63.ob) (M := 4000) (loose := PL.K63.loose) (d := HandSHeadRun.topDef (OpenLaw.row PySem.Challenge.rw_pageseen_k63_one_direction_in_a_frame).prog 26) (kwd := []) PL.K63.ob_eq
    (by kernel_rfl) (fun s => by kernel_rfl) PL.K63.run (by kernel_rfl) (by kernel_rfl) (by kernel_rfl) (by rfl) (by first | assumption | decide +kernel) (by decide +kernel) ⟨rfl, rfl, rfl, rfl, rfl, by decide +kernel⟩ ?hw ?hc
  case hw => w_witness2
  case hc =>
    refine PL.walk_ofP (l := PySem.Challenge.rw_pageseen_k63_one_direction_in_a_frame) (k := 7) rfl (by kernel_rfl) ⟨rfl, by decide, by decide⟩ ?F
    intro w mg h Y G
    obtain ⟨K, KX, c⟩ := Y
    have T := PL.K63.txt KX G c
    have e : (HandSHeadRun.topDef (OpenLaw.row PySem.Challenge.rw_pageseen_k63_one_direction_in_a_frame).prog 26).name = ("law" : PySem.Str) := by kernel_rfl
    exact ⟨K, KX, by rw [e]; exact T.g_law, fun base => PL.K63.all T base⟩
